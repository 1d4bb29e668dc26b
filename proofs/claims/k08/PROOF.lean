import PyProof.Rows.All
import Wide.All
import OpenK.AllK
import Wide.FinOn
import PySem.PyData
import HandS.ForMost
import HandS.Exc
import HandS.Lambda
import HandS.EndTab
import HandS.TupAny
import HandS.TupMul
import HandS.Star
import HandS.Conv
import HandS.Wide
import KE.DataEq
import HandS.IsInst
import PyProof.ReprRoads
import HandS.Zip
import HandS.Comp
import HandS.ExcOwn
import HandS.WordsExc
import KE.GoesMore
import KE.GoesEnum
import HandS.TupSets
import HandS.ExcIs
import HandS.EndOwn
import PyProof.ExcBaseAll.ValueError
import PySem.Challenge.RW_movedround_k08_ends_and_dealings_judged
set_option linter.all false
namespace MR
open PySem

/-- values -/
inductive D where
  | non | bl (b : Bool) | int (i : Int) | str (s : Str)
  | tup (xs : List D) | lst (xs : List D) | dic (ks vs : List D) | set (xs : List D)
  | exc (c : Nat) (xs : List D)
  | cell (k : Nat)
  /-- the law's script: walked, and asked for its length -/
  | scr (xs : List D)
  deriving Inhabited

abbrev S := List D

inductive R (α : Type) where
  | ok (a : α) (s : S) | ex (c : Nat) (xs : List D) (s : S) | no
  deriving Inhabited
@[inline] def R.bind {α β : Type} (r : R α) (f : α → S → R β) : R β :=
  match r with
  | .ok a s => f a s
  | .ex c xs s => .ex c xs s
  | .no => .no
/-- a pure step that may fail -/
@[inline] def R.of {α : Type} (o : Option α) (s : S) : R α := match o with
  | some a => .ok a s
  | none => .no

inductive Sl where
  | un | fz (d : D) | ow (d : D)
  deriving Inhabited
abbrev Env := List Sl
def rd : Env → Nat → Sl
  | [], _ => .un
  | x :: _, 0 => x
  | _ :: r, i + 1 => rd r i
def wr : Env → Nat → Sl → Env
  | [], _, _ => []
  | _ :: r, 0, y => y :: r
  | x :: r, i + 1, y => x :: wr r i y

inductive Fl where
  | nx (ρ : Env) | rt (d : D) | bk (ρ : Env) | ct (ρ : Env)
  deriving Inhabited

def big : Int := 4611686018427387904
def lim : Nat := 16777216
def pw64 : Int := 18446744073709551616

mutual
/-- a == b -/
def eqv : D → D → Bool
  | .non, .non => true
  | .bl a, .bl b => a == b
  | .bl a, .int j => (if a then 1 else 0) == j
  | .int i, .bl b => i == (if b then 1 else 0)
  | .int i, .int j => i == j
  | .str x, .str y => x == y
  | .lst xs, .lst ys => eqvs xs ys
  | .tup xs, .tup ys => eqvs xs ys
  | _, _ => false
def eqvs : List D → List D → Bool
  | [], [] => true
  | x :: xs, y :: ys => eqv x y && eqvs xs ys
  | _, _ => false
end
mutual
/-- plain data: no dict, set, exception, cell -/
def pl : D → Bool
  | .non | .bl _ | .int _ | .str _ => true
  | .tup xs | .lst xs => pls xs
  | _ => false
def pls : List D → Bool
  | [] => true
  | x :: xs => pl x && pls xs
end
mutual
def dep : D → Nat
  | .tup xs | .lst xs => deps xs + 1
  | .dic ks vs => max (deps ks) (deps vs) + 1
  | _ => 0
def deps : List D → Nat
  | [] => 0
  | x :: xs => max (dep x) (deps xs)
end
mutual
/-- no list, dict, set, exception, cell within -/
def flat : D → Bool
  | .non | .bl _ | .int _ | .str _ => true
  | .tup xs => flats xs
  | _ => false
def flats : List D → Bool
  | [] => true
  | x :: xs => flat x && flats xs
end
/-- may be compared -/
def cmpOk (d : D) : Bool := pl d && decide (dep d ≤ 60)

def truthy : D → Option Bool
  | .non => some false
  | .bl b => some b
  | .int i => some (!(i == 0))
  | .str s => if s.cps.size ≤ lim then some (!(s.cps.size == 0)) else none
  | .tup xs => some (!xs.isEmpty)
  | .lst xs => some (!xs.isEmpty)
  | _ => none

inductive BOp where
  | add | sub | mul | fdiv | mod | pow
  deriving DecidableEq, Repr
inductive COp where
  | eq | ne | lt | le | gt | ge | inn | nin | iss | isn
  deriving DecidableEq, Repr

def small64 (i : Int) : Bool := Nat.ble i.natAbs 18446744073709551615
/-- a number of 62 bits; asked so that the kernel never counts up to it -/
def inB (i : Int) : Bool := Nat.ble i.natAbs 4611686018427387903
def mulOk (i j : Int) : Bool := small64 i || small64 j
def rep {α : Type} (xs : List α) : Nat → List α
  | 0 => []
  | n + 1 => xs ++ rep xs n
def bin : BOp → D → D → Option D
  | .add, .int i, .int j => some (.int (i + j))
  | .add, .tup xs, .tup ys => if xs.length + ys.length ≤ lim then some (.tup (xs ++ ys)) else none
  | .add, .lst xs, .lst ys => if xs.length + ys.length ≤ lim then some (.lst (xs ++ ys)) else none
  | .add, .str x, .str y => if x.cps.size + y.cps.size ≤ lim then some (.str (x ++ y)) else none
  | .sub, .int i, .int j => some (.int (i - j))
  | .mul, .int i, .int j => if mulOk i j then some (.int (i * j)) else none
  | .mul, .tup xs, .int n => if n = 1 then some (.tup xs) else if 2 ≤ n ∧ n ≤ 1000 ∧ xs.length ≤ 1000 ∧ xs.isEmpty = false then some (.tup (rep xs n.toNat)) else none
  | .mul, .lst xs, .int n => if xs.length * n.toNat ≤ lim ∧ Nat.ble n.natAbs 999999999 = true then some (.lst (rep xs n.toNat)) else none
  | .fdiv, .int i, .int j => if j ≠ 0 ∧ j.natAbs < 1073741824 then some (.int (i.fdiv j)) else none
  | .mod, .int i, .int j => if j ≠ 0 then some (.int (i.fmod j)) else none
  | .pow, .int i, .int j => if 0 ≤ j ∧ j ≤ 1000 ∧ small64 i then some (.int (i ^ j.toNat)) else none
  | _, _, _ => none

def cint (op : COp) (i j : Int) : Option Bool := match op with
  | .lt => some (decide (i < j))
  | .le => some (decide (i ≤ j))
  | .gt => some (decide (j < i))
  | .ge => some (decide (j ≤ i))
  | _ => none
def isIn (x : D) : List D → Bool
  | [] => false
  | y :: ys => eqv y x || isIn x ys
def cmp (op : COp) (a b : D) : Option D := match op with
  | .eq => if cmpOk a && cmpOk b then some (.bl (eqv a b)) else none
  | .ne => if cmpOk a && cmpOk b then some (.bl (!eqv a b)) else none
  | .inn => match b with
    | .tup xs | .lst xs => if cmpOk a && cmpOk (.lst xs) then some (.bl (isIn a xs)) else none
    | _ => none
  | .nin => match b with
    | .tup xs | .lst xs => if cmpOk a && cmpOk (.lst xs) then some (.bl (!isIn a xs)) else none
    | _ => none
  | .iss => match b with
    | .non => some (.bl (match a with | .non => true | _ => false))
    | _ => none
  | .isn => match b with
    | .non => some (.bl (match a with | .non => false | _ => true))
    | _ => none
  | _ => match a, b with
    | .int i, .int j => (cint op i j).map .bl
    | _, _ => none

/-- the i-th item, i of any sign -/
def nth {α : Type} : List α → Nat → Option α
  | [], _ => none
  | x :: _, 0 => some x
  | _ :: r, i + 1 => nth r i
def at_ {α : Type} (xs : List α) (i : Int) : Option α :=
  if 0 ≤ i then nth xs i.toNat else if 0 ≤ i + xs.length then nth xs (i + xs.length).toNat else none
def keyAt (k : D) : List D → Option Nat
  | [] => none
  | x :: r => if eqv x k then some 0 else (keyAt k r).map (· + 1)
def isStrD : D → Bool
  | .str _ => true
  | _ => false
def sub (a i : D) : Option D := match a, i with
  | .dic ks vs, k => if isStrD k then (keyAt k ks).bind (nth vs) else none
  | .tup xs, .int k => if inB k = true then at_ xs k else none
  | .lst xs, .int k => if inB k = true then at_ xs k else none
  | _, _ => none
/-- a slice's end as a place -/
def sIx (n : Nat) (i : Int) : Nat := if 0 ≤ i then min i.toNat n else (i + n).toNat
def cut {α : Type} (xs : List α) (lo hi : Option Int) : List α :=
  let a := match lo with | none => 0 | some i => sIx xs.length i
  let b := match hi with | none => xs.length | some i => sIx xs.length i
  (xs.drop a).take (b - a)

inductive Bl where
  | len | abs | int | min | max | sum | all | any | repr
  deriving DecidableEq, Repr
def intL : List D → Option (List Int)
  | [] => some []
  | .int i :: r => (intL r).map (i :: ·)
  | _ => none
def truths : List D → Option (List Bool)
  | [] => some []
  | .bl b :: r => (truths r).map (b :: ·)
  | _ => none
def blt (T : D → Option Str) : Bl → List D → Option D
  | .len, [.tup xs] => some (.int xs.length)
  | .len, [.lst xs] => some (.int xs.length)
  | .len, [.scr xs] => some (.int xs.length)
  | .abs, [.int i] => some (.int (if i < 0 then -i else i))
  | .int, [.int i] => some (.int i)
  | .int, [.bl b] => some (.int (if b then 1 else 0))
  | .min, [.int i, .int j] => some (.int (if j < i then j else i))
  | .max, [.int i, .int j] => some (.int (if j > i then j else i))
  | .all, [.lst xs] => (truths xs).map fun bs => .bl (bs.all id)
  | .any, [.lst xs] => (truths xs).map fun bs => .bl (bs.any id)
  | .repr, [d] => (T d).map .str
  | _, _ => none

def tupI : D → Option (List Int)
  | .tup xs => intL xs
  | _ => none
def tupIs : List D → Option (List (List Int))
  | [] => some []
  | x :: r => match tupI x, tupIs r with
    | some l, some ls => some (l :: ls)
    | _, _ => none
def lexL : List Int → List Int → Bool
  | [], _ => true
  | _ :: _, [] => false
  | x :: xs, y :: ys => decide (x < y) || (decide (x = y) && lexL xs ys)
def insL (x : List Int) : List (List Int) → List (List Int)
  | [] => [x]
  | y :: r => if lexL x y then x :: y :: r else y :: insL x r
def isortL : List (List Int) → List (List Int)
  | [] => []
  | x :: r => insL x (isortL r)
def bdI (i : Int) : Bool := decide (0 ≤ i) && Nat.ble i.natAbs 1073741823
/-- few tuples of equally many small numbers -/
def sortOk : List (List Int) → Bool
  | [] => true
  | l :: ls => decide ((l :: ls).length < 64) && decide (1 ≤ l.length) && (l :: ls).all fun m => decide (m.length = l.length) && m.all bdI
def toT (l : List Int) : D := .tup (l.map .int)
def sortD (xs : List D) : Option (List D) := match tupIs xs with
  | some ls => if sortOk ls then some ((isortL ls).map toT) else none
  | none => none
def eqI : List Int → List Int → Bool
  | [], [] => true
  | x :: xs, y :: ys => decide (x = y) && eqI xs ys
  | _, _ => false
def memI (x : List Int) : List (List Int) → Bool
  | [] => false
  | y :: r => eqI x y || memI x r
/-- each once -/
def nubI : List (List Int) → List (List Int)
  | [] => []
  | x :: r => if memI x r then nubI r else x :: nubI r
/-- len(set(xs)) -/
def lsetD (xs : List D) : Option D := match tupIs xs with
  | some ls => if ls.length < 64 then some (.int (nubI ls).length) else none
  | none => none
/-- sorted(set(xs)) -/
def ssetD (xs : List D) : Option (List D) := match tupIs xs with
  | some ls => if sortOk ls then some ((isortL (nubI ls)).map toT) else none
  | none => none

inductive Ty where
  | int | bool | str | tuple | list | dict
  deriving DecidableEq, Repr
def isTy : D → Ty → Bool
  | .int _, .int | .bl _, .int | .bl _, .bool | .str _, .str | .tup _, .tuple | .lst _, .list | .dic _ _, .dict => true
  | _, _ => false

inductive E where
  | nl | cn (h t : E) | st (e : E)
  | vr (i : Nat) | br (i : Nat)
  | ci (i : Int) | cb (b : Bool) | cnn | cs (s : Str)
  | tp (es : E) | ls (es : E)
  | bin (op : BOp) (a b : E) | neg (a : E) | nt (a : E)
  | cmp (op : COp) (a b : E) | cm2 (op op2 : COp) (a b c : E)
  | an (a b : E) | or (a b : E) | ife (c a b : E)
  | call (f : Nat) (es : E) | calk (f : Nat) (es : E) (p : List Nat) | gc (x : String) (i : Int)
  | dsp (ks vs : E)
  | blt (b : Bl) (es : E)
  | rpl (es : E)
  | isi (e : E) (ts : List Ty) | ise (e : E) (cs : List Nat)
  | sub (a i : E) | slc (a lo hi : E) | rev (a : E)
  | lc (tg it cond elt : E) (vs : List Nat)
  | lc2 (tg it cond tg2 it2 cond2 elt : E) (vs vs2 : List Nat)
  | li (it : E) | ti (it : E)
  | newc (e : E) | popc (b i : E)
  | cgt (e : E)
  -- targets
  | tg (i : Nat) | tt (es : E)
  -- iterables
  | itv (e : E) | itr (es : E) | itz (es : E) | ite (e : E)
  -- statements (blocks: cn, nl)
  | asg (tg e : E) | asgo (i : Nat) (e : E)
  | par (i j : Nat) (a b : E) (oi oj : Bool)
  | app (i : Nat) (e : E) | clr (i : Nat) | popt (i j : Nat) (e : E) | apop (i j : Nat) (e : E)
  | cset (b k e : E)
  | exs (e : E)
  | ret (e : E) | rmv (i : Nat) | retn
  | iff (c a b : E) | wh (c b : E) | for_ (tg it b : E)
  | rs (c : Nat) (s : Str) | ps | brk | cnt
  | lams (w : Nat) (es : E) (cs : List Nat)
  | sor (e : E) | lset (e : E) | sset (e : E)
  | dz (i j : Int)
  | frz (i : Nat)
  deriving Inhabited

/-- what the evaluator leans on: the calls' meaning, the texts of values -/
structure G where
  Φ : Nat → List D → S → R D
  T : D → Option Str
  fuel : Nat

/-- a cell's content -/
def top (s : S) : D → Option D
  | .cell k => nth s k
  | d => some d
def setN {α : Type} : List α → Nat → α → List α
  | [], _, _ => []
  | _ :: r, 0, y => y :: r
  | x :: r, i + 1, y => x :: setN r i y

/-- a value bound to a target -/
def bind1 : E → D → Env → Option Env
  | .tg i, d, ρ => some (wr ρ i (.fz d))
  | .tt es, .tup xs, ρ => bind1 es (.tup xs) ρ
  | .cn h t, .tup (x :: xs), ρ => match bind1 h x ρ with
    | some ρ' => bind1 t (.tup xs) ρ'
    | none => none
  | .nl, .tup [], ρ => some ρ
  | _, _, _ => none

def wipe : Env → List Nat → Env
  | ρ, [] => ρ
  | ρ, i :: is => wr (wipe ρ is) i .un

def rangeL (lo : Int) : Nat → List D
  | 0 => []
  | n + 1 => .int lo :: rangeL (lo + 1) n
def zip2 : List D → List D → List D
  | x :: xs, y :: ys => .tup [x, y] :: zip2 xs ys
  | _, _ => []
def zip3 : List D → List D → List D → List D
  | x :: xs, y :: ys, z :: zs => .tup [x, y, z] :: zip3 xs ys zs
  | _, _, _ => []
def enumL (k : Int) : List D → List D
  | [] => []
  | x :: xs => .tup [.int k, x] :: enumL (k + 1) xs
/-- the items of a value that is walked -/
def items : D → Option (List D)
  | .tup xs => some xs
  | .lst xs => some xs
  | .scr xs => some xs
  | _ => none
def inBig (i : Int) : Bool := inB i
def rngOf : List D → Option (List D)
  | [.int j] => if inBig j then some (rangeL 0 j.toNat) else none
  | [.int i, .int j] => if inBig i && inBig j then some (rangeL i (j - i).toNat) else none
  | _ => none
def zipOf : List (List D) → Option (List D)
  | [a, b] => some (zip2 a b)
  | [a, b, c] => some (zip3 a b c)
  | _ => none

/-- the loop of a comprehension -/
def lcLoop (step : D → List D → S → R (List D)) : List D → List D → S → R (List D)
  | [], acc, s => .ok acc s
  | x :: xs, acc, s => (step x acc s).bind fun acc s => lcLoop step xs acc s
/-- the loop of a for -/
def forLoop (step : D → Env → S → R Fl) : List D → Env → S → R Fl
  | [], ρ, s => .ok (.nx ρ) s
  | x :: xs, ρ, s => (step x ρ s).bind fun f s => match f with
    | .nx ρ => forLoop step xs ρ s
    | .ct ρ => forLoop step xs ρ s
    | .bk ρ => .ok (.nx ρ) s
    | .rt d => .ok (.rt d) s
/-- the loop of a while -/
def whLoop (test : Env → S → R Bool) (body : Env → S → R Fl) : Nat → Env → S → R Fl
  | 0, _, _ => .no
  | n + 1, ρ, s => (test ρ s).bind fun b s => if b then
      (body ρ s).bind fun f s => match f with
        | .nx ρ => whLoop test body n ρ s
        | .ct ρ => whLoop test body n ρ s
        | .bk ρ => .ok (.nx ρ) s
        | .rt d => .ok (.rt d) s
    else .ok (.nx ρ) s
/-- no exception goes through -/
def R.calm {α : Type} : R α → R α
  | .ok a s => .ok a s
  | _ => .no

/-- what a piece of the form means: as a value, a test, an element of a display, a list, a list of looked-at values, a slice's end, an iterable, a list of iterables, a statement -/
structure Den where
  v : Env → S → R D := fun _ _ => .no
  t : Env → S → R Bool := fun _ _ => .no
  e : Env → S → R (List D) := fun _ _ => .no
  l : Env → S → R (List D) := fun _ _ => .no
  lb : Env → S → R (List D) := fun _ _ => .no
  o : Env → S → R (Option Int) := fun _ _ => .no
  i : Env → S → R (List D) := fun _ _ => .no
  il : Env → S → R (List (List D)) := fun _ _ => .no
  x : Env → S → R Fl := fun _ _ => .no
  ll : List (Env → S → R D) := []
/-- values looked at: cells by their contents -/
def tops (s : S) : List D → Option (List D)
  | [] => some []
  | x :: r => match top s x, tops s r with
    | some y, some ys => some (y :: ys)
    | _, _ => none
def top1 (s : S) (x : D) (f : D → Option α) : Option α := match top s x with
  | some x => f x
  | none => none
def top2 (s : S) (x y : D) (f : D → D → Option α) : Option α := match top s x, top s y with
  | some x, some y => f x y
  | _, _ => none
def tv (v : Env → S → R D) (ρ : Env) (s : S) : R Bool := (v ρ s).bind fun x s => R.of (top1 s x truthy) s
def evl1 (v : Env → S → R D) (ρ : Env) (s : S) : R (List D) := (v ρ s).bind fun x s => .ok [x] s
def oInt (v : Env → S → R D) (ρ : Env) (s : S) : R (Option Int) := (v ρ s).bind fun x s => match x with
  | .int i => .ok (some i) s
  | _ => .no
@[inline] def mkV (v : Env → S → R D) : Den := { v := v, t := tv v, e := evl1 v, o := oInt v }
@[inline] def mkX (x : Env → S → R Fl) : Den := { x := x }

def vVar (i : Nat) (ρ : Env) (s : S) : R D := match rd ρ i with
  | .fz d => .ok d s
  | _ => .no
def vBor (i : Nat) (ρ : Env) (s : S) : R D := match rd ρ i with
  | .fz d => .ok d s
  | .ow d => .ok d s
  | .un => .no
def vTup (l : Env → S → R (List D)) (ρ : Env) (s : S) : R D := (l ρ s).bind fun xs s => if xs.length ≤ lim then .ok (.tup xs) s else .no
def vLst (l : Env → S → R (List D)) (ρ : Env) (s : S) : R D := (l ρ s).bind fun xs s => if xs.length ≤ lim then .ok (.lst xs) s else .no
def vBin (op : BOp) (a b : Env → S → R D) (ρ : Env) (s : S) : R D := (a ρ s).bind fun x s => (b ρ s).bind fun y s => R.of (top2 s x y (bin op)) s
def vNeg (a : Env → S → R D) (ρ : Env) (s : S) : R D := (a ρ s).bind fun x s => match x with
  | .int i => .ok (.int (-i)) s
  | _ => .no
def vCmp (op : COp) (a b : Env → S → R D) (ρ : Env) (s : S) : R D := (a ρ s).bind fun x s => (b ρ s).bind fun y s => R.of (top2 s x y (cmp op)) s
def vCm2 (op op2 : COp) (a b c : Env → S → R D) (ρ : Env) (s : S) : R D := (a ρ s).bind fun x s => (b ρ s).bind fun y s => match top2 s x y (cmp op) with
  | some (.bl true) => (c ρ s).bind fun z s => R.of (top2 s y z (cmp op2)) s
  | some (.bl false) => .ok (.bl false) s
  | _ => .no
def vAnd (a b : Env → S → R D) (ρ : Env) (s : S) : R D := (a ρ s).bind fun x s => match x with
  | .bl true => b ρ s
  | .bl false => .ok (.bl false) s
  | _ => .no
def vOr (a b : Env → S → R D) (ρ : Env) (s : S) : R D := (a ρ s).bind fun x s => match x with
  | .bl true => .ok (.bl true) s
  | .bl false => b ρ s
  | _ => .no
def tAnd (a b : Env → S → R Bool) (ρ : Env) (s : S) : R Bool := (a ρ s).bind fun x s => if x then b ρ s else .ok false s
def tOr (a b : Env → S → R Bool) (ρ : Env) (s : S) : R Bool := (a ρ s).bind fun x s => if x then .ok true s else b ρ s
def tNot (a : Env → S → R Bool) (ρ : Env) (s : S) : R Bool := (a ρ s).bind fun b s => .ok (!b) s
/-- not, as a value: of a bool -/
def vNotB (a : Env → S → R D) (ρ : Env) (s : S) : R D := (a ρ s).bind fun x s => match x with
  | .bl b => .ok (.bl (!b)) s
  | _ => .no
def vIf (c : Env → S → R Bool) (a b : Env → S → R D) (ρ : Env) (s : S) : R D := (c ρ s).bind fun k s => if k then a ρ s else b ρ s
def vCall (Φ : Nat → List D → S → R D) (f : Nat) (l : Env → S → R (List D)) (ρ : Env) (s : S) : R D := (l ρ s).bind fun xs s => Φ f xs s
def perm {α : Type} (xs : List α) : List Nat → Option (List α)
  | [] => some []
  | i :: is => match nth xs i, perm xs is with
    | some x, some r => some (x :: r)
    | _, _ => none
def vCalk (Φ : Nat → List D → S → R D) (f : Nat) (l : Env → S → R (List D)) (p : List Nat) (ρ : Env) (s : S) : R D := (l ρ s).bind fun xs s => match perm xs p with
  | some ys => Φ f ys s
  | none => .no
def distK : List Str → Bool
  | [] => true
  | x :: r => r.all (fun y => !(x == y)) && distK r
/-- a display of a dict: the keys are written texts -/
def vDsp (ks : List Str) (l : Env → S → R (List D)) (ρ : Env) (s : S) : R D := (l ρ s).bind fun xs s => if xs.length = ks.length ∧ ks.length ≤ 15 ∧ distK ks = true then .ok (.dic (ks.map .str) xs) s else .no
def vBlt (T : D → Option Str) (b : Bl) (l : Env → S → R (List D)) (ρ : Env) (s : S) : R D := (l ρ s).bind fun xs s => R.of (match tops s xs with | some ys => blt T b ys | none => none) s
/-- the text of a written-out list, its items looked at -/
def vRpl (T : D → Option Str) (l : Env → S → R (List D)) (ρ : Env) (s : S) : R D := (l ρ s).bind fun xs s => R.of (match tops s xs with | some ys => if ys.length ≤ lim then (T (.lst ys)).map .str else none | none => none) s
/-- sorted(x) -/
def vSor (a : Env → S → R D) (ρ : Env) (s : S) : R D := (a ρ s).bind fun x s => (R.of (items x) s).bind fun xs s => R.of ((sortD xs).map .lst) s
def itemsL : D → Option (List D)
  | .lst xs => some xs
  | _ => none
def vLset (a : Env → S → R D) (ρ : Env) (s : S) : R D := (a ρ s).bind fun x s => (R.of (itemsL x) s).bind fun xs s => R.of (lsetD xs) s
def vSset (a : Env → S → R D) (ρ : Env) (s : S) : R D := (a ρ s).bind fun x s => (R.of (itemsL x) s).bind fun xs s => R.of ((ssetD xs).map .lst) s
def isTyOk : D → Bool
  | .exc _ _ | .cell _ | .set _ | .scr _ => false
  | _ => true
def vIsi (ts : List Ty) (a : Env → S → R D) (ρ : Env) (s : S) : R D := (a ρ s).bind fun x s => R.of (top1 s x fun x => if isTyOk x then some (.bl (ts.any (isTy x))) else none) s
def vIse (cs : List Nat) (a : Env → S → R D) (ρ : Env) (s : S) : R D := (a ρ s).bind fun x s => match x with
  | .exc k _ => .ok (.bl (cs.any fun c => k == c || c == 0)) s
  | .non => .ok (.bl false) s
  | _ => .no
def vSub (a i : Env → S → R D) (ρ : Env) (s : S) : R D := (a ρ s).bind fun x s => (i ρ s).bind fun y s => R.of (top1 s x fun x => sub x y) s
def cutD (x : D) (l h : Option Int) : Option D := match x with
  | .tup xs => some (.tup (cut xs l h))
  | .lst xs => some (.lst (cut xs l h))
  | _ => none
def vSlc (a : Env → S → R D) (lo hi : Env → S → R (Option Int)) (ρ : Env) (s : S) : R D := (a ρ s).bind fun x s => (lo ρ s).bind fun l s => (hi ρ s).bind fun h s => R.of (top1 s x fun x => cutD x l h) s
/-- one turn of a comprehension: target, test, then what is done -/
def lcStep {α : Type} (tg : E) (ρ : Env) (cond : Env → S → R Bool) (body : Env → α → S → R α) (x : D) (acc : α) (s : S) : R α := match bind1 tg x ρ with
  | none => .no
  | some ρ' => (cond ρ' s).calm.bind fun b s => if b then body ρ' acc s else .ok acc s
def lcAdd (elt : Env → S → R D) (ρ : Env) (acc : List D) (s : S) : R (List D) := (elt ρ s).calm.bind fun y s => if acc.length < lim then .ok (acc ++ [y]) s else .no
def vLc (tg : E) (it : Env → S → R (List D)) (cond : Env → S → R Bool) (elt : Env → S → R D) (vs : List Nat) (ρ : Env) (s : S) : R D :=
  (it ρ s).bind fun xs s => (lcLoop (lcStep tg (wipe ρ vs) cond (lcAdd elt)) xs [] s).bind fun ys s => .ok (.lst ys) s
def lcIn (tg2 : E) (it2 : Env → S → R (List D)) (cond2 : Env → S → R Bool) (elt : Env → S → R D) (vs2 : List Nat) (ρ : Env) (acc : List D) (s : S) : R (List D) :=
  (it2 ρ s).calm.bind fun zs s => lcLoop (lcStep tg2 (wipe ρ vs2) cond2 (lcAdd elt)) zs acc s
def vLc2 (tg : E) (it : Env → S → R (List D)) (cond : Env → S → R Bool) (tg2 : E) (it2 : Env → S → R (List D)) (cond2 : Env → S → R Bool) (elt : Env → S → R D) (vs vs2 : List Nat) (ρ : Env) (s : S) : R D :=
  (it ρ s).bind fun xs s => (lcLoop (lcStep tg (wipe ρ vs) cond (lcIn tg2 it2 cond2 elt vs2)) xs [] s).bind fun ys s => .ok (.lst ys) s
def vLi (i : Env → S → R (List D)) (ρ : Env) (s : S) : R D := (i ρ s).bind fun xs s => if xs.length ≤ lim then .ok (.lst xs) s else .no
def vTi (i : Env → S → R (List D)) (ρ : Env) (s : S) : R D := (i ρ s).bind fun xs s => if xs.length ≤ lim then .ok (.tup xs) s else .no
def isBox : D → Bool
  | .lst _ | .dic _ _ | .set _ => true
  | _ => false
def vNew (a : Env → S → R D) (ρ : Env) (s : S) : R D := (a ρ s).bind fun x s => if isBox x then .ok (.cell s.length) (s ++ [x]) else .no
def vPopc (a : Env → S → R D) (ρ : Env) (s : S) : R D := (a ρ s).bind fun x s => match x with
  | .cell k => match nth s k with
    | some (.lst (y :: r)) => .ok y (setN s k (.lst r))
    | _ => .no
  | _ => .no
def vCgt (a : Env → S → R D) (ρ : Env) (s : S) : R D := match a ρ s with
  | .ok _ s => .ok .non s
  | .ex c xs s => .ok (.exc c xs) s
  | .no => .no
def iVal (a : Env → S → R D) (ρ : Env) (s : S) : R (List D) := (a ρ s).bind fun x s => R.of (items x) s
def iRng (l : Env → S → R (List D)) (ρ : Env) (s : S) : R (List D) := (l ρ s).bind fun xs s => R.of (rngOf xs) s
def iZip (l : Env → S → R (List (List D))) (ρ : Env) (s : S) : R (List D) := (l ρ s).bind fun xss s => R.of (zipOf xss) s
def iEnu (a : Env → S → R D) (ρ : Env) (s : S) : R (List D) := (iVal a ρ s).bind fun xs s => .ok (enumL 0 xs) s
def lCons (h t : Env → S → R (List D)) (ρ : Env) (s : S) : R (List D) := (h ρ s).bind fun xs s => (t ρ s).bind fun ys s => .ok (xs ++ ys) s
def lbCons (h : Env → S → R D) (t : Env → S → R (List D)) (ρ : Env) (s : S) : R (List D) := (h ρ s).bind fun x s => (t ρ s).bind fun ys s => .ok (x :: ys) s
def ilCons (h : Env → S → R D) (t : Env → S → R (List (List D))) (ρ : Env) (s : S) : R (List (List D)) := (iVal h ρ s).bind fun x s => (t ρ s).bind fun ys s => .ok (x :: ys) s
def sSeq (a b : Env → S → R Fl) (ρ : Env) (s : S) : R Fl := (a ρ s).bind fun f s => match f with
  | .nx ρ => b ρ s
  | f => .ok f s
def sAsg (tg : E) (a : Env → S → R D) (ρ : Env) (s : S) : R Fl := (a ρ s).bind fun x s => match bind1 tg x ρ with
  | some ρ => .ok (.nx ρ) s
  | none => .no
def sAsgo (i : Nat) (a : Env → S → R D) (ρ : Env) (s : S) : R Fl := (a ρ s).bind fun x s => if isBox x then .ok (.nx (wr ρ i (.ow x))) s else .no
def sPar (i j : Nat) (a b : Env → S → R D) (oi oj : Bool) (ρ : Env) (s : S) : R Fl := (a ρ s).bind fun x s => (b ρ s).bind fun y s =>
  if (oi && !isBox x) || (oj && !isBox y) then .no else .ok (.nx (wr (wr ρ i (if oi then .ow x else .fz x)) j (if oj then .ow y else .fz y))) s
def sApp (i : Nat) (a : Env → S → R D) (ρ : Env) (s : S) : R Fl := match rd ρ i with
  | .ow (.lst xs) => (a ρ s).bind fun x s => if xs.length < lim then .ok (.nx (wr ρ i (.ow (.lst (xs ++ [x]))))) s else .no
  | _ => .no
def sClr (i : Nat) (ρ : Env) (s : S) : R Fl := match rd ρ i with
  | .ow (.lst _) => .ok (.nx (wr ρ i (.ow (.lst [])))) s
  | _ => .no
def dropN {α : Type} : List α → Nat → List α
  | [], _ => []
  | _ :: r, 0 => r
  | x :: r, i + 1 => x :: dropN r i
/-- xs.pop(k): the item, and what is left -/
def popAt (xs : List D) (k : Int) : Option (D × List D) :=
  let n : Int := xs.length
  let j := if 0 ≤ k then k else k + n
  if 0 ≤ j ∧ j < n ∧ inB k = true then (nth xs j.toNat).map fun y => (y, dropN xs j.toNat) else none
def sPopt (i j : Nat) (a : Env → S → R D) (ρ : Env) (s : S) : R Fl := match rd ρ j with
  | .ow (.lst xs) => (a ρ s).bind fun x s => match x with
    | .int k => match popAt xs k with
      | some (y, r) => .ok (.nx (wr (wr ρ j (.ow (.lst r))) i (.fz y))) s
      | none => .no
    | _ => .no
  | _ => .no
def sApop (i j : Nat) (a : Env → S → R D) (ρ : Env) (s : S) : R Fl := if i = j then .no else match rd ρ i, rd ρ j with
  | .ow (.lst ys), .ow (.lst xs) => (a ρ s).bind fun x s => match x with
    | .int k => match popAt xs k with
      | some (y, r) => if ys.length < lim then .ok (.nx (wr (wr ρ j (.ow (.lst r))) i (.ow (.lst (ys ++ [y]))))) s else .no
      | none => .no
    | _ => .no
  | _, _ => .no
def mapAt (k v : D) : List D → List D → List D
  | k' :: ks, x :: xs => (if eqv k' k then v else x) :: mapAt k v ks xs
  | _, _ => []
def dput (ks vs : List D) (k v : D) : List D × List D := if ks.any (fun x => eqv x k) then (ks, mapAt k v ks vs) else (ks ++ [k], vs ++ [v])
def sCset (b k a : Env → S → R D) (ρ : Env) (s : S) : R Fl := (a ρ s).bind fun y s => (b ρ s).bind fun x s => (k ρ s).bind fun j s => match x with
  | .cell n => match nth s n with
    | some (.dic ks vs) => if isStrD j && decide (ks.length < lim) then .ok (.nx ρ) (setN s n (.dic (dput ks vs j y).1 (dput ks vs j y).2)) else .no
    | _ => .no
  | _ => .no
def sExs (a : Env → S → R D) (ρ : Env) (s : S) : R Fl := (a ρ s).bind fun _ s => .ok (.nx ρ) s
def sRet (a : Env → S → R D) (ρ : Env) (s : S) : R Fl := (a ρ s).bind fun x s => .ok (.rt x) s
def sRmv (i : Nat) (ρ : Env) (s : S) : R Fl := match rd ρ i with
  | .ow d => .ok (.rt d) s
  | _ => .no
def sIf (c : Env → S → R Bool) (a b : Env → S → R Fl) (ρ : Env) (s : S) : R Fl := (c ρ s).bind fun k s => if k then a ρ s else b ρ s
def forStep (tg : E) (b : Env → S → R Fl) (x : D) (ρ : Env) (s : S) : R Fl := match bind1 tg x ρ with
  | none => .no
  | some ρ => b ρ s
def sFor (tg : E) (it : Env → S → R (List D)) (b : Env → S → R Fl) (ρ : Env) (s : S) : R Fl := (it ρ s).bind fun xs s => forLoop (forStep tg b) xs ρ s
def sFrz (i : Nat) (ρ : Env) (s : S) : R Fl := match rd ρ i with
  | .ow d => .ok (.nx (wr ρ i (.fz d))) s
  | _ => .no

/-- a loop over lambdas: is what each of them raises of these classes? -/
def sLams' (cs : List Nat) : List (Env → S → R D) → Env → S → R Fl
  | [], ρ, s => .ok (.nx ρ) s
  | f :: r, ρ, s => (vIse cs (vCgt f) ρ s).bind fun x s => match x with
    | .bl true => sLams' cs r ρ s
    | .bl false => .ok (.rt (.bl false)) s
    | _ => .no
def sLams (w : Nat) (fs : List (Env → S → R D)) (cs : List Nat) (ρ : Env) (s : S) : R Fl := sLams' cs fs (wr ρ w .un) s

def keysOf : E → List Str
  | .cn (.cs x) t => x :: keysOf t
  | _ => []
def den (g : G) : E → Den
  | .nl => { l := fun _ s => .ok [] s, lb := fun _ s => .ok [] s, il := fun _ s => .ok [] s, o := fun _ s => .ok none s, x := fun ρ s => .ok (.nx ρ) s }
  | .cn h t => { l := lCons (den g h).e (den g t).l, lb := lbCons (den g h).v (den g t).lb, il := ilCons (den g h).v (den g t).il, x := sSeq (den g h).x (den g t).x, ll := (den g h).v :: (den g t).ll }
  | .st e => { e := iVal (den g e).v }
  | .vr i => mkV (vVar i)
  | .br i => mkV (vBor i)
  | .ci i => mkV fun _ s => .ok (.int i) s
  | .cb b => mkV fun _ s => .ok (.bl b) s
  | .cnn => mkV fun _ s => .ok .non s
  | .cs x => mkV fun _ s => .ok (.str x) s
  | .tp es => mkV (vTup (den g es).l)
  | .ls es => mkV (vLst (den g es).l)
  | .bin op a b => mkV (vBin op (den g a).v (den g b).v)
  | .neg a => mkV (vNeg (den g a).v)
  | .nt a => { mkV (vNotB (den g a).v) with t := tNot (den g a).t }
  | .cmp op a b => mkV (vCmp op (den g a).v (den g b).v)
  | .cm2 op op2 a b c => mkV (vCm2 op op2 (den g a).v (den g b).v (den g c).v)
  | .an a b => { mkV (vAnd (den g a).v (den g b).v) with t := tAnd (den g a).t (den g b).t }
  | .or a b => { mkV (vOr (den g a).v (den g b).v) with t := tOr (den g a).t (den g b).t }
  | .ife c a b => mkV (vIf (den g c).t (den g a).v (den g b).v)
  | .call f es => mkV (vCall g.Φ f (den g es).l)
  | .calk f es p => mkV (vCalk g.Φ f (den g es).l p)
  | .gc _ i => mkV fun _ s => .ok (.int i) s
  | .dsp ks vs => mkV (vDsp (keysOf ks) (den g vs).l)
  | .blt b es => mkV (vBlt g.T b (den g es).lb)
  | .rpl es => mkV (vRpl g.T (den g es).lb)
  | .isi e ts => mkV (vIsi ts (den g e).v)
  | .ise e cs => mkV (vIse cs (den g e).v)
  | .sub a i => mkV (vSub (den g a).v (den g i).v)
  | .slc a lo hi => mkV (vSlc (den g a).v (den g lo).o (den g hi).o)
  | .rev _ => {}
  | .lc tg it cond elt vs => mkV (vLc tg (den g it).i (den g cond).t (den g elt).v vs)
  | .lc2 tg it cond tg2 it2 cond2 elt vs vs2 => mkV (vLc2 tg (den g it).i (den g cond).t tg2 (den g it2).i (den g cond2).t (den g elt).v vs vs2)
  | .li it => mkV (vLi (den g it).i)
  | .ti it => mkV (vTi (den g it).i)
  | .newc e => mkV (vNew (den g e).v)
  | .popc b _ => mkV (vPopc (den g b).v)
  | .cgt e => mkV (vCgt (den g e).v)
  | .tg _ => {}
  | .tt _ => {}
  | .itv e => { i := iVal (den g e).v }
  | .itr es => { i := iRng (den g es).l }
  | .itz es => { i := iZip (den g es).il }
  | .ite e => { i := iEnu (den g e).v }
  | .asg tg e => mkX (sAsg tg (den g e).v)
  | .asgo i e => mkX (sAsgo i (den g e).v)
  | .par i j a b oi oj => mkX (sPar i j (den g a).v (den g b).v oi oj)
  | .app i e => mkX (sApp i (den g e).v)
  | .clr i => mkX (sClr i)
  | .popt i j e => mkX (sPopt i j (den g e).v)
  | .apop i j e => mkX (sApop i j (den g e).v)
  | .cset b k e => mkX (sCset (den g b).v (den g k).v (den g e).v)
  | .exs e => mkX (sExs (den g e).v)
  | .ret e => mkX (sRet (den g e).v)
  | .rmv i => mkX (sRmv i)
  | .retn => mkX fun _ s => .ok (.rt .non) s
  | .iff c a b => mkX (sIf (den g c).t (den g a).x (den g b).x)
  | .wh c b => mkX fun ρ s => whLoop (den g c).t (den g b).x g.fuel ρ s
  | .for_ tg it b => mkX (sFor tg (den g it).i (den g b).x)
  | .rs c _ => mkX fun _ s => .ex c [] s
  | .ps => mkX fun ρ s => .ok (.nx ρ) s
  | .brk => mkX fun ρ s => .ok (.bk ρ) s
  | .cnt => mkX fun ρ s => .ok (.ct ρ) s
  | .frz i => mkX (sFrz i)
  | .lams w es cs => mkX (sLams w (den g es).ll cs)
  | .sor e => mkV (vSor (den g e).v)
  | .dz i j => mkV fun _ s => .ok (.dic [.int i] [.int j]) s
  | .lset e => mkV (vLset (den g e).v)
  | .sset e => mkV (vSset (den g e).v)

/-- a def of the text: how many parameters, how many slots, its body -/
structure FD where
  np : Nat
  ns : Nat
  body : E
  deriving Inhabited
def start (n : Nat) (xs : List D) : Env := xs.map .fz ++ List.replicate (n - xs.length) .un
/-- a call, n levels deep -/
def callN (F : List FD) (T : D → Option Str) (fuel : Nat) : Nat → Nat → List D → S → R D
  | 0, _, _, _ => .no
  | n + 1, f, xs, s => match nth F f with
    | none => .no
    | some fd => if xs.length = fd.np then
        ((den ⟨callN F T fuel n, T, fuel⟩ fd.body).x (start fd.ns xs) s).bind fun f s => match f with
          | .rt d => .ok d s
          | .nx _ => .ok .non s
          | _ => .no
      else .no
end MR
set_option Elab.async false
set_option linter.all false
set_option maxRecDepth 100000
namespace MR
open PySem PySem.Spec PyProof.Rows L2

/-- what is fixed through a law: the written part, the own exception classes by number, the tables of code objects -/
structure Om where
  K : PySem.W.Frag
  xc : Nat → Addr
  tb : List (Addr × Str)

/-- the ghost state: what is frozen, where the cells stand -/
structure Gh where
  Fz : Hp
  cl : List Addr

/-- an exception object of the class at C -/
def ExH (C a : Addr) : HO := .ext fun h => ∃ (oe : Obj) (vs : Array Value), h.get? a = some oe ∧ Zc (.ref C) none oe ∧ oe.data = .fields vs

def keyD : Key → D
  | .inl i => .int i
  | .inr x => .str x
/-- what stands for a dict with these keys, and its values -/
def DicK (u : HO) (ks : List D) (vv : List V) : Prop := ∃ l : List (Key × V), u = .dK l ∧ ks = l.map (fun p => keyD p.1) ∧ vv = l.map (·.2)
theorem DicK.nt {u : HO} {ks : List D} {vv : List V} (h : DicK u ks vv) : ∀ ps, u ≠ .tbl ps := by
  intro ps
  obtain ⟨l, e, _⟩ := h
  rw [e]
  simp
theorem DicK.ne {u : HO} {ks : List D} {vv : List V} (h : DicK u ks vv) : ∀ f, u ≠ .ext f := by
  intro ps
  obtain ⟨l, e, _⟩ := h
  rw [e]
  simp
section
variable (o : Om) (g : Gh)
mutual
def Rep : D → V → Prop
  | .non, v => v = .non
  | .bl b, v => v = .bl b
  | .int i, v => v = .int i
  | .str s, v => v = .str s
  | .tup xs, v => ∃ a vs, v = .ref a ∧ SqT o.K g.Fz a vs ∧ Reps xs vs
  | .lst xs, v => ∃ a vs, v = .ref a ∧ Rd g.Fz a (.lst vs) ∧ Reps xs vs
  | .dic ks xs, v => ∃ a u vv, v = .ref a ∧ g.Fz a = some u ∧ DicK u ks vv ∧ Reps xs vv
  | .set _, _ => False
  | .exc c _, v => ∃ a, v = .ref a ∧ g.Fz a = some (ExH (o.xc c) a)
  | .cell k, v => ∃ a, v = .ref a ∧ nth g.cl k = some a
  | .scr xs, v => ∃ a vs, v = .ref a ∧ SqL o.K g.Fz a vs ∧ Reps xs vs
def Reps : List D → List V → Prop
  | [], vs => vs = []
  | x :: xs, vs => ∃ v r, vs = v :: r ∧ Rep x v ∧ Reps xs r
end
end

/-- .. more is frozen, more cells -/
structure Le (g g' : Gh) : Prop where
  fz : ∀ a u, g.Fz a = some u → g'.Fz a = some u
  cl : ∃ more, g'.cl = g.cl ++ more
theorem Le.refl (g : Gh) : Le g g := ⟨fun _ _ h => h, [], by simp⟩
theorem Le.trans {a b c : Gh} (x : Le a b) (y : Le b c) : Le a c :=
  ⟨fun p u h => y.fz p u (x.fz p u h), by
    obtain ⟨m, e⟩ := x.cl
    obtain ⟨n, e'⟩ := y.cl
    exact ⟨m ++ n, by rw [e', e, List.append_assoc]⟩⟩
theorem nth_append {α : Type} : ∀ {xs ys : List α} {i : Nat} {x : α}, nth xs i = some x → nth (xs ++ ys) i = some x
  | [], _, _, _, h => by simp [nth] at h
  | _ :: _, _, 0, _, h => h
  | _ :: r, ys, i + 1, x, h => nth_append (xs := r) (ys := ys) (i := i) h
theorem Le.nth {g g' : Gh} (l : Le g g') {k : Nat} {a : Addr} (h : nth g.cl k = some a) : nth g'.cl k = some a := by
  obtain ⟨m, e⟩ := l.cl
  rw [e]
  exact nth_append h
theorem Le.mem {g g' : Gh} (l : Le g g') {a : Addr} (h : a ∈ g.cl) : a ∈ g'.cl := by
  obtain ⟨m, e⟩ := l.cl
  rw [e]
  exact List.mem_append_left _ h

theorem SqT.le {K : PySem.W.Frag} {H H' : Hp} {a : Addr} {xs : List V} (k : ∀ a u, H a = some u → H' a = some u) (h : SqT K H a xs) : SqT K H' a xs := by
  rcases h with (h | ⟨o, h⟩) | h
  · exact .inl (.inl (k _ _ h))
  · exact .inl (.inr ⟨o, k _ _ h⟩)
  · exact .inr h
theorem SqL.le {K : PySem.W.Frag} {H H' : Hp} {a : Addr} {xs : List V} (k : ∀ a u, H a = some u → H' a = some u) (h : SqL K H a xs) : SqL K H' a xs := by
  rcases h with (h | ⟨o, h⟩) | h
  · exact .inl (.inl (k _ _ h))
  · exact .inl (.inr ⟨o, k _ _ h⟩)
  · exact .inr h
theorem Rd.le {H H' : Hp} {a : Addr} {u : HO} (k : ∀ a u, H a = some u → H' a = some u) (h : Rd H a u) : Rd H' a u := by
  rcases h with h | ⟨o, h⟩
  · exact .inl (k _ _ h)
  · exact .inr ⟨o, k _ _ h⟩

mutual
theorem Rep.le {o : Om} {g g' : Gh} (l : Le g g') : ∀ {d : D} {v : V}, Rep o g d v → Rep o g' d v
  | .non, _, h => by simpa only [Rep] using h
  | .bl _, _, h => by simpa only [Rep] using h
  | .int _, _, h => by simpa only [Rep] using h
  | .str _, _, h => by simpa only [Rep] using h
  | .tup xs, _, h => by
    simp only [Rep] at h ⊢
    obtain ⟨a, vs, e, s, r⟩ := h
    exact ⟨a, vs, e, SqT.le l.fz s, Reps.le l r⟩
  | .lst xs, _, h => by
    simp only [Rep] at h ⊢
    obtain ⟨a, vs, e, s, r⟩ := h
    exact ⟨a, vs, e, Rd.le l.fz s, Reps.le l r⟩
  | .dic ks xs, _, h => by
    simp only [Rep] at h ⊢
    obtain ⟨a, u, vv, e, s, d, r⟩ := h
    exact ⟨a, u, vv, e, l.fz _ _ s, d, Reps.le l r⟩
  | .set _, _, h => by simp only [Rep] at h
  | .exc c _, _, h => by
    simp only [Rep] at h ⊢
    obtain ⟨a, e, z⟩ := h
    exact ⟨a, e, l.fz _ _ z⟩
  | .cell k, _, h => by
    simp only [Rep] at h ⊢
    obtain ⟨a, e, z⟩ := h
    exact ⟨a, e, l.nth z⟩
  | .scr xs, _, h => by
    simp only [Rep] at h ⊢
    obtain ⟨a, vs, e, s, r⟩ := h
    exact ⟨a, vs, e, SqL.le l.fz s, Reps.le l r⟩
theorem Reps.le {o : Om} {g g' : Gh} (l : Le g g') : ∀ {xs : List D} {vs : List V}, Reps o g xs vs → Reps o g' xs vs
  | [], _, h => by simpa only [Reps] using h
  | x :: xs, _, h => by
    simp only [Reps] at h ⊢
    obtain ⟨v, r, e, a, b⟩ := h
    exact ⟨v, r, e, Rep.le l a, Reps.le l b⟩
end

section
variable {o : Om} {g : Gh}
theorem Reps.nil : Reps o g [] [] := by simp only [Reps]
theorem Reps.cons {x : D} {xs : List D} {v : V} {vs : List V} (a : Rep o g x v) (b : Reps o g xs vs) : Reps o g (x :: xs) (v :: vs) := by
  simp only [Reps]
  exact ⟨v, vs, rfl, a, b⟩
theorem Reps.of_nil {vs : List V} (h : Reps o g [] vs) : vs = [] := by simpa only [Reps] using h
theorem Reps.of_cons {x : D} {xs : List D} {vs : List V} (h : Reps o g (x :: xs) vs) : ∃ v r, vs = v :: r ∧ Rep o g x v ∧ Reps o g xs r := by simpa only [Reps] using h
theorem Reps.length : ∀ {xs : List D} {vs : List V}, Reps o g xs vs → vs.length = xs.length
  | [], _, h => by rw [h.of_nil]; rfl
  | x :: xs, _, h => by
    obtain ⟨v, r, e, _, b⟩ := h.of_cons
    rw [e, List.length_cons, List.length_cons, Reps.length b]
theorem Reps.append : ∀ {xs ys : List D} {vs us : List V}, Reps o g xs vs → Reps o g ys us → Reps o g (xs ++ ys) (vs ++ us)
  | [], _, _, _, h, h' => by rw [h.of_nil]; exact h'
  | x :: xs, ys, _, us, h, h' => by
    obtain ⟨v, r, e, a, b⟩ := h.of_cons
    rw [e]
    exact .cons a (Reps.append b h')
theorem Reps.get : ∀ {xs : List D} {vs : List V} {i : Nat} {x : D}, Reps o g xs vs → nth xs i = some x → ∃ v, vs[i]? = some v ∧ Rep o g x v
  | [], _, _, _, _, e => by simp [nth] at e
  | x :: xs, _, 0, y, h, e => by
    obtain ⟨v, r, e', a, _⟩ := h.of_cons
    simp only [nth, Option.some.injEq] at e
    subst e
    rw [e']
    exact ⟨v, rfl, a⟩
  | x :: xs, _, i + 1, y, h, e => by
    obtain ⟨v, r, e', _, b⟩ := h.of_cons
    obtain ⟨w, h1, h2⟩ := Reps.get (i := i) b e
    rw [e']
    exact ⟨w, by simpa using h1, h2⟩
theorem Reps.drop : ∀ {xs : List D} {vs : List V} (n : Nat), Reps o g xs vs → Reps o g (xs.drop n) (vs.drop n)
  | _, _, 0, h => h
  | [], _, n + 1, h => by rw [h.of_nil]; exact .nil
  | x :: xs, _, n + 1, h => by
    obtain ⟨v, r, e, _, b⟩ := h.of_cons
    rw [e]
    exact Reps.drop n b
theorem Reps.take : ∀ {xs : List D} {vs : List V} (n : Nat), Reps o g xs vs → Reps o g (xs.take n) (vs.take n)
  | _, _, 0, _ => by simp only [List.take_zero]; exact .nil
  | [], _, n + 1, h => by rw [h.of_nil]; exact .nil
  | x :: xs, _, n + 1, h => by
    obtain ⟨v, r, e, a, b⟩ := h.of_cons
    rw [e]
    exact .cons a (Reps.take n b)
end

/-- a container stands at a, its items frozen -/
def Own (o : Om) (g : Gh) (H : Hp) (a : Addr) : D → Prop
  | .lst xs => ∃ vs, H a = some (.lst vs) ∧ Reps o g xs vs
  | .dic ks xs => ∃ u vv, H a = some u ∧ DicK u ks vv ∧ Reps o g xs vv
  | _ => False
theorem Own.le {o : Om} {g g' : Gh} {H H' : Hp} {a : Addr} (l : Le g g') (h : H' a = H a) : ∀ {d : D}, Own o g H a d → Own o g' H' a d
  | .lst xs, ⟨vs, e, r⟩ => ⟨vs, h.trans e, r.le l⟩
  | .dic ks xs, ⟨u, vv, e, k, r⟩ => ⟨u, vv, h.trans e, k, r.le l⟩
theorem Own.there {o : Om} {g : Gh} {H : Hp} {a : Addr} : ∀ {d : D}, Own o g H a d → H a ≠ none
  | .lst xs, ⟨vs, e, _⟩ => by rw [e]; simp
  | .dic ks xs, ⟨u, vv, e, _⟩ => by rw [e]; simp
theorem Own.notTbl {o : Om} {g : Gh} {H : Hp} {a : Addr} : ∀ {d : D}, Own o g H a d → ∀ ps, H a ≠ some (.tbl ps)
  | .lst xs, ⟨vs, e, _⟩, ps => by rw [e]; simp
  | .dic ks xs, ⟨u, vv, e, k, _⟩, ps => by
    rw [e]
    exact fun z => k.nt ps (Option.some.inj z)

/-- from (g, H) to (g', H'): what stood stands, but cells and the tables of code objects -/
structure Ext (g : Gh) (H : Hp) (g' : Gh) (H' : Hp) : Prop where
  le : Le g g'
  fzs : ∀ a, H a ≠ none → g'.Fz a = g.Fz a
  old : ∀ a u, H a = some u → (∀ ps, u ≠ .tbl ps) → a ∉ g'.cl → H' a = some u
  ncl : ∀ a, a ∈ g'.cl → a ∉ g.cl → H a = none
  still : ∀ a, H a ≠ none → H' a ≠ none
theorem Ext.refl (g : Gh) (H : Hp) : Ext g H g H := ⟨.refl g, fun _ _ => rfl, fun _ _ h _ _ => h, fun _ h n => absurd h n, fun _ h => h⟩
theorem Ext.trans {g g1 g2 : Gh} {H H1 H2 : Hp} (a : Ext g H g1 H1) (b : Ext g1 H1 g2 H2) : Ext g H g2 H2 where
  le := a.le.trans b.le
  fzs := fun p h => (b.fzs p (a.still p h)).trans (a.fzs p h)
  old := fun p u h n m => by
    have h1 := a.old p u h n fun z => m (b.le.mem z)
    exact b.old p u h1 n m
  ncl := fun p h n => by
    by_cases q : p ∈ g1.cl
    · exact a.ncl p q n
    · have z := b.ncl p h q
      cases e : H p with
      | none => rfl
      | some u => exact absurd z (a.still p (by rw [e]; simp))
  still := fun p h => b.still p (a.still p h)

/-- the state, told at a place: what is frozen stands; the cells stand; the tables -/
structure Cur (o : Om) (g : Gh) (s : S) (H : Hp) : Prop where
  fz : ∀ a u, g.Fz a = some u → H a = some u
  fzt : ∀ a ps, g.Fz a ≠ some (.tbl ps)
  cel : ∀ k a, nth g.cl k = some a → ∃ d, nth s k = some d ∧ Own o g H a d ∧ g.Fz a = none
  len : g.cl.length = s.length
  cnd : g.cl.Nodup
  tab : LamX.Tabs o.tb H

/-- the frame's slots; H0: the heap at its entry -/
structure Slots (o : Om) (H0 : Hp) (g : Gh) (ρ : Env) (σ : L2.St) (H : Hp) : Prop where
  len : ρ.length = σ.length
  fz : ∀ i d, rd ρ i = .fz d → ∃ v, σ[i]? = some (some v) ∧ Rep o g d v
  ow : ∀ i d, rd ρ i = .ow d → ∃ a, σ[i]? = some (some (.ref a)) ∧ Own o g H a d ∧ g.Fz a = none ∧ a ∉ g.cl ∧ H0 a = none
  ap : ∀ i j d d' a, i ≠ j → rd ρ i = .ow d → rd ρ j = .ow d' → σ[i]? = some (some (.ref a)) → σ[j]? ≠ some (some (.ref a))

theorem Slots.ext {o : Om} {H0 : Hp} {g g' : Gh} {ρ : Env} {σ : L2.St} {H H' : Hp} (x : Slots o H0 g ρ σ H) (e : Ext g H g' H') : Slots o H0 g' ρ σ H' where
  len := x.len
  fz := fun i d h => by
    obtain ⟨v, e1, r⟩ := x.fz i d h
    exact ⟨v, e1, r.le e.le⟩
  ow := fun i d h => by
    obtain ⟨a, e1, w, n, m, z⟩ := x.ow i d h
    have nc : a ∉ g'.cl := fun q => (Own.there w) (e.ncl a q m)
    refine ⟨a, e1, Own.le e.le ?_ w, (e.fzs a (Own.there w)).trans n, nc, z⟩
    cases q : H a with
    | none => exact absurd q (Own.there w)
    | some u =>
      exact e.old a u q (fun ps z => Own.notTbl w ps (by rw [q, z])) nc
  ap := x.ap

/-- how a value is held. F: frozen; T: its top is to be read, its items frozen; H: to be read now, at any depth; O: a new container, held by nobody -/
inductive Md where
  | F | T | H | O
  deriving DecidableEq, Repr
/-- the content of a container that stands now; other values as they are -/
def RepC (o : Om) (g : Gh) (H : Hp) : D → V → Prop
  | .lst xs, v => ∃ a vs, v = .ref a ∧ Rd H a (.lst vs) ∧ Reps o g xs vs
  | .dic ks xs, v => ∃ a, v = .ref a ∧ Own o g H a (.dic ks xs)
  | d, v => Rep o g d v
/-- .. and no cell -/
def RepT (o : Om) (g : Gh) (H : Hp) (d : D) (v : V) : Prop := RepC o g H d v ∧ (isBox d = true → ∀ a, v = .ref a → a ∉ g.cl)
/-- the heap without cells and tables -/
def kp (g : Gh) (H : Hp) : Hp := fun a => if a ∈ g.cl then none else match H a with
  | some (.tbl _) => none
  | u => u
/-- Hs: the heap ahead of the expression -/
def Mo (o : Om) (Hs : Hp) (md : Md) (g : Gh) (H : Hp) (d : D) (v : V) : Prop := match md with
  | .F => Rep o g d v
  | .T => RepT o g H d v
  | .H => Rep o ⟨kp g H, g.cl⟩ d v
  | .O => if isBox d = true then ∃ a, v = .ref a ∧ Own o g H a d ∧ g.Fz a = none ∧ a ∉ g.cl ∧ Hs a = none else Rep o g d v

/-- behind a piece of work: r, its result -/
def Po {α : Type} (o : Om) (W : WX) (σ : L2.St) (g : Gh) (H : Hp) (r : R α) (k : α → S → Gh → Hp → Prop) : Prop := match r with
  | .ok a s => ∀ g' H', Ext g H g' H' → Cur o g' s H' → k a s g' H'
  | .ex c _ s => ∀ g' H', Ext g H g' H' → Cur o g' s H' → W (.ref (o.xc c)) none σ H'
  | .no => False
section
variable {α β : Type} {o : Om} {W : WX} {σ : L2.St} {g : Gh} {H : Hp}
theorem Po.bind {r : R α} {f : α → S → R β} {k : β → S → Gh → Hp → Prop} (h : Po o W σ g H (r.bind f) k) :
    Po o W σ g H r fun a s g' H' => Po o W σ g' H' (f a s) k := by
  cases r with
  | no => exact h
  | ex c xs s => exact h
  | ok a s =>
    intro g' H' e c
    have h : Po o W σ g H (f a s) k := h
    cases q : f a s with
    | no => rw [q] at h; exact h
    | ex c xs s2 =>
      rw [q] at h
      exact fun g2 H2 e2 c2 => h g2 H2 (e.trans e2) c2
    | ok b s2 =>
      rw [q] at h
      exact fun g2 H2 e2 c2 => h g2 H2 (e.trans e2) c2
theorem Po.mono {r : R α} {k k' : α → S → Gh → Hp → Prop} (h : Po o W σ g H r k) (m : ∀ a s g' H', Ext g H g' H' → Cur o g' s H' → k a s g' H' → k' a s g' H') : Po o W σ g H r k' := by
  cases r with
  | no => exact h
  | ex c xs s => exact h
  | ok a s => exact fun g' H' e c => m a s g' H' e c (h g' H' e c)
theorem Po.ok {a : α} {s : S} {k : α → S → Gh → Hp → Prop} (h : Po o W σ g H (.ok a s) k) (c : Cur o g s H) : k a s g H := h g H (.refl g H) c
theorem Po.of {x : Option α} {s : S} {k : α → S → Gh → Hp → Prop} (h : Po o W σ g H (R.of x s) k) (c : Cur o g s H) : ∃ a, x = some a ∧ k a s g H := by
  cases x with
  | none => exact h.elim
  | some a => exact ⟨a, rfl, Po.ok h c⟩
end

def tE (o : Om) (H0 : Hp) (W : WX) (md : Md) (f : Env → S → R D) : TE := fun σ H Q =>
  ∃ g ρ s, Cur o g s H ∧ Slots o H0 g ρ σ H ∧ Po o W σ g H (f ρ s) fun d _ g' H' => ∀ v, Mo o H md g' H' d v → Q v H'
def tT (o : Om) (H0 : Hp) (W : WX) (f : Env → S → R Bool) : TT := fun σ H Q =>
  ∃ g ρ s, Cur o g s H ∧ Slots o H0 g ρ σ H ∧ Po o W σ g H (f ρ s) fun b _ _ H' => Q b H'
end MR
set_option Elab.async false
set_option linter.all false
set_option maxRecDepth 100000
namespace MR
open PySem PySem.Spec PyProof.Rows L2

/-- where an expression stands -/
structure Cok (o : Om) (W : WX) (k : Nat) (X : Cx) : Prop where
  K : X.K = o.K
  calm : X.calm = true
  nd : X.N.Nodup
  tk : Takes X W
  po : PassesOwn (model X.prog X.w) X.A X.env X.xe
  room : Room k X.A
  gd : X.A.guards = some []

theorem pe_imp {X : Cx} {e : Expr} {t t' : TE} (h : PE X e t) (m : ∀ σ H Q, t' σ H Q → t σ H Q) : PE X e t' :=
  ⟨fun pins s σ H Q I q => h.run pins s σ H Q I (m σ H Q q)⟩
theorem pt_imp {X : Cx} {e : Expr} {t t' : TT} (h : PT X e t) (m : ∀ σ H Q, t' σ H Q → t σ H Q) : PT X e t' :=
  ⟨fun pins s σ H Q I q => h.run pins s σ H Q I (m σ H Q q)⟩

section
variable {o : Om} {g : Gh} {s : S} {H : Hp}
theorem nth_mem {α : Type} : ∀ {l : List α} {a : α}, a ∈ l → ∃ k, nth l k = some a
  | x :: r, a, h => by
    rcases List.mem_cons.mp h with e | h
    · exact ⟨0, by rw [e]; rfl⟩
    · obtain ⟨k, e⟩ := nth_mem h
      exact ⟨k + 1, e⟩
theorem mem_nth {α : Type} : ∀ {l : List α} {k : Nat} {a : α}, nth l k = some a → a ∈ l
  | [], _, _, h => by simp [nth] at h
  | x :: r, 0, a, h => by
    simp only [nth, Option.some.injEq] at h
    rw [h]
    exact List.mem_cons_self
  | x :: r, k + 1, a, h => List.mem_cons_of_mem _ (mem_nth (l := r) (k := k) h)
theorem Cur.ncl (c : Cur o g s H) {p : Addr} (h : H p = none) : p ∉ g.cl := fun m => by
  obtain ⟨k, e⟩ := nth_mem m
  obtain ⟨d, _, w, _⟩ := c.cel k p e
  exact Own.there w h
theorem Cur.nfz (c : Cur o g s H) {p : Addr} (h : H p = none) : g.Fz p = none := by
  cases e : g.Fz p with
  | none => rfl
  | some u => rw [c.fz p u e] at h; cases h
/-- a new object that is not frozen -/
theorem ext_new (c : Cur o g s H) {p : Addr} (u : HO) (h : H p = none) (hu : ∀ ps, u ≠ .tbl ps) : Ext g H g (upd H p u) ∧ Cur o g s (upd H p u) := by
  have ne : ∀ a, H a ≠ none → a ≠ p := fun a n z => n (by rw [z]; exact h)
  refine ⟨⟨.refl g, fun _ _ => rfl, fun a v e _ _ => ?_, fun a m n => absurd m n, fun a n => by rw [upd_ne (ne a n)]; exact n⟩, ⟨fun a v e => ?_, c.fzt, fun k a e => ?_, c.len, c.cnd, ?_⟩⟩
  · rw [upd_ne (ne a (by rw [e]; simp))]; exact e
  · have q := c.fz a v e
    rw [upd_ne (ne a (by rw [q]; simp))]; exact q
  · obtain ⟨d, e1, w, n⟩ := c.cel k a e
    exact ⟨d, e1, Own.le (.refl g) (upd_ne (ne a (Own.there w))) w, n⟩
  · exact c.tab.ext fun b v e => by rw [upd_ne (ne b (by rw [e]; simp))]; exact e
/-- a new object, frozen at once -/
theorem ext_newF (c : Cur o g s H) {p : Addr} (u : HO) (h : H p = none) (hu : ∀ ps, u ≠ .tbl ps) : Ext g H ⟨upd g.Fz p u, g.cl⟩ (upd H p u) ∧ Cur o ⟨upd g.Fz p u, g.cl⟩ s (upd H p u) := by
  obtain ⟨e1, c1⟩ := ext_new c u h hu
  have ne : ∀ a, H a ≠ none → a ≠ p := fun a n z => n (by rw [z]; exact h)
  have l : Le g ⟨upd g.Fz p u, g.cl⟩ := ⟨fun a v e => by
    show upd g.Fz p u a = _
    rw [upd_ne (ne a (by rw [c.fz a v e]; simp))]; exact e, [], by simp⟩
  refine ⟨⟨l, fun a n => upd_ne (ne a n), e1.old, e1.ncl, e1.still⟩, ⟨fun a v e => ?_, fun a ps e => ?_, fun k a e => ?_, c.len, c.cnd, c1.tab⟩⟩
  · have e : upd g.Fz p u a = some v := e
    by_cases q : a = p
    · rw [q, upd_same] at e ⊢; exact e
    · rw [upd_ne q] at e ⊢; exact c.fz a v e
  · have e : upd g.Fz p u a = some (.tbl ps) := e
    by_cases q : a = p
    · rw [q, upd_same] at e; exact hu ps (Option.some.inj e)
    · rw [upd_ne q] at e; exact c.fzt a ps e
  · obtain ⟨d, q1, w, n⟩ := c1.cel k a e
    have na : a ≠ p := fun z => c.ncl h (by rw [← z]; exact mem_nth e)
    exact ⟨d, q1, Own.le l rfl w, by show upd g.Fz p u a = _; rw [upd_ne na]; exact n⟩
/-- what stands at a, held by nobody, is frozen -/
theorem cur_freeze (c : Cur o g s H) {a : Addr} {u : HO} (h : H a = some u) (hu : ∀ ps, u ≠ .tbl ps) (n : g.Fz a = none) (m : a ∉ g.cl) : Le g ⟨upd g.Fz a u, g.cl⟩ ∧ Cur o ⟨upd g.Fz a u, g.cl⟩ s H := by
  have l : Le g ⟨upd g.Fz a u, g.cl⟩ := ⟨fun b v e => by
    show upd g.Fz a u b = _
    rw [upd_ne (fun z => by rw [z, n] at e; cases e)]; exact e, [], by simp⟩
  refine ⟨l, ⟨fun b v e => ?_, fun b ps e => ?_, fun k b e => ?_, c.len, c.cnd, c.tab⟩⟩
  · have e : upd g.Fz a u b = some v := e
    by_cases q : b = a
    · rw [q, upd_same] at e; rw [q, h]; exact e
    · rw [upd_ne q] at e; exact c.fz b v e
  · have e : upd g.Fz a u b = some (.tbl ps) := e
    by_cases q : b = a
    · rw [q, upd_same] at e; exact hu ps (Option.some.inj e)
    · rw [upd_ne q] at e; exact c.fzt b ps e
  · obtain ⟨d, q1, w, nn⟩ := c.cel k b e
    have nb : b ≠ a := fun z => m (by rw [← z]; exact mem_nth e)
    exact ⟨d, q1, Own.le l rfl w, by show upd g.Fz a u b = _; rw [upd_ne nb]; exact nn⟩
theorem ext_freeze {g0 : Gh} {Hs : Hp} (e : Ext g0 Hs g H) {a : Addr} {u : HO} (l : Le g ⟨upd g.Fz a u, g.cl⟩) (hs : Hs a = none) : Ext g0 Hs ⟨upd g.Fz a u, g.cl⟩ H :=
  ⟨e.le.trans l, fun p n => by
    show upd g.Fz a u p = _
    rw [upd_ne (fun z => n (by rw [z]; exact hs))]; exact e.fzs p n, e.old, e.ncl, e.still⟩
theorem Cur.fcl (c : Cur o g s H) {a : Addr} {u : HO} (h : g.Fz a = some u) : a ∉ g.cl := fun m => by
  obtain ⟨k, e⟩ := nth_mem m
  obtain ⟨d, _, _, n⟩ := c.cel k a e
  rw [h] at n
  cases n
theorem RepT.ofF (c : Cur o g s H) {d : D} {v : V} (r : Rep o g d v) : RepT o g H d v := by
  cases d with
  | lst xs =>
    simp only [Rep] at r
    obtain ⟨a, vs, e, q, r⟩ := r
    refine ⟨⟨a, vs, e, Rd.le c.fz q, r⟩, fun _ b eb => ?_⟩
    rw [e] at eb
    cases eb
    rcases q with q | ⟨_, q⟩ <;> exact c.fcl q
  | dic ks vs =>
    simp only [Rep] at r
    obtain ⟨a, u, vv, e, q, k, r⟩ := r
    refine ⟨⟨a, e, u, vv, c.fz _ _ q, k, r⟩, fun _ b eb => ?_⟩
    rw [e] at eb
    cases eb
    exact c.fcl q
  | set xs => simp only [Rep] at r
  | _ => exact ⟨r, fun z => absurd z (by simp [isBox])⟩
theorem RepT.ofOwn {d : D} {a : Addr} (w : Own o g H a d) (m : a ∉ g.cl) : RepT o g H d (.ref a) := by
  refine ⟨?_, fun _ b e => by cases e; exact m⟩
  cases d with
  | lst xs =>
    obtain ⟨vs, q, r⟩ := w
    exact ⟨a, vs, rfl, .inl q, r⟩
  | dic ks xs => exact ⟨a, rfl, w⟩
  | _ => exact w.elim
theorem Mo.toT (c : Cur o g s H) {md : Md} {Hs : Hp} {d : D} {v : V} (hm : md ≠ .H) (h : Mo o Hs md g H d v) : RepT o g H d v := by
  cases md with
  | H => exact absurd rfl hm
  | F => exact .ofF c h
  | T => exact h
  | O =>
    unfold Mo at h
    dsimp only at h
    by_cases b : isBox d = true
    · rw [if_pos b] at h
      obtain ⟨a, e, w, _, m, _⟩ := h
      rw [e]
      exact .ofOwn w m
    · rw [if_neg b] at h
      exact .ofF c h
theorem kp_of {a : Addr} {u : HO} (h : H a = some u) (hu : ∀ ps, u ≠ .tbl ps) (m : a ∉ g.cl) : kp g H a = some u := by
  unfold kp
  rw [if_neg m, h]
  cases u with
  | tbl ps => exact absurd rfl (hu ps)
  | _ => rfl
theorem of_kp {a : Addr} {u : HO} (h : kp g H a = some u) : H a = some u ∧ (∀ ps, u ≠ .tbl ps) ∧ a ∉ g.cl := by
  unfold kp at h
  by_cases m : a ∈ g.cl
  · rw [if_pos m] at h; cases h
  · rw [if_neg m] at h
    cases e : H a with
    | none => rw [e] at h; cases h
    | some w =>
      rw [e] at h
      cases w with
      | tbl ps => cases h
      | _ => exact ⟨h, fun ps z => (by rw [z] at h; cases h), m⟩
theorem Cur.leK (c : Cur o g s H) : Le g ⟨kp g H, g.cl⟩ := ⟨fun a u e => kp_of (c.fz a u e) (fun ps z => c.fzt a ps (by rw [e, z])) (c.fcl e), [], by simp⟩
theorem Cur.leH (c : Cur o g s H) : Le g ⟨H, g.cl⟩ := ⟨c.fz, [], by simp⟩
theorem le_kH : Le ⟨kp g H, g.cl⟩ ⟨H, g.cl⟩ := ⟨fun _ _ e => (of_kp e).1, [], by simp⟩
theorem le_k {g' : Gh} {H' : Hp} (e : Ext g H g' H') : Le ⟨kp g H, g.cl⟩ ⟨kp g' H', g'.cl⟩ := ⟨fun a u q => by
  obtain ⟨h1, h2, h3⟩ := of_kp q
  have m : a ∉ g'.cl := fun z => by
    have := e.ncl a z h3
    rw [h1] at this
    cases this
  exact kp_of (e.old a u h1 h2 m) h2 m, e.le.cl⟩
/-- the content, deep and now -/
theorem RepC.deep (c : Cur o g s H) {d : D} {v : V} (h : RepC o g H d v) : Rep o ⟨H, g.cl⟩ d v := by
  cases d with
  | lst xs =>
    obtain ⟨a, vs, e, l, r⟩ := h
    simp only [Rep]
    exact ⟨a, vs, e, l, r.le c.leH⟩
  | dic ks xs =>
    obtain ⟨a, e, u, vv, q, k, r⟩ := h
    simp only [Rep]
    exact ⟨a, u, vv, e, q, k, r.le c.leH⟩
  | _ => exact Rep.le c.leH h
theorem RepT.toH (c : Cur o g s H) {d : D} {v : V} (h : RepT o g H d v) : Rep o ⟨kp g H, g.cl⟩ d v := by
  obtain ⟨h, m⟩ := h
  cases d with
  | lst xs =>
    obtain ⟨a, vs, e, l, r⟩ := h
    have m := m rfl a e
    simp only [Rep]
    refine ⟨a, vs, e, ?_, r.le c.leK⟩
    rcases l with l | ⟨w, l⟩
    · exact .inl (kp_of l (fun ps z => by cases z) m)
    · exact .inr ⟨w, kp_of l (fun ps z => by cases z) m⟩
  | dic ks xs =>
    obtain ⟨a, e, u, vv, q, k, r⟩ := h
    simp only [Rep]
    exact ⟨a, u, vv, e, kp_of q k.nt (m rfl a e), k, r.le c.leK⟩
  | _ => exact Rep.le c.leK h
theorem Mo.toH (c : Cur o g s H) {md : Md} {Hs : Hp} {d : D} {v : V} (h : Mo o Hs md g H d v) : Rep o ⟨kp g H, g.cl⟩ d v := by
  by_cases e : md = .H
  · subst e; exact h
  · exact (Mo.toT c e h).toH c
theorem RepT.ext {g' : Gh} {H' : Hp} (x : Ext g H g' H') {d : D} {v : V} (h : RepT o g H d v) : RepT o g' H' d v := by
  have nc : ∀ a u, H a = some u → a ∉ g.cl → a ∉ g'.cl := fun a u e m z => by
    have := x.ncl a z m
    rw [e] at this
    cases this
  obtain ⟨h, m⟩ := h
  cases d with
  | lst xs =>
    obtain ⟨a, vs, e, l, r⟩ := h
    have m := m rfl a e
    refine ⟨⟨a, vs, e, ?_, r.le x.le⟩, fun _ b eb => ?_⟩
    · rcases l with l | ⟨w, l⟩
      · exact .inl (x.old a _ l (fun ps z => by cases z) (nc a _ l m))
      · exact .inr ⟨w, x.old a _ l (fun ps z => by cases z) (nc a _ l m)⟩
    · rw [e] at eb
      cases eb
      rcases l with l | ⟨w, l⟩ <;> exact nc a _ l m
  | dic ks xs =>
    obtain ⟨a, e, u, vv, q, k, r⟩ := h
    have m := m rfl a e
    refine ⟨⟨a, e, u, vv, x.old a _ q k.nt (nc a _ q m), k, r.le x.le⟩, fun _ b eb => ?_⟩
    rw [e] at eb
    cases eb
    exact nc a _ q m
  | set xs => simp only [RepC, Rep] at h
  | _ => exact ⟨Rep.le x.le h, fun z => absurd z (by simp [isBox])⟩
theorem Mo.ext {g' : Gh} {H' : Hp} {md : Md} {Hs : Hp} (x : Ext g H g' H') {d : D} {v : V} (h : Mo o Hs md g H d v) : Mo o Hs md g' H' d v := by
  cases md with
  | F => exact Rep.le x.le h
  | T => exact RepT.ext x h
  | H => exact Rep.le (le_k x) h
  | O =>
    unfold Mo at h ⊢
    dsimp only at h ⊢
    by_cases b : isBox d = true
    · rw [if_pos b] at h ⊢
      obtain ⟨a, e, w, n, m, z⟩ := h
      have nc : a ∉ g'.cl := fun q => Own.there w (x.ncl a q m)
      refine ⟨a, e, Own.le x.le ?_ w, (x.fzs a (Own.there w)).trans n, nc, z⟩
      cases q : H a with
      | none => exact absurd q (Own.there w)
      | some u => exact x.old a u q (fun ps z => Own.notTbl w ps (by rw [q, z])) nc
    · rw [if_neg b] at h ⊢
      exact Rep.le x.le h
/-- looked at: a cell by its content -/
theorem top_C (c : Cur o g s H) {d d' : D} {v : V} (h : RepT o g H d v) (e : top s d = some d') : RepC o g H d' v := by
  cases d with
  | cell n =>
    have hr : Rep o g (.cell n) v := h.1
    simp only [Rep] at hr
    obtain ⟨a, ev, ha⟩ := hr
    obtain ⟨d2, h2, w, _⟩ := c.cel n a ha
    have e2 : nth s n = some d' := e
    rw [h2] at e2
    obtain rfl : d2 = d' := Option.some.inj e2
    cases d2 with
    | lst xs =>
      obtain ⟨vs, q, r⟩ := w
      exact ⟨a, vs, ev, .inl q, r⟩
    | dic ks xs => exact ⟨a, ev, w⟩
    | _ => exact w.elim
  | _ =>
    have e2 := Option.some.inj e
    subst e2
    exact h.1
theorem top_H (c : Cur o g s H) {d d' : D} {v : V} (h : Rep o ⟨kp g H, g.cl⟩ d v) (e : top s d = some d') : Rep o ⟨H, g.cl⟩ d' v := by
  cases d with
  | cell n =>
    have hr := h
    simp only [Rep] at hr
    obtain ⟨a, ev, ha⟩ := hr
    obtain ⟨d2, h2, w, _⟩ := c.cel n a ha
    have e2 : nth s n = some d' := e
    rw [h2] at e2
    obtain rfl : d2 = d' := Option.some.inj e2
    cases d2 with
    | lst xs =>
      obtain ⟨vs, q, r⟩ := w
      simp only [Rep]
      exact ⟨a, vs, ev, .inl q, r.le c.leH⟩
    | dic ks xs =>
      obtain ⟨u, vv, q, k, r⟩ := w
      simp only [Rep]
      exact ⟨a, u, vv, ev, q, k, r.le c.leH⟩
    | _ => exact w.elim
  | _ =>
    have e2 := Option.some.inj e
    subst e2
    exact Rep.le le_kH h
end

section
variable {o : Om} {H0 : Hp} {W : WX} {X : Cx}
/-- the value may be frozen -/
theorem tF_O {f : Env → S → R D} {σ : L2.St} {H : Hp} {Q : VK} (h : tE o H0 W .F f σ H Q) : tE o H0 W .O f σ H Q := by
  obtain ⟨g, ρ, s, c, sl, p⟩ := h
  refine ⟨g, ρ, s, c, sl, ?_⟩
  revert p
  cases f ρ s with
  | no => exact fun p => p
  | ex c xs s => exact fun p => p
  | ok d s1 =>
    intro p g' H' e1 c1 v hv
    unfold Mo at hv
    dsimp only at hv
    by_cases b : isBox d = true
    · rw [if_pos b] at hv
      obtain ⟨a, ev, w, n, m, hs⟩ := hv
      have key : ∀ u, H' a = some u → (∀ ps, u ≠ .tbl ps) → Le g' ⟨upd g'.Fz a u, g'.cl⟩ ∧ Ext g H ⟨upd g'.Fz a u, g'.cl⟩ H' ∧ Cur o ⟨upd g'.Fz a u, g'.cl⟩ s1 H' := fun u hu nt => by
        obtain ⟨l, c2⟩ := cur_freeze c1 hu nt n m
        exact ⟨l, ext_freeze e1 l hs, c2⟩
      cases d with
      | lst xs =>
        obtain ⟨vs, hu, r⟩ := w
        obtain ⟨l, e2, c2⟩ := key _ hu (fun ps z => by cases z)
        refine p _ H' e2 c2 v ?_
        show Rep o _ (.lst xs) v
        simp only [Rep]
        exact ⟨a, vs, ev, .inl upd_same, r.le l⟩
      | dic ks xs =>
        obtain ⟨u, vv, hu, k, r⟩ := w
        obtain ⟨l, e2, c2⟩ := key _ hu k.nt
        refine p _ H' e2 c2 v ?_
        show Rep o _ (.dic ks xs) v
        simp only [Rep]
        exact ⟨a, u, vv, ev, upd_same, k, r.le l⟩
      | set xs => exact w.elim
      | _ => exact absurd b (by simp [isBox])
    · rw [if_neg b] at hv
      exact p g' H' e1 c1 v hv
theorem pe_F {e : Expr} {f : Env → S → R D} {md : Md} (hm : md = .F ∨ md = .O) (h : PE X e (tE o H0 W md f)) : PE X e (tE o H0 W .F f) := by
  rcases hm with rfl | rfl
  · exact h
  exact pe_imp h fun σ H Q => tF_O
theorem x_vr {i : Nat} {x : Str} {pos : Pos} (hN : X.N[i]? = some x) (hv : Vis X.env.scope x) (hd : (x == ("__debug__" : Str)) = false) (hcd : (x == ("__classdict__" : Str)) = false) :
    PE X (.Name x pos) (tE o H0 W .F (vVar i)) := by
  refine pe_imp (pe_var hN hv hd hcd) fun σ H Q ⟨g, ρ, s, c, sl, p⟩ => ?_
  unfold vVar at p
  cases e : rd ρ i with
  | fz d =>
    rw [e] at p
    obtain ⟨v, e1, r⟩ := sl.fz i d e
    exact ⟨v, e1, Po.ok p c v r⟩
  | un => rw [e] at p; exact p.elim
  | ow d => rw [e] at p; exact p.elim
theorem x_br {i : Nat} {x : Str} {pos : Pos} (hN : X.N[i]? = some x) (hv : Vis X.env.scope x) (hd : (x == ("__debug__" : Str)) = false) (hcd : (x == ("__classdict__" : Str)) = false) :
    PE X (.Name x pos) (tE o H0 W .T (vBor i)) := by
  refine pe_imp (pe_var hN hv hd hcd) fun σ H Q ⟨g, ρ, s, c, sl, p⟩ => ?_
  unfold vBor at p
  cases e : rd ρ i with
  | fz d =>
    rw [e] at p
    obtain ⟨v, e1, r⟩ := sl.fz i d e
    exact ⟨v, e1, Po.ok p c v (RepT.ofF c r)⟩
  | un => rw [e] at p; exact p.elim
  | ow d =>
    rw [e] at p
    obtain ⟨a, e1, w, n, m, z⟩ := sl.ow i d e
    exact ⟨.ref a, e1, Po.ok p c _ (RepT.ofOwn w m)⟩
theorem x_ci {i : Int} {j pos} : PE X (.Constant (.int i) j pos) (tE o H0 W .F fun _ s => .ok (.int i) s) :=
  pe_imp pe_int fun σ H Q ⟨g, ρ, s, c, sl, p⟩ => Po.ok p c _ (by show Rep o g _ _; simp only [Rep])
theorem x_cb {b : Bool} {j pos} : PE X (.Constant (.bool b) j pos) (tE o H0 W .F fun _ s => .ok (.bl b) s) :=
  pe_imp pe_bl fun σ H Q ⟨g, ρ, s, c, sl, p⟩ => Po.ok p c _ (by show Rep o g _ _; simp only [Rep])
theorem x_cnn {j pos} : PE X (.Constant .none j pos) (tE o H0 W .F fun _ s => .ok .non s) :=
  pe_imp pe_non fun σ H Q ⟨g, ρ, s, c, sl, p⟩ => Po.ok p c _ (by show Rep o g _ _; simp only [Rep])
theorem x_cs {x : Str} {j pos} : PE X (.Constant (.str x) j pos) (tE o H0 W .F fun _ s => .ok (.str x) s) :=
  pe_imp pe_str fun σ H Q ⟨g, ρ, s, c, sl, p⟩ => Po.ok p c _ (by show Rep o g _ _; simp only [Rep])
end
end MR
set_option Elab.async false
set_option linter.all false
set_option maxRecDepth 100000
namespace MR
open PySem PySem.Spec PyProof.Rows L2

theorem rep_eq {α : Type} (xs : List α) : ∀ n : Nat, rep xs n = (List.replicate n xs).flatten
  | 0 => rfl
  | n + 1 => by rw [rep, rep_eq xs n, List.replicate_succ, List.flatten_cons]
theorem Reps.rep {o : Om} {g : Gh} {xs : List D} {vs : List V} (h : Reps o g xs vs) : ∀ n : Nat, Reps o g (rep xs n) (rep vs n)
  | 0 => .nil
  | n + 1 => .append h (Reps.rep h n)
theorem rep_len {α : Type} (xs : List α) : ∀ n : Nat, (rep xs n).length = xs.length * n
  | 0 => rfl
  | n + 1 => by rw [rep, List.length_append, rep_len xs n, Nat.mul_succ, Nat.add_comm]

section
variable {X : Cx} {pins : List (Addr × Obj)} {σ : L2.St} {H : Hp} {s : Shared}
theorem lstR (I : Inv X pins σ H s) {l : Addr} {xs : List V} (h : Rd H l (.lst xs)) : xs.length ≤ sizeLine ∧ ∃ (its : List Value) (n : Nat), Vals xs its ∧ xs.length = its.length ∧ s.heap.get? l = some { cls := .type "list", data := .seq its.toArray n } := by
  obtain ⟨z, its, n, r, e⟩ := h.ok I.hok
  exact ⟨z, its, n, r, r.length, e⟩
/-- list + list -/
theorem op_catR : OpR X (binaryOp .Add) (fun x y H Q => ∃ l b xs zs, x = .ref l ∧ y = .ref b ∧ Rd H l (.lst xs) ∧ Rd H b (.lst zs) ∧ xs.length + zs.length ≤ sizeLine ∧ ∀ p, H p = none → Q (.ref p) (upd H p (.lst (xs ++ zs)))) := by
  intro pins s σ H x y v u Q I rx ry h
  obtain ⟨l, b, xs, zs, rfl, rfl, hl, hb, hz, q⟩ := h
  cases rx
  cases ry
  obtain ⟨_, its, n, r, e1, e⟩ := lstR I hl
  obtain ⟨_, its2, n2, r2, e3, e2⟩ := lstR I hb
  refine PySem.P.add_list e e2 ?_ (by rw [List.size_toArray, List.size_toArray]; omega)
  rw [show its.toArray ++ its2.toArray = (its ++ its2).toArray by simp]
  exact ⟨.ref _, _, I.lnew (t' := s.toks) (r.append r2) (by rw [List.length_append]; omega), rfl, q _ I.fresh⟩
theorem foldR (its : List Value) (k : Nat) : List.foldl (fun x1 x2 => x1 ++ x2) #[] (List.replicate (if its.toArray.isEmpty = true then 0 else k) its.toArray) = (List.replicate k its).flatten.toArray := by
  have f0 : ∀ m : Nat, List.foldl (fun x1 x2 => x1 ++ x2) #[] (List.replicate m its.toArray) = (List.replicate m its).flatten.toArray := fun m => by
    have z := foldl_rep its m []
    rwa [List.nil_append] at z
  rw [f0]
  cases its with
  | nil => simp
  | cons a r' => rw [if_neg (by simp)]
/-- list * int -/
theorem op_repR : OpR X (binaryOp .Mult) (fun x y H Q => ∃ l k xs, x = .ref l ∧ y = .int k ∧ Rd H l (.lst xs) ∧ -(2 ^ 63) ≤ k ∧ k < 2 ^ 63 ∧ xs.length * k.toNat ≤ sizeLine ∧ ∀ p, H p = none → Q (.ref p) (upd H p (.lst (rep xs k.toNat)))) := by
  intro pins s σ H x y v u Q I rx ry h
  obtain ⟨l, k, xs, rfl, rfl, hl, h1, h2, hz, q⟩ := h
  cases rx
  obtain ⟨t, rfl⟩ := ry
  obtain ⟨_, its, n, r, he, e⟩ := lstR I hl
  have hlen : its.toArray.size * k.toNat ≤ sizeLine := by rw [List.size_toArray, ← he]; exact hz
  have hs : (sizeLine : Nat) ≤ (2 ^ 63 - 1) / 8 := by decide
  refine wpAny_binaryOp_repeat_ref (T := "list") (U := "int") (by decide) ⟨_, e, rfl⟩ (fun s' => typeIs_int s' k t) noFill_list_mul F.fills_int_mul F.slot_int_rmul repeat_list F.slot_int_index.lookup
    (call_meets F.slot_int_rmul (typeIs_int s k t) F.entry_int_rmul (F.args_int_rmul_2 _ _) (int___rmul___int_list k t l its.toArray n)
      ⟨e, rfl, ⟨_, e, rfl⟩, call_meets F.slot_list_mul ⟨_, e, rfl⟩ F.entry_list_mul (F.args_list_mul_2 _ _)
        (AutoListH.list___mul___list_int_3 l its.toArray n k t (by rw [fitsIndex_both h1 h2]; exact Bool.false_ne_true) (by omega) (by rw [notLongL hlen]; exact Bool.false_ne_true)) ⟨e, ?_⟩⟩)
  rw [foldR, rep_eq] at *
  exact ⟨.ref _, _, I.lnew (t' := s.toks) (r.rep k.toNat) (by rw [PyProof.Rows.lm_len_rep_flat, Nat.mul_comm]; exact hz), rfl, q _ I.fresh⟩
theorem tuple_mulOne (l : Addr) (items : Array Value) (n : Nat) (dd : Option Addr) (sl : Array (Option Value)) (u : Tok) :
    Meets (Builtin.«tuple.__mul__» ⟨[.ref l, .int 1 u], []⟩) (fun _ R s => s.heap.get? l = some { cls := .type "tuple", dict := dd, data := .seq items n, slots := sl } ∧ R (.ok (.ret (Value.ref l))) s) :=
  .of_wp fun prog w A R s h => by
    obtain ⟨hp, g, d, t, os⟩ := s
    obtain ⟨hl, h⟩ := h
    have f1 := AutoSeq1.idx_int
    wp_walk using wpAny_loadPart' hl
    exact ⟨_, rfl, h⟩
/-- tuple * 1 is the tuple -/
theorem op_rep1 : OpR X (binaryOp .Mult) (fun x y H Q => ∃ l xs, x = .ref l ∧ y = .int 1 ∧ SqT X.K H l xs ∧ Q (.ref l) H) := by
  intro pins s σ H x y v u Q I rx ry h
  obtain ⟨l, xs, rfl, rfl, hT, q⟩ := h
  cases rx
  obtain ⟨t, rfl⟩ := ry
  obtain ⟨its, r, ⟨⟨cls, dd, data, sl⟩, ho, hc, n, hd⟩, hs⟩ := I.tuple hT
  simp only at hc hd
  subst hc hd
  refine wpAny_binaryOp_repeat_ref (T := "tuple") (U := "int") (by decide) ⟨_, ho, rfl⟩ (fun s' => typeIs_int s' 1 t) noFill_tuple_mul F.fills_int_mul F.slot_int_rmul repeat_tuple F.slot_int_index.lookup
    (call_meets F.slot_int_rmul (typeIs_int s 1 t) F.entry_int_rmul (F.args_int_rmul_2 _ _) (int_rmul_tuple 1 t l its.toArray n dd sl)
      ⟨ho, rfl, ⟨_, ho, rfl⟩, call_meets F.slot_tuple_mul ⟨_, ho, rfl⟩ F.entry_tuple_mul (F.args_tuple_mul_2 _ _) (tuple_mulOne l its.toArray n dd sl t) ⟨ho, ?_⟩⟩)
  exact ⟨.ref l, H, I, rfl, q⟩
end

section
variable {o : Om} {H0 : Hp} {W : WX} {X : Cx} {k : Nat}
theorem tE_mono {md : Md} {f : Env → S → R D} {σ : L2.St} {H : Hp} {Q Q' : VK} (h : tE o H0 W md f σ H Q) (m : ∀ v H, Q v H → Q' v H) : tE o H0 W md f σ H Q' := by
  obtain ⟨g, ρ, s, c, sl, p⟩ := h
  exact ⟨g, ρ, s, c, sl, p.mono fun d s1 g1 H1 _ _ q v hv => m _ _ (q v hv)⟩
/-- what is new now was not there ahead -/
theorem Ext.new {g g' : Gh} {H H' : Hp} (e : Ext g H g' H') {p : Addr} (h : H' p = none) : H p = none := by
  cases q : H p with
  | none => rfl
  | some u => exact absurd h (e.still p (by rw [q]; simp))
theorem two {ma mb : Md} {fa fb : Env → S → R D} {α : Type} {K : D → D → S → R α} {σ : L2.St} {g : Gh} {ρ : Env} {s : S} {Hs : Hp} {k : α → S → Gh → Hp → Prop} (c : Cur o g s Hs) (sl : Slots o H0 g ρ σ Hs)
    (p : Po o W σ g Hs ((fa ρ s).bind fun x s => (fb ρ s).bind fun y s => K x y s) k) :
    tE o H0 W ma fa σ Hs fun v H1 => tE o H0 W mb fb σ H1 fun u H2 => ∃ x y g2 s2, Cur o g2 s2 H2 ∧ Slots o H0 g2 ρ σ H2 ∧ Ext g Hs g2 H2 ∧ Mo o Hs ma g2 H2 x v ∧ Mo o H1 mb g2 H2 y u ∧ Po o W σ g2 H2 (K x y s2) k := by
  refine ⟨g, ρ, s, c, sl, p.bind.mono fun x s1 g1 H1 e1 c1 q v hv => ?_⟩
  refine ⟨g1, ρ, s1, c1, sl.ext e1, q.bind.mono fun y s2 g2 H2 e2 c2 q2 u hu => ?_⟩
  exact ⟨x, y, g2, s2, c2, (sl.ext e1).ext e2, e1.trans e2, hv.ext e2, hu, q2⟩

theorem Po.of2 {α : Type} {σ : L2.St} {g : Gh} {H : Hp} {x : Option α} {s : S} {k : α → S → Gh → Hp → Prop} (h : Po o W σ g H (R.of x s) k) : ∃ a, x = some a ∧ ∀ g' H', Ext g H g' H' → Cur o g' s H' → k a s g' H' := by
  cases x with
  | none => exact h.elim
  | some a => exact ⟨a, rfl, h⟩
theorem of_top2 {α : Type} {s : S} {x y : D} {f : D → D → Option α} {a : α} (h : top2 s x y f = some a) : ∃ x' y', top s x = some x' ∧ top s y = some y' ∧ f x' y' = some a := by
  unfold top2 at h
  split at h
  · rename_i x' y' e1 e2
    exact ⟨x', y', e1, e2, h⟩
  · cases h
theorem of_top1 {α : Type} {s : S} {x : D} {f : D → Option α} {a : α} (h : top1 s x f = some a) : ∃ x', top s x = some x' ∧ f x' = some a := by
  unfold top1 at h
  split at h
  · rename_i x' e1
    exact ⟨x', e1, h⟩
  · cases h

theorem Mo.int {Hs H : Hp} {md : Md} {g : Gh} {i : Int} : Mo o Hs md g H (.int i) (.int i) := by
  cases md with
  | F => show Rep o g _ _; simp only [Rep]
  | T => exact ⟨by show Rep o g _ _; simp only [Rep], fun z => absurd z (by simp [isBox])⟩
  | H => show Rep o _ _ _; simp only [Rep]
  | O => unfold Mo; dsimp only; rw [if_neg (by simp [isBox])]; simp only [Rep]
theorem Mo.bl {Hs H : Hp} {md : Md} {g : Gh} {b : Bool} : Mo o Hs md g H (.bl b) (.bl b) := by
  cases md with
  | F => show Rep o g _ _; simp only [Rep]
  | T => exact ⟨by show Rep o g _ _; simp only [Rep], fun z => absurd z (by simp [isBox])⟩
  | H => show Rep o _ _ _; simp only [Rep]
  | O => unfold Mo; dsimp only; rw [if_neg (by simp [isBox])]; simp only [Rep]
theorem Mo.str {Hs H : Hp} {md : Md} {g : Gh} {x : Str} : Mo o Hs md g H (.str x) (.str x) := by
  cases md with
  | F => show Rep o g _ _; simp only [Rep]
  | T => exact ⟨by show Rep o g _ _; simp only [Rep], fun z => absurd z (by simp [isBox])⟩
  | H => show Rep o _ _ _; simp only [Rep]
  | O => unfold Mo; dsimp only; rw [if_neg (by simp [isBox])]; simp only [Rep]
/-- what is frozen and no container, as new -/
theorem Mo.O_of {Hs H : Hp} {g : Gh} {d : D} {v : V} (b : isBox d = false) (h : Rep o g d v) : Mo o Hs .O g H d v := by
  unfold Mo
  dsimp only
  rw [if_neg (by rw [b]; decide)]
  exact h
/-- a new list -/
theorem Mo.newL {Hs H : Hp} {g : Gh} {s : S} {xs : List D} {vs : List V} {p : Addr} (c : Cur o g s H) (h : H p = none) (hs : Hs p = none) (r : Reps o g xs vs) : Ext g H g (upd H p (.lst vs)) ∧ Cur o g s (upd H p (.lst vs)) ∧ Mo o Hs .O g (upd H p (.lst vs)) (.lst xs) (.ref p) := by
  obtain ⟨e, c1⟩ := ext_new c (.lst vs) h (fun ps z => by cases z)
  refine ⟨e, c1, ?_⟩
  unfold Mo
  dsimp only
  rw [if_pos (show isBox (.lst xs) = true from rfl)]
  exact ⟨p, rfl, ⟨vs, upd_same, r⟩, c.nfz h, c.ncl h, hs⟩
/-- a new tuple -/
theorem newT {H : Hp} {g : Gh} {s : S} {xs : List D} {vs : List V} {p : Addr} (c : Cur o g s H) (h : H p = none) (r : Reps o g xs vs) : Ext g H ⟨upd g.Fz p (.tup vs), g.cl⟩ (upd H p (.tup vs)) ∧ Cur o ⟨upd g.Fz p (.tup vs), g.cl⟩ s (upd H p (.tup vs)) ∧ Rep o ⟨upd g.Fz p (.tup vs), g.cl⟩ (.tup xs) (.ref p) := by
  obtain ⟨e, c1⟩ := ext_newF c (.tup vs) h (fun ps z => by cases z)
  refine ⟨e, c1, ?_⟩
  simp only [Rep]
  exact ⟨p, vs, rfl, .inl (.inl upd_same), r.le e.le⟩

def bopO : BOp → Operator
  | .add => .Add | .sub => .Sub | .mul => .Mult | .fdiv => .FloorDiv | .mod => .Mod | .pow => .Pow
/-- what a binary operation asks of the machine, at values that are told -/
def BinR (o : Om) (X : Cx) (op : BOp) (r : R2) : Prop := OpR X (binaryOp (bopO op)) r ∧
  ∀ (Hs : Hp) (W : WX) (σ : L2.St) (g : Gh) (s : S) (H : Hp) (x y d : D) (v u : V) (Q : VK), Cur o g s H → RepC o g H x v → RepC o g H y u → bin op x y = some d → (∀ p, H p = none → Hs p = none) →
    (∀ g' H', Ext g H g' H' → Cur o g' s H' → ∀ w, Mo o Hs .O g' H' d w → Q w H') → r v u H Q
theorem toT_of {md : Md} (hm : md ≠ .H) {g : Gh} {s : S} {H Hs : Hp} {d : D} {v : V} (c : Cur o g s H) (h : Mo o Hs md g H d v) : RepT o g H d v := Mo.toT c hm h
theorem x_bin {op : BOp} {r : R2} {a b : Expr} {fa fb : Env → S → R D} {ma mb : Md} {pos : Pos} (hma : ma ≠ .H) (hmb : mb ≠ .H) (ha : PE X a (tE o H0 W ma fa)) (hb : PE X b (tE o H0 W mb fb)) (hr : BinR o X op r) :
    PE X (.BinOp a (bopO op) b pos) (tE o H0 W .O (vBin op fa fb)) := by
  refine pe_imp (pe_op hr.1 ha hb) fun σ H Q ⟨g, ρ, s, c, sl, p⟩ => ?_
  refine tE_mono (two (ma := ma) (mb := mb) c sl p) fun v H1 h1 => tE_mono h1 fun u H2 h2 => ?_
  obtain ⟨x, y, g2, s2, c2, _, e2, hx, hy, q⟩ := h2
  obtain ⟨d, hd, q⟩ := Po.of2 q
  obtain ⟨x', y', hx', hy', hd⟩ := of_top2 hd
  exact hr.2 H W σ g2 s2 H2 x' y' d v u Q c2 (top_C c2 (Mo.toT c2 hma hx) hx') (top_C c2 (Mo.toT c2 hmb hy) hy') hd (fun p hp => e2.new hp) q
theorem repC_int {g : Gh} {H : Hp} {i : Int} {v : V} (h : RepC o g H (.int i) v) : v = .int i := by
  have h : Rep o g (.int i) v := h
  simpa only [Rep] using h
theorem repC_str {g : Gh} {H : Hp} {i : Str} {v : V} (h : RepC o g H (.str i) v) : v = .str i := by
  have h : Rep o g (.str i) v := h
  simpa only [Rep] using h
theorem repC_tup {g : Gh} {s : S} {H : Hp} {xs : List D} {v : V} (c : Cur o g s H) (h : RepC o g H (.tup xs) v) : ∃ a vs, v = .ref a ∧ SqT o.K H a vs ∧ Reps o g xs vs ∧ Rep o g (.tup xs) v := by
  have h : Rep o g (.tup xs) v := h
  have h' := h
  simp only [Rep] at h
  obtain ⟨a, vs, e, q, r⟩ := h
  exact ⟨a, vs, e, SqT.le c.fz q, r, h'⟩
theorem lim_line : lim = sizeLine := by rw [sizeLine_eq]; rfl

theorem bin_add (hK : X.K = o.K) : BinR o X .add (fun x y H Q => ((rI0 fun i j => .int (i + j)) x y H Q ∨ rCatA X.K x y H Q) ∨ (∃ l b xs zs, x = .ref l ∧ y = .ref b ∧ Rd H l (.lst xs) ∧ Rd H b (.lst zs) ∧ xs.length + zs.length ≤ sizeLine ∧ ∀ p, H p = none → Q (.ref p) (upd H p (.lst (xs ++ zs)))) ∨
    (∃ i j, x = .str i ∧ y = .str j ∧ i.length + j.length ≤ sizeLine ∧ Q (.str (i ++ j)) H)) := by
  refine ⟨OpR.or (OpR.or op_add op_catA) (OpR.or op_catR op_add_str), fun Hs W σ g s H x y d v u Q c hx hy e hn q => ?_⟩
  unfold bin at e
  split at e <;> try (first | (cases e; done) | contradiction)
  · rename_i i j _
    obtain rfl := repC_int hx
    obtain rfl := repC_int hy
    cases e
    exact .inl (.inl ⟨i, j, rfl, rfl, q g H (.refl _ _) c _ .int⟩)
  · rename_i xs ys _
    obtain ⟨a, vs, rfl, sx, rx, wx⟩ := repC_tup c hx
    obtain ⟨b, us, rfl, sy, ry, wy⟩ := repC_tup c hy
    split at e
    · rename_i hl
      cases e
      have l1 := rx.length
      have l2 := ry.length
      rw [lim_line] at hl
      refine .inl (.inr ⟨a, b, vs, us, rfl, rfl, by rw [hK]; exact sx, by rw [hK]; exact sy, by omega, fun e1 => ?_, fun _ e2 => ?_, fun _ _ p hp => ?_⟩)
      · have : xs = [] := by
          cases xs with
          | nil => rfl
          | cons a r => rw [e1] at l1; simp at l1
        subst this
        exact q g H (.refl _ _) c _ (Mo.O_of rfl wy)
      · have : ys = [] := by
          cases ys with
          | nil => rfl
          | cons a r => rw [e2] at l2; simp at l2
        subst this
        rw [List.append_nil] at q
        exact q g H (.refl _ _) c _ (Mo.O_of rfl wx)
      · obtain ⟨e1, c1, r1⟩ := newT c hp (rx.append ry)
        exact q _ _ e1 c1 _ (Mo.O_of rfl r1)
    · cases e
  · rename_i xs ys _
    obtain ⟨a, vs, rfl, sx, rx⟩ := hx
    obtain ⟨b, us, rfl, sy, ry⟩ := hy
    split at e
    · rename_i hl
      cases e
      have l1 := rx.length
      have l2 := ry.length
      rw [lim_line] at hl
      refine .inr (.inl ⟨a, b, vs, us, rfl, rfl, sx, sy, by omega, fun p hp => ?_⟩)
      obtain ⟨e1, c1, m⟩ := Mo.newL c hp (hn p hp) (rx.append ry)
      exact q g _ e1 c1 _ m
    · cases e
  · rename_i x y _
    obtain rfl := repC_str hx
    obtain rfl := repC_str hy
    split at e
    · rename_i hl
      cases e
      rw [lim_line] at hl
      exact .inr (.inr ⟨x, y, rfl, rfl, hl, q g H (.refl _ _) c _ .str⟩)
    · cases e
theorem bin_sub : BinR o X .sub (rI0 fun i j => .int (i - j)) := by
  refine ⟨op_sub, fun Hs W σ g s H x y d v u Q c hx hy e hn q => ?_⟩
  unfold bin at e
  split at e <;> try (first | (cases e; done) | contradiction)
  rename_i i j _
  obtain rfl := repC_int hx
  obtain rfl := repC_int hy
  cases e
  exact ⟨i, j, rfl, rfl, q g H (.refl _ _) c _ .int⟩
theorem small_of {i : Int} (h : small64 i = true) : -(2 ^ 64) < i ∧ i < 2 ^ 64 := by
  have h := Nat.le_of_ble_eq_true h
  omega
theorem bin_mul (hK : X.K = o.K) : BinR o X .mul (fun x y H Q => ((rI CMul fun i j => .int (i * j)) x y H Q ∨ rRepT X.K x y H Q) ∨ (∃ l xs, x = .ref l ∧ y = .int 1 ∧ SqT X.K H l xs ∧ Q (.ref l) H) ∨
    (∃ l k xs, x = .ref l ∧ y = .int k ∧ Rd H l (.lst xs) ∧ -(2 ^ 63) ≤ k ∧ k < 2 ^ 63 ∧ xs.length * k.toNat ≤ sizeLine ∧ ∀ p, H p = none → Q (.ref p) (upd H p (.lst (rep xs k.toNat))))) := by
  refine ⟨OpR.or (OpR.or op_mul op_repT) (OpR.or op_rep1 op_repR), fun Hs W σ g s H x y d v u Q c hx hy e hn q => ?_⟩
  unfold bin at e
  split at e <;> try (first | (cases e; done) | contradiction)
  · rename_i i j _
    obtain rfl := repC_int hx
    obtain rfl := repC_int hy
    split at e
    · rename_i hm
      cases e
      refine .inl (.inl ⟨i, j, rfl, rfl, ?_, q g H (.refl _ _) c _ .int⟩)
      unfold mulOk at hm
      rcases Bool.or_eq_true _ _ ▸ hm with h | h
      · exact .inl (small_of h)
      · exact .inr (small_of h)
    · cases e
  · rename_i xs n _
    obtain ⟨a, vs, rfl, sx, rx, wx⟩ := repC_tup c hx
    obtain rfl := repC_int hy
    split at e
    · rename_i h1
      subst h1
      cases e
      exact .inr (.inl ⟨a, vs, rfl, rfl, by rw [hK]; exact sx, q g H (.refl _ _) c _ (Mo.O_of rfl wx)⟩)
    · split at e
      · rename_i _ h2
        cases e
        have l1 := rx.length
        refine .inl (.inr ⟨a, n, vs, rfl, rfl, by rw [hK]; exact sx, fun z => ?_, h2.1, h2.2.1, by omega, fun p hp => ?_⟩)
        · rw [z] at l1
          cases xs with
          | nil => exact absurd h2.2.2.2 (by simp)
          | cons a r => simp at l1
        · rw [← rep_eq]
          obtain ⟨e1, c1, r1⟩ := newT c hp (rx.rep n.toNat)
          exact q _ _ e1 c1 _ (Mo.O_of rfl r1)
      · cases e
  · rename_i xs n _
    obtain ⟨a, vs, rfl, sx, rx⟩ := hx
    obtain rfl := repC_int hy
    split at e
    · rename_i hl
      cases e
      have l1 := rx.length
      rw [lim_line] at hl
      have hl2 := Nat.le_of_ble_eq_true hl.2
      refine .inr (.inr ⟨a, n, vs, rfl, rfl, sx, by omega, by omega, by rw [l1]; exact hl.1, fun p hp => ?_⟩)
      obtain ⟨e1, c1, m⟩ := Mo.newL c hp (hn p hp) (rx.rep n.toNat)
      exact q g _ e1 c1 _ m
    · cases e
theorem bin_fdiv : BinR o X .fdiv (rI CDivN fun i j => .int (i.fdiv j)) := by
  refine ⟨op_fdivN, fun Hs W σ g s H x y d v u Q c hx hy e hn q => ?_⟩
  unfold bin at e
  split at e <;> try (first | (cases e; done) | contradiction)
  rename_i i j _
  obtain rfl := repC_int hx
  obtain rfl := repC_int hy
  split at e
  · rename_i h
    cases e
    exact ⟨i, j, rfl, rfl, h, q g H (.refl _ _) c _ .int⟩
  · cases e
theorem bin_mod : BinR o X .mod (rI (fun _ j => j ≠ 0) fun i j => .int (i.fmod j)) := by
  refine ⟨op_modN, fun Hs W σ g s H x y d v u Q c hx hy e hn q => ?_⟩
  unfold bin at e
  split at e <;> try (first | (cases e; done) | contradiction)
  rename_i i j _
  obtain rfl := repC_int hx
  obtain rfl := repC_int hy
  split at e
  · rename_i h
    cases e
    exact ⟨i, j, rfl, rfl, h, q g H (.refl _ _) c _ .int⟩
  · cases e
theorem bin_pow : BinR o X .pow (rI CPow fun i j => .int (i ^ j.toNat)) := by
  refine ⟨op_pow, fun Hs W σ g s H x y d v u Q c hx hy e hn q => ?_⟩
  unfold bin at e
  split at e <;> try (first | (cases e; done) | contradiction)
  rename_i i j _
  obtain rfl := repC_int hx
  obtain rfl := repC_int hy
  split at e
  · rename_i h
    cases e
    have hs := small_of h.2.2
    exact ⟨i, j, rfl, rfl, ⟨h.1, by omega, by omega⟩, q g H (.refl _ _) c _ .int⟩
  · cases e
end
end MR
set_option Elab.async false
set_option linter.all false
set_option maxRecDepth 100000
namespace MR
open PySem PySem.Spec PyProof.Rows L2

mutual
def toPy : D → PyData
  | .non => .none
  | .bl b => .bool b
  | .int i => .int i
  | .str s => .str s
  | .tup xs => .tuple (toPys xs)
  | .lst xs => .list (toPys xs)
  | .dic ks vs => .dict ((toPys ks).zip (toPys vs))
  | .set _ => .none
  | .exc _ _ => .none
  | .cell _ => .none
  | .scr _ => .none
def toPys : List D → List PyData
  | [] => []
  | x :: xs => toPy x :: toPys xs
end
mutual
theorem toPy_plain : ∀ {d : D}, pl d = true → (toPy d).plain = true
  | .non, _ => by simp [toPy, PyData.plain]
  | .bl _, _ => by simp [toPy, PyData.plain]
  | .int _, _ => by simp [toPy, PyData.plain]
  | .str _, _ => by simp [toPy, PyData.plain]
  | .tup xs, h => by
    simp only [toPy, PyData.plain]
    exact toPys_plain (by simpa only [pl] using h)
  | .lst xs, h => by
    simp only [toPy, PyData.plain]
    exact toPys_plain (by simpa only [pl] using h)
theorem toPys_plain : ∀ {xs : List D}, pls xs = true → PyData.plainAll (toPys xs) = true
  | [], _ => by simp [toPys, PyData.plainAll]
  | x :: xs, h => by
    simp only [pls, Bool.and_eq_true] at h
    simp only [toPys, PyData.plainAll, Bool.and_eq_true]
    exact ⟨toPy_plain h.1, toPys_plain h.2⟩
end
mutual
theorem toPy_dep : ∀ {d : D}, pl d = true → (toPy d).depth = dep d
  | .non, _ => by simp [toPy, PyData.depth, dep]
  | .bl _, _ => by simp [toPy, PyData.depth, dep]
  | .int _, _ => by simp [toPy, PyData.depth, dep]
  | .str _, _ => by simp [toPy, PyData.depth, dep]
  | .tup xs, h => by
    simp only [toPy, PyData.depth, dep]
    rw [toPys_dep (by simpa only [pl] using h)]
  | .lst xs, h => by
    simp only [toPy, PyData.depth, dep]
    rw [toPys_dep (by simpa only [pl] using h)]
theorem toPys_dep : ∀ {xs : List D}, pls xs = true → PyData.depthAll (toPys xs) = deps xs
  | [], _ => by simp [toPys, PyData.depthAll, deps]
  | x :: xs, h => by
    simp only [pls, Bool.and_eq_true] at h
    simp only [toPys, PyData.depthAll, deps]
    rw [toPy_dep h.1, toPys_dep h.2]
end
mutual
theorem toPy_eqv : ∀ {d e : D}, pl d = true → pl e = true → PyData.eqv (toPy d) (toPy e) = eqv d e
  | .tup xs, .tup ys, h, h' => by
    simp only [toPy, PyData.eqv, eqv]
    exact toPys_eqv (by simpa only [pl] using h) (by simpa only [pl] using h')
  | .lst xs, .lst ys, h, h' => by
    simp only [toPy, PyData.eqv, eqv]
    exact toPys_eqv (by simpa only [pl] using h) (by simpa only [pl] using h')
  | .non, e, _, h' => by cases e <;> simp_all [toPy, PyData.eqv, eqv, pl]
  | .bl _, e, _, h' => by cases e <;> simp_all [toPy, PyData.eqv, eqv, pl]
  | .int _, e, _, h' => by cases e <;> simp_all [toPy, PyData.eqv, eqv, pl]
  | .str _, e, _, h' => by cases e <;> simp_all [toPy, PyData.eqv, eqv, pl]
  | .tup xs, .non, _, h' => by simp [toPy, PyData.eqv, eqv]
  | .tup xs, .bl _, _, h' => by simp [toPy, PyData.eqv, eqv]
  | .tup xs, .int _, _, h' => by simp [toPy, PyData.eqv, eqv]
  | .tup xs, .str _, _, h' => by simp [toPy, PyData.eqv, eqv]
  | .tup xs, .lst _, _, h' => by simp [toPy, PyData.eqv, eqv]
  | .lst xs, .non, _, h' => by simp [toPy, PyData.eqv, eqv]
  | .lst xs, .bl _, _, h' => by simp [toPy, PyData.eqv, eqv]
  | .lst xs, .int _, _, h' => by simp [toPy, PyData.eqv, eqv]
  | .lst xs, .str _, _, h' => by simp [toPy, PyData.eqv, eqv]
  | .lst xs, .tup _, _, h' => by simp [toPy, PyData.eqv, eqv]
theorem toPys_eqv : ∀ {xs ys : List D}, pls xs = true → pls ys = true → PyData.eqvAll (toPys xs) (toPys ys) = eqvs xs ys
  | [], [], _, _ => by simp [toPys, PyData.eqvAll, eqvs]
  | [], _ :: _, _, _ => by simp [toPys, PyData.eqvAll, eqvs]
  | _ :: _, [], _, _ => by simp [toPys, PyData.eqvAll, eqvs]
  | x :: xs, y :: ys, h, h' => by
    simp only [pls, Bool.and_eq_true] at h h'
    simp only [toPys, PyData.eqvAll, eqvs]
    rw [toPy_eqv h.1 h'.1, toPys_eqv h.2 h'.2]
end
section
variable {o : Om} {H : Hp} {cl : List Addr}
mutual
theorem dp_of : ∀ {d : D} {v : V}, pl d = true → Rep o ⟨H, cl⟩ d v → Dp o.K H v (toPy d)
  | .non, v, _, h => by
    simp only [Rep] at h
    subst h
    simp only [toPy]
    exact .non
  | .bl b, v, _, h => by
    simp only [Rep] at h
    subst h
    simp only [toPy]
    exact .bl b
  | .int i, v, _, h => by
    simp only [Rep] at h
    subst h
    simp only [toPy]
    exact .int i
  | .str x, v, _, h => by
    simp only [Rep] at h
    subst h
    simp only [toPy]
    exact .str x
  | .tup xs, v, p, h => by
    simp only [Rep] at h
    obtain ⟨a, vs, rfl, q, r⟩ := h
    simp only [toPy]
    exact .tup q (dps_of (by simpa only [pl] using p) r)
  | .lst xs, v, p, h => by
    simp only [Rep] at h
    obtain ⟨a, vs, rfl, q, r⟩ := h
    simp only [toPy]
    exact .lst (.inl q) (dps_of (by simpa only [pl] using p) r)
theorem dps_of : ∀ {xs : List D} {vs : List V}, pls xs = true → Reps o ⟨H, cl⟩ xs vs → DpAll o.K H vs (toPys xs)
  | [], vs, _, h => by
    rw [h.of_nil]
    simp only [toPys]
    exact .nil
  | x :: xs, vs, p, h => by
    simp only [pls, Bool.and_eq_true] at p
    obtain ⟨v, r, rfl, a, b⟩ := h.of_cons
    simp only [toPys]
    exact .cons (dp_of p.1 a) (dps_of p.2 b)
end
end
theorem cmpOk_of {d : D} (h : cmpOk d = true) : pl d = true ∧ dep d ≤ 60 := by
  unfold cmpOk at h
  simpa using h
section
variable {X : Cx}
/-- data of any depth, now -/
def DD (K : PySem.W.Frag) (H : Hp) (v : V) (d : D) : Prop := Dp K H v (toPy d) ∧ pl d = true ∧ dep d ≤ 60
theorem op_eqP (hu : X.A.units + 64 < cLine) : OpR X (compareOp .Eq) (fun x y H Q => ∃ d e, DD X.K H x d ∧ DD X.K H y e ∧ Q (.bl (eqv d e)) H) := by
  intro pins s σ H x y v u Q I rx ry h
  obtain ⟨d, e, ⟨hd, pd, dd⟩, ⟨he, pe, de⟩, q⟩ := h
  obtain ⟨as, r1⟩ := Dp.reads I _ x v hd rx
  obtain ⟨bs, r2⟩ := Dp.reads I _ y u he ry
  have h1 := toPy_dep pd
  rw [← toPy_eqv pd pe] at q
  exact SeqAt.eq_plain r1 r2 (toPy_plain pd) (toPy_plain pe) (by omega) ⟨.bl _, H, I, rfl, q⟩
theorem op_neP (hu : X.A.units + 64 < cLine) : OpR X (compareOp .NotEq) (fun x y H Q => ∃ d e, DD X.K H x d ∧ DD X.K H y e ∧ Q (.bl (!eqv d e)) H) := by
  intro pins s σ H x y v u Q I rx ry h
  obtain ⟨d, e, ⟨hd, pd, dd⟩, ⟨he, pe, de⟩, q⟩ := h
  obtain ⟨as, r1⟩ := Dp.reads I _ x v hd rx
  obtain ⟨bs, r2⟩ := Dp.reads I _ y u he ry
  have h1 := toPy_dep pd
  rw [← toPy_eqv pd pe] at q
  exact SeqAt.ne_plain r1 r2 (toPy_plain pd) (toPy_plain pe) (by omega) ⟨.bl _, H, I, rfl, q⟩
theorem isIn_any (x : D) (px : pl x = true) : ∀ (xs : List D), pls xs = true → ((toPys xs).any fun d => PyData.eqv d (toPy x)) = isIn x xs
  | [], _ => rfl
  | y :: ys, h => by
    simp only [pls, Bool.and_eq_true] at h
    simp only [toPys, List.any_cons, isIn]
    rw [toPy_eqv h.1 px, isIn_any x px ys h.2]
end
end MR
set_option Elab.async false
set_option linter.all false
set_option maxRecDepth 100000
namespace MR
open PySem PySem.Spec PyProof.Rows L2

def copO : COp → CmpOp
  | .eq => .Eq | .ne => .NotEq | .lt => .Lt | .le => .LtE | .gt => .Gt | .ge => .GtE | .inn => .In | .nin => .NotIn | .iss => .Is | .isn => .IsNot

section
variable {X : Cx}
theorem isIn_eq {H : Hp} {K : PySem.W.Frag} {a : Addr} {vs : List V} : True := trivial
def rInP (K : PySem.W.Frag) : R2 := fun x y H Q => ∃ d es b, Dp K H x (toPy d) ∧ pl d = true ∧ pls es = true ∧ deps es ≤ 60 ∧ dep d ≤ 60 ∧ (Dp K H y (.list (toPys es)) ∨ Dp K H y (.tuple (toPys es))) ∧ b = isIn d es ∧ Q (.bl b) H
def rNinP (K : PySem.W.Frag) : R2 := fun x y H Q => ∃ d es b, Dp K H x (toPy d) ∧ pl d = true ∧ pls es = true ∧ deps es ≤ 60 ∧ dep d ≤ 60 ∧ (Dp K H y (.list (toPys es)) ∨ Dp K H y (.tuple (toPys es))) ∧ b = !isIn d es ∧ Q (.bl b) H
theorem op_inP (hu : X.A.units + 64 < cLine) : OpR X (compareOp .In) (rInP X.K) := by
  intro pins s σ H x y v u Q I rx ry h
  obtain ⟨d, es, b, hd, pd, pe, de, dd, hy, rfl, q⟩ := h
  obtain ⟨as, r1⟩ := Dp.reads I _ x v hd rx
  have h1 := toPys_dep pe
  rw [← isIn_any d pd es pe] at q
  rcases hy with hy | hy
  · obtain ⟨bs, r2⟩ := Dp.reads I _ y u hy ry
    exact SeqAt.in_list_data r2 r1 (toPys_plain pe) (toPy_plain pd) (by omega) ⟨.bl _, H, I, rfl, q⟩
  · obtain ⟨bs, r2⟩ := Dp.reads I _ y u hy ry
    exact SeqAt.in_tuple_data r2 r1 (toPys_plain pe) (toPy_plain pd) (by omega) ⟨.bl _, H, I, rfl, q⟩
theorem op_ninP (hu : X.A.units + 64 < cLine) : OpR X (compareOp .NotIn) (rNinP X.K) := by
  intro pins s σ H x y v u Q I rx ry h
  obtain ⟨d, es, b, hd, pd, pe, de, dd, hy, rfl, q⟩ := h
  obtain ⟨as, r1⟩ := Dp.reads I _ x v hd rx
  have h1 := toPys_dep pe
  rw [← isIn_any d pd es pe] at q
  rcases hy with hy | hy
  · obtain ⟨bs, r2⟩ := Dp.reads I _ y u hy ry
    exact SeqAt.notIn_list_data r2 r1 (toPys_plain pe) (toPy_plain pd) (by omega) ⟨.bl _, H, I, rfl, q⟩
  · obtain ⟨bs, r2⟩ := Dp.reads I _ y u hy ry
    exact SeqAt.notIn_tuple_data r2 r1 (toPys_plain pe) (toPy_plain pd) (by omega) ⟨.bl _, H, I, rfl, q⟩
end

section
variable {o : Om} {H0 : Hp} {W : WX} {X : Cx} {k : Nat}
/-- what a comparison asks of the machine -/
def CmpR (o : Om) (X : Cx) (op : COp) (r : R2) : Prop := OpR X (compareOp (copO op)) r ∧
  ∀ (g : Gh) (s : S) (H : Hp) (x y d : D) (v u : V) (Q : VK), Cur o g s H → RepC o g H x v → RepC o g H y u → cmp op x y = some d → (∀ b, d = .bl b → Q (.bl b) H) → r v u H Q
theorem DD_of {g : Gh} {s : S} {H : Hp} {d : D} {v : V} (hK : X.K = o.K) (c : Cur o g s H) (h : RepC o g H d v) (ok : cmpOk d = true) : DD X.K H v d := by
  obtain ⟨p, e⟩ := cmpOk_of ok
  refine ⟨?_, p, e⟩
  rw [hK]
  exact dp_of p (h.deep c)
theorem cmp_eq (hK : X.K = o.K) (hu : X.A.units + 64 < cLine) : CmpR o X .eq (fun x y H Q => ∃ d e, DD X.K H x d ∧ DD X.K H y e ∧ Q (.bl (eqv d e)) H) := by
  refine ⟨op_eqP hu, fun g s H x y d v u Q c hx hy e q => ?_⟩
  unfold cmp at e
  dsimp only at e
  split at e
  · rename_i h
    simp only [Bool.and_eq_true] at h
    cases e
    exact ⟨x, y, DD_of hK c hx h.1, DD_of hK c hy h.2, q _ rfl⟩
  · cases e
theorem cmp_ne (hK : X.K = o.K) (hu : X.A.units + 64 < cLine) : CmpR o X .ne (fun x y H Q => ∃ d e, DD X.K H x d ∧ DD X.K H y e ∧ Q (.bl (!eqv d e)) H) := by
  refine ⟨op_neP hu, fun g s H x y d v u Q c hx hy e q => ?_⟩
  unfold cmp at e
  dsimp only at e
  split at e
  · rename_i h
    simp only [Bool.and_eq_true] at h
    cases e
    exact ⟨x, y, DD_of hK c hx h.1, DD_of hK c hy h.2, q _ rfl⟩
  · cases e
theorem cmp_int {op : COp} (f : Int → Int → Bool) (h : OpR X (compareOp (copO op)) (rI0 fun i j => .bl (f i j)))
    (hc : ∀ x y d, cmp op x y = some d → ∃ i j, x = .int i ∧ y = .int j ∧ d = .bl (f i j)) : CmpR o X op (rI0 fun i j => .bl (f i j)) := by
  refine ⟨h, fun g s H x y d v u Q c hx hy e q => ?_⟩
  obtain ⟨i, j, rfl, rfl, rfl⟩ := hc x y d e
  obtain rfl := repC_int hx
  obtain rfl := repC_int hy
  exact ⟨i, j, rfl, rfl, q _ rfl⟩
theorem cmp_lt : CmpR o X .lt (rI0 fun i j => .bl (decide (i < j))) := cmp_int _ op_lt fun x y d e => by
  unfold cmp at e
  dsimp only at e
  split at e
  · rename_i i j
    simp only [cint, Option.map_some, Option.some.injEq] at e
    exact ⟨i, j, rfl, rfl, e.symm⟩
  · cases e
theorem cmp_le : CmpR o X .le (rI0 fun i j => .bl (decide (i ≤ j))) := cmp_int _ op_le fun x y d e => by
  unfold cmp at e
  dsimp only at e
  split at e
  · rename_i i j
    simp only [cint, Option.map_some, Option.some.injEq] at e
    exact ⟨i, j, rfl, rfl, e.symm⟩
  · cases e
theorem cmp_gt : CmpR o X .gt (rI0 fun i j => .bl (decide (j < i))) := cmp_int _ op_gt fun x y d e => by
  unfold cmp at e
  dsimp only at e
  split at e
  · rename_i i j
    simp only [cint, Option.map_some, Option.some.injEq] at e
    exact ⟨i, j, rfl, rfl, e.symm⟩
  · cases e
theorem cmp_ge : CmpR o X .ge (rI0 fun i j => .bl (decide (j ≤ i))) := cmp_int _ op_ge fun x y d e => by
  unfold cmp at e
  dsimp only at e
  split at e
  · rename_i i j
    simp only [cint, Option.map_some, Option.some.injEq] at e
    exact ⟨i, j, rfl, rfl, e.symm⟩
  · cases e
theorem repC_non {g : Gh} {H : Hp} {v : V} (h : RepC o g H .non v) : v = .non := by
  have h : Rep o g .non v := h
  simpa only [Rep] using h
theorem repC_notnon {g : Gh} {H : Hp} {d : D} {v : V} (h : RepC o g H d v) (n : d ≠ .non) : v ≠ .non := by
  intro e
  subst e
  cases d with
  | non => exact n rfl
  | lst xs =>
    obtain ⟨a, vs, e, _⟩ := h
    cases e
  | dic ks xs =>
    obtain ⟨a, e, _⟩ := h
    cases e
  | bl b => have h : Rep o g (.bl b) _ := h; simp only [Rep] at h; cases h
  | int b => have h : Rep o g (.int b) _ := h; simp only [Rep] at h; cases h
  | str b => have h : Rep o g (.str b) _ := h; simp only [Rep] at h; cases h
  | tup b => have h : Rep o g (.tup b) _ := h; simp only [Rep] at h; obtain ⟨a, vs, e, _⟩ := h; cases e
  | set b => have h : Rep o g (.set b) .non := h; simp only [Rep] at h
  | exc b xs => have h : Rep o g (.exc b xs) _ := h; simp only [Rep] at h; obtain ⟨a, e, _⟩ := h; cases e
  | cell b => have h : Rep o g (.cell b) _ := h; simp only [Rep] at h; obtain ⟨a, e, _⟩ := h; cases e
  | scr b => have h : Rep o g (.scr b) _ := h; simp only [Rep] at h; obtain ⟨a, vs, e, _⟩ := h; cases e
def isNonD : D → Bool
  | .non => true
  | _ => false
theorem isNon_dec {g : Gh} {H : Hp} {d : D} {v : V} (h : RepC o g H d v) : decide (v = .non) = isNonD d := by
  by_cases n : d = .non
  · subst n
    have e := repC_non h
    subst e
    rfl
  · have := repC_notnon h n
    rw [decide_eq_false this]
    cases d <;> first | rfl | exact absurd rfl n
theorem cmp_is : CmpR o X .iss (fun x y H Q => y = .non ∧ Q (.bl (decide (x = .non))) H) := by
  refine ⟨op_isN, fun g s H x y d v u Q c hx hy e q => ?_⟩
  unfold cmp at e
  dsimp only at e
  split at e
  · cases e
    refine ⟨repC_non hy, ?_⟩
    rw [isNon_dec hx]
    refine q _ ?_
    cases x <;> rfl
  · cases e
theorem cmp_isn : CmpR o X .isn (fun x y H Q => y = .non ∧ Q (.bl (!decide (x = .non))) H) := by
  refine ⟨op_notN, fun g s H x y d v u Q c hx hy e q => ?_⟩
  unfold cmp at e
  dsimp only at e
  split at e
  · cases e
    refine ⟨repC_non hy, ?_⟩
    rw [isNon_dec hx]
    refine q _ ?_
    cases x <;> rfl
  · cases e
theorem cmpOk_lst {xs : List D} (h : cmpOk (.lst xs) = true) : pls xs = true ∧ deps xs ≤ 60 := by
  obtain ⟨p, e⟩ := cmpOk_of h
  simp only [pl, dep] at p e
  exact ⟨p, by omega⟩
theorem cmp_in (hK : X.K = o.K) (hu : X.A.units + 64 < cLine) : CmpR o X .inn (rInP X.K) := by
  refine ⟨op_inP hu, fun g s H x y d v u Q c hx hy e q => ?_⟩
  unfold cmp at e
  dsimp only at e
  split at e
  · rename_i xs
    split at e
    · rename_i h
      simp only [Bool.and_eq_true] at h
      cases e
      obtain ⟨h1, h2, h3⟩ := DD_of hK c hx h.1
      obtain ⟨h4, h5⟩ := cmpOk_lst h.2
      have h6 : pl (.tup xs) = true := by simp only [pl]; exact h4
      have z := dp_of h6 (hy.deep c)
      simp only [toPy] at z
      exact ⟨x, xs, _, h1, h2, h4, h5, h3, .inr (by rw [hK]; exact z), rfl, q _ rfl⟩
    · cases e
  · rename_i xs
    split at e
    · rename_i h
      simp only [Bool.and_eq_true] at h
      cases e
      obtain ⟨h1, h2, h3⟩ := DD_of hK c hx h.1
      obtain ⟨h4, h5⟩ := cmpOk_lst h.2
      have h6 : pl (.lst xs) = true := by simp only [pl]; exact h4
      have z := dp_of h6 (hy.deep c)
      simp only [toPy] at z
      exact ⟨x, xs, _, h1, h2, h4, h5, h3, .inl (by rw [hK]; exact z), rfl, q _ rfl⟩
    · cases e
  · cases e
theorem cmp_nin (hK : X.K = o.K) (hu : X.A.units + 64 < cLine) : CmpR o X .nin (rNinP X.K) := by
  refine ⟨op_ninP hu, fun g s H x y d v u Q c hx hy e q => ?_⟩
  unfold cmp at e
  dsimp only at e
  split at e
  · rename_i xs
    split at e
    · rename_i h
      simp only [Bool.and_eq_true] at h
      cases e
      obtain ⟨h1, h2, h3⟩ := DD_of hK c hx h.1
      obtain ⟨h4, h5⟩ := cmpOk_lst h.2
      have h6 : pl (.tup xs) = true := by simp only [pl]; exact h4
      have z := dp_of h6 (hy.deep c)
      simp only [toPy] at z
      exact ⟨x, xs, _, h1, h2, h4, h5, h3, .inr (by rw [hK]; exact z), rfl, q _ rfl⟩
    · cases e
  · rename_i xs
    split at e
    · rename_i h
      simp only [Bool.and_eq_true] at h
      cases e
      obtain ⟨h1, h2, h3⟩ := DD_of hK c hx h.1
      obtain ⟨h4, h5⟩ := cmpOk_lst h.2
      have h6 : pl (.lst xs) = true := by simp only [pl]; exact h4
      have z := dp_of h6 (hy.deep c)
      simp only [toPy] at z
      exact ⟨x, xs, _, h1, h2, h4, h5, h3, .inl (by rw [hK]; exact z), rfl, q _ rfl⟩
    · cases e
  · cases e
theorem cmpR (hK : X.K = o.K) (hu : X.A.units + 64 < cLine) : ∀ op : COp, ∃ r, CmpR o X op r
  | .eq => ⟨_, cmp_eq hK hu⟩
  | .ne => ⟨_, cmp_ne hK hu⟩
  | .lt => ⟨_, cmp_lt⟩
  | .le => ⟨_, cmp_le⟩
  | .gt => ⟨_, cmp_gt⟩
  | .ge => ⟨_, cmp_ge⟩
  | .inn => ⟨_, cmp_in hK hu⟩
  | .nin => ⟨_, cmp_nin hK hu⟩
  | .iss => ⟨_, cmp_is⟩
  | .isn => ⟨_, cmp_isn⟩
theorem cmp_bl {op : COp} {x y d : D} (h : cmp op x y = some d) : ∃ b, d = .bl b := by
  cases op <;> simp only [cmp] at h <;> (repeat' split at h) <;> first
    | (cases h; done)
    | exact ⟨_, (Option.some.inj h).symm⟩
    | (cases h; exact ⟨_, rfl⟩)
    | (simp only [cint, Option.map_some, Option.some.injEq] at h; exact ⟨_, h.symm⟩)

theorem x_cmp {op : COp} {r : R2} {a b : Expr} {fa fb : Env → S → R D} {ma mb : Md} {pos : Pos} (hma : ma ≠ .H) (hmb : mb ≠ .H) (ha : PE X a (tE o H0 W ma fa)) (hb : PE X b (tE o H0 W mb fb)) (hr : CmpR o X op r) (hm : behindInMarks (copO op) b = false) :
    PE X (.Compare a [copO op] [b] pos) (tE o H0 W .O (vCmp op fa fb)) := by
  refine pe_imp (pe_cmpR hr.1 ha hb hm) fun σ H Q ⟨g, ρ, s, c, sl, p⟩ => ?_
  refine tE_mono (two (ma := ma) (mb := mb) c sl p) fun v H1 h1 => tE_mono h1 fun u H2 h2 => ?_
  obtain ⟨x, y, g2, s2, c2, _, e2, hx, hy, q⟩ := h2
  obtain ⟨d, hd, q⟩ := Po.of2 q
  obtain ⟨x', y', hx', hy', hd⟩ := of_top2 hd
  refine hr.2 g2 s2 H2 x' y' d v u Q c2 (top_C c2 (Mo.toT c2 hma hx) hx') (top_C c2 (Mo.toT c2 hmb hy) hy') hd fun b hb => ?_
  subst hb
  exact q _ _ (.refl _ _) c2 _ .bl
theorem x_cmpT {op : COp} {r : R2} {a b : Expr} {fa fb : Env → S → R D} {ma mb : Md} {pos : Pos} (hma : ma ≠ .H) (hmb : mb ≠ .H) (ha : PE X a (tE o H0 W ma fa)) (hb : PE X b (tE o H0 W mb fb)) (hr : CmpR o X op r) (hm : behindInMarks (copO op) b = false) :
    PT X (.Compare a [copO op] [b] pos) (tT o H0 W (tv (vCmp op fa fb))) := by
  refine pt_imp (pt_cmpR hr.1 ha hb hm) fun σ H Q ⟨g, ρ, s, c, sl, p⟩ => ?_
  have p : Po o W σ g H ((fa ρ s).bind fun x s => (fb ρ s).bind fun y s => (R.of (top2 s x y (cmp op)) s).bind fun z s => R.of (top1 s z truthy) s) fun b _ _ H' => Q b H' := by
    have e : tv (vCmp op fa fb) ρ s = ((fa ρ s).bind fun x s => (fb ρ s).bind fun y s => (R.of (top2 s x y (cmp op)) s).bind fun z s => R.of (top1 s z truthy) s) := by
      unfold tv vCmp
      cases fa ρ s with
      | no => rfl
      | ex _ _ _ => rfl
      | ok x s1 =>
        show R.bind (R.bind (fb ρ s1) _) _ = R.bind (fb ρ s1) _
        cases fb ρ s1 with
        | no => rfl
        | ex _ _ _ => rfl
        | ok y s2 => rfl
    rw [e] at p
    exact p
  refine tE_mono (two (ma := ma) (mb := mb) c sl p) fun v H1 h1 => tE_mono h1 fun u H2 h2 => ?_
  obtain ⟨x, y, g2, s2, c2, _, e2, hx, hy, q⟩ := h2
  obtain ⟨d, hd, q⟩ := Po.of2 (Po.bind q)
  obtain ⟨x', y', hx', hy', hd⟩ := of_top2 hd
  refine hr.2 g2 s2 H2 x' y' d v u _ c2 (top_C c2 (Mo.toT c2 hma hx) hx') (top_C c2 (Mo.toT c2 hmb hy) hy') hd fun b hb => ⟨b, rfl, ?_⟩
  subst hb
  obtain ⟨b', e', q'⟩ := Po.of (q _ _ (.refl _ _) c2) c2
  cases e'
  exact q'
end
end MR
set_option Elab.async false
set_option linter.all false
set_option maxRecDepth 100000
namespace MR
open PySem PySem.Spec PyProof.Rows L2

section
variable {o : Om} {H0 : Hp} {W : WX} {X : Cx} {k : Nat}
theorem Mo.of_bl {Hs H : Hp} {md : Md} {g : Gh} {b : Bool} {v : V} (h : Mo o Hs md g H (.bl b) v) : v = .bl b := by
  cases md with
  | F => have h : Rep o g (.bl b) v := h; simpa only [Rep] using h
  | T => have h : Rep o g (.bl b) v := h.1; simpa only [Rep] using h
  | H => have h : Rep o ⟨kp g H, g.cl⟩ (.bl b) v := h; simpa only [Rep] using h
  | O => unfold Mo at h; dsimp only at h; rw [if_neg (by simp [isBox])] at h; simpa only [Rep] using h
theorem Mo.of_int {Hs H : Hp} {md : Md} {g : Gh} {b : Int} {v : V} (h : Mo o Hs md g H (.int b) v) : v = .int b := by
  cases md with
  | F => have h : Rep o g (.int b) v := h; simpa only [Rep] using h
  | T => have h : Rep o g (.int b) v := h.1; simpa only [Rep] using h
  | H => have h : Rep o ⟨kp g H, g.cl⟩ (.int b) v := h; simpa only [Rep] using h
  | O => unfold Mo at h; dsimp only at h; rw [if_neg (by simp [isBox])] at h; simpa only [Rep] using h
/-- new since H1, so new since H -/
theorem Mo.back {H H1 H' : Hp} {md : Md} {g' : Gh} {d : D} {v : V} (n : ∀ p, H1 p = none → H p = none) (h : Mo o H1 md g' H' d v) : Mo o H md g' H' d v := by
  cases md with
  | F => exact h
  | T => exact h
  | H => exact h
  | O =>
    unfold Mo at h ⊢
    dsimp only at h ⊢
    by_cases b : isBox d = true
    · rw [if_pos b] at h ⊢
      obtain ⟨a, e, w, q, m, z⟩ := h
      exact ⟨a, e, w, q, m, n a z⟩
    · rw [if_neg b] at h ⊢
      exact h
/-- one piece, then what is done with it -/
theorem one {ma : Md} {fa : Env → S → R D} {α : Type} {K : D → S → R α} {σ : L2.St} {g : Gh} {ρ : Env} {s : S} {Hs : Hp} {k : α → S → Gh → Hp → Prop} (c : Cur o g s Hs) (sl : Slots o H0 g ρ σ Hs)
    (p : Po o W σ g Hs ((fa ρ s).bind K) k) :
    tE o H0 W ma fa σ Hs fun v H1 => ∃ x g1 s1, Cur o g1 s1 H1 ∧ Slots o H0 g1 ρ σ H1 ∧ Ext g Hs g1 H1 ∧ Mo o Hs ma g1 H1 x v ∧ Po o W σ g1 H1 (K x s1) k :=
  ⟨g, ρ, s, c, sl, p.bind.mono fun x s1 g1 H1 e1 c1 q v hv => ⟨x, g1, s1, c1, sl.ext e1, e1, hv, q⟩⟩
theorem oneT {ta : Env → S → R Bool} {α : Type} {K : Bool → S → R α} {σ : L2.St} {g : Gh} {ρ : Env} {s : S} {Hs : Hp} {k : α → S → Gh → Hp → Prop} (c : Cur o g s Hs) (sl : Slots o H0 g ρ σ Hs)
    (p : Po o W σ g Hs ((ta ρ s).bind K) k) :
    tT o H0 W ta σ Hs fun b H1 => ∃ g1 s1, Cur o g1 s1 H1 ∧ Slots o H0 g1 ρ σ H1 ∧ Ext g Hs g1 H1 ∧ Po o W σ g1 H1 (K b s1) k :=
  ⟨g, ρ, s, c, sl, p.bind.mono fun b s1 g1 H1 e1 c1 q => ⟨g1, s1, c1, sl.ext e1, e1, q⟩⟩
theorem tT_mono {f : Env → S → R Bool} {σ : L2.St} {H : Hp} {Q Q' : Bool → Hp → Prop} (h : tT o H0 W f σ H Q) (m : ∀ v H, Q v H → Q' v H) : tT o H0 W f σ H Q' := by
  obtain ⟨g, ρ, s, c, sl, p⟩ := h
  exact ⟨g, ρ, s, c, sl, p.mono fun d s1 g1 H1 _ _ q => m _ _ q⟩
/-- go on from (g1, H1) as from (g, H) -/
theorem Po.from {α : Type} {σ : L2.St} {g1 : Gh} {H H1 : Hp} {md : Md} {r : R D} {Q : VK} (n : ∀ p, H1 p = none → H p = none) (p : Po o W σ g1 H1 r fun d _ g' H' => ∀ v, Mo o H md g' H' d v → Q v H') : Po o W σ g1 H1 r fun d _ g' H' => ∀ v, Mo o H1 md g' H' d v → Q v H' :=
  p.mono fun d s' g' H' _ _ q v hv => q v (hv.back n)

theorem repT_tru {g : Gh} {s : S} {H : Hp} {d : D} {v : V} {k : Bool} (hK : X.K = o.K) (c : Cur o g s H) (h : RepC o g H d v) (e : truthy d = some k) : TruV X.K v H k := by
  cases d with
  | non =>
    rw [repC_non h]
    cases e
    rfl
  | bl b =>
    have h : Rep o g (.bl b) v := h
    simp only [Rep] at h
    subst h
    cases e
    rfl
  | int i =>
    rw [repC_int h]
    cases e
    rfl
  | str y =>
    rw [repC_str h]
    unfold truthy at e
    dsimp only at e
    split at e
    · rename_i z
      rw [lim_line] at z
      cases e
      refine ⟨z, ?_⟩
      show (!(y.cps.size == 0)) = ((y.cps.size : Int) != 0)
      cases y.cps.size with
      | zero => rfl
      | succ n =>
        have h1 : ((n + 1 : Nat) == 0) = false := by simp
        have h2 : (((n + 1 : Nat) : Int) == 0) = false := by
          rw [beq_eq_false_iff_ne]
          omega
        show (!((n + 1 : Nat) == 0)) = !(((n + 1 : Nat) : Int) == 0)
        rw [h1, h2]
    · cases e
  | tup xs =>
    obtain ⟨a, vs, rfl, q, r, _⟩ := repC_tup c h
    cases e
    refine .inr (.inl ⟨vs, by rw [hK]; exact q, ?_⟩)
    have l := r.length
    cases xs <;> cases vs <;> simp_all
  | lst xs =>
    obtain ⟨a, vs, rfl, q, r⟩ := h
    cases e
    refine .inl ⟨vs, .inl q, ?_⟩
    have l := r.length
    cases xs <;> cases vs <;> simp_all
  | _ => cases e
theorem x_truth {a : Expr} {fa : Env → S → R D} {ma : Md} (hK : X.K = o.K) (hma : ma ≠ .H) (ha : PE X a (tE o H0 W ma fa)) (he : ∀ whole, isTrue a X.env whole = (do let v ← whole; standAt a.pos; holding [v] (PySem.truthy v))) :
    PT X a (tT o H0 W (tv fa)) := by
  refine pt_imp (pt_truth ha he) fun σ H Q ⟨g, ρ, s, c, sl, p⟩ => ?_
  refine tE_mono (one (ma := ma) c sl p) fun v H1 ⟨x, g1, s1, c1, _, e1, hx, q⟩ => ?_
  obtain ⟨b, hb, q⟩ := Po.of q c1
  obtain ⟨x', hx', hb⟩ := of_top1 hb
  exact ⟨b, repT_tru hK c1 (top_C c1 (Mo.toT c1 hma hx) hx') hb, q⟩
theorem x_andT {a b : Expr} {rest : List Expr} {ta tb : Env → S → R Bool} {pos : Pos} (ha : PT X a (tT o H0 W ta)) (hb : PW X (.BoolOp .And (b :: rest) pos) (tT o H0 W tb)) : PW X (.BoolOp .And (a :: b :: rest) pos) (tT o H0 W (tAnd ta tb)) := by
  refine ⟨fun wh pins s σ H Q I h => (pw_and ha hb).run wh pins s σ H Q I ?_⟩
  obtain ⟨g, ρ, s, c, sl, p⟩ := h
  refine tT_mono (oneT c sl p) fun b H1 ⟨g1, s1, c1, sl1, e1, q⟩ => ?_
  cases b with
  | false => exact Po.ok q c1
  | true => exact ⟨g1, ρ, s1, c1, sl1, q⟩
theorem x_orT {a b : Expr} {rest : List Expr} {ta tb : Env → S → R Bool} {pos : Pos} (ha : PT X a (tT o H0 W ta)) (hb : PW X (.BoolOp .Or (b :: rest) pos) (tT o H0 W tb)) : PW X (.BoolOp .Or (a :: b :: rest) pos) (tT o H0 W (tOr ta tb)) := by
  refine ⟨fun wh pins s σ H Q I h => (pw_or ha hb).run wh pins s σ H Q I ?_⟩
  obtain ⟨g, ρ, s, c, sl, p⟩ := h
  refine tT_mono (oneT c sl p) fun b H1 ⟨g1, s1, c1, sl1, e1, q⟩ => ?_
  cases b with
  | false => exact ⟨g1, ρ, s1, c1, sl1, q⟩
  | true => exact Po.ok q c1
theorem x_notT {a : Expr} {ta : Env → S → R Bool} {pos : Pos} (ha : PT X a (tT o H0 W ta)) : PT X (.UnaryOp .Not a pos) (tT o H0 W (tNot ta)) := by
  refine pt_imp (L2.pt_not ha) fun σ H Q ⟨g, ρ, s, c, sl, p⟩ => ?_
  refine tT_mono (oneT c sl p) fun b H1 ⟨g1, s1, c1, sl1, e1, q⟩ => ?_
  exact Po.ok q c1
theorem x_if {t a b : Expr} {tt : Env → S → R Bool} {fa fb : Env → S → R D} {md : Md} {pos : Pos} (ht : PT X t (tT o H0 W tt)) (ha : PE X a (tE o H0 W md fa)) (hb : PE X b (tE o H0 W md fb)) : PE X (.IfExp t a b pos) (tE o H0 W md (vIf tt fa fb)) := by
  refine pe_imp (pe_ifExp ht ha hb) fun σ H Q ⟨g, ρ, s, c, sl, p⟩ => ?_
  refine tT_mono (oneT c sl p) fun b H1 ⟨g1, s1, c1, sl1, e1, q⟩ => ?_
  cases b with
  | true => exact ⟨g1, ρ, s1, c1, sl1, Po.from (α := D) (fun p hp => e1.new hp) q⟩
  | false => exact ⟨g1, ρ, s1, c1, sl1, Po.from (α := D) (fun p hp => e1.new hp) q⟩
theorem x_and {a b : Expr} {rest : List Expr} {fa fb : Env → S → R D} {ma md : Md} {pos : Pos} (ha : PE X a (tE o H0 W ma fa)) (hb : PE X (.BoolOp .And (b :: rest) pos) (tE o H0 W md fb)) : PE X (.BoolOp .And (a :: b :: rest) pos) (tE o H0 W md (vAnd fa fb)) := by
  refine pe_imp (pe_and ha hb) fun σ H Q ⟨g, ρ, s, c, sl, p⟩ => ?_
  refine tE_mono (one (ma := ma) c sl p) fun v H1 ⟨x, g1, s1, c1, sl1, e1, hx, q⟩ => ?_
  cases x with
  | bl b =>
    have e := hx.of_bl
    subst e
    refine ⟨b, rfl, ?_⟩
    cases b with
    | true => exact ⟨g1, ρ, s1, c1, sl1, Po.from (α := D) (fun p hp => e1.new hp) q⟩
    | false => exact Po.ok q c1 _ .bl
  | _ => exact q.elim
theorem x_or {a b : Expr} {rest : List Expr} {fa fb : Env → S → R D} {ma md : Md} {pos : Pos} (ha : PE X a (tE o H0 W ma fa)) (hb : PE X (.BoolOp .Or (b :: rest) pos) (tE o H0 W md fb)) : PE X (.BoolOp .Or (a :: b :: rest) pos) (tE o H0 W md (vOr fa fb)) := by
  refine pe_imp (pe_or ha hb) fun σ H Q ⟨g, ρ, s, c, sl, p⟩ => ?_
  refine tE_mono (one (ma := ma) c sl p) fun v H1 ⟨x, g1, s1, c1, sl1, e1, hx, q⟩ => ?_
  cases x with
  | bl b =>
    have e := hx.of_bl
    subst e
    refine ⟨b, rfl, ?_⟩
    cases b with
    | false => exact ⟨g1, ρ, s1, c1, sl1, Po.from (α := D) (fun p hp => e1.new hp) q⟩
    | true => exact Po.ok q c1 _ .bl
  | _ => exact q.elim
theorem x_neg {a : Expr} {fa : Env → S → R D} {ma : Md} {pos : Pos} (ha : PE X a (tE o H0 W ma fa)) : PE X (.UnaryOp .USub a pos) (tE o H0 W .O (vNeg fa)) := by
  refine pe_imp (pe_un un_neg ha) fun σ H Q ⟨g, ρ, s, c, sl, p⟩ => ?_
  refine tE_mono (one (ma := ma) c sl p) fun v H1 ⟨x, g1, s1, c1, sl1, e1, hx, q⟩ => ?_
  cases x with
  | int i =>
    have e := hx.of_int
    subst e
    exact ⟨i, rfl, Po.ok q c1 _ .int⟩
  | _ => exact q.elim
theorem x_not {a : Expr} {fa : Env → S → R D} {ma : Md} {pos : Pos} (ha : PE X a (tE o H0 W ma fa)) : PE X (.UnaryOp .Not a pos) (tE o H0 W .O (vNotB fa)) := by
  refine pe_imp (pe_not ha) fun σ H Q ⟨g, ρ, s, c, sl, p⟩ => ?_
  refine tE_mono (one (ma := ma) c sl p) fun v H1 ⟨x, g1, s1, c1, sl1, e1, hx, q⟩ => ?_
  cases x with
  | bl b =>
    have e := hx.of_bl
    subst e
    exact ⟨b, rfl, Po.ok q c1 _ .bl⟩
  | _ => exact q.elim
theorem x_chain {op op2 : COp} {r r2 : R2} {a b e : Expr} {fa fb fc : Env → S → R D} {ma mb mc : Md} {pos : Pos} (hma : ma ≠ .H) (hmb : mb ≠ .H) (hmc : mc ≠ .H) (ha : PE X a (tE o H0 W ma fa)) (hb : PE X b (tE o H0 W mb fb)) (hc : PE X e (tE o H0 W mc fc)) (hr : CmpR o X op r) (hr2 : CmpR o X op2 r2)
    (hm : lastMarks [copO op, copO op2] [b, e] = false) : PE X (.Compare a [copO op, copO op2] [b, e] pos) (tE o H0 W .O (vCm2 op op2 fa fb fc)) := by
  refine pe_imp (pe_chain hr.1 hr2.1 ha hb hc hm) fun σ H Q ⟨g, ρ, s, c, sl, p⟩ => ?_
  refine tE_mono (two (ma := ma) (mb := mb) c sl p) fun v H1 h1 => tE_mono h1 fun u H2 h2 => ?_
  obtain ⟨x, y, g2, s2, c2, sl2, e2, hx, hy, q⟩ := h2
  cases hd : top2 s2 x y (cmp op) with
  | none => rw [hd] at q; exact q.elim
  | some d =>
    rw [hd] at q
    obtain ⟨x', y', hx', hy', hd⟩ := of_top2 hd
    refine hr.2 g2 s2 H2 x' y' d v u _ c2 (top_C c2 (Mo.toT c2 hma hx) hx') (top_C c2 (Mo.toT c2 hmb hy) hy') hd fun b hb => ⟨b, rfl, ?_⟩
    subst hb
    cases b with
    | false => exact Po.ok q c2 _ .bl
    | true =>
      refine tE_mono (one (ma := mc) c2 sl2 q) fun w H3 ⟨z, g3, s3, c3, sl3, e3, hz, q⟩ => ?_
      obtain ⟨d2, hd2, q⟩ := Po.of2 q
      obtain ⟨y2, z2, hy2, hz2, hd2⟩ := of_top2 hd2
      refine hr2.2 g3 s3 H3 y2 z2 d2 u w _ c3 (top_C c3 ((Mo.toT c2 hmb hy).ext e3) hy2) (top_C c3 (Mo.toT c3 hmc hz) hz2) hd2 fun b hb => ?_
      subst hb
      exact q _ _ (.refl _ _) c3 _ .bl
/-- as a test -/
theorem tv_bl {f : Env → S → R D} {md : Md} (hf : ∀ ρ s d s', f ρ s = .ok d s' → ∃ b, d = .bl b) {σ : L2.St} {H : Hp} {Q : Bool → Hp → Prop} (h : tT o H0 W (tv f) σ H Q) : tE o H0 W md f σ H fun v H' => ∃ b, v = .bl b ∧ Q b H' := by
  obtain ⟨g, ρ, s, c, sl, p⟩ := h
  refine ⟨g, ρ, s, c, sl, ?_⟩
  unfold tv at p
  cases e : f ρ s with
  | no => rw [e] at p; exact p
  | ex k xs s1 => rw [e] at p; exact p
  | ok d s1 =>
    obtain ⟨b, rfl⟩ := hf _ _ _ _ e
    rw [e] at p
    intro g' H' e1 c1 v hv
    exact ⟨b, hv.of_bl, p g' H' e1 c1⟩
theorem R.bind_ok {α β : Type} {r : R α} {f : α → S → R β} {b : β} {s : S} (h : r.bind f = .ok b s) : ∃ a s1, r = .ok a s1 ∧ f a s1 = .ok b s := by
  cases r with
  | no => cases h
  | ex _ _ _ => cases h
  | ok a s1 => exact ⟨a, s1, rfl, h⟩
theorem R.of_ok {α : Type} {x : Option α} {b : α} {s s' : S} (h : R.of x s = .ok b s') : x = some b ∧ s' = s := by
  cases x with
  | none => cases h
  | some a => cases h; exact ⟨rfl, rfl⟩
theorem vCm2_bl {op op2 : COp} {fa fb fc : Env → S → R D} {ρ : Env} {s : S} {d : D} {s' : S} (h : vCm2 op op2 fa fb fc ρ s = .ok d s') : ∃ b, d = .bl b := by
  obtain ⟨x, s1, _, h⟩ := R.bind_ok h
  obtain ⟨y, s2, _, h⟩ := R.bind_ok h
  split at h
  · obtain ⟨z, s3, _, h⟩ := R.bind_ok h
    obtain ⟨h, _⟩ := R.of_ok h
    obtain ⟨_, _, _, _, h⟩ := of_top2 h
    exact cmp_bl h
  · cases h; exact ⟨_, rfl⟩
  · cases h
theorem x_chainT {op op2 : COp} {r r2 : R2} {a b e : Expr} {fa fb fc : Env → S → R D} {ma mb mc : Md} {pos : Pos} (hma : ma ≠ .H) (hmb : mb ≠ .H) (hmc : mc ≠ .H) (ha : PE X a (tE o H0 W ma fa)) (hb : PE X b (tE o H0 W mb fb)) (hc : PE X e (tE o H0 W mc fc)) (hr : CmpR o X op r) (hr2 : CmpR o X op2 r2)
    (hm : lastMarks [copO op, copO op2] [b, e] = false) : PT X (.Compare a [copO op, copO op2] [b, e] pos) (tT o H0 W (tv (vCm2 op op2 fa fb fc))) := by
  refine pt_imp (pt_chain hr.1 hr2.1 ha hb hc hm) fun σ H Q h => ?_
  obtain ⟨g, ρ, s, c, sl, p⟩ := tv_bl (md := .O) (fun _ _ _ _ => vCm2_bl) h
  refine tE_mono (two (ma := ma) (mb := mb) c sl p) fun v H1 h1 => tE_mono h1 fun u H2 h2 => ?_
  obtain ⟨x, y, g2, s2, c2, sl2, e2, hx, hy, q⟩ := h2
  cases hd : top2 s2 x y (cmp op) with
  | none => rw [hd] at q; exact q.elim
  | some d =>
    rw [hd] at q
    obtain ⟨x', y', hx', hy', hd⟩ := of_top2 hd
    refine hr.2 g2 s2 H2 x' y' d v u _ c2 (top_C c2 (Mo.toT c2 hma hx) hx') (top_C c2 (Mo.toT c2 hmb hy) hy') hd fun b hb => ⟨b, rfl, ?_⟩
    subst hb
    cases b with
    | false => exact Po.ok q c2 _ .bl
    | true =>
      refine tE_mono (one (ma := mc) c2 sl2 q) fun w H3 ⟨z, g3, s3, c3, sl3, e3, hz, q⟩ => ?_
      obtain ⟨d2, hd2, q⟩ := Po.of2 q
      obtain ⟨y2, z2, hy2, hz2, hd2⟩ := of_top2 hd2
      refine hr2.2 g3 s3 H3 y2 z2 d2 u w _ c3 (top_C c3 ((Mo.toT c2 hmb hy).ext e3) hy2) (top_C c3 (Mo.toT c3 hmc hz) hz2) hd2 fun b hb => ?_
      subst hb
      exact q _ _ (.refl _ _) c3 _ .bl
/-- values to be frozen -/
def tL (o : Om) (H0 : Hp) (W : WX) (f : Env → S → R (List D)) : TA := fun σ H Q =>
  ∃ g ρ s, Cur o g s H ∧ Slots o H0 g ρ σ H ∧ Po o W σ g H (f ρ s) fun ds _ g' H' => ∀ vs, Reps o g' ds vs → Q vs H'
def RepTs (o : Om) (g : Gh) (H : Hp) : List D → List V → Prop
  | [], vs => vs = []
  | d :: ds, vs => ∃ v r, vs = v :: r ∧ RepT o g H d v ∧ RepTs o g H ds r
theorem RepTs.ext {g g' : Gh} {H H' : Hp} (x : Ext g H g' H') : ∀ {ds : List D} {vs : List V}, RepTs o g H ds vs → RepTs o g' H' ds vs
  | [], _, h => h
  | d :: ds, _, ⟨v, r, e, a, b⟩ => ⟨v, r, e, RepT.ext x a, RepTs.ext x b⟩
/-- values that are looked at -/
def tLb (o : Om) (H0 : Hp) (W : WX) (f : Env → S → R (List D)) : TA := fun σ H Q =>
  ∃ g ρ s, Cur o g s H ∧ Slots o H0 g ρ σ H ∧ Po o W σ g H (f ρ s) fun ds _ g' H' => ∀ vs, RepTs o g' H' ds vs → Q vs H'
theorem pa_imp {es : List Expr} {t t' : TA} (h : PA X es t) (m : ∀ σ H Q, t' σ H Q → t σ H Q) : PA X es t' :=
  ⟨fun pos pins s σ H Q I q => h.run pos pins s σ H Q I (m σ H Q q)⟩
theorem oneL {f : Env → S → R (List D)} {α : Type} {K : List D → S → R α} {σ : L2.St} {g : Gh} {ρ : Env} {s : S} {Hs : Hp} {k : α → S → Gh → Hp → Prop} (c : Cur o g s Hs) (sl : Slots o H0 g ρ σ Hs)
    (p : Po o W σ g Hs ((f ρ s).bind K) k) :
    tL o H0 W f σ Hs fun vs H1 => ∃ ds g1 s1, Cur o g1 s1 H1 ∧ Slots o H0 g1 ρ σ H1 ∧ Ext g Hs g1 H1 ∧ Reps o g1 ds vs ∧ Po o W σ g1 H1 (K ds s1) k :=
  ⟨g, ρ, s, c, sl, p.bind.mono fun x s1 g1 H1 e1 c1 q v hv => ⟨x, g1, s1, c1, sl.ext e1, e1, hv, q⟩⟩
theorem oneLb {f : Env → S → R (List D)} {α : Type} {K : List D → S → R α} {σ : L2.St} {g : Gh} {ρ : Env} {s : S} {Hs : Hp} {k : α → S → Gh → Hp → Prop} (c : Cur o g s Hs) (sl : Slots o H0 g ρ σ Hs)
    (p : Po o W σ g Hs ((f ρ s).bind K) k) :
    tLb o H0 W f σ Hs fun vs H1 => ∃ ds g1 s1, Cur o g1 s1 H1 ∧ Slots o H0 g1 ρ σ H1 ∧ Ext g Hs g1 H1 ∧ RepTs o g1 H1 ds vs ∧ Po o W σ g1 H1 (K ds s1) k :=
  ⟨g, ρ, s, c, sl, p.bind.mono fun x s1 g1 H1 e1 c1 q v hv => ⟨x, g1, s1, c1, sl.ext e1, e1, hv, q⟩⟩
theorem tL_mono {f : Env → S → R (List D)} {σ : L2.St} {H : Hp} {Q Q' : List V → Hp → Prop} (h : tL o H0 W f σ H Q) (m : ∀ v H, Q v H → Q' v H) : tL o H0 W f σ H Q' := by
  obtain ⟨g, ρ, s, c, sl, p⟩ := h
  exact ⟨g, ρ, s, c, sl, p.mono fun d s1 g1 H1 _ _ q v hv => m _ _ (q v hv)⟩
theorem tLb_mono {f : Env → S → R (List D)} {σ : L2.St} {H : Hp} {Q Q' : List V → Hp → Prop} (h : tLb o H0 W f σ H Q) (m : ∀ v H, Q v H → Q' v H) : tLb o H0 W f σ H Q' := by
  obtain ⟨g, ρ, s, c, sl, p⟩ := h
  exact ⟨g, ρ, s, c, sl, p.mono fun d s1 g1 H1 _ _ q v hv => m _ _ (q v hv)⟩
def isStar : Expr → Bool
  | .Starred _ _ => true
  | _ => false
theorem star_no {e : Expr} {es : List Expr} {env : PySem.Env} (h : isStar e = false) : starEach (e :: es) env = (false, eval e env) :: starEach es env := by
  cases e <;> first | rfl | cases h
theorem x_anil : PA X [] (tL o H0 W fun _ s => .ok [] s) := pa_imp pa_nil fun σ H Q ⟨g, ρ, s, c, sl, p⟩ => Po.ok p c _ .nil
theorem x_acons {e : Expr} {es : List Expr} {f : Env → S → R D} {l : Env → S → R (List D)} (he : PE X e (tE o H0 W .F f)) (hes : PA X es (tL o H0 W l)) (hs : isStar e = false) : PA X (e :: es) (tL o H0 W (lCons (evl1 f) l)) := by
  refine pa_imp (pa_cons he hes (star_no hs)) fun σ H Q ⟨g, ρ, s, c, sl, p⟩ => ?_
  have p : Po o W σ g H ((f ρ s).bind fun x s => (l ρ s).bind fun ys s => .ok (x :: ys) s) fun ds _ g' H' => ∀ vs, Reps o g' ds vs → Q vs H' := by
    have e : lCons (evl1 f) l ρ s = ((f ρ s).bind fun x s => (l ρ s).bind fun ys s => .ok (x :: ys) s) := by
      unfold lCons evl1
      cases f ρ s <;> rfl
    rw [e] at p
    exact p
  refine tE_mono (one (ma := .F) c sl p) fun v H1 ⟨x, g1, s1, c1, sl1, e1, hx, q⟩ => ?_
  refine tL_mono (oneL c1 sl1 q) fun vs H2 ⟨ds, g2, s2, c2, sl2, e2, hd, q⟩ => ?_
  exact Po.ok q c2 _ (.cons (Rep.le e2.le hx) hd)
theorem items_of {g : Gh} {s : S} {H : Hp} {d : D} {ds : List D} {v : V} (c : Cur o g s H) (h : RepC o g H d v) (e : items d = some ds) : ∃ a vs, v = .ref a ∧ (SqT o.K H a vs ∨ SqL o.K H a vs) ∧ Reps o g ds vs := by
  cases d with
  | tup xs =>
    cases e
    obtain ⟨a, vs, rfl, q, r, _⟩ := repC_tup c h
    exact ⟨a, vs, rfl, .inl q, r⟩
  | lst xs =>
    cases e
    obtain ⟨a, vs, rfl, q, r⟩ := h
    exact ⟨a, vs, rfl, .inr (.inl q), r⟩
  | scr xs =>
    cases e
    have h : Rep o g (.scr ds) v := h
    simp only [Rep] at h
    obtain ⟨a, vs, rfl, q, r⟩ := h
    exact ⟨a, vs, rfl, .inr (SqL.le c.fz q), r⟩
  | _ => cases e
theorem x_astar {e : Expr} {es : List Expr} {f : Env → S → R D} {l : Env → S → R (List D)} {md : Md} {p : Pos} (hK : X.K = o.K) (hm : md ≠ .H) (he : PE X e (tE o H0 W md f)) (hes : PA X es (tL o H0 W l)) : PA X (.Starred e p :: es) (tL o H0 W (lCons (iVal f) l)) := by
  refine pa_imp (StX.pa_star he hes) fun σ H Q ⟨g, ρ, s, c, sl, p⟩ => ?_
  have p : Po o W σ g H ((f ρ s).bind fun x s => (R.of (items x) s).bind fun xs s => (l ρ s).bind fun ys s => .ok (xs ++ ys) s) fun ds _ g' H' => ∀ vs, Reps o g' ds vs → Q vs H' := by
    have e : lCons (iVal f) l ρ s = ((f ρ s).bind fun x s => (R.of (items x) s).bind fun xs s => (l ρ s).bind fun ys s => .ok (xs ++ ys) s) := by
      unfold lCons iVal
      cases f ρ s <;> rfl
    rw [e] at p
    exact p
  refine tE_mono (one (ma := md) c sl p) fun v H1 ⟨x, g1, s1, c1, sl1, e1, hx, q⟩ => ?_
  obtain ⟨xs, hxs, q⟩ := Po.of (Po.bind q) c1
  obtain ⟨a, vs, rfl, hq, r⟩ := items_of c1 (Mo.toT c1 hm hx).1 hxs
  refine ⟨a, vs, rfl, by rw [hK]; exact hq, ?_⟩
  refine tL_mono (oneL c1 sl1 q) fun vs H2 ⟨ds, g2, s2, c2, sl2, e2, hd, q⟩ => ?_
  exact Po.ok q c2 _ ((Reps.le e2.le r).append hd)
theorem x_bnil : PA X [] (tLb o H0 W fun _ s => .ok [] s) := pa_imp pa_nil fun σ H Q ⟨g, ρ, s, c, sl, p⟩ => Po.ok p c _ rfl
theorem x_bcons {e : Expr} {es : List Expr} {f : Env → S → R D} {l : Env → S → R (List D)} {md : Md} (hm : md ≠ .H) (he : PE X e (tE o H0 W md f)) (hes : PA X es (tLb o H0 W l)) (hs : isStar e = false) : PA X (e :: es) (tLb o H0 W (lbCons f l)) := by
  refine pa_imp (pa_cons he hes (star_no hs)) fun σ H Q ⟨g, ρ, s, c, sl, p⟩ => ?_
  refine tE_mono (one (ma := md) c sl p) fun v H1 ⟨x, g1, s1, c1, sl1, e1, hx, q⟩ => ?_
  refine tLb_mono (oneLb c1 sl1 q) fun vs H2 ⟨ds, g2, s2, c2, sl2, e2, hd, q⟩ => ?_
  exact Po.ok q c2 _ ⟨_, _, rfl, RepT.ext e2 (Mo.toT c1 hm hx), hd⟩
theorem x_tup {es : List Expr} {l : Env → S → R (List D)} {x1 pos} (h : PA X es (tL o H0 W l)) : PE X (.Tuple es x1 pos) (tE o H0 W .O (vTup l)) := by
  refine pe_imp (pe_tup h) fun σ H Q ⟨g, ρ, s, c, sl, p⟩ => ?_
  refine tL_mono (oneL c sl p) fun vs H1 ⟨ds, g1, s1, c1, sl1, e1, hd, q⟩ => ?_
  split at q
  · rename_i hl
    rw [lim_line, ← hd.length] at hl
    refine ⟨hl, fun p hp => ?_⟩
    obtain ⟨e2, c2, r2⟩ := newT c1 hp hd
    exact q _ _ e2 c2 _ (Mo.O_of rfl r2)
  · exact q.elim
theorem x_lst {es : List Expr} {l : Env → S → R (List D)} {pos} (h : PA X es (tL o H0 W l)) : PE X (.List es pos) (tE o H0 W .O (vLst l)) := by
  refine pe_imp (pe_lst h) fun σ H Q ⟨g, ρ, s, c, sl, p⟩ => ?_
  refine tL_mono (oneL c sl p) fun vs H1 ⟨ds, g1, s1, c1, sl1, e1, hd, q⟩ => ?_
  split at q
  · rename_i hl
    rw [lim_line, ← hd.length] at hl
    refine ⟨hl, fun p hp => ?_⟩
    obtain ⟨e2, c2, m⟩ := Mo.newL c1 hp (e1.new hp) hd
    exact q _ _ e2 c2 _ m
  · exact q.elim
end
end MR
set_option Elab.async false
set_option linter.all false
set_option maxRecDepth 100000
namespace MR
open PySem PySem.Spec PyProof.Rows L2

section
variable {o : Om} {H0 : Hp} {W : WX} {X : Cx} {k : Nat}
theorem nostar_pl {pos : Pos} {env : PySem.Env} : ∀ {es : List Expr}, (es.all fun e => !isStar e) = true → (backTo pos (starEach es env)).any (·.1) = false
  | [], _ => rfl
  | e :: es, h => by
    simp only [List.all_cons, Bool.and_eq_true, Bool.not_eq_true'] at h
    rw [star_no h.1]
    have ih := nostar_pl (pos := pos) (env := env) (es := es) h.2
    exact ih
def isSlice : Expr → Bool
  | .Slice _ _ _ _ => true
  | _ => false
theorem plainIx_of {b : Expr} (h : isSlice b = false) : PlainIx b := by
  intro x y
  cases b <;> first | rfl | cases h
theorem Mo.of_str {Hs H : Hp} {md : Md} {g : Gh} {b : Str} {v : V} (h : Mo o Hs md g H (.str b) v) : v = .str b := by
  cases md with
  | F => have h : Rep o g (.str b) v := h; simpa only [Rep] using h
  | T => have h : Rep o g (.str b) v := h.1; simpa only [Rep] using h
  | H => have h : Rep o ⟨kp g H, g.cl⟩ (.str b) v := h; simpa only [Rep] using h
  | O => unfold Mo at h; dsimp only at h; rw [if_neg (by simp [isBox])] at h; simpa only [Rep] using h
theorem nth_get {α : Type} : ∀ {xs : List α} {i : Nat} {x : α}, nth xs i = some x → xs[i]? = some x
  | [], _, _, h => by simp [nth] at h
  | x :: r, 0, y, h => by simpa [nth] using h
  | x :: r, i + 1, y, h => by simpa using nth_get (xs := r) (i := i) h
theorem nth_lt {α : Type} : ∀ {xs : List α} {i : Nat} {x : α}, nth xs i = some x → i < xs.length
  | [], _, _, h => by simp [nth] at h
  | x :: r, 0, y, h => by simp
  | x :: r, i + 1, y, h => by
    have := nth_lt (xs := r) (i := i) h
    simp only [List.length_cons]
    omega
theorem atI_of {g : Gh} {xs : List D} {vs : List V} {i : Int} {d : D} (r : Reps o g xs vs) (h : at_ xs i = some d) : ∃ v, atI vs i = some v ∧ Rep o g d v := by
  have l := r.length
  unfold at_ at h
  unfold atI ixN
  split at h
  · rename_i h0
    obtain ⟨v, h1, h2⟩ := r.get h
    have h3 := nth_lt h
    refine ⟨v, ?_, h2⟩
    rw [if_pos h0, if_pos (by omega)]
    exact h1
  · rename_i h0
    split at h
    · rename_i h4
      obtain ⟨v, h1, h2⟩ := r.get h
      refine ⟨v, ?_, h2⟩
      rw [if_neg h0, if_pos (by omega), l]
      exact h1
    · cases h
theorem ix_dget (hu : X.A.units + 1 < cLine) : IxR X (fun x y H Q => ∃ a v, x = .ref a ∧ DGet H a y (some v) ∧ Q v H) := by
  intro value slice pins s σ H x y v u Q I rx ry h hs
  obtain ⟨a, w, rfl, g, q⟩ := h
  obtain rfl : v = Value.ref a := rx
  have hT := dict_typeIs I g
  unfold subscriptTail
  refine wpAny_bind ?_
  rw [getitemInPython_of_ne hT.not_modules]
  refine wpAny_bind (wpAny_specialOf hT PySem.F.slot_dict_getitem.lookup ?_)
  have fin : wpAny (model X.prog X.w) X.A (subscripted slice false (.ref a) u) (fun r s₃ => wpAny (model X.prog X.w) X.A (letTemporaryGo value (.ref a) r >>= fun _ => pure r) (EP X pins σ Q) X.xe s₃) X.xe s := by
    rw [hs]
    exact wpAny_operating (d_getItem hu I g ry fun w' s3 I3 rw' => wpAny_bind (wpAny_letTemporaryGo (wpAny_pure ⟨w, H, I3, rw', q⟩)))
  first
    | exact wpAny_pure (wpAny_bind fin)
    | exact wpAny_bind (wpAny_pure (wpAny_bind fin))
    | exact wpAny_bind fin
theorem keyAt_of {ks : List D} {vs : List D} {k : Str} {d : D} {l : List (Key × V)} {vv : List V} {g : Gh} (hk : ks = l.map (fun p => keyD p.1)) (hv : vv = l.map (·.2)) (r : Reps o g vs vv) (h : (keyAt (.str k) ks).bind (nth vs) = some d) :
    ∃ v, valV l (.inr k) = some v ∧ Rep o g d v := by
  induction l generalizing ks vs vv with
  | nil => subst hk; simp [keyAt] at h
  | cons p l ih =>
    obtain ⟨key, v⟩ := p
    subst hk hv
    cases vs with
    | nil => cases r.of_nil
    | cons w ws =>
      obtain ⟨v', r', e, a, b⟩ := r.of_cons
      cases e
      simp only [List.map_cons, keyAt] at h
      cases key with
      | inl i =>
        rw [if_neg (by simp [keyD, eqv])] at h
        have h : (keyAt (.str k) (l.map fun p => keyD p.1)).bind (nth ws) = some d := by
          cases e : keyAt (.str k) (l.map fun p => keyD p.1) with
          | none => rw [e] at h; cases h
          | some n => rw [e] at h; exact h
        obtain ⟨v2, h1, h2⟩ := ih rfl rfl b h
        exact ⟨v2, by simpa [valV] using h1, h2⟩
      | inr x =>
        by_cases ex : x = k
        · subst ex
          rw [if_pos (by simp [keyD, eqv])] at h
          cases h
          exact ⟨v, by simp [valV], a⟩
        · rw [if_neg (by simp [keyD, eqv, ex])] at h
          have h : (keyAt (.str k) (l.map fun p => keyD p.1)).bind (nth ws) = some d := by
            cases e : keyAt (.str k) (l.map fun p => keyD p.1) with
            | none => rw [e] at h; cases h
            | some n => rw [e] at h; exact h
          obtain ⟨v2, h1, h2⟩ := ih rfl rfl b h
          exact ⟨v2, by simpa [valV, ex] using h1, h2⟩
theorem x_sub {a b : Expr} {fa fb : Env → S → R D} {ma mb : Md} {pos : Pos} (hK : X.K = o.K) (hu : X.A.units + 1 < cLine) (hma : ma ≠ .H) (ha : PE X a (tE o H0 W ma fa)) (hb : PE X b (tE o H0 W mb fb)) (hs : isSlice b = false) :
    PE X (.Subscript a b pos) (tE o H0 W .F (vSub fa fb)) := by
  refine pe_imp (pe_ix (IxR.or (IxR.or ix_list ix_tup) (ix_dget hu)) ha hb (plainIx_of hs)) fun σ H Q ⟨g, ρ, s, c, sl, p⟩ => ?_
  refine tE_mono (two (ma := ma) (mb := mb) c sl p) fun v H1 h1 => tE_mono h1 fun u H2 h2 => ?_
  obtain ⟨x, y, g2, s2, c2, _, e2, hx, hy, q0⟩ := h2
  obtain ⟨d, hd, q1⟩ := Po.of2 q0
  clear q0
  obtain ⟨x', hx', hd⟩ := of_top1 hd
  have q := fun w hw => q1 _ _ (.refl _ _) c2 w hw
  have rx := top_C c2 (Mo.toT c2 hma hx) hx'
  unfold sub at hd
  split at hd
  · rename_i ks vs
    split at hd
    · rename_i hk
      obtain ⟨a, rfl, u', vv, hu', dk, r⟩ := rx
      cases y with
      | str k =>
        obtain rfl := hy.of_str
        obtain ⟨l, rfl, ek, ev⟩ := dk
        obtain ⟨w, hw, rw'⟩ := keyAt_of ek ev r hd
        exact .inr ⟨a, w, rfl, .inl ⟨l, .inr k, .inl hu', rfl, hw.symm⟩, q w rw'⟩
      | _ => cases hk
    · cases hd
  · rename_i xs i _
    split at hd
    · obtain ⟨a, vs, rfl, qt, r, _⟩ := repC_tup c2 rx
      obtain ⟨w, hw, rw'⟩ := atI_of r hd
      obtain rfl := hy.of_int
      exact .inl (.inr ⟨a, vs, i, w, rfl, rfl, by rw [hK]; exact qt, hw, q w rw'⟩)
    · cases hd
  · rename_i xs i _
    split at hd
    · obtain ⟨a, vs, rfl, qt, r⟩ := rx
      obtain ⟨w, hw, rw'⟩ := atI_of r hd
      obtain rfl := hy.of_int
      exact .inl (.inl ⟨a, vs, i, w, rfl, rfl, .inl qt, hw, q w rw'⟩)
    · cases hd
  · cases hd
def tOpt (o : Om) (H0 : Hp) (W : WX) (f : Env → S → R (Option Int)) : TO := fun σ H Q =>
  ∃ g ρ s, Cur o g s H ∧ Slots o H0 g ρ σ H ∧ Po o W σ g H (f ρ s) fun d _ g' H' => Q d H'
theorem po_imp {e : Option Expr} {t t' : TO} (h : PO X e t) (m : ∀ σ H Q, t' σ H Q → t σ H Q) : PO X e t' :=
  ⟨fun pins s σ H Q I q => h.run pins s σ H Q I (m σ H Q q)⟩
theorem tOpt_mono {f : Env → S → R (Option Int)} {σ : L2.St} {H : Hp} {Q Q' : Option Int → Hp → Prop} (h : tOpt o H0 W f σ H Q) (m : ∀ v H, Q v H → Q' v H) : tOpt o H0 W f σ H Q' := by
  obtain ⟨g, ρ, s, c, sl, p⟩ := h
  exact ⟨g, ρ, s, c, sl, p.mono fun d s1 g1 H1 _ _ q => m _ _ q⟩
theorem oneO {f : Env → S → R (Option Int)} {α : Type} {K : Option Int → S → R α} {σ : L2.St} {g : Gh} {ρ : Env} {s : S} {Hs : Hp} {k : α → S → Gh → Hp → Prop} (c : Cur o g s Hs) (sl : Slots o H0 g ρ σ Hs)
    (p : Po o W σ g Hs ((f ρ s).bind K) k) :
    tOpt o H0 W f σ Hs fun b H1 => ∃ g1 s1, Cur o g1 s1 H1 ∧ Slots o H0 g1 ρ σ H1 ∧ Ext g Hs g1 H1 ∧ Po o W σ g1 H1 (K b s1) k :=
  ⟨g, ρ, s, c, sl, p.bind.mono fun b s1 g1 H1 e1 c1 q => ⟨g1, s1, c1, sl.ext e1, e1, q⟩⟩
theorem x_onone : PO X none (tOpt o H0 W fun _ s => .ok none s) := po_imp po_none fun σ H Q ⟨g, ρ, s, c, sl, p⟩ => Po.ok p c
theorem x_osome {e : Expr} {f : Env → S → R D} {md : Md} (he : PE X e (tE o H0 W md f)) : PO X (some e) (tOpt o H0 W (oInt f)) := by
  refine po_imp (po_some he) fun σ H Q ⟨g, ρ, s, c, sl, p⟩ => ?_
  refine tE_mono (one (ma := md) c sl p) fun v H1 ⟨x, g1, s1, c1, sl1, e1, hx, q⟩ => ?_
  cases x with
  | int i => exact ⟨i, hx.of_int, Po.ok q c1⟩
  | _ => exact q.elim
theorem sIx_eq (n d : Nat) (i : Int) : HT.sIx n d (some i) = sIx n i := by
  show (if i < 0 then (i + (n : Int)).toNat else min i.toNat n) = (if 0 ≤ i then min i.toNat n else (i + n).toNat)
  by_cases h : 0 ≤ i
  · rw [if_pos h, if_neg (by omega)]
  · rw [if_neg h, if_pos (by omega)]
theorem cut_rep {g : Gh} {xs : List D} {vs : List V} (r : Reps o g xs vs) (lo hi : Option Int) : Reps o g (cut xs lo hi) (cutV vs lo hi) := by
  have l := r.length
  unfold cutV cut
  have e1 : HT.sIx vs.length 0 lo = (match lo with | none => 0 | some i => sIx xs.length i) := by
    cases lo with
    | none => rfl
    | some i => rw [sIx_eq, l]
  have e2 : HT.sIx vs.length vs.length hi = (match hi with | none => xs.length | some i => sIx xs.length i) := by
    cases hi with
    | none => rw [← l]; rfl
    | some i => rw [sIx_eq, l]
  rw [e1, e2]
  exact (r.drop _).take _
theorem cut_whole {xs : List D} {n : Nat} (l : n = xs.length) (lo hi : Option Int) (h : HT.sIx n 0 lo = 0 ∧ HT.sIx n n hi = n) : cut xs lo hi = xs := by
  subst l
  obtain ⟨h1, h2⟩ := h
  have k1 : ∀ a b, a = 0 → b = xs.length → (xs.drop a).take (b - a) = xs := fun a b e1 e2 => by
    rw [e1, e2]
    simp
  cases lo with
  | none =>
    cases hi with
    | none => exact k1 _ _ rfl rfl
    | some i => exact k1 _ _ rfl ((sIx_eq xs.length xs.length i).symm.trans h2)
  | some j =>
    have z : sIx xs.length j = 0 := by rw [← sIx_eq xs.length 0]; exact h1
    cases hi with
    | none => exact k1 _ _ z rfl
    | some i => exact k1 _ _ z ((sIx_eq xs.length xs.length i).symm.trans h2)
theorem x_slc {e : Expr} {lo hi : Option Expr} {f : Env → S → R D} {fl fh : Env → S → R (Option Int)} {md : Md} {p2 pos : Pos} (hK : X.K = o.K) (hm : md ≠ .H) (he : PE X e (tE o H0 W md f)) (hl : PO X lo (tOpt o H0 W fl)) (hh : PO X hi (tOpt o H0 W fh)) :
    PE X (.Subscript e (.Slice lo hi none p2) pos) (tE o H0 W .O (vSlc f fl fh)) := by
  refine pe_imp (pe_slice (SlR.or sl_list sl_tupA) he hl hh) fun σ H Q ⟨g, ρ, s, c, sl, p⟩ => ?_
  refine tE_mono (one (ma := md) c sl p) fun v H1 ⟨x, g1, s1, c1, sl1, e1, hx, q⟩ => ?_
  refine tOpt_mono (oneO c1 sl1 q) fun l H2 ⟨g2, s2, c2, sl2, e2, q⟩ => ?_
  refine tOpt_mono (oneO c2 sl2 q) fun h H3 ⟨g3, s3, c3, sl3, e3, q⟩ => ?_
  obtain ⟨d, hd, q⟩ := Po.of2 q
  obtain ⟨x', hx', hd⟩ := of_top1 hd
  have hx := (hx.ext e2).ext e3
  have rx := top_C c3 (Mo.toT c3 hm hx) hx'
  have nw : ∀ p, H3 p = none → H p = none := fun p hp => ((e1.trans e2).trans e3).new hp
  cases x' with
  | tup xs =>
    cases hd
    obtain ⟨a, vs, rfl, qt, r, rT⟩ := repC_tup c3 rx
    refine .inr ⟨a, vs, rfl, by rw [hK]; exact qt, fun hw => ?_, fun hw p hp => ?_⟩
    · rw [cut_whole r.length l h hw] at q
      exact q _ _ (.refl _ _) c3 _ (Mo.O_of rfl rT)
    · obtain ⟨e4, c4, r4⟩ := newT c3 hp (cut_rep r l h)
      exact q _ _ e4 c4 _ (Mo.O_of rfl r4)
  | lst xs =>
    cases hd
    obtain ⟨a, vs, rfl, qt, r⟩ := rx
    refine .inl ⟨a, vs, rfl, .inl qt, fun p hp => ?_⟩
    obtain ⟨e4, c4, m⟩ := Mo.newL c3 hp (nw p hp) (cut_rep r l h)
    exact q _ _ e4 c4 _ m
  | _ => cases hd
def RepCs (o : Om) (g : Gh) (H : Hp) : List D → List V → Prop
  | [], vs => vs = []
  | d :: ds, vs => ∃ v r, vs = v :: r ∧ RepC o g H d v ∧ RepCs o g H ds r
theorem tops_C {g : Gh} {s : S} {H : Hp} (c : Cur o g s H) : ∀ {ds ys : List D} {vs : List V}, RepTs o g H ds vs → tops s ds = some ys → RepCs o g H ys vs
  | [], ys, _, h, e => by cases e; exact h
  | d :: ds, ys, _, ⟨v, r, e, a, b⟩, et => by
    unfold tops at et
    split at et
    · rename_i y ys' h1 h2
      cases et
      exact ⟨v, r, e, top_C c a h1, tops_C c b h2⟩
    · cases et
def sca : D → V → Prop
  | .int i, v => v = .int i
  | .bl b, v => v = .bl b
  | .str x, v => v = .str x
  | _, _ => False
theorem sca_Mo {Hs H : Hp} {md : Md} {g : Gh} : ∀ {d : D} {v : V}, sca d v → Mo o Hs md g H d v
  | .int _, _, h => by cases h; exact .int
  | .bl _, _, h => by cases h; exact .bl
  | .str _, _, h => by cases h; exact .str
/-- the text of a value -/
def txt (d : D) : Option Str := match d with
  | .tup _ | .lst _ => if pl d && decide (dep d ≤ 60) && PyData.showable (toPy d) && !(PyData.hasDict (toPy d)) && decide ((PyData.shown (toPy d)).length ≤ lim) then some (PyData.shown (toPy d)) else none
  | _ => none
def bltS : Bl → String
  | .len => "len" | .abs => "abs" | .int => "int" | .min => "min" | .max => "max" | .sum => "sum" | .all => "all" | .any => "any" | .repr => "repr"
def bltF : Bl → Value
  | .int => .type "int"
  | b => .builtin (bltS b)
def BltR (o : Om) (X : Cx) (b : Bl) (r : List V → Hp → VK → Prop) : Prop := CallR X (bltF b) r ∧
  ∀ (g : Gh) (s : S) (H : Hp) (ys : List D) (vs : List V) (d : D) (Q : VK), Cur o g s H → RepCs o g H ys vs → blt txt b ys = some d → (∀ w, sca d w → Q w H) → r vs H Q
theorem repCs_1 {g : Gh} {H : Hp} {x : D} {vs : List V} (h : RepCs o g H [x] vs) : ∃ v, vs = [v] ∧ RepC o g H x v := by
  obtain ⟨v, r, e, a, b⟩ := h
  have b : r = [] := b
  subst b
  exact ⟨v, e, a⟩
theorem repCs_2 {g : Gh} {H : Hp} {x y : D} {vs : List V} (h : RepCs o g H [x, y] vs) : ∃ v u, vs = [v, u] ∧ RepC o g H x v ∧ RepC o g H y u := by
  obtain ⟨v, r, e, a, b⟩ := h
  obtain ⟨u, e2, b2⟩ := repCs_1 b
  subst e2
  exact ⟨v, u, e, a, b2⟩
theorem blt_len (hK : X.K = o.K) : BltR o X .len (fun xs H Q => ∃ p ys, xs = [.ref p] ∧ (SqL X.K H p ys ∨ SqT X.K H p ys) ∧ Q (.int ys.length) H) := by
  refine ⟨call_len_seq, fun g s H ys vs d Q c h e q => ?_⟩
  unfold blt at e
  split at e <;> try (first | (cases e; done) | contradiction)
  · rename_i xs _
    obtain ⟨v, rfl, hx⟩ := repCs_1 h
    obtain ⟨a, us, rfl, qt, r, _⟩ := repC_tup c hx
    cases e
    refine ⟨a, us, rfl, .inr (by rw [hK]; exact qt), ?_⟩
    rw [r.length]
    exact q _ rfl
  · rename_i xs _
    obtain ⟨v, rfl, hx⟩ := repCs_1 h
    obtain ⟨a, us, rfl, qt, r⟩ := hx
    cases e
    refine ⟨a, us, rfl, .inl (.inl qt), ?_⟩
    rw [r.length]
    exact q _ rfl
  · rename_i xs _
    obtain ⟨v, rfl, hx⟩ := repCs_1 h
    have hx : Rep o g (.scr xs) v := hx
    simp only [Rep] at hx
    obtain ⟨a, us, rfl, qt, r⟩ := hx
    cases e
    refine ⟨a, us, rfl, .inl (by rw [hK]; exact SqL.le c.fz qt), ?_⟩
    rw [r.length]
    exact q _ rfl
theorem blt_abs : BltR o X .abs (fun xs H Q => ∃ i, xs = [.int i] ∧ Q (.int (if i < 0 then -i else i)) H) := by
  refine ⟨call_abs, fun g s H ys vs d Q c h e q => ?_⟩
  unfold blt at e
  split at e <;> try (first | (cases e; done) | contradiction)
  obtain ⟨v, rfl, hx⟩ := repCs_1 h
  obtain rfl := repC_int hx
  cases e
  exact ⟨_, rfl, q _ rfl⟩
theorem repC_bl {g : Gh} {H : Hp} {b : Bool} {v : V} (h : RepC o g H (.bl b) v) : v = .bl b := by
  have h : Rep o g (.bl b) v := h
  simpa only [Rep] using h
theorem blt_int : BltR o X .int (fun xs H Q => (∃ i, xs = [.int i] ∧ Q (.int i) H) ∨ ∃ k, xs = [.bl k] ∧ Q (.int (if k then 1 else 0)) H) := by
  refine ⟨call_int1, fun g s H ys vs d Q c h e q => ?_⟩
  unfold blt at e
  split at e <;> try (first | (cases e; done) | contradiction)
  · obtain ⟨v, rfl, hx⟩ := repCs_1 h
    obtain rfl := repC_int hx
    cases e
    exact .inl ⟨_, rfl, q _ rfl⟩
  · obtain ⟨v, rfl, hx⟩ := repCs_1 h
    obtain rfl := repC_bl hx
    cases e
    exact .inr ⟨_, rfl, q _ rfl⟩
theorem blt_min (hc : X.calm = true) : BltR o X .min (fun xs H Q => ∃ i j, xs = [.int i, .int j] ∧ Q (.int (if j < i then j else i)) H) := by
  refine ⟨call_min2 hc, fun g s H ys vs d Q c h e q => ?_⟩
  unfold blt at e
  split at e <;> try (first | (cases e; done) | contradiction)
  obtain ⟨v, u, rfl, hx, hy⟩ := repCs_2 h
  obtain rfl := repC_int hx
  obtain rfl := repC_int hy
  cases e
  exact ⟨_, _, rfl, q _ rfl⟩
theorem blt_max (hc : X.calm = true) : BltR o X .max (fun xs H Q => ∃ i j, xs = [.int i, .int j] ∧ Q (.int (if j > i then j else i)) H) := by
  refine ⟨call_max2 hc, fun g s H ys vs d Q c h e q => ?_⟩
  unfold blt at e
  split at e <;> try (first | (cases e; done) | contradiction)
  obtain ⟨v, u, rfl, hx, hy⟩ := repCs_2 h
  obtain rfl := repC_int hx
  obtain rfl := repC_int hy
  cases e
  exact ⟨_, _, rfl, q _ rfl⟩
theorem bools_of {g : Gh} : ∀ {xs : List D} {bs : List Bool} {vs : List V}, truths xs = some bs → Reps o g xs vs → vs = bs.map V.bl
  | [], bs, vs, e, h => by
    cases e
    exact h.of_nil
  | x :: xs, bs, vs, e, h => by
    cases x with
    | bl b =>
      simp only [truths] at e
      cases e2 : truths xs with
      | none => rw [e2] at e; cases e
      | some cs =>
        rw [e2] at e
        cases e
        obtain ⟨v, r, rfl, a, b'⟩ := h.of_cons
        simp only [Rep] at a
        rw [a, bools_of e2 b']
        rfl
    | _ => simp [truths] at e
theorem blt_all (hK : X.K = o.K) (hc : X.calm = true) : BltR o X .all (rAll X.K) := by
  refine ⟨cr_all hc, fun g s H ys vs d Q c h e q => ?_⟩
  unfold blt at e
  split at e <;> try (first | (cases e; done) | contradiction)
  rename_i xs _
  obtain ⟨v, rfl, hx⟩ := repCs_1 h
  obtain ⟨a, us, rfl, qt, r⟩ := hx
  cases e2 : truths xs with
  | none => rw [e2] at e; cases e
  | some bs =>
    rw [e2] at e
    cases e
    have z := bools_of e2 r
    subst z
    exact ⟨a, bs, rfl, .inl qt, q _ rfl⟩
theorem blt_any (hK : X.K = o.K) (hc : X.calm = true) : BltR o X .any (rAny X.K) := by
  refine ⟨cr_any hc, fun g s H ys vs d Q c h e q => ?_⟩
  unfold blt at e
  split at e <;> try (first | (cases e; done) | contradiction)
  rename_i xs _
  obtain ⟨v, rfl, hx⟩ := repCs_1 h
  obtain ⟨a, us, rfl, qt, r⟩ := hx
  cases e2 : truths xs with
  | none => rw [e2] at e; cases e
  | some bs =>
    rw [e2] at e
    cases e
    have z := bools_of e2 r
    subst z
    exact ⟨a, bs, rfl, .inl qt, q _ rfl⟩
def rRepr (K : PySem.W.Frag) : List V → Hp → VK → Prop := fun xs H Q => ∃ a d x, xs = [.ref a] ∧ Dp K H (.ref a) (toPy d) ∧ txt d = some x ∧ Q (.str x) H
theorem call_repr (hu : X.A.units + 64 < cLine) (hg : X.A.guards = some []) : CallR X (.builtin "repr") (rRepr X.K) := by
  intro pins s σ H xs us Q I r h
  obtain ⟨a, d, x, rfl, hd, ht, q⟩ := h
  obtain ⟨u, rfl, rx⟩ := vals1 r
  obtain rfl : u = Value.ref a := rx
  obtain ⟨as, r1⟩ := Dp.reads I _ _ _ hd rfl
  have key : (pl d && decide (dep d ≤ 60) && PyData.showable (toPy d) && !(PyData.hasDict (toPy d)) && decide ((PyData.shown (toPy d)).length ≤ lim)) = true ∧ x = PyData.shown (toPy d) := by
    unfold txt at ht
    split at ht
    · split at ht
      · rename_i h; cases ht; exact ⟨h, rfl⟩
      · cases ht
    · split at ht
      · rename_i h; cases ht; exact ⟨h, rfl⟩
      · cases ht
    · cases ht
  obtain ⟨key, rfl⟩ := key
  simp only [Bool.and_eq_true, decide_eq_true_eq, Bool.not_eq_true'] at key
  obtain ⟨⟨⟨⟨h1, h2⟩, h3⟩, h4⟩, h5⟩ := key
  rw [lim_line] at h5
  refine repr_of_reads' r1 h3 (PyData.noDict_hsm h4) hg (by rw [toPy_dep h1]; omega) (fun b ob e => e) (fun h' u tk hk => ?_) h5
  exact ⟨.str _, H, I.kept (t' := tk) hk, ⟨u, rfl⟩, q⟩
theorem blt_repr (hK : X.K = o.K) (hu : X.A.units + 64 < cLine) (hg : X.A.guards = some []) : BltR o X .repr (rRepr X.K) := by
  refine ⟨call_repr hu hg, fun g s H ys vs d Q c h e q => ?_⟩
  unfold blt at e
  split at e <;> try (first | (cases e; done) | contradiction)
  rename_i x _
  obtain ⟨v, rfl, hx⟩ := repCs_1 h
  cases ht : txt x with
  | none => rw [ht] at e; cases e
  | some y =>
    rw [ht] at e
    cases e
    have hp : pl x = true := by
      unfold txt at ht
      split at ht
      · split at ht
        · rename_i h; simp only [Bool.and_eq_true] at h; exact h.1.1.1.1
        · cases ht
      · split at ht
        · rename_i h; simp only [Bool.and_eq_true] at h; exact h.1.1.1.1
        · cases ht
      · cases ht
    have z := dp_of hp (hx.deep c)
    have hv : ∃ a, v = .ref a := by
      unfold txt at ht
      split at ht
      · obtain ⟨a, _, rfl, _⟩ := repC_tup c hx
        exact ⟨a, rfl⟩
      · obtain ⟨a, _, rfl, _⟩ := hx
        exact ⟨a, rfl⟩
      · cases ht
    obtain ⟨a, rfl⟩ := hv
    exact ⟨a, x, y, rfl, by rw [hK]; exact z, ht, q _ rfl⟩
def bltOk : Bl → Bool
  | .sum => false
  | _ => true
/-- where the guards are told, none is open -/
def GdOk (gf : Bool) (A : Around) : Prop := gf = true → A.guards = some []
theorem bltR {gf : Bool} (hK : X.K = o.K) (hc : X.calm = true) (hu : X.A.units + 64 < cLine) (hg : GdOk gf X.A) : ∀ b : Bl, bltOk b = true → (b == .repr && !gf) = false → ∃ r, BltR o X b r
  | .len, _, _ => ⟨_, blt_len hK⟩
  | .abs, _, _ => ⟨_, blt_abs⟩
  | .int, _, _ => ⟨_, blt_int⟩
  | .min, _, _ => ⟨_, blt_min hc⟩
  | .max, _, _ => ⟨_, blt_max hc⟩
  | .all, _, _ => ⟨_, blt_all hK hc⟩
  | .any, _, _ => ⟨_, blt_any hK hc⟩
  | .repr, _, h => ⟨_, blt_repr hK hu (hg (by cases gf <;> first | rfl | cases h))⟩
theorem boot_of : ∀ b : Bl, bltOk b = true → bootBuiltins (bltS b : Str) = some (bltF b)
  | .len, _ => PySem.boot_len
  | .abs, _ => by decide +kernel
  | .int, _ => by decide +kernel
  | .min, _ => by decide +kernel
  | .max, _ => by decide +kernel
  | .all, _ => by decide +kernel
  | .any, _ => by decide +kernel
  | .repr, _ => by decide +kernel
theorem x_blt {b : Bl} {r : List V → Hp → VK → Prop} {e : Expr} {es : List Expr} {l : Env → S → R (List D)} {p pos : Pos} (hb : bltOk b = true) (hr : BltR o X b r) (hg : Gl X (bltS b)) (hm : X.mg (bltS b) = none) (ha : PA X (e :: es) (tLb o H0 W l)) (hs : (e :: es).all (fun e => !isStar e) = true) :
    PE X (.Call (.Name (bltS b) p) (e :: es) [] pos) (tE o H0 W .O (vBlt txt b l)) := by
  have h1 : isStar e = false ∧ (es.all fun e => !isStar e) = true := by
    simp only [List.all_cons, Bool.and_eq_true, Bool.not_eq_true'] at hs
    exact hs
  have hbt := boot_of b hb
  have base : PE X (.Call (.Name (bltS b) p) (e :: es) [] pos) (tCB r (tLb o H0 W l)) := by
    cases b with
    | int => exact pe_callTy hr.1 hg hm hbt ha (by decide) (by decide) (star_no h1.1) (nostar_pl h1.2)
    | sum => cases hb
    | len => exact pe_callB hr.1 hg hm hbt ha (by decide) (by decide) (star_no h1.1) (nostar_pl h1.2)
    | abs => exact pe_callB hr.1 hg hm hbt ha (by decide) (by decide) (star_no h1.1) (nostar_pl h1.2)
    | min => exact pe_callB hr.1 hg hm hbt ha (by decide) (by decide) (star_no h1.1) (nostar_pl h1.2)
    | max => exact pe_callB hr.1 hg hm hbt ha (by decide) (by decide) (star_no h1.1) (nostar_pl h1.2)
    | all => exact pe_callB hr.1 hg hm hbt ha (by decide) (by decide) (star_no h1.1) (nostar_pl h1.2)
    | any => exact pe_callB hr.1 hg hm hbt ha (by decide) (by decide) (star_no h1.1) (nostar_pl h1.2)
    | repr => exact pe_callB hr.1 hg hm hbt ha (by decide) (by decide) (star_no h1.1) (nostar_pl h1.2)
  refine pe_imp base fun σ H Q ⟨g, ρ, s, c, sl, p⟩ => ?_
  refine tLb_mono (oneLb c sl p) fun vs H1 ⟨ds, g1, s1, c1, sl1, e1, hd, q⟩ => ?_
  obtain ⟨d, hd2, q⟩ := Po.of2 q
  cases ht : tops s1 ds with
  | none => rw [ht] at hd2; cases hd2
  | some ys =>
    rw [ht] at hd2
    exact hr.2 g1 s1 H1 ys vs d Q c1 (tops_C c1 hd ht) hd2 fun w hw => q _ _ (.refl _ _) c1 w (sca_Mo hw)
end
end MR
set_option Elab.async false
set_option linter.all false
set_option maxRecDepth 100000
namespace MR
open PySem PySem.Spec PyProof.Rows L2

section
variable {o : Om} {H0 : Hp} {W : WX} {X : Cx} {k : Nat}
/-- J walks xs, at any time that Rl allows -/
def Drw (o : Om) (J : It) (Rl : Gh → Hp → Prop) (xs : List D) : Prop := ∀ (i : Nat) (g : Gh) (H : Hp) (s : S), Rl g H → Cur o g s H →
  (i ≤ xs.length → nth xs i = none → J.stop i H) ∧ ∀ d, nth xs i = some d → J.go i H ∧ ∀ x H', J.yld i H x H' → ∃ g', Ext g H g' H' ∧ Cur o g' s H' ∧ Rep o g' d x
/-- walked through statements: what is frozen stays; walked through expressions: what stood stands -/
def RlF (g : Gh) : Gh → Hp → Prop := fun g' _ => Le g g'
def RlE (g : Gh) (H : Hp) : Gh → Hp → Prop := fun g' H' => Ext g H g' H'
def tIF (o : Om) (H0 : Hp) (W : WX) (f : Env → S → R (List D)) : TI := fun σ H R =>
  ∃ g ρ s, Cur o g s H ∧ Slots o H0 g ρ σ H ∧ Po o W σ g H (f ρ s) fun xs _ g' H' => ∀ J, Drw o J (RlF g') xs → R J H'
def tIE (o : Om) (H0 : Hp) (W : WX) (f : Env → S → R (List D)) : TI := fun σ H R =>
  ∃ g ρ s, Cur o g s H ∧ Slots o H0 g ρ σ H ∧ Po o W σ g H (f ρ s) fun xs _ g' H' => ∀ J, Drw o J (RlE g' H') xs → R J H'
theorem pi_imp {tg e : Expr} {t t' : TI} (h : PI X tg e t) (m : ∀ σ H Q, t' σ H Q → t σ H Q) : PI X tg e t' :=
  ⟨fun pins s σ H Q I q => h.run pins s σ H Q I (m σ H Q q)⟩
theorem iFE {tg e : Expr} {f : Env → S → R (List D)} (h : PI X tg e (tIF o H0 W f)) : PI X tg e (tIE o H0 W f) :=
  pi_imp h fun σ H Q ⟨g, ρ, s, c, sl, p⟩ => ⟨g, ρ, s, c, sl, p.mono fun xs s' g' H' _ _ q J d => q J fun i g2 H2 s2 r c2 => d i g2 H2 s2 (Ext.le r) c2⟩
/-- over a list or a tuple -/
def iSeq (K : PySem.W.Frag) (tl : TE) : TI := fun σ H R => tl σ H fun x H1 => ∃ a, x = .ref a ∧ (((∃ xs, SqL K H1 a xs) ∧ R (Itl K a) H1) ∨ ((∃ xs, SqT K H1 a xs) ∧ R (Itt K a) H1))
theorem pi_seqA {tg l : Expr} {tl : TE} (hl : PE X l tl) : PI X tg l (iSeq X.K tl) := by
  refine ⟨fun pins s σ H R I h => ?_⟩
  refine thn (hl.run pins s σ H _ I h) fun v s1 ⟨x, H1, I1, r1, q1⟩ => ?_
  obtain ⟨a, e, q⟩ := q1
  subst e
  cases r1
  rcases q with ⟨⟨xs, hq⟩, q⟩ | ⟨⟨xs, hq⟩, q⟩
  · obtain ⟨its, rv, p, hz⟩ := I1.list hq
    refine wpAny_pyIter_list p.isList ?_
    refine ⟨s1.heap.objs.size, [s1.heap.objs.size], _, _, H1, rfl, I1.kept (t' := s1.toks) fun b o e => Heap.get?_push_of_some _ e, turn_list a _, ⟨_, Heap.get?_push_size _ rfl, rfl, rfl⟩, fun b hb => ?_, q⟩
    have e : b = s1.heap.objs.size := by simpa using hb
    subst e
    exact I1.fpOk (Nat.le_refl _) (I1.hok.fresh (Nat.le_refl _))
  · obtain ⟨its, rv, p, hz⟩ := I1.tuple hq
    refine wpAny_pyIter_tuple (show s1.heap.IsTuple a its.toArray from p) ?_
    refine ⟨s1.heap.objs.size, [s1.heap.objs.size], _, _, H1, rfl, I1.kept (t' := s1.toks) fun b o e => Heap.get?_push_of_some _ e, turn_tuple a _, ⟨_, Heap.get?_push_size _ rfl, rfl, rfl⟩, fun b hb => ?_, q⟩
    have e : b = s1.heap.objs.size := by simpa using hb
    subst e
    exact I1.fpOk (Nat.le_refl _) (I1.hok.fresh (Nat.le_refl _))
theorem nth_none {α : Type} : ∀ {xs : List α} {i : Nat}, nth xs i = none → xs.length ≤ i
  | [], _, _ => Nat.zero_le _
  | x :: r, 0, h => by cases h
  | x :: r, i + 1, h => Nat.succ_le_succ (nth_none (xs := r) (i := i) h)
theorem Reps.get' {g : Gh} {xs : List D} {vs : List V} {i : Nat} {d : D} {v : V} (r : Reps o g xs vs) (h : nth xs i = some d) (h' : vs[i]? = some v) : Rep o g d v := by
  obtain ⟨v2, e, z⟩ := r.get h
  rw [h'] at e
  cases e
  exact z
theorem drw_list {K : PySem.W.Frag} {Rl : Gh → Hp → Prop} {a : Addr} {xs : List D} {vs : List V} (h : ∀ g H s, Rl g H → Cur o g s H → SqL K H a vs ∧ Reps o g xs vs) : Drw o (Itl K a) Rl xs := by
  intro i g H s rl c
  obtain ⟨q, r⟩ := h g H s rl c
  have l := r.length
  refine ⟨fun _ n => ⟨vs, q, by rw [l]; exact nth_none n⟩, fun d e => ?_⟩
  obtain ⟨v, hv, rv⟩ := r.get e
  refine ⟨⟨vs, v, q, hv⟩, fun x H' y => ?_⟩
  obtain ⟨rfl, y⟩ := y
  exact ⟨g, .refl _ _, c, r.get' e (y vs q)⟩
theorem drw_tup {Rl : Gh → Hp → Prop} {a : Addr} {xs : List D} {vs : List V} (h : ∀ g H s, Rl g H → Cur o g s H → SqT o.K H a vs ∧ Reps o g xs vs) : Drw o (Itt o.K a) Rl xs := by
  intro i g H s rl c
  obtain ⟨q, r⟩ := h g H s rl c
  have l := r.length
  refine ⟨fun _ n => ⟨vs, q, by rw [l]; exact nth_none n⟩, fun d e => ?_⟩
  obtain ⟨v, hv, rv⟩ := r.get e
  refine ⟨⟨vs, v, q, hv⟩, fun x H' y => ?_⟩
  obtain ⟨rfl, y⟩ := y
  exact ⟨g, .refl _ _, c, r.get' e (y vs q)⟩
theorem nth_range {lo : Int} : ∀ {n i : Nat}, (nth (rangeL lo n) i = none → n ≤ i) ∧ ∀ d, nth (rangeL lo n) i = some d → i < n ∧ d = .int (lo + i)
  | 0, _ => ⟨fun _ => Nat.zero_le _, fun d h => by cases h⟩
  | n + 1, 0 => ⟨(fun h => by cases h), fun d h => by
    have h : some (D.int lo) = some d := h
    cases h
    exact ⟨Nat.succ_pos _, by simp⟩⟩
  | n + 1, i + 1 => by
    have ih := nth_range (lo := lo + 1) (n := n) (i := i)
    refine ⟨fun h => Nat.succ_le_succ (ih.1 h), fun d h => ?_⟩
    obtain ⟨h1, h2⟩ := ih.2 d h
    refine ⟨Nat.succ_lt_succ h1, ?_⟩
    rw [h2]
    congr 1
    omega
theorem drw_range {Rl : Gh → Hp → Prop} {lo : Int} {n : Nat} : Drw o (Itr lo n) Rl (rangeL lo n) := by
  intro i g H s rl c
  refine ⟨fun _ => (nth_range (lo := lo) (n := n) (i := i)).1, fun d e => ?_⟩
  obtain ⟨h1, h2⟩ := (nth_range (lo := lo) (n := n) (i := i)).2 d e
  refine ⟨h1, fun x H' y => ?_⟩
  obtain ⟨rfl, rfl⟩ := y
  subst h2
  exact ⟨g, .refl _ _, c, by simp only [Rep]⟩
/-- a value that is frozen, walked -/
theorem x_iF {tg e : Expr} {f : Env → S → R D} (hK : X.K = o.K) (he : PE X e (tE o H0 W .F f)) : PI X tg e (tIF o H0 W (iVal f)) := by
  refine pi_imp (pi_seqA he) fun σ H Q ⟨g, ρ, s, c, sl, p⟩ => ?_
  refine tE_mono (one (ma := .F) c sl p) fun v H1 ⟨x, g1, s1, c1, sl1, e1, hx, q⟩ => ?_
  obtain ⟨xs, hxs, q2⟩ := Po.of q c1
  clear q
  have hx : Rep o g1 x v := hx
  cases x with
  | tup ys =>
    cases hxs
    simp only [Rep] at hx
    obtain ⟨a, vs, rfl, qt, r⟩ := hx
    refine ⟨a, rfl, .inr ⟨⟨vs, by rw [hK]; exact SqT.le c1.fz qt⟩, ?_⟩⟩
    rw [hK]
    exact q2 _ (drw_tup fun g' H' s' l c' => ⟨SqT.le c'.fz (SqT.le l.fz qt), Reps.le l r⟩)
  | lst ys =>
    cases hxs
    simp only [Rep] at hx
    obtain ⟨a, vs, rfl, qt, r⟩ := hx
    refine ⟨a, rfl, .inl ⟨⟨vs, .inl (Rd.le c1.fz qt)⟩, ?_⟩⟩
    exact q2 _ (drw_list fun g' H' s' l c' => ⟨.inl (Rd.le c'.fz (Rd.le l.fz qt)), Reps.le l r⟩)
  | scr ys =>
    cases hxs
    simp only [Rep] at hx
    obtain ⟨a, vs, rfl, qt, r⟩ := hx
    refine ⟨a, rfl, .inl ⟨⟨vs, by rw [hK]; exact SqL.le c1.fz qt⟩, ?_⟩⟩
    rw [hK]
    exact q2 _ (drw_list fun g' H' s' l c' => ⟨SqL.le c'.fz (SqL.le l.fz qt), Reps.le l r⟩)
  | _ => cases hxs
/-- a value that stands now, walked by a comprehension -/
theorem x_iE {tg e : Expr} {f : Env → S → R D} {md : Md} (hm : md ≠ .H) (hK : X.K = o.K) (he : PE X e (tE o H0 W md f)) : PI X tg e (tIE o H0 W (iVal f)) := by
  refine pi_imp (pi_seqA he) fun σ H Q ⟨g, ρ, s, c, sl, p⟩ => ?_
  refine tE_mono (one (ma := md) c sl p) fun v H1 ⟨x, g1, s1, c1, sl1, e1, hx, q⟩ => ?_
  obtain ⟨xs, hxs, q2⟩ := Po.of q c1
  clear q
  have hx : RepT o g1 H1 x v := Mo.toT c1 hm hx
  cases x with
  | tup ys =>
    cases hxs
    have hx : Rep o g1 (.tup xs) v := hx.1
    simp only [Rep] at hx
    obtain ⟨a, vs, rfl, qt, r⟩ := hx
    refine ⟨a, rfl, .inr ⟨⟨vs, by rw [hK]; exact SqT.le c1.fz qt⟩, ?_⟩⟩
    rw [hK]
    exact q2 _ (drw_tup fun g' H' s' l c' => ⟨SqT.le c'.fz (SqT.le (Ext.le l).fz qt), Reps.le (Ext.le l) r⟩)
  | lst ys =>
    cases hxs
    obtain ⟨a, vs, ea, qt, r⟩ := hx.1
    subst ea
    refine ⟨a, rfl, .inl ⟨⟨vs, .inl qt⟩, ?_⟩⟩
    refine q2 _ (drw_list (vs := vs) fun g' H' s' l c' => ?_)
    have l : Ext g1 H1 g' H' := l
    refine ⟨?_, Reps.le l.le r⟩
    have m := hx.2 rfl a rfl
    have nc : ∀ u, H1 a = some u → a ∉ g'.cl := fun u e z => by
      have := l.ncl a z m
      rw [e] at this
      cases this
    rcases qt with qt | ⟨w, qt⟩
    · exact .inl (.inl (l.old a _ qt (fun ps z => by cases z) (nc _ qt)))
    · exact .inl (.inr ⟨w, l.old a _ qt (fun ps z => by cases z) (nc _ qt)⟩)
  | scr ys =>
    cases hxs
    have hx : Rep o g1 (.scr xs) v := hx.1
    simp only [Rep] at hx
    obtain ⟨a, vs, rfl, qt, r⟩ := hx
    refine ⟨a, rfl, .inl ⟨⟨vs, by rw [hK]; exact SqL.le c1.fz qt⟩, ?_⟩⟩
    rw [hK]
    exact q2 _ (drw_list fun g' H' s' l c' => ⟨SqL.le c'.fz (SqL.le (Ext.le l).fz qt), Reps.le (Ext.le l) r⟩)
  | _ => cases hxs
theorem inBig_of {i : Int} (h : inBig i = true) : -(2 ^ 62) ≤ i ∧ i < 2 ^ 62 := by
  have h := Nat.le_of_ble_eq_true h
  omega
def lNil (_ : Env) (s : S) : R (List D) := .ok [] s
theorem x_range1 {tg a : Expr} {f : Env → S → R D} {md : Md} {p pos : Pos} (hg : Gl X "range") (hm : X.mg "range" = none) (ha : PE X a (tE o H0 W md f)) (hs : isStar a = false) : PI X tg (.Call (.Name "range" p) [a] [] pos) (tIF o H0 W (iRng (lCons (evl1 f) lNil))) := by
  refine pi_imp (pi_range1 hg hm (pa_cons ha pa_nil (star_no hs)) (by rw [star_no hs]; rfl)) fun σ H Q ⟨g, ρ, s, c, sl, p⟩ => ?_
  have p : Po o W σ g H ((f ρ s).bind fun x s => R.of (rngOf [x]) s) fun xs _ g' H' => ∀ J, Drw o J (RlF g') xs → Q J H' := by
    have e : iRng (lCons (evl1 f) lNil) ρ s = ((f ρ s).bind fun x s => R.of (rngOf [x]) s) := by
      unfold iRng lCons evl1
      cases f ρ s <;> rfl
    rw [e] at p
    exact p
  refine tE_mono (one (ma := md) c sl p) fun v H1 ⟨x, g1, s1, c1, sl1, e1, hx, q⟩ => ?_
  obtain ⟨xs, hxs, q2⟩ := Po.of q c1
  clear q
  cases x with
  | int j =>
    obtain rfl := hx.of_int
    simp only [rngOf] at hxs
    split at hxs
    · rename_i hb
      cases hxs
      obtain ⟨h1, h2⟩ := inBig_of hb
      exact ⟨j, rfl, h1, h2, q2 _ drw_range⟩
    · cases hxs
  | _ => cases hxs
theorem x_range2 {tg a b : Expr} {f f2 : Env → S → R D} {md md2 : Md} {p pos : Pos} (hg : Gl X "range") (hm : X.mg "range" = none) (ha : PE X a (tE o H0 W md f)) (hb : PE X b (tE o H0 W md2 f2)) (hs : isStar a = false) (hs2 : isStar b = false) :
    PI X tg (.Call (.Name "range" p) [a, b] [] pos) (tIF o H0 W (iRng (lCons (evl1 f) (lCons (evl1 f2) lNil)))) := by
  refine pi_imp (pi_range2 hg hm (pa_cons ha (pa_cons hb pa_nil (star_no hs2)) (star_no hs)) (by rw [star_no hs, star_no hs2]; rfl) (by rw [star_no hs2]; rfl)) fun σ H Q ⟨g, ρ, s, c, sl, p⟩ => ?_
  have p : Po o W σ g H ((f ρ s).bind fun x s => (f2 ρ s).bind fun y s => R.of (rngOf [x, y]) s) fun xs _ g' H' => ∀ J, Drw o J (RlF g') xs → Q J H' := by
    have e : iRng (lCons (evl1 f) (lCons (evl1 f2) lNil)) ρ s = ((f ρ s).bind fun x s => (f2 ρ s).bind fun y s => R.of (rngOf [x, y]) s) := by
      unfold iRng lCons evl1
      cases f ρ s with
      | no => rfl
      | ex _ _ _ => rfl
      | ok x s1 =>
        simp only [R.bind]
        cases f2 ρ s1 <;> rfl
    rw [e] at p
    exact p
  refine tE_mono (two (ma := md) (mb := md2) c sl p) fun v H1 h1 => tE_mono h1 fun u H2 h2 => ?_
  obtain ⟨x, y, g2, s2, c2, _, e2, hx, hy, q⟩ := h2
  obtain ⟨xs, hxs, q2⟩ := Po.of q c2
  clear q
  cases x with
  | int i =>
    cases y with
    | int j =>
      obtain rfl := hx.of_int
      obtain rfl := hy.of_int
      simp only [rngOf] at hxs
      split at hxs
      · rename_i hb
        cases hxs
        simp only [Bool.and_eq_true] at hb
        obtain ⟨h1, h2⟩ := inBig_of hb.1
        obtain ⟨h3, h4⟩ := inBig_of hb.2
        exact ⟨i, j, rfl, ⟨h1, h2, h3, h4⟩, q2 _ drw_range⟩
      · cases hxs
    | _ => cases hxs
  | _ => cases hxs
/-- list(range(..)) -/
theorem rg_rep {g : Gh} (a b : Int) : Reps o g (rangeL a (b - a).toNat) (rgV a b) := by
  have key : ∀ (n : Nat) (a : Int), Reps o g (rangeL a n) ((List.range n).map fun i => V.int (a + (i : Nat))) := by
    intro n
    induction n with
    | zero => intro a; exact .nil
    | succ n ih =>
      intro a
      rw [List.range_succ_eq_map, List.map_cons, List.map_map]
      refine .cons (by simp only [Rep]; simp) ?_
      have e : ((fun i : Nat => V.int (a + (i : Nat))) ∘ Nat.succ) = fun i : Nat => V.int ((a + 1) + (i : Nat)) := by
        funext i
        show V.int (a + ((i + 1 : Nat) : Int)) = V.int (a + 1 + (i : Nat))
        congr 1
        omega
      rw [e]
      exact ih (a + 1)
  exact key _ a
theorem x_liV {e : Expr} {f : Env → S → R D} {md : Md} {p pos : Pos} (hK : X.K = o.K) (hm : md ≠ .H) (hg : Gl X "list") (hmg : X.mg "list" = none) (he : PE X e (tE o H0 W md f)) (hs : isStar e = false) :
    PE X (.Call (.Name "list" p) [e] [] pos) (tE o H0 W .O (vLi (iVal f))) := by
  refine pe_imp (pe_callTy call_list_of hg hmg (by decide +kernel) (pa_cons he pa_nil (star_no hs)) (by decide) (by decide) (star_no hs) rfl) fun σ H Q ⟨g, ρ, s, c, sl, p⟩ => ?_
  have p : Po o W σ g H ((f ρ s).bind fun x s => (R.of (items x) s).bind fun xs s => if xs.length ≤ lim then .ok (.lst xs) s else .no) fun d _ g' H' => ∀ v, Mo o H .O g' H' d v → Q v H' := by
    have e : vLi (iVal f) ρ s = ((f ρ s).bind fun x s => (R.of (items x) s).bind fun xs s => if xs.length ≤ lim then .ok (.lst xs) s else .no) := by
      unfold vLi iVal
      cases f ρ s <;> rfl
    rw [e] at p
    exact p
  refine tE_mono (one (ma := md) c sl p) fun v H1 ⟨x, g1, s1, c1, sl1, e1, hx, q⟩ => ?_
  obtain ⟨xs, hxs, q⟩ := Po.of (Po.bind q) c1
  obtain ⟨a, vs, rfl, hq, r⟩ := items_of c1 (Mo.toT c1 hm hx).1 hxs
  refine ⟨a, vs, rfl, by rw [hK]; exact hq.symm, fun p hp => ?_⟩
  split at q
  · obtain ⟨e4, c4, m⟩ := Mo.newL c1 hp (e1.new hp) r
    exact q _ _ e4 c4 _ m
  · exact q.elim
theorem x_tiV {e : Expr} {f : Env → S → R D} {md : Md} {p pos : Pos} (hK : X.K = o.K) (hm : md ≠ .H) (hg : Gl X "tuple") (hmg : X.mg "tuple" = none) (he : PE X e (tE o H0 W md f)) (hs : isStar e = false) :
    PE X (.Call (.Name "tuple" p) [e] [] pos) (tE o H0 W .O (vTi (iVal f))) := by
  refine pe_imp (pe_tupleOf hg hmg he (star_no hs)) fun σ H Q ⟨g, ρ, s, c, sl, p⟩ => ?_
  have p : Po o W σ g H ((f ρ s).bind fun x s => (R.of (items x) s).bind fun xs s => if xs.length ≤ lim then .ok (.tup xs) s else .no) fun d _ g' H' => ∀ v, Mo o H .O g' H' d v → Q v H' := by
    have e : vTi (iVal f) ρ s = ((f ρ s).bind fun x s => (R.of (items x) s).bind fun xs s => if xs.length ≤ lim then .ok (.tup xs) s else .no) := by
      unfold vTi iVal
      cases f ρ s <;> rfl
    rw [e] at p
    exact p
  refine tE_mono (one (ma := md) c sl p) fun v H1 ⟨x, g1, s1, c1, sl1, e1, hx, q⟩ => ?_
  obtain ⟨xs, hxs, q2⟩ := Po.of (Po.bind q) c1
  clear q
  have hx := (Mo.toT c1 hm hx).1
  cases x with
  | tup ys =>
    cases hxs
    obtain ⟨a, vs, rfl, qt, r, rT⟩ := repC_tup c1 hx
    refine .inr ⟨a, vs, rfl, by rw [hK]; exact qt, ?_⟩
    split at q2
    · exact q2 _ _ (.refl _ _) c1 _ (Mo.O_of rfl rT)
    · exact q2.elim
  | lst ys =>
    cases hxs
    obtain ⟨a, vs, rfl, qt, r⟩ := hx
    refine .inl ⟨a, vs, rfl, .inl qt, fun p hp => ?_⟩
    split at q2
    · obtain ⟨e2, c2, r2⟩ := newT c1 hp r
      exact q2 _ _ e2 c2 _ (Mo.O_of rfl r2)
    · exact q2.elim
  | scr ys =>
    cases hxs
    have hx : Rep o g1 (.scr xs) v := hx
    simp only [Rep] at hx
    obtain ⟨a, vs, rfl, qt, r⟩ := hx
    refine .inl ⟨a, vs, rfl, by rw [hK]; exact SqL.le c1.fz qt, fun p hp => ?_⟩
    split at q2
    · obtain ⟨e2, c2, r2⟩ := newT c1 hp r
      exact q2 _ _ e2 c2 _ (Mo.O_of rfl r2)
    · exact q2.elim
  | _ => cases hxs
theorem x_liR1 {a : Expr} {f : Env → S → R D} {md : Md} {p pos p1 pos1 : Pos} (hc : X.calm = true) (hg : Gl X "list") (hmg : X.mg "list" = none) (hgr : Gl X "range") (hmr : X.mg "range" = none) (he : PE X a (tE o H0 W md f)) (hs : isStar a = false) :
    PE X (.Call (.Name "list" p) [.Call (.Name "range" p1) [a] [] pos1] [] pos) (tE o H0 W .O (vLi (iRng (lCons (evl1 f) lNil)))) := by
  refine pe_imp (pe_listRg hc hg hmg (prg_1 hgr hmr he (star_no hs)) rfl) fun σ H Q ⟨g, ρ, s, c, sl, p⟩ => ?_
  have p : Po o W σ g H ((f ρ s).bind fun x s => (R.of (rngOf [x]) s).bind fun xs s => if xs.length ≤ lim then .ok (.lst xs) s else .no) fun d _ g' H' => ∀ v, Mo o H .O g' H' d v → Q v H' := by
    have e : vLi (iRng (lCons (evl1 f) lNil)) ρ s = ((f ρ s).bind fun x s => (R.of (rngOf [x]) s).bind fun xs s => if xs.length ≤ lim then .ok (.lst xs) s else .no) := by
      unfold vLi iRng lCons evl1
      cases f ρ s <;> rfl
    rw [e] at p
    exact p
  refine tE_mono (one (ma := md) c sl p) fun v H1 ⟨x, g1, s1, c1, sl1, e1, hx, q⟩ => ?_
  obtain ⟨xs, hxs, q2⟩ := Po.of (Po.bind q) c1
  clear q
  cases x with
  | int j =>
    obtain rfl := hx.of_int
    simp only [rngOf] at hxs
    split at hxs
    · rename_i hb
      cases hxs
      obtain ⟨h1, h2⟩ := inBig_of hb
      split at q2
      · rename_i hl
        have r := rg_rep (o := o) (g := g1) 0 j
        have e0 : j - 0 = j := by omega
        have lr : (rangeL 0 j.toNat).length = j.toNat := by
          have := r.length
          rw [rgV_length, e0] at this
          exact this.symm
        rw [lr] at hl
        have hl : j.toNat ≤ 2 ^ 24 := Nat.le_trans hl (by decide)
        refine ⟨j, rfl, ⟨by omega, by omega, h1, h2, by rw [e0]; exact hl⟩, fun p hp => ?_⟩
        rw [e0] at r
        obtain ⟨e4, c4, m⟩ := Mo.newL c1 hp (e1.new hp) r
        exact q2 _ _ e4 c4 _ m
      · exact q2.elim
    · cases hxs
  | _ => cases hxs
end
end MR
set_option Elab.async false
set_option linter.all false
set_option maxRecDepth 100000
namespace MR
open PySem PySem.Spec PyProof.Rows L2

section
variable {o : Om} {H0 : Hp} {W : WX} {X : Cx} {k : Nat}
theorem rd_wr : ∀ (ρ : Env) (i j : Nat) (y : Sl), rd (wr ρ i y) j = if i = j ∧ i < ρ.length then y else rd ρ j
  | [], i, j, y => by simp [wr, rd]
  | x :: r, 0, 0, y => by simp [wr, rd]
  | x :: r, 0, j + 1, y => by simp [wr, rd]
  | x :: r, i + 1, 0, y => by simp [wr, rd]
  | x :: r, i + 1, j + 1, y => by
    simp only [wr, rd, rd_wr r i j y, List.length_cons]
    by_cases h : i = j ∧ i < r.length
    · rw [if_pos h, if_pos ⟨by omega, by omega⟩]
    · rw [if_neg h, if_neg (by omega)]
theorem wr_len : ∀ (ρ : Env) (i : Nat) (y : Sl), (wr ρ i y).length = ρ.length
  | [], _, _ => rfl
  | x :: r, 0, y => rfl
  | x :: r, i + 1, y => by simp only [wr, List.length_cons, wr_len r i y]
theorem set_get {σ : L2.St} {i j : Nat} {v : Option V} (h : i < σ.length) : (σ.set i v)[j]? = if i = j then some v else σ[j]? := by
  rw [List.getElem?_set]
  by_cases e : i = j
  · rw [if_pos e, if_pos e, if_pos (by omega)]
  · rw [if_neg e, if_neg e]
/-- a frozen value is stored -/
theorem Slots.fzd {g : Gh} {ρ : Env} {σ : L2.St} {H : Hp} (x : Slots o H0 g ρ σ H) {d : D} {v : V} (r : Rep o g d v) (i : Nat) : Slots o H0 g (wr ρ i (.fz d)) (σ.set i (some v)) H := by
  by_cases hi : i < ρ.length
  · have hs : i < σ.length := by rw [← x.len]; exact hi
    have f : ∀ j, rd (wr ρ i (.fz d)) j = if i = j then .fz d else rd ρ j := fun j => by
      rw [rd_wr]
      by_cases e : i = j
      · rw [if_pos ⟨e, hi⟩, if_pos e]
      · rw [if_neg (fun z => e z.1), if_neg e]
    refine ⟨by rw [wr_len, List.length_set]; exact x.len, fun j d' h => ?_, fun j d' h => ?_, fun j l d1 d2 a n h1 h2 e1 => ?_⟩
    · rw [f j] at h
      rw [set_get hs]
      by_cases e : i = j
      · rw [if_pos e] at h ⊢
        cases h
        exact ⟨v, rfl, r⟩
      · rw [if_neg e] at h ⊢
        exact x.fz j d' h
    · rw [f j] at h
      rw [set_get hs]
      by_cases e : i = j
      · rw [if_pos e] at h
        cases h
      · rw [if_neg e] at h ⊢
        exact x.ow j d' h
    · rw [f j] at h1
      rw [f l] at h2
      rw [set_get hs] at e1 ⊢
      by_cases e : i = j
      · rw [if_pos e] at h1
        cases h1
      · by_cases e' : i = l
        · rw [if_pos e'] at h2
          cases h2
        · rw [if_neg e] at h1 e1
          rw [if_neg e'] at h2 ⊢
          exact x.ap j l d1 d2 a n h1 h2 e1
  · have e1 : wr ρ i (.fz d) = ρ := by
      have key : ∀ (ρ : Env) (i : Nat), ¬ i < ρ.length → ∀ y, wr ρ i y = ρ := by
        intro ρ
        induction ρ with
        | nil => intro i _ y; rfl
        | cons x r ih =>
          intro i h y
          cases i with
          | zero => exact absurd (Nat.succ_pos _) h
          | succ i => simp only [wr]; rw [ih i (fun z => h (Nat.succ_lt_succ z)) y]
      exact key ρ i hi _
    rw [e1, List.set_eq_of_length_le (by rw [← x.len]; omega)]
    exact x
/-- slots forgotten -/
theorem Slots.unset {g : Gh} {ρ : Env} {σ : L2.St} {H : Hp} (x : Slots o H0 g ρ σ H) (i : Nat) : Slots o H0 g (wr ρ i .un) (σ.set i none) H := by
  have f : ∀ j y, rd (wr ρ i .un) j = y → y ≠ .un → rd ρ j = y ∧ i ≠ j := fun j y h n => by
    rw [rd_wr] at h
    by_cases e : i = j ∧ i < ρ.length
    · rw [if_pos e] at h
      exact absurd h.symm n
    · rw [if_neg e] at h
      refine ⟨h, fun z => ?_⟩
      subst z
      have hl : ¬ i < ρ.length := fun z => e ⟨rfl, z⟩
      have key : ∀ (ρ : Env) (i : Nat), ¬ i < ρ.length → rd ρ i = .un := by
        intro ρ
        induction ρ with
        | nil => intro i _; rfl
        | cons x r ih =>
          intro i h
          cases i with
          | zero => exact absurd (Nat.succ_pos _) h
          | succ i => exact ih i (fun z => h (Nat.succ_lt_succ z))
      rw [key ρ i hl] at h
      exact n h.symm
  refine ⟨by rw [wr_len, List.length_set]; exact x.len, fun j d' h => ?_, fun j d' h => ?_, fun j l d1 d2 a n h1 h2 e1 => ?_⟩
  · obtain ⟨h1, h2⟩ := f j _ h (fun z => by cases z)
    rw [List.getElem?_set_ne h2]
    exact x.fz j d' h1
  · obtain ⟨h1, h2⟩ := f j _ h (fun z => by cases z)
    rw [List.getElem?_set_ne h2]
    exact x.ow j d' h1
  · obtain ⟨h1, n1⟩ := f j _ h1 (fun z => by cases z)
    obtain ⟨h2, n2⟩ := f l _ h2 (fun z => by cases z)
    rw [List.getElem?_set_ne n1] at e1
    rw [List.getElem?_set_ne n2]
    exact x.ap j l d1 d2 a n h1 h2 e1
theorem Slots.wiped {g : Gh} {ρ : Env} {σ : L2.St} {H : Hp} (x : Slots o H0 g ρ σ H) : ∀ vs : List Nat, Slots o H0 g (wipe ρ vs) (L2.wipe σ vs) H
  | [] => x
  | v :: vs => (x.wiped vs).unset v
/-- the slots of a target -/
def tgs : E → List Nat
  | .tg i => [i]
  | .tt es => tgs es
  | .cn h t => tgs h ++ tgs t
  | _ => []
theorem wipe_get (σ : L2.St) (j : Nat) : ∀ vs : List Nat, (L2.wipe σ vs)[j]? = if j ∈ vs then (if j < σ.length then some none else none) else σ[j]?
  | [] => by simp [L2.wipe]
  | v :: vs => by
    unfold L2.wipe
    rw [List.getElem?_set, wipe_get σ j vs, wipe_length]
    by_cases e : v = j
    · subst e
      rw [if_pos rfl, if_pos List.mem_cons_self]
    · rw [if_neg e]
      by_cases m : j ∈ vs
      · rw [if_pos m, if_pos (List.mem_cons_of_mem _ m)]
      · rw [if_neg m, if_neg (by simp only [List.mem_cons, not_or]; exact ⟨fun z => e z.symm, m⟩)]
theorem wipe_set {σ : L2.St} {vs : List Nat} {i : Nat} {v : Option V} (m : i ∈ vs) : L2.wipe (σ.set i v) vs = L2.wipe σ vs := by
  apply List.ext_getElem?
  intro j
  rw [wipe_get, wipe_get, List.length_set]
  by_cases h : j ∈ vs
  · rw [if_pos h, if_pos h]
  · rw [if_neg h, if_neg h, List.getElem?_set_ne (fun z => h (by rw [← z]; exact m))]
theorem wipe_wipe (σ : L2.St) (vs : List Nat) : L2.wipe (L2.wipe σ vs) vs = L2.wipe σ vs := by
  apply List.ext_getElem?
  intro j
  rw [wipe_get, wipe_length, wipe_get]
  by_cases h : j ∈ vs
  · rw [if_pos h, if_pos h]
  · rw [if_neg h, if_neg h]
def gT (o : Om) (H0 : Hp) (t : E) : TG := fun v σ H Q => ∃ g ρ s d ρ', Cur o g s H ∧ Slots o H0 g ρ σ H ∧ Rep o g d v ∧ bind1 t d ρ = some ρ' ∧
  ∀ σ', Slots o H0 g ρ' σ' H → (∀ vs, (∀ i ∈ tgs t, i ∈ vs) → L2.wipe σ' vs = L2.wipe σ vs) → Q σ' H
def gTs (o : Om) (H0 : Hp) (t : E) : TGs := fun vs σ H Q => ∃ g ρ s ds ρ', Cur o g s H ∧ Slots o H0 g ρ σ H ∧ Reps o g ds vs ∧ bind1 t (.tup ds) ρ = some ρ' ∧
  ∀ σ', Slots o H0 g ρ' σ' H → (∀ vs, (∀ i ∈ tgs t, i ∈ vs) → L2.wipe σ' vs = L2.wipe σ vs) → Q σ' H
theorem pg_imp {t : Expr} {a b : TG} (h : PG X t a) (m : ∀ v σ H Q, b v σ H Q → a v σ H Q) : PG X t b :=
  ⟨fun pins s σ H v u Q I r q => h.run pins s σ H v u Q I r (m v σ H Q q)⟩
theorem pgs_imp {t : List Expr} {a b : TGs} (h : PGs X t a) (m : ∀ v σ H Q, b v σ H Q → a v σ H Q) : PGs X t b :=
  ⟨fun pins s σ H v u Q I r q => h.run pins s σ H v u Q I r (m v σ H Q q)⟩
theorem x_tg {i : Nat} {x : Str} {pos : Pos} (hN : X.N.Nodup) (hi : X.N[i]? = some x) (hx : Loc X.env.scope x) (hf : X.fn x = true ∨ X.env.scope.names.lookup x = some .local) : PG X (.Name x pos) (gT o H0 (.tg i)) :=
  pg_imp (pg_name hN hi hx hf) fun v σ H Q ⟨g, ρ, s, d, ρ', c, sl, r, e, q⟩ => by
    cases e
    exact q _ (sl.fzd r i) fun vs m => wipe_set (m i (by simp [tgs]))
theorem x_tnil : PGs X [] (gTs o H0 .nl) :=
  pgs_imp pgs_nil fun v σ H Q ⟨g, ρ, s, ds, ρ', c, sl, r, e, q⟩ => by
    cases ds with
    | nil =>
      cases e
      exact ⟨r.of_nil, q _ sl fun _ _ => rfl⟩
    | cons d ds => cases e
theorem assign_no {e : Expr} {es : List Expr} {env : PySem.Env} (h : isStar e = false) : assignEach (e :: es) env = (false, assign e env) :: assignEach es env := by
  cases e <;> first | rfl | cases h
theorem x_tcons {e : Expr} {es : List Expr} {h t : E} (h1 : PG X e (gT o H0 h)) (h2 : PGs X es (gTs o H0 t)) (hs : isStar e = false) : PGs X (e :: es) (gTs o H0 (.cn h t)) := by
  refine pgs_imp (pgs_cons h1 h2 (by rw [assign_no hs]; rfl)) fun vs σ H Q ⟨g, ρ, s, ds, ρ', c, sl, r, eb, q⟩ => ?_
  cases ds with
  | nil => simp [bind1] at eb
  | cons d ds =>
    obtain ⟨v, us, rfl, a, b⟩ := r.of_cons
    simp only [bind1] at eb
    split at eb
    · rename_i ρ1 e1
      refine ⟨v, us, rfl, g, ρ, s, d, ρ1, c, sl, a, e1, fun σ1 sl1 w1 => ?_⟩
      refine ⟨g, ρ1, s, ds, ρ', c, sl1, b, eb, fun σ2 sl2 w2 => q _ sl2 fun vs m => ?_⟩
      rw [w2 vs fun i hi => m i (by simp only [tgs, List.mem_append]; exact .inr hi)]
      exact w1 vs fun i hi => m i (by simp only [tgs, List.mem_append]; exact .inl hi)
    · cases eb
theorem star_assign {env : PySem.Env} : ∀ {es : List Expr}, (es.all fun e => !isStar e) = true → (assignEach es env).length = es.length ∧ (assignEach es env).findIdx? (·.1) = none
  | [], _ => ⟨rfl, rfl⟩
  | e :: es, h => by
    simp only [List.all_cons, Bool.and_eq_true, Bool.not_eq_true'] at h
    obtain ⟨h1, h2⟩ := star_assign (env := env) (es := es) h.2
    rw [assign_no h.1]
    refine ⟨by simp only [List.length_cons, h1], ?_⟩
    rw [List.findIdx?_cons]
    simp [h2]
def elen : E → Nat
  | .cn _ t => elen t + 1
  | _ => 0
def isL : E → Bool
  | .nl => true
  | .cn _ t => isL t
  | _ => false
theorem bind_len : ∀ {t : E} {ds : List D} {ρ ρ' : Env}, isL t = true → bind1 t (.tup ds) ρ = some ρ' → ds.length = elen t
  | .nl, ds, ρ, ρ', _, h => by
    cases ds with
    | nil => rfl
    | cons d ds => simp [bind1] at h
  | .cn a b, ds, ρ, ρ', l, h => by
    cases ds with
    | nil => simp [bind1] at h
    | cons d ds =>
      simp only [bind1] at h
      split at h
      · simp only [List.length_cons, elen]
        rw [bind_len (t := b) l h]
      · cases h
theorem x_tt {es : List Expr} {t : E} {k : Nat} {pos : Pos} (hK : X.K = o.K) (hc : X.calm = true) (h : PGs X es (gTs o H0 t)) (hl : isL t = true) (he : es.length = elen t) (hs : (es.all fun e => !isStar e) = true) : PG X (.Tuple es k pos) (gT o H0 (.tt t)) := by
  obtain ⟨h1, h2⟩ := star_assign (env := X.env) hs
  refine pg_imp (pg_tup hc h h1 h2) fun v σ H Q ⟨g, ρ, s, d, ρ', c, sl, r, e, q⟩ => ?_
  cases d with
  | tup xs =>
    simp only [Rep] at r
    obtain ⟨a, vs, rfl, qt, r⟩ := r
    have e : bind1 t (.tup xs) ρ = some ρ' := by simpa only [bind1] using e
    refine ⟨a, vs, rfl, by rw [hK]; exact SqT.le c.fz qt, by rw [r.length, bind_len hl e, he], g, ρ, s, xs, ρ', c, sl, r, e, q⟩
  | _ => simp [bind1] at e
theorem tabs_upd {T : List (Addr × Str)} {H : Hp} {a : Addr} {u u' : HO} (t : LamX.Tabs T H) (h : H a = some u) (n1 : ∀ ps, u ≠ .tbl ps) (n2 : ∀ f, u ≠ .ext f) : LamX.Tabs T (upd H a u') := fun p hp => by
  obtain ⟨ps, h1, h2, h3⟩ := t p hp
  have ne : p.1 ≠ a := fun z => by
    rw [z, h] at h1
    exact n1 ps (Option.some.inj h1)
  refine ⟨ps, by rw [upd_ne ne]; exact h1, h2, fun pos cv hc => ?_⟩
  obtain ⟨c, e1, e2⟩ := h3 pos cv hc
  have ne2 : c ≠ a := fun z => by
    rw [z, h] at e2
    exact n2 _ (Option.some.inj e2)
  exact ⟨c, e1, by rw [upd_ne ne2]; exact e2⟩
theorem cur_upd {g : Gh} {s : S} {H : Hp} (c : Cur o g s H) {a : Addr} {u u' : HO} (h : H a = some u) (n1 : ∀ ps, u ≠ .tbl ps) (n2 : ∀ f, u ≠ .ext f) (nf : g.Fz a = none) (nc : a ∉ g.cl) : Cur o g s (upd H a u') := by
  refine ⟨fun b v e => ?_, c.fzt, fun k b e => ?_, c.len, c.cnd, tabs_upd c.tab h n1 n2⟩
  · have ne : b ≠ a := fun z => by rw [z, nf] at e; cases e
    rw [upd_ne ne]
    exact c.fz b v e
  · obtain ⟨d, q1, w, nn⟩ := c.cel k b e
    have ne : b ≠ a := fun z => nc (by rw [← z]; exact mem_nth e)
    exact ⟨d, q1, Own.le (.refl g) (upd_ne ne) w, nn⟩
theorem ext_upd {g g' : Gh} {H H' : Hp} (e : Ext g H g' H') {a : Addr} {u' : HO} (h : H a = none) : Ext g H g' (upd H' a u') :=
  ⟨e.le, e.fzs, fun b u q n m => by
    rw [upd_ne (fun z => by rw [z, h] at q; cases q)]
    exact e.old b u q n m, e.ncl, fun b n => by
    by_cases z : b = a
    · rw [z, upd_same]; simp
    · rw [upd_ne z]; exact e.still b n⟩
theorem Po.calm {α β : Type} {W' : WX} {σ σ' : L2.St} {g g' : Gh} {H H' : Hp} {r : R α} {f : α → S → R β} {k : β → S → Gh → Hp → Prop} (h : Po o W σ g H (r.calm.bind f) k) : Po o W' σ' g' H' r fun a s _ _ => Po o W σ g H (f a s) k := by
  cases r with
  | no => exact h.elim
  | ex c xs s => exact h.elim
  | ok a s => exact fun _ _ _ _ => h
theorem R.assoc {α β γ : Type} (r : R α) (f : α → S → R β) (h : β → S → R γ) : (r.bind f).bind h = r.bind fun a s => (f a s).bind h := by
  cases r <;> rfl
def Wn : WX := fun _ _ _ _ => False
/-- the new list, as it stands -/
def AccAt (o : Om) (g : Gh) (H : Hp) (D : Addr) (acc : List MR.D) : Prop := ∃ vs, H D = some (.lst vs) ∧ Reps o g acc vs ∧ g.Fz D = none ∧ D ∉ g.cl
theorem AccAt.ext {g g' : Gh} {H H' : Hp} {D : Addr} {acc : List MR.D} (h : AccAt o g H D acc) (e : Ext g H g' H') : AccAt o g' H' D acc := by
  obtain ⟨vs, h1, h2, h3, h4⟩ := h
  have nc : D ∉ g'.cl := fun z => by
    have := e.ncl D z h4
    rw [h1] at this
    cases this
  exact ⟨vs, e.old D _ h1 (fun ps z => by cases z) nc, Reps.le e.le h2, (e.fzs D (by rw [h1]; simp)).trans h3, nc⟩
theorem AccAt.add {g : Gh} {s : S} {H : Hp} {D : Addr} {acc : List MR.D} {y : MR.D} {v : V} (c : Cur o g s H) (h : AccAt o g H D acc) (r : Rep o g y v) : ∃ vs, H D = some (.lst vs) ∧ vs.length = acc.length ∧ AccAt o g (upd H D (.lst (vs ++ [v]))) D (acc ++ [y]) ∧ Cur o g s (upd H D (.lst (vs ++ [v]))) := by
  obtain ⟨vs, h1, h2, h3, h4⟩ := h
  exact ⟨vs, h1, h2.length, ⟨_, upd_same, h2.append (.cons r .nil), h3, h4⟩, cur_upd c h1 (fun ps z => by cases z) (fun ps z => by cases z) h3 h4⟩
theorem drop_nth {α : Type} : ∀ {xs : List α} {i : Nat}, (nth xs i = none → xs.drop i = []) ∧ ∀ x, nth xs i = some x → xs.drop i = x :: xs.drop (i + 1)
  | [], i => ⟨fun _ => by simp, fun x h => by simp [nth] at h⟩
  | y :: r, 0 => ⟨fun h => by simp [nth] at h, fun x h => by simp only [nth, Option.some.injEq] at h; subst h; rfl⟩
  | y :: r, i + 1 => by
    have := drop_nth (xs := r) (i := i)
    exact this
theorem lc_sem {vs : List Nat} {fi : Env → S → R (List D)} {t : E} {ft : Env → S → R Bool} {fe : Env → S → R D} (hv : ∀ i ∈ tgs t, i ∈ vs) {σ : L2.St} {H : Hp} {Q : VK} (h : tE o H0 W .O (vLc t fi ft fe vs) σ H Q) : tLc (tIE o H0 W fi) (gT o H0 t) (tT o H0 Wn ft) (tE o H0 Wn .F fe) vs σ H Q := by
  obtain ⟨g, ρ, s, c, sl, p⟩ := h
  refine ⟨g, ρ, s, c, sl, Po.bind p |>.mono fun xs s1 g1 H1 e1 c1 q J dr D hD => ?_⟩
  clear p
  have sl1 := sl.ext e1
  have nD : H D = none := e1.new hD
  generalize hst : lcStep t (wipe ρ vs) ft (lcAdd fe) = st at q
  refine ⟨fun i m H2 => ∃ g2 acc s2, (m = xs.length - i ∧ i ≤ xs.length) ∧ Cur o g2 s2 H2 ∧ Ext g1 H1 g2 H2 ∧ AccAt o g2 H2 D acc ∧ Po o W σ g1 H1 ((lcLoop st (xs.drop i) acc s2).bind fun ys s => .ok (.lst ys) s) fun d _ g' H' => ∀ v, Mo o H .O g' H' d v → Q v H', ⟨xs.length, ?_⟩, ?_⟩
  · obtain ⟨e2, c2⟩ := ext_new c1 (.lst []) hD (fun ps z => by cases z)
    exact ⟨g1, [], s1, ⟨by simp, Nat.zero_le _⟩, c2, e2, ⟨[], upd_same, .nil, c1.nfz hD, c1.ncl hD⟩, q⟩
  · rintro i m H2 ⟨g2, acc, s2, ⟨rfl, hle⟩, c2, e2, ac, q2⟩
    obtain ⟨d1, d2⟩ := dr i g2 H2 s2 e2 c2
    cases hn : nth xs i with
    | none =>
      refine .inl ⟨d1 hle hn, ?_⟩
      rw [drop_nth.1 hn] at q2
      refine q2 g2 H2 e2 c2 _ ?_
      obtain ⟨vs, h1, h2, h3, h4⟩ := ac
      unfold Mo
      dsimp only
      rw [if_pos (show isBox (.lst acc) = true from rfl)]
      exact ⟨D, rfl, ⟨vs, h1, h2⟩, h3, h4, nD⟩
    | some x =>
      obtain ⟨go, yl⟩ := d2 x hn
      rw [drop_nth.2 x hn] at q2
      have hlt := nth_lt hn
      refine .inr ⟨go, fun H3 => ∃ g3 acc s3, Cur o g3 s3 H3 ∧ Ext g1 H1 g3 H3 ∧ AccAt o g3 H3 D acc ∧ Po o W σ g1 H1 ((lcLoop st (xs.drop (i + 1)) acc s3).bind fun ys s => .ok (.lst ys) s) fun d _ g' H' => ∀ v, Mo o H .O g' H' d v → Q v H', fun H' ⟨g3, acc3, s3, c3, e3, a3, q3⟩ => ⟨xs.length - (i + 1), by omega, g3, acc3, s3, ⟨rfl, hlt⟩, c3, e3, a3, q3⟩, fun v H3 hy => ?_⟩
      obtain ⟨g3, e3, c3, r3⟩ := yl v H3 hy
      have q3 : Po o W σ g1 H1 ((st x acc s2).bind fun acc s => (lcLoop st (xs.drop (i + 1)) acc s).bind fun ys s => .ok (.lst ys) s) fun d _ g' H' => ∀ v, Mo o H .O g' H' d v → Q v H' := by
        rw [← R.assoc]
        exact q2
      cases hb : bind1 t x (wipe ρ vs) with
      | none =>
        have e : st x acc s2 = .no := by rw [← hst]; unfold lcStep; rw [hb]
        rw [e] at q3
        exact q3.elim
      | some ρ' =>
        have e : st x acc s2 = (ft ρ' s2).calm.bind fun b s => if b then lcAdd fe ρ' acc s else .ok acc s := by rw [← hst]; unfold lcStep; rw [hb]
        rw [e, R.assoc] at q3
        have slw := ((sl1.ext e2).ext e3).wiped vs
        refine ⟨g3, wipe ρ vs, s2, x, ρ', c3, slw, r3, hb, fun σ2 sl2 w2 => ⟨by rw [w2 _ hv]; exact wipe_wipe _ _, ?_⟩⟩
        refine ⟨g3, ρ', s2, c3, sl2, Po.calm (W' := Wn) (σ' := σ2) (g' := g3) (H' := H3) q3 |>.mono fun b s4 g4 H4 e4 c4 q5 => ?_⟩
        have ac4 := (ac.ext e3).ext e4
        cases b with
        | false => exact ⟨g4, acc, s4, c4, (e2.trans e3).trans e4, ac4, q5⟩
        | true =>
          have q5 : Po o W σ g1 H1 ((lcAdd fe ρ' acc s4).bind fun acc s => (lcLoop st (xs.drop (i + 1)) acc s).bind fun ys s => R.ok (MR.D.lst ys) s) fun d _ g' H' => ∀ v, Mo o H .O g' H' d v → Q v H' := q5
          unfold lcAdd at q5
          rw [R.assoc] at q5
          refine ⟨g4, ρ', s4, c4, sl2.ext e4, Po.calm (W' := Wn) (σ' := σ2) (g' := g4) (H' := H4) q5 |>.mono fun y s5 g5 H5 e5 c5 q7 v hv => ?_⟩
          obtain ⟨vs', h1, h2, h3, h4⟩ := (ac4.ext e5).add c5 (show Rep o g5 y v from hv)
          split at q7
          · rename_i hl
            rw [lim_line] at hl
            exact ⟨vs', h1, by rw [h2]; exact hl, g5, acc ++ [y], s5, h4, ext_upd (((e2.trans e3).trans e4).trans e5) hD, h3, q7⟩
          · exact q7.elim
theorem x_lc {elt tg iter : Expr} {ifs : List Expr} {scope : Scope} {own : List (Str × Nat)} {pos : Pos} {fi : Env → S → R (List D)} {t : E} {ft : Env → S → R Bool} {fe : Env → S → R D}
    (hc : X.calm = true) (hN : X.N.Nodup) (hi : PI X tg iter (tIE o H0 W fi)) (ok : BlkOk X.N X.env.scope scope own) (hv : ∀ i ∈ tgs t, i ∈ own.map (·.2))
    (hg : ∀ (s : Shared) (H : Hp) (C : Addr) (cl : List (Str × Addr)) (fp : List Addr), PG (X.blk s H scope (compEnvC scope cl C X.env) fp) tg (gT o H0 t)) (ht : ∀ (s : Shared) (H : Hp) (C : Addr) (cl : List (Str × Addr)) (fp : List Addr), PTs (X.blk s H scope (compEnvC scope cl C X.env) fp) ifs (tT o H0 Wn ft))
    (he : ∀ (s : Shared) (H : Hp) (C : Addr) (cl : List (Str × Addr)) (fp : List Addr), PE (X.blk s H scope (compEnvC scope cl C X.env) fp) elt (tE o H0 Wn .F fe)) (hs : ∀ x, foldedSetIterable iter X.env x = pure x) :
    PE X (.ListComp elt [⟨tg, iter, ifs, 0⟩] scope pos) (tE o H0 W .O (vLc t fi ft fe (own.map (·.2)))) :=
  pe_imp (pe_lc hc hN hi ok hg ht he hs) fun σ H Q => lc_sem hv
end
end MR
set_option Elab.async false
set_option linter.all false
set_option maxRecDepth 100000
namespace MR
open PySem PySem.Spec PyProof.Rows L2
section
variable {o : Om} {H0 : Hp} {W : WX} {X : Cx} {k : Nat}
theorem bind_ow : ∀ (t : E) (d : D) (ρ ρ' : Env) (i : Nat) (e : D), bind1 t d ρ = some ρ' → rd ρ' i = .ow e → rd ρ i = .ow e
  | .tg j, d, ρ, ρ', i, e, h, r => by
    cases h
    rw [rd_wr] at r
    split at r
    · cases r
    · exact r
  | .tt es, .tup xs, ρ, ρ', i, e, h, r => bind_ow es (.tup xs) ρ ρ' i e (by simpa only [bind1] using h) r
  | .cn a b, .tup (x :: xs), ρ, ρ', i, e, h, r => by
    simp only [bind1] at h
    split at h
    · rename_i ρ1 e1
      exact bind_ow a x ρ ρ1 i e e1 (bind_ow b (.tup xs) ρ1 ρ' i e h r)
    · cases h
  | .nl, .tup [], ρ, ρ', i, e, h, r => by
    cases h
    exact r
theorem wipe_ow : ∀ (vs : List Nat) (ρ : Env) (i : Nat) (e : D), rd (wipe ρ vs) i = .ow e → rd ρ i = .ow e ∧ i ∉ vs
  | [], ρ, i, e, h => ⟨h, by simp⟩
  | v :: vs, ρ, i, e, h => by
    unfold wipe at h
    rw [rd_wr] at h
    split at h
    · cases h
    · rename_i n
      obtain ⟨h1, h2⟩ := wipe_ow vs ρ i e h
      refine ⟨h1, ?_⟩
      simp only [List.mem_cons, not_or]
      refine ⟨fun z => n ⟨z.symm, ?_⟩, h2⟩
      have key : ∀ (ρ : Env) (i : Nat), rd ρ i = .ow e → i < ρ.length := by
        intro ρ
        induction ρ with
        | nil => intro i h; cases h
        | cons x r ih =>
          intro i h
          cases i with
          | zero => exact Nat.succ_pos _
          | succ i => exact Nat.succ_lt_succ (ih i h)
      rw [← z]
      exact key _ _ h
theorem Slots.mix {g5 g6 : Gh} {ρ ρ' : Env} {σ σ2 : L2.St} {H5 H6 : Hp} {t : E} {x : D} {vs : List Nat} (a : Slots o H0 g6 ρ σ H6) (b : Slots o H0 g5 ρ' σ2 H5) (l : Le g5 g6) (hb : bind1 t x (wipe ρ vs) = some ρ') (w : L2.wipe σ2 vs = L2.wipe σ vs) : Slots o H0 g6 ρ' σ2 H6 := by
  have k : ∀ i d, rd ρ' i = .ow d → rd ρ i = .ow d ∧ σ2[i]? = σ[i]? := fun i d h => by
    obtain ⟨h1, h2⟩ := wipe_ow vs ρ i d (bind_ow t x _ ρ' i d hb h)
    refine ⟨h1, ?_⟩
    rw [← wipe_out (σ := σ2) h2, ← wipe_out (σ := σ) h2, w]
  refine ⟨b.len, fun i d h => ?_, fun i d h => ?_, fun i j d d' c n h1 h2 e => ?_⟩
  · obtain ⟨v, e, r⟩ := b.fz i d h
    exact ⟨v, e, r.le l⟩
  · obtain ⟨h1, h2⟩ := k i d h
    rw [h2]
    exact a.ow i d h1
  · obtain ⟨h1, k1⟩ := k i d h1
    obtain ⟨h2, k2⟩ := k j d' h2
    rw [k1] at e
    rw [k2]
    exact a.ap i j d d' c n h1 h2 e
theorem lc2_sem {vs vs1 : List Nat} {fi fi1 : Env → S → R (List D)} {t t1 : E} {ft ft1 : Env → S → R Bool} {fe : Env → S → R D} (hv : ∀ i ∈ tgs t, i ∈ vs) (hw : ∀ i ∈ tgs t1, i ∈ vs1) {σ : L2.St} {H : Hp} {Q : VK} (h : tE o H0 W .O (vLc2 t fi ft t1 fi1 ft1 fe vs vs1) σ H Q) : tLc2 (tIE o H0 W fi) (gT o H0 t) (tT o H0 Wn ft) (tIF o H0 Wn fi1) (gT o H0 t1) (tT o H0 Wn ft1) (tE o H0 Wn .F fe) vs vs1 σ H Q := by
  obtain ⟨g, ρ, s, c, sl, p⟩ := h
  refine ⟨g, ρ, s, c, sl, Po.bind p |>.mono fun xs s1 g1 H1 e1 c1 q J dr D hD => ?_⟩
  clear p
  have sl1 := sl.ext e1
  have nD : H D = none := e1.new hD
  generalize hst : lcStep t (wipe ρ vs) ft (lcIn t1 fi1 ft1 fe vs1) = st at q
  refine ⟨fun i m H2 => ∃ g2 acc s2, (m = xs.length - i ∧ i ≤ xs.length) ∧ Cur o g2 s2 H2 ∧ Ext g1 H1 g2 H2 ∧ AccAt o g2 H2 D acc ∧ Po o W σ g1 H1 ((lcLoop st (xs.drop i) acc s2).bind fun ys s => .ok (.lst ys) s) fun d _ g' H' => ∀ v, Mo o H .O g' H' d v → Q v H', ⟨xs.length, ?_⟩, ?_⟩
  · obtain ⟨e2, c2⟩ := ext_new c1 (.lst []) hD (fun ps z => by cases z)
    exact ⟨g1, [], s1, ⟨by simp, Nat.zero_le _⟩, c2, e2, ⟨[], upd_same, .nil, c1.nfz hD, c1.ncl hD⟩, q⟩
  · rintro i m H2 ⟨g2, acc, s2, ⟨rfl, hle⟩, c2, e2, ac, q2⟩
    obtain ⟨d1, d2⟩ := dr i g2 H2 s2 e2 c2
    cases hn : nth xs i with
    | none =>
      refine .inl ⟨d1 hle hn, ?_⟩
      rw [drop_nth.1 hn] at q2
      refine q2 g2 H2 e2 c2 _ ?_
      obtain ⟨vs, h1, h2, h3, h4⟩ := ac
      unfold Mo
      dsimp only
      rw [if_pos (show isBox (.lst acc) = true from rfl)]
      exact ⟨D, rfl, ⟨vs, h1, h2⟩, h3, h4, nD⟩
    | some x =>
      obtain ⟨go, yl⟩ := d2 x hn
      rw [drop_nth.2 x hn] at q2
      have hlt := nth_lt hn
      refine .inr ⟨go, fun H3 => ∃ g3 acc s3, Cur o g3 s3 H3 ∧ Ext g1 H1 g3 H3 ∧ AccAt o g3 H3 D acc ∧ Po o W σ g1 H1 ((lcLoop st (xs.drop (i + 1)) acc s3).bind fun ys s => .ok (.lst ys) s) fun d _ g' H' => ∀ v, Mo o H .O g' H' d v → Q v H', fun H' ⟨g3, acc3, s3, c3, e3, a3, q3⟩ => ⟨xs.length - (i + 1), by omega, g3, acc3, s3, ⟨rfl, hlt⟩, c3, e3, a3, q3⟩, fun v H3 hy => ?_⟩
      obtain ⟨g3, e3, c3, r3⟩ := yl v H3 hy
      have q3 : Po o W σ g1 H1 ((st x acc s2).bind fun acc s => (lcLoop st (xs.drop (i + 1)) acc s).bind fun ys s => .ok (.lst ys) s) fun d _ g' H' => ∀ v, Mo o H .O g' H' d v → Q v H' := by
        rw [← R.assoc]
        exact q2
      cases hb : bind1 t x (wipe ρ vs) with
      | none =>
        have e : st x acc s2 = .no := by rw [← hst]; unfold lcStep; rw [hb]
        rw [e] at q3
        exact q3.elim
      | some ρ' =>
        have e : st x acc s2 = (ft ρ' s2).calm.bind fun b s => if b then lcIn t1 fi1 ft1 fe vs1 ρ' acc s else .ok acc s := by rw [← hst]; unfold lcStep; rw [hb]
        rw [e, R.assoc] at q3
        have slw := ((sl1.ext e2).ext e3).wiped vs
        refine ⟨g3, wipe ρ vs, s2, x, ρ', c3, slw, r3, hb, fun σ2 sl2 w2 => ⟨by rw [w2 _ hv]; exact wipe_wipe _ _, ?_⟩⟩
        have w2' : L2.wipe σ2 vs = L2.wipe σ vs := by rw [w2 _ hv]; exact wipe_wipe _ _
        refine ⟨g3, ρ', s2, c3, sl2, Po.calm (W' := Wn) (σ' := σ2) (g' := g3) (H' := H3) q3 |>.mono fun b s4 g4 H4 e4 c4 q5 => ?_⟩
        have ac4 := (ac.ext e3).ext e4
        have e14 := (e2.trans e3).trans e4
        cases b with
        | false => exact ⟨g4, acc, s4, c4, e14, ac4, q5⟩
        | true =>
          have q5 : Po o W σ g1 H1 ((lcIn t1 fi1 ft1 fe vs1 ρ' acc s4).bind fun acc s => (lcLoop st (xs.drop (i + 1)) acc s).bind fun ys s => R.ok (MR.D.lst ys) s) fun d _ g' H' => ∀ v, Mo o H .O g' H' d v → Q v H' := q5
          unfold lcIn at q5
          rw [R.assoc] at q5
          have sl4 := sl2.ext e4
          refine ⟨g4, ρ', s4, c4, sl4, Po.calm (W' := Wn) (σ' := σ2) (g' := g4) (H' := H4) q5 |>.mono fun zs s5 g5 H5 e5 c5 q7 J1 dr1 => ?_⟩
          clear q5
          generalize hst1 : lcStep t1 (wipe ρ' vs1) ft1 (lcAdd fe) = st1 at q7
          have sl5 := sl4.ext e5
          have e15 := e14.trans e5
          refine ⟨fun j m H2 => ∃ g2 acc s2, (m = zs.length - j ∧ j ≤ zs.length) ∧ Cur o g2 s2 H2 ∧ Le g5 g2 ∧ Ext g1 H1 g2 H2 ∧ AccAt o g2 H2 D acc ∧ Po o W σ g1 H1 ((lcLoop st1 (zs.drop j) acc s2).bind fun acc s => (lcLoop st (xs.drop (i + 1)) acc s).bind fun ys s => R.ok (MR.D.lst ys) s) fun d _ g' H' => ∀ v, Mo o H .O g' H' d v → Q v H', ⟨zs.length, ⟨g5, acc, s5, ⟨by simp, Nat.zero_le _⟩, c5, .refl _, e15, ac4.ext e5, q7⟩⟩, ?_⟩
          rintro j m H6 ⟨g6, acc6, s6, ⟨rfl, hle1⟩, c6, e6, e16, ac6, q8⟩
          obtain ⟨d1', d2'⟩ := dr1 j g6 H6 s6 e6 c6
          cases hn1 : nth zs j with
          | none =>
            refine .inl ⟨d1' hle1 hn1, g6, acc6, s6, c6, e16, ac6, ?_⟩
            rw [drop_nth.1 hn1] at q8
            exact q8
          | some z =>
            obtain ⟨go1, yl1⟩ := d2' z hn1
            rw [drop_nth.2 z hn1] at q8
            have hlt1 := nth_lt hn1
            refine .inr ⟨go1, fun H3 => ∃ g3 acc s3, Cur o g3 s3 H3 ∧ Le g5 g3 ∧ Ext g1 H1 g3 H3 ∧ AccAt o g3 H3 D acc ∧ Po o W σ g1 H1 ((lcLoop st1 (zs.drop (j + 1)) acc s3).bind fun acc s => (lcLoop st (xs.drop (i + 1)) acc s).bind fun ys s => R.ok (MR.D.lst ys) s) fun d _ g' H' => ∀ v, Mo o H .O g' H' d v → Q v H', fun H' ⟨g3, acc3, s3, c3, e3, e3', a3, q3⟩ => ⟨zs.length - (j + 1), by omega, g3, acc3, s3, ⟨rfl, hlt1⟩, c3, e3, e3', a3, q3⟩, fun v H7 hy => ?_⟩
            obtain ⟨g7, e7, c7, r7⟩ := yl1 v H7 hy
            have q9 : Po o W σ g1 H1 ((st1 z acc6 s6).bind fun acc s => (lcLoop st1 (zs.drop (j + 1)) acc s).bind fun acc s => (lcLoop st (xs.drop (i + 1)) acc s).bind fun ys s => R.ok (MR.D.lst ys) s) fun d _ g' H' => ∀ v, Mo o H .O g' H' d v → Q v H' := by
              rw [← R.assoc]
              exact q8
            cases hb1 : bind1 t1 z (wipe ρ' vs1) with
            | none =>
              have e : st1 z acc6 s6 = .no := by rw [← hst1]; unfold lcStep; rw [hb1]
              rw [e] at q9
              exact q9.elim
            | some ρ2 =>
              have e : st1 z acc6 s6 = (ft1 ρ2 s6).calm.bind fun b s => if b then lcAdd fe ρ2 acc6 s else .ok acc6 s := by rw [← hst1]; unfold lcStep; rw [hb1]
              rw [e, R.assoc] at q9
              have slw1 := (((sl1.ext e16).mix sl5 e6 hb w2').ext e7).wiped vs1
              refine ⟨g7, wipe ρ' vs1, s6, z, ρ2, c7, slw1, r7, hb1, fun σ3 sl3 w3 => ⟨by rw [w3 _ hw]; exact wipe_wipe _ _, ?_⟩⟩
              refine ⟨g7, ρ2, s6, c7, sl3, Po.calm (W' := Wn) (σ' := σ3) (g' := g7) (H' := H7) q9 |>.mono fun b s8 g8 H8 e8 c8 q10 => ?_⟩
              have ac8 := (ac6.ext e7).ext e8
              have e58 : Le g5 g8 := (e6.trans e7.le).trans e8.le
              have e18 := (e16.trans e7).trans e8
              cases b with
              | false => exact ⟨g8, acc6, s8, c8, e58, e18, ac8, q10⟩
              | true =>
                have q10 : Po o W σ g1 H1 ((lcAdd fe ρ2 acc6 s8).bind fun acc s => (lcLoop st1 (zs.drop (j + 1)) acc s).bind fun acc s => (lcLoop st (xs.drop (i + 1)) acc s).bind fun ys s => R.ok (MR.D.lst ys) s) fun d _ g' H' => ∀ v, Mo o H .O g' H' d v → Q v H' := q10
                unfold lcAdd at q10
                rw [R.assoc] at q10
                refine ⟨g8, ρ2, s8, c8, sl3.ext e8, Po.calm (W' := Wn) (σ' := σ3) (g' := g8) (H' := H8) q10 |>.mono fun y s9 g9 H9 e9 c9 q11 v hv => ?_⟩
                obtain ⟨vs', h1, h2, h3, h4⟩ := (ac8.ext e9).add c9 (show Rep o g9 y v from hv)
                split at q11
                · rename_i hl
                  rw [lim_line] at hl
                  exact ⟨vs', h1, by rw [h2]; exact hl, g9, acc6 ++ [y], s9, h4, e58.trans e9.le, ext_upd (e18.trans e9) hD, h3, q11⟩
                · exact q11.elim
theorem x_lc2 {elt tg iter tg1 iter1 : Expr} {ifs ifs1 : List Expr} {scope : Scope} {own : List (Str × Nat)} {vs1 : List Nat} {pos : Pos} {fi fi1 : Env → S → R (List D)} {t t1 : E} {ft ft1 : Env → S → R Bool} {fe : Env → S → R D}
    (hc : X.calm = true) (hN : X.N.Nodup) (hi : PI X tg iter (tIE o H0 W fi)) (ok : BlkOk X.N X.env.scope scope own) (hv1 : ∀ i ∈ vs1, i ∈ own.map (·.2)) (hv : ∀ i ∈ tgs t, i ∈ own.map (·.2)) (hw : ∀ i ∈ tgs t1, i ∈ vs1)
    (hg : ∀ (s : Shared) (H : Hp) (C : Addr) (cl : List (Str × Addr)) (fp : List Addr), PG (X.blk s H scope (compEnvC scope cl C X.env) fp) tg (gT o H0 t)) (ht : ∀ (s : Shared) (H : Hp) (C : Addr) (cl : List (Str × Addr)) (fp : List Addr), PTs (X.blk s H scope (compEnvC scope cl C X.env) fp) ifs (tT o H0 Wn ft))
    (hi1 : ∀ (s : Shared) (H : Hp) (C : Addr) (cl : List (Str × Addr)) (fp : List Addr), PI (X.blk s H scope (compEnvC scope cl C X.env) fp) tg1 iter1 (tIF o H0 Wn fi1))
    (hg1 : ∀ (s : Shared) (H : Hp) (C : Addr) (cl : List (Str × Addr)) (fp : List Addr), PG (X.blk s H scope (compEnvC scope cl C X.env) fp) tg1 (gT o H0 t1)) (ht1 : ∀ (s : Shared) (H : Hp) (C : Addr) (cl : List (Str × Addr)) (fp : List Addr), PTs (X.blk s H scope (compEnvC scope cl C X.env) fp) ifs1 (tT o H0 Wn ft1))
    (he : ∀ (s : Shared) (H : Hp) (C : Addr) (cl : List (Str × Addr)) (fp : List Addr), PE (X.blk s H scope (compEnvC scope cl C X.env) fp) elt (tE o H0 Wn .F fe)) (hs : ∀ x, foldedSetIterable iter X.env x = pure x) (hs1 : ∀ env x, foldedSetIterable iter1 env x = pure x) :
    PE X (.ListComp elt [⟨tg, iter, ifs, 0⟩, ⟨tg1, iter1, ifs1, 0⟩] scope pos) (tE o H0 W .O (vLc2 t fi ft t1 fi1 ft1 fe (own.map (·.2)) vs1)) :=
  pe_imp (pe_lc2 hc hN hi ok hv1 hg ht hi1 hg1 ht1 he hs hs1) fun σ H Q => lc2_sem hv hw
end
end MR
set_option Elab.async false
set_option linter.all false
set_option maxRecDepth 100000
namespace MR
open PySem PySem.Spec PyProof.Rows L2

/-- as FnOk, where no guard is open -/
structure FnG (gf : Bool) (P : Program) (w : World) (K : PySem.W.Frag) (mg : Str → Option Value) (base : Heap) (CX : CXT) (k : Nat) (f : Addr) (fd : FuncData) (ps : List Str) (sp : Sp) : Prop where
  len : ∀ vs H Q E, sp vs H Q E → vs.length = ps.length
  run : ∀ (A : Around) (outer : List PySem.Env) (s : Shared) (H : Hp) (args : Args) (us : List Value) (vs : List V) (Q : VK) (E : XK), Room k A → GdOk gf A → Env0 P w K mg base A outer s H → BindsTo s fd args (ps.zip us) → Vals vs us → sp vs H Q E →
    codeAny (model P w) A (.call (.ref f) args) (CR CX outer P w H s Q E) s
theorem FnG.mono {gf : Bool} {P : Program} {w : World} {K : PySem.W.Frag} {mg : Str → Option Value} {base : Heap} {CX : CXT} {j k : Nat} {f : Addr} {fd : FuncData} {ps : List Str} {sp : Sp} (F : FnG gf P w K mg base CX j f fd ps sp) (h : j ≤ k) :
    FnG gf P w K mg base CX k f fd ps sp := ⟨F.len, fun A outer s H args us vs Q E hr => F.run A outer s H args us vs Q E (hr.mono h)⟩
section
variable {gf : Bool} {X : Cx} {CX : CXT} {k : Nat} {f : Addr} {fd : FuncData} {ps : List Str} {sp : Sp} {E : L2.St → XK} {x : Str} {p pos : Pos} {e : Expr} {es : List Expr} {t : TA}
theorem run_fnG {pins : List (Addr × Obj)} {σ : L2.St} {H : Hp} {s : Shared} {Q : VK} {us : List Value} {vs : List V} (F : FnG gf X.prog X.w X.K X.mg X.base CX k f fd ps sp) (hr : Room k X.A) (hgd : GdOk gf X.A) (hb : Binds X.K fd ps []) (hx : PassesAt CX X σ (E σ))
    (I : Inv X pins σ H s) (r : Vals vs us) (h : sp vs H Q (E σ)) : wpAny (model X.prog X.w) X.A (call (.ref f) us) (EP X pins σ Q) X.xe s := by
  have hl : us.length = ps.length := by rw [← r.length]; exact F.len _ _ _ _ h
  have b := hb s us I.kIn (by rw [List.append_nil]; exact hl)
  rw [List.append_nil] at b
  refine wpAny_call (codeAny_mono (F.run X.A X.stack s H ⟨us, []⟩ us vs Q (E σ) hr hgd I.env0 b r h) fun r s' hq => ?_)
  cases r with
  | error e => exact hx pins H s e s' I hq
  | ok fl =>
    cases fl with
    | ret u => exact I.after hq
    | next => exact False.elim hq
    | brk => exact False.elim hq
    | cont => exact False.elim hq
theorem pe_callG (F : FnG gf X.prog X.w X.K X.mg X.base CX k f fd ps sp) (hr : Room k X.A) (hgd : GdOk gf X.A) (hg : Gl X x) (hm : X.mg x = some (.ref f)) (hk : PySem.W.keepIn X.K (.ref f) = true) (hb : Binds X.K fd ps []) (hx : ∀ σ, PassesAt CX X σ (E σ))
    (ha : PA X (e :: es) t) (hdb : (x == ("__debug__" : Str)) = false) (he : starEach (e :: es) X.env = (false, eval e X.env) :: starEach es X.env) (hpl : (backTo pos (starEach es X.env)).any (·.1) = false) :
    PE X (.Call (.Name x p) (e :: es) [] pos) (tCallS sp E t) := by
  refine ⟨fun pins s σ H Q I h => ?_⟩
  refine wpAny_Call_Name_kw (ld_glob I hg hm ?_ hdb)
  refine PySem.W.callWith_K (h₀ := X.base) I.ok.mod.kin hk (thn (ha.run pos pins s σ H _ I h) fun us s1 ⟨vs, H1, I1, r, q⟩ => ⟨I1.kIn, ?_⟩) he hpl
  exact run_fnG F hr hgd hb (hx σ) I1 r q
theorem pe_callG0 (F : FnG gf X.prog X.w X.K X.mg X.base CX k f fd ps sp) (hr : Room k X.A) (hgd : GdOk gf X.A) (hg : Gl X x) (hm : X.mg x = some (.ref f)) (hk : PySem.W.keepIn X.K (.ref f) = true) (hb : Binds X.K fd ps []) (hx : ∀ σ, PassesAt CX X σ (E σ))
    (hdb : (x == ("__debug__" : Str)) = false) : PE X (.Call (.Name x p) [] [] pos) (tCallS sp E tNil) := by
  refine ⟨fun pins s σ H Q I h => ?_⟩
  refine wpAny_Call_Name_kw (ld_glob I hg hm ?_ hdb)
  exact PySem.W.callWith_K0 I.kIn hk (run_fnG (us := []) F hr hgd hb (hx σ) I .nil h)
end
/-- THE RULE for a def -/
theorem fn_ofC {gf : Bool} {CX : CXT} {P : Program} {w : World} {K : PySem.W.Frag} {mg : Str → Option Value} {base : Heap} {k : Nat} {f : Addr} {x qual : Str} {st : Stmt} {N ps : List Str} {sp : Sp} {oc kV doc pm cdv ct : Value} {od an : Option Addr} {osl : Array (Option Value)}
    (lk : K.lookup f = some ⟨oc, od, .func (PySem.W.fnOf x qual (defArgs st) (defBody st) (defScope st) .none kV doc pm an cdv ct), osl⟩) (hcd : PySem.W.codeIn K cdv qual = true) (S : FnScope N ps (defScope st))
    (len : ∀ vs H Q E, sp vs H Q E → vs.length = ps.length)
    (hbody : ∀ (A : Around) (outer : List PySem.Env) (s : Shared) (H : Hp) (vs : List V) (Q : VK) (E : XK), Room k (A.deeper (envOfC qual (defScope st) s.heap.objs.size f cdv)) → GdOk gf A → sp vs H Q E →
      ∃ t, PSs (cxOf CX P w K mg base N qual (defScope st) f cdv A outer s H E) (defBody st) t ∧ t { nx := fun _ H' => Q .non H', rt := Q } (L2.start N vs) H) : FnG gf P w K mg base CX (k + 1) f (PySem.W.fnOf x qual (defArgs st) (defBody st) (defScope st) .none kV doc pm an cdv ct) ps sp := by
  refine ⟨len, fun A outer s H args us vs Q E hr hgd e0 hb r hsp => ?_⟩
  have hl := len _ _ _ _ hsp
  have KX : K.In s.heap := e0.mod.kin.keeps fun b o e => (e0.bs b o e).1
  have lim : s.heap.NoLimit := e0.mod.nolimit.keeps fun b o e => (e0.bs b o e).1
  have hkind : ∀ y ∈ ps.zip us, (defScope st).names.lookup y.1 = some .local ∨ ((defScope st).names.lookup y.1 = some .cell ∧ ((cellsFrom (s.heap.objs.size + 1) (defScope st).names []).lookup y.1).isSome = true) := fun ⟨n, v⟩ hy => by
    rcases S.par n (List.of_mem_zip hy).1 with q | q
    · exact .inl q
    · exact .inr ⟨q, PySem.W.cellsFrom_some _ _ _ (.inl q)⟩
  refine codeAny_call_function hr.depth (KX _ _ lk) rfl S.co S.gen rfl (PySem.W.codeRec_of KX hcd) (hb _ _ _ _ ?_)
  refine wpAny_newFunctionEnv_cells S.kind hkind fun env he s1 x => ?_
  subst he
  refine ⟨lim.keeps x.toInCall.keep, codeAny_func ?_⟩
  obtain ⟨t, ht, hq⟩ := hbody A outer s H vs Q E (hr.deeper _) hgd hsp
  have I : Inv (cxOf CX P w K mg base N qual (defScope st) f cdv A outer s H E) [] (L2.start N vs) H s1 := inv_start S hr.hd e0 hl r x
  refine wpAny_mono (ht.run [] s1 (L2.start N vs) H _ I hq) (fun fl s' hs => ?_) fun e s' hs => hs
  have fin : ∀ {σ' : L2.St} {H' : Hp} {v : V} {u : Value}, Inv (cxOf CX P w K mg base N qual (defScope st) f cdv A outer s H E) [] σ' H' s' → RelV v u → Q v H' → CE outer P w H s Q u s' :=
    fun {σ' H' v u} J rv q => ⟨v, H', J.os, J.bare, J.base, J.hok, rv, q⟩
  cases fl with
  | ret u =>
    obtain ⟨v, σ', H', J, rv, q⟩ := hs
    exact fin J rv q
  | next =>
    obtain ⟨σ', H', J, q⟩ := hs
    exact fin (v := V.non) (u := Value.none) J rfl q
  | brk =>
    obtain ⟨_, _, _, q⟩ := hs
    exact False.elim q
  | cont =>
    obtain ⟨_, _, _, q⟩ := hs
    exact False.elim q

/-- a def's promise, by its meaning -/
theorem Mo.hs {o : Om} {H H1 : Hp} {md : Md} {g' : Gh} {H' : Hp} {d : D} {v : V} (st : ∀ a, H a ≠ none → H1 a ≠ none) (h : Mo o H1 md g' H' d v) : Mo o H md g' H' d v := by
  cases md with
  | O =>
    unfold Mo at h ⊢
    dsimp only at h ⊢
    split at h
    · rename_i hb
      rw [if_pos hb]
      obtain ⟨a, e, w, n, m, z⟩ := h
      refine ⟨a, e, w, n, m, ?_⟩
      cases q : H a with
      | none => rfl
      | some u => exact absurd z (st a (by rw [q]; simp))
    · rename_i hb
      rw [if_neg hb]
      exact h
  | _ => exact h
def spF (o : Om) (np : Nat) (md : Md) (φ : List D → S → R D) : Sp := fun vs H Q E => vs.length = np ∧ ∃ g s ds, Cur o g s H ∧ Reps o g ds vs ∧ Po o (fun cls d _ H => E cls d H) [] g H (φ ds s) fun d _ g' H' => ∀ v, Mo o H md g' H' d v → Q v H'
/-- how a call by keywords binds: (positionals, names, where each parameter's value stands) -/
def KwB (fd : FuncData) (ps : List Str) (e : Nat × List Str × List Nat) : Prop :=
  ∀ us ws : List Value, us.length = e.1 → ws.length = e.2.1.length → ∃ zs, perm (us ++ ws) e.2.2 = some zs ∧ bindArgs fd ⟨us, e.2.1.zip ws⟩ = pure (ps.zip zs)
/-- a def of the text, as it stands -/
structure Fd (gf : Bool) (o : Om) (P : Program) (w : World) (K : PySem.W.Frag) (mg : Str → Option Value) (base : Heap) (k : Nat) (x : Str) (np : Nat) (kl : List (Nat × List Str × List Nat)) (md : Md) (φ : List D → S → R D) : Prop where
  ex : ∃ f fd ps, FnG gf P w K mg base (L2.CX P w) k f fd ps (spF o np md φ) ∧ mg x = some (.ref f) ∧ PySem.W.keepIn K (.ref f) = true ∧ Binds K fd ps [] ∧ ∀ e ∈ kl, KwB fd ps e
section
variable {gf : Bool} {o : Om} {H0 : Hp} {W : WX} {X : Cx} {md : Md} {k np : Nat} {kl : List (Nat × List Str × List Nat)} {Φ : Nat → List D → S → R D} {i : Nat}
theorem Po.sigma {α : Type} {W W' : WX} {σ σ' : L2.St} {g : Gh} {H : Hp} {r : R α} {k : α → S → Gh → Hp → Prop} (h : Po o W σ g H r k) (e : ∀ c d H, W c d σ H → W' c d σ' H) : Po o W' σ' g H r k := by
  cases r with
  | no => exact h
  | ok a s => exact h
  | ex c xs s => exact fun g' H' x c' => e _ _ _ (h g' H' x c')
theorem x_call {e : Expr} {es : List Expr} {l : Env → S → R (List D)} {x : Str} {p pos : Pos} (F : Fd gf o X.prog X.w X.K X.mg X.base k x np kl md (Φ i)) (hr : Room k X.A) (hgd : GdOk gf X.A) (hg : Gl X x) (tk : Takes X W)
    (ha : PA X (e :: es) (tL o H0 W l)) (hn : (e :: es).length = np) (hl : ∀ ρ s ds s', l ρ s = .ok ds s' → ds.length = np) (hdb : (x == ("__debug__" : Str)) = false) (hs : (e :: es).all (fun e => !isStar e) = true) :
    PE X (.Call (.Name x p) (e :: es) [] pos) (tE o H0 W md (vCall Φ i l)) := by
  have h1 : isStar e = false ∧ (es.all fun e => !isStar e) = true := by
    simp only [List.all_cons, Bool.and_eq_true, Bool.not_eq_true'] at hs
    exact hs
  obtain ⟨f, fd, ps, F, hm, hk, hb, _⟩ := F.ex
  refine pe_imp (pe_callG (E := WE W) F hr hgd hg hm hk hb (fun σ => passAt tk σ) ha hdb (star_no h1.1) (nostar_pl h1.2)) fun σ H Q ⟨g, ρ, s, c, sl, p⟩ => ?_
  have key : Po o W σ g H (l ρ s) fun ds s1 g1 H1 => ds.length = np ∧ ∀ vs, Reps o g1 ds vs → spF o np md (Φ i) vs H1 Q (WE W σ) := by
    unfold vCall at p
    cases e : l ρ s with
    | no => rw [e] at p; exact p
    | ex c xs s1 => rw [e] at p; exact p
    | ok ds s1 =>
      rw [e] at p
      intro g1 H1 e1 c1
      have hd := hl _ _ _ _ e
      refine ⟨hd, fun vs r => ⟨by rw [r.length, hd], g1, s1, ds, c1, r, ?_⟩⟩
      have p : Po o W σ g H (Φ i ds s1) _ := p
      have p1 : Po o W σ g1 H1 (Φ i ds s1) fun d _ g' H' => ∀ v, Mo o H md g' H' d v → Q v H' := Po.bind (r := R.ok ds s1) (f := fun xs s => Φ i xs s) p g1 H1 e1 c1
      exact (p1.mono fun d s2 g' H' _ _ q v hv => q v (Mo.hs e1.still hv)).sigma fun _ _ _ h => h
  exact ⟨g, ρ, s, c, sl, key.mono fun ds s1 g1 H1 e1 c1 q vs r => q.2 vs r⟩
theorem x_call0 {x : Str} {p pos : Pos} (F : Fd gf o X.prog X.w X.K X.mg X.base k x 0 kl md (Φ i)) (hr : Room k X.A) (hgd : GdOk gf X.A) (hg : Gl X x) (tk : Takes X W) (hdb : (x == ("__debug__" : Str)) = false) :
    PE X (.Call (.Name x p) [] [] pos) (tE o H0 W md (vCall Φ i lNil)) := by
  obtain ⟨f, fd, ps, F, hm, hk, hb, _⟩ := F.ex
  refine pe_imp (pe_callG0 (E := WE W) F hr hgd hg hm hk hb (fun σ => passAt tk σ) hdb) fun σ H Q ⟨g, ρ, s, c, sl, p⟩ => ?_
  refine ⟨rfl, g, s, [], c, .nil, ?_⟩
  have p : Po o W σ g H (Φ i [] s) fun d _ g' H' => ∀ v, Mo o H md g' H' d v → Q v H' := p
  exact p.sigma fun _ _ _ h => h
theorem nth_idx {α : Type} : ∀ (l : List α) (i : Nat), nth l i = l[i]?
  | [], i => by simp [nth]
  | x :: _, 0 => rfl
  | _ :: r, i + 1 => by
    rw [nth, nth_idx r i]
    rfl
theorem perm_len {α : Type} {xs : List α} : ∀ {p : List Nat} {ys : List α}, perm xs p = some ys → ys.length = p.length
  | [], ys, h => by
    cases h
    rfl
  | i :: is, ys, h => by
    unfold perm at h
    split at h
    · rename_i x r2 e1 e2
      cases h
      show r2.length + 1 = is.length + 1
      rw [perm_len e2]
    · cases h
theorem perm_rep {g : Gh} {xs : List D} {vs : List V} (r : Reps o g xs vs) : ∀ {p : List Nat} {ys : List D}, perm xs p = some ys → ∃ v2, perm vs p = some v2 ∧ Reps o g ys v2
  | [], ys, h => by
    cases h
    exact ⟨[], rfl, .nil⟩
  | i :: is, ys, h => by
    unfold perm at h
    split at h
    · rename_i x r2 e1 e2
      cases h
      obtain ⟨v, hv, rv⟩ := r.get e1
      obtain ⟨v2, h2, r2⟩ := perm_rep r e2
      refine ⟨v :: v2, ?_, .cons rv r2⟩
      unfold perm
      rw [nth_idx, hv, h2]
    · cases h
theorem perm_val {vs : List V} {us : List Value} (r : Vals vs us) : ∀ {p : List Nat} {v2 : List V}, perm vs p = some v2 → ∃ u2, perm us p = some u2 ∧ Vals v2 u2
  | [], v2, h => by
    cases h
    exact ⟨[], rfl, .nil⟩
  | i :: is, v2, h => by
    unfold perm at h
    split at h
    · rename_i x r2 e1 e2
      cases h
      rw [nth_idx] at e1
      obtain ⟨u, hu, ru⟩ := r.get e1
      obtain ⟨u2, h2, q2⟩ := perm_val r e2
      refine ⟨u :: u2, ?_, .cons ru q2⟩
      unfold perm
      rw [nth_idx, hu, h2]
    · cases h
/-- the names of keywords -/
def kwn : List Keyword → Option (List Str)
  | [] => some []
  | ⟨some n, _, _⟩ :: r => (kwn r).map (n :: ·)
  | _ => none
theorem kwn_of {pos : Pos} {env : PySem.Env} : ∀ {kws : List Keyword} {ns : List Str}, kwn kws = some ns → (backToKw pos (keywordEach kws env)).all (·.1.isSome) = true ∧ (backToKw pos (keywordEach kws env)).filterMap (·.1) = ns ∧ (backToKw pos (keywordEach kws env)).any (·.1.isNone) = false ∧ ns.length = kws.length
  | [], ns, h => by
    cases h
    exact ⟨rfl, rfl, rfl, rfl⟩
  | ⟨some n, e, kp⟩ :: r, ns, h => by
    unfold kwn at h
    cases h2 : kwn r with
    | none => rw [h2] at h; cases h
    | some m =>
      rw [h2] at h
      cases h
      obtain ⟨a, b, c, d⟩ := kwn_of (pos := pos) (env := env) h2
      refine ⟨?_, ?_, ?_, ?_⟩
      · show (true && (backToKw pos (keywordEach r env)).all (·.1.isSome)) = true
        rw [a]
        rfl
      · show n :: (backToKw pos (keywordEach r env)).filterMap (·.1) = _
        rw [b]
      · show (false || (backToKw pos (keywordEach r env)).any (·.1.isNone)) = false
        rw [c]
        rfl
      · show m.length + 1 = r.length + 1
        rw [d]
  | ⟨none, e, kp⟩ :: r, ns, h => by cases h
theorem tL_cons {f : Env → S → R D} {l : Env → S → R (List D)} {σ : L2.St} {H : Hp} {Q : List V → Hp → Prop} (h : tL o H0 W (lCons (evl1 f) l) σ H Q) : tE o H0 W .F f σ H fun v H1 => tL o H0 W l σ H1 fun vs H2 => Q (v :: vs) H2 := by
  obtain ⟨g, ρ, s, c, sl, p⟩ := h
  have p : Po o W σ g H ((f ρ s).bind fun x s => (l ρ s).bind fun ys s => .ok (x :: ys) s) fun ds _ g' H' => ∀ vs, Reps o g' ds vs → Q vs H' := by
    have e : lCons (evl1 f) l ρ s = ((f ρ s).bind fun x s => (l ρ s).bind fun ys s => .ok (x :: ys) s) := by
      unfold lCons evl1
      cases f ρ s <;> rfl
    rw [e] at p
    exact p
  refine tE_mono (one (ma := .F) c sl p) fun v H1 ⟨x, g1, s1, c1, sl1, e1, hx, q⟩ => ?_
  refine tL_mono (oneL c1 sl1 q) fun vs H2 ⟨ds, g2, s2, c2, sl2, e2, hd, q⟩ => ?_
  exact Po.ok q c2 _ (.cons (Rep.le e2.le hx) hd)
/-- keywords' values alone; positional values and keywords' values -/
def KOnly (o : Om) (H0 : Hp) (W : WX) (X : Cx) (kws : List Keyword) (l : Env → S → R (List D)) : Prop :=
  ∃ t2, PK X kws t2 ∧ ∀ σ H (Q Q' : List V → Hp → Prop), (∀ zs H2, zs.length = kws.length → Q zs H2 → Q' zs H2) → tL o H0 W l σ H Q → t2 σ H Q'
def KSplit (o : Om) (H0 : Hp) (W : WX) (X : Cx) (es : List Expr) (kws : List Keyword) (l : Env → S → R (List D)) : Prop :=
  ∃ t1 t2, PA X es t1 ∧ PK X kws t2 ∧ ∀ σ H (Q : List V → Hp → Prop) (Q' : List V → List V → Hp → Prop), (∀ vs zs H2, vs.length = es.length → zs.length = kws.length → Q (vs ++ zs) H2 → Q' vs zs H2) → tL o H0 W l σ H Q → t1 σ H fun vs H1 => t2 σ H1 fun zs H2 => Q' vs zs H2
theorem ko_nil : KOnly o H0 W X [] fun _ s => .ok [] s := ⟨tNil, pk_nil, fun σ H Q Q' m ⟨g, ρ, s, c, sl, p⟩ => m _ _ rfl (Po.ok p c _ .nil)⟩
theorem ko_cons {nm : Option Str} {e : Expr} {kp : Pos} {kws : List Keyword} {f : Env → S → R D} {l : Env → S → R (List D)} (he : PE X e (tE o H0 W .F f)) (hr : KOnly o H0 W X kws l) : KOnly o H0 W X (⟨nm, e, kp⟩ :: kws) (lCons (evl1 f) l) := by
  obtain ⟨t2, pk, m⟩ := hr
  refine ⟨_, pk_cons he pk, fun σ H Q Q' h q => ?_⟩
  exact tE_mono (tL_cons q) fun v H1 q => m _ _ _ _ (fun zs H2 hl hq => h _ _ (by simp [hl]) hq) q
theorem ks_nil {kws : List Keyword} {l : Env → S → R (List D)} (hr : KOnly o H0 W X kws l) : KSplit o H0 W X [] kws l := by
  obtain ⟨t2, pk, m⟩ := hr
  exact ⟨tNil, t2, pa_nil, pk, fun σ H Q Q' h q => m _ _ _ _ (fun zs H2 hl hq => h [] zs H2 rfl hl hq) q⟩
theorem ks_cons {e : Expr} {es : List Expr} {kws : List Keyword} {f : Env → S → R D} {l : Env → S → R (List D)} (he : PE X e (tE o H0 W .F f)) (hs : isStar e = false) (hr : KSplit o H0 W X es kws l) : KSplit o H0 W X (e :: es) kws (lCons (evl1 f) l) := by
  obtain ⟨t1, t2, pa, pk, m⟩ := hr
  refine ⟨_, t2, pa_cons he pa (star_no hs), pk, fun σ H Q Q' h q => ?_⟩
  exact tE_mono (tL_cons q) fun v H1 q => m _ _ _ (fun vs zs H2 => Q' (v :: vs) zs H2) (fun vs zs H2 hl hl2 hq => h _ _ _ (by simp [hl]) hl2 hq) q
theorem run_fnkG {CX : CXT} {f : Addr} {fd : FuncData} {ps : List Str} {sp : Sp} {E : L2.St → XK} {pins : List (Addr × Obj)} {σ : L2.St} {H : Hp} {s : Shared} {Q : VK} {us zs : List Value} {kz : List (Str × Value)} {vs : List V} (F : FnG gf X.prog X.w X.K X.mg X.base CX k f fd ps sp) (hr : Room k X.A) (hgd : GdOk gf X.A) (hb : bindArgs fd ⟨us, kz⟩ = pure (ps.zip zs)) (hx : PassesAt CX X σ (E σ))
    (I : Inv X pins σ H s) (r : Vals vs zs) (h : sp vs H Q (E σ)) : wpAny (model X.prog X.w) X.A (call (.ref f) us kz) (EP X pins σ Q) X.xe s := by
  refine wpAny_call (codeAny_mono (F.run X.A X.stack s H ⟨us, kz⟩ zs vs Q (E σ) hr hgd I.env0 (.of_eq hb) r h) fun r s' hq => ?_)
  cases r with
  | error e => exact hx pins H s e s' I hq
  | ok fl =>
    cases fl with
    | ret u => exact I.after hq
    | next => exact False.elim hq
    | brk => exact False.elim hq
    | cont => exact False.elim hq
theorem x_calk {es : List Expr} {kws : List Keyword} {ns : List Str} {pm : List Nat} {l : Env → S → R (List D)} {x : Str} {p pos : Pos} (F : Fd gf o X.prog X.w X.K X.mg X.base k x np kl md (Φ i)) (hr : Room k X.A) (hgd : GdOk gf X.A) (hg : Gl X x) (tk : Takes X W)
    (ha : KSplit o H0 W X es kws l) (h0 : es = [] → KOnly o H0 W X kws l) (hkl : (es.length, ns, pm) ∈ kl) (hns : kwn kws = some ns) (hpm : pm.length = np) (hdb : (x == ("__debug__" : Str)) = false) (hs : es.all (fun e => !isStar e) = true) :
    PE X (.Call (.Name x p) es kws pos) (tE o H0 W md (vCalk Φ i l pm)) := by
  obtain ⟨f, fd, ps, F, hm, hk, hb, hkb⟩ := F.ex
  have KB := hkb _ hkl
  obtain ⟨k1, k2, k3, k4⟩ := kwn_of (pos := pos) (env := X.env) hns
  have key : ∀ σ H (Q : VK), tE o H0 W md (vCalk Φ i l pm) σ H Q → tL o H0 W l σ H fun vs H1 => ∃ v2, perm vs pm = some v2 ∧ spF o np md (Φ i) v2 H1 Q (WE W σ) := fun σ H Q ⟨g, ρ, s, c, sl, p⟩ => by
    refine tL_mono (oneL (K := fun xs s => match perm xs pm with | some ys => Φ i ys s | none => .no) c sl p) fun vs H1 ⟨ds, g1, s1, c1, sl1, e1, hd, q⟩ => ?_
    cases e : perm ds pm with
    | none => rw [e] at q; exact q.elim
    | some ys =>
      rw [e] at q
      obtain ⟨v2, h2, r2⟩ := perm_rep hd e
      refine ⟨v2, h2, by rw [perm_len h2, hpm], g1, s1, ys, c1, r2, ?_⟩
      have q : Po o W σ g1 H1 (Φ i ys s1) fun d _ g' H' => ∀ v, Mo o H md g' H' d v → Q v H' := q
      exact (q.mono fun d s2 g' H' _ _ q v hv => q v (Mo.hs e1.still hv)).sigma fun _ _ _ h => h
  have fin : ∀ {pins : List (Addr × Obj)} {σ : L2.St} {H : Hp} {s : Shared} {Q : VK} {us ws : List Value} {vs zs : List V}, Inv X pins σ H s → Vals vs us → Vals zs ws → vs.length = es.length → zs.length = kws.length →
      (∃ v2, perm (vs ++ zs) pm = some v2 ∧ spF o np md (Φ i) v2 H Q (WE W σ)) → wpAny (model X.prog X.w) X.A (call (.ref f) us (ns.zip ws)) (EP X pins σ Q) X.xe s := fun {pins σ H s Q us ws vs zs} I r rz l1 l2 ⟨v2, h2, hq⟩ => by
    have rr : Vals (vs ++ zs) (us ++ ws) := r.append rz
    obtain ⟨u2, hu, ru⟩ := perm_val rr h2
    obtain ⟨z, hz, hbd⟩ := KB us ws (by rw [← r.length, l1]) (by rw [← rz.length, l2]; exact k4.symm)
    have hz : perm (us ++ ws) pm = some z := hz
    rw [hu] at hz
    cases hz
    exact run_fnkG F hr hgd hbd (passAt tk σ) I ru hq
  refine ⟨fun pins s σ H Q I h => ?_⟩
  refine wpAny_Call_Name_kw (ld_glob I hg hm ?_ hdb)
  have h := key _ _ _ h
  cases es with
  | nil =>
    obtain ⟨t2, pk, m⟩ := h0 rfl
    refine PySem.W.callWith_KW0 (h₀ := X.base) I.ok.mod.kin hk k1 (thn (pk.run pos pins s σ H _ I (m _ _ _ (fun zs H2 => zs.length = kws.length ∧ ∃ v2, perm zs pm = some v2 ∧ spF o np md (Φ i) v2 H2 Q (WE W σ)) (fun zs H2 a b => ⟨a, b⟩) h)) fun ws s2 ⟨zs, H2, I2, rz, hl, q2⟩ => ⟨I2.kIn, ?_⟩) (by rw [k3]; rfl)
    rw [k2]
    exact fin I2 .nil rz rfl hl q2
  | cons e es =>
    obtain ⟨t1, t2, pa, pk, m⟩ := ha
    have h1 : isStar e = false ∧ (es.all fun e => !isStar e) = true := by
      simp only [List.all_cons, Bool.and_eq_true, Bool.not_eq_true'] at hs
      exact hs
    refine PySem.W.callWith_KW (h₀ := X.base) I.ok.mod.kin hk k1 (thn (pa.run pos pins s σ H _ I (m _ _ _ (fun vs zs H2 => vs.length = (e :: es).length ∧ zs.length = kws.length ∧ ∃ v2, perm (vs ++ zs) pm = some v2 ∧ spF o np md (Φ i) v2 H2 Q (WE W σ)) (fun vs zs H2 a b q => ⟨a, b, q⟩) h)) fun us s1 ⟨vs, H1, I1, r, q⟩ => ?_) ?_ (star_no h1.1)
    · refine thn (pk.run pos pins s1 σ H1 _ I1 q) fun ws s2 ⟨zs, H2, I2, rz, hl, hl2, q2⟩ => ⟨I2.kIn, ?_⟩
      rw [k2]
      exact fin I2 r rz hl hl2 q2
    · rw [k3, star_no h1.1]
      have := nostar_pl (pos := pos) (env := X.env) h1.2
      show ((false || (backTo pos (starEach es X.env)).any (·.1)) || false) = false
      rw [this]
      rfl
end
end MR
set_option Elab.async false
set_option linter.all false
set_option maxRecDepth 100000
namespace MR
open PySem PySem.Spec PyProof.Rows L2

/-- a def's entry: the ghost state, and how its result is held -/
structure GE where
  g : Gh
  rm : Md
instance : Coe GE Gh := ⟨GE.g⟩
/-- behind a statement. gE, H0: the def's entry; gB: what is frozen by now -/
def PoX (o : Om) (W : WX) (gE : GE) (H0 : Hp) (gB : Gh) (r : R Fl) (D : Ends) : Prop := match r with
  | .ok (.nx ρ) s => ∀ g σ H, Le gB g → Cur o g s H → Slots o H0 g ρ σ H → Ext gE H0 g H → D.nx σ H
  | .ok (.bk ρ) s => ∀ g σ H, Le gB g → Cur o g s H → Slots o H0 g ρ σ H → Ext gE H0 g H → D.bk σ H
  | .ok (.ct ρ) s => ∀ g σ H, Le gB g → Cur o g s H → Slots o H0 g ρ σ H → Ext gE H0 g H → D.ct σ H
  | .ok (.rt d) s => ∀ g H v, Le gB g → Cur o g s H → Ext gE H0 g H → Mo o H0 gE.rm g H d v → D.rt v H
  | .ex c _ s => ∀ g σ H, Le gB g → Cur o g s H → Ext gE H0 g H → W (.ref (o.xc c)) none σ H
  | .no => False
def tX (o : Om) (H0 : Hp) (gE : GE) (W : WX) (f : Env → S → R Fl) : TS := fun D σ H =>
  ∃ g ρ s, Cur o g s H ∧ Slots o H0 g ρ σ H ∧ Ext gE H0 g H ∧ PoX o W gE H0 g (f ρ s) D
section
variable {o : Om} {H0 : Hp} {gE : GE} {W : WX} {X : Cx} {k : Nat}
theorem PoX.le {g g' : Gh} {r : R Fl} {D : Ends} (l : Le g g') (h : PoX o W gE H0 g r D) : PoX o W gE H0 g' r D := by
  cases r with
  | no => exact h
  | ex c xs s => exact fun g2 σ H l2 => h g2 σ H (l.trans l2)
  | ok f s =>
    cases f with
    | nx ρ => exact fun g2 σ H l2 => h g2 σ H (l.trans l2)
    | bk ρ => exact fun g2 σ H l2 => h g2 σ H (l.trans l2)
    | ct ρ => exact fun g2 σ H l2 => h g2 σ H (l.trans l2)
    | rt d => exact fun g2 H v l2 => h g2 H v (l.trans l2)
/-- an expression, then a statement's rest -/
theorem PoX.bind {α : Type} {gB g : Gh} {σ : L2.St} {H : Hp} {r : R α} {K : α → S → R Fl} {D : Ends} (l : Le gB g) (e : Ext gE H0 g H) (h : PoX o W gE H0 gB (r.bind K) D) : Po o W σ g H r fun a s g' H' => PoX o W gE H0 g' (K a s) D := by
  cases r with
  | no => exact h
  | ex c xs s => exact fun g' H' e' c' => h g' σ H' (l.trans e'.le) c' (e.trans e')
  | ok a s =>
    intro g' H' e' c'
    have h : PoX o W gE H0 gB (K a s) D := h
    exact h.le (l.trans e'.le)
theorem ps_imp {st : Stmt} {t t' : TS} (h : PS X st t) (m : ∀ D σ H, t' D σ H → t D σ H) : PS X st t' :=
  ⟨fun pins s σ H D I q => h.run pins s σ H D I (m D σ H q)⟩
theorem pss_imp {st : List Stmt} {t t' : TS} (h : PSs X st t) (m : ∀ D σ H, t' D σ H → t D σ H) : PSs X st t' :=
  ⟨fun pins s σ H D I q => h.run pins s σ H D I (m D σ H q)⟩
theorem oneX {ma : Md} {fa : Env → S → R D} {K : D → S → R Fl} {σ : L2.St} {g : Gh} {ρ : Env} {s : S} {H : Hp} {D : Ends} (c : Cur o g s H) (sl : Slots o H0 g ρ σ H) (e : Ext gE H0 g H) (p : PoX o W gE H0 g ((fa ρ s).bind K) D) :
    tE o H0 W ma fa σ H fun v H1 => ∃ x g1 s1, Cur o g1 s1 H1 ∧ Slots o H0 g1 ρ σ H1 ∧ Ext g H g1 H1 ∧ Ext gE H0 g1 H1 ∧ Mo o H ma g1 H1 x v ∧ PoX o W gE H0 g1 (K x s1) D :=
  ⟨g, ρ, s, c, sl, (PoX.bind (.refl g) e p).mono fun x s1 g1 H1 e1 c1 q v hv => ⟨x, g1, s1, c1, sl.ext e1, e1, e.trans e1, hv, q⟩⟩
theorem oneXT {ta : Env → S → R Bool} {K : Bool → S → R Fl} {σ : L2.St} {g : Gh} {ρ : Env} {s : S} {H : Hp} {D : Ends} (c : Cur o g s H) (sl : Slots o H0 g ρ σ H) (e : Ext gE H0 g H) (p : PoX o W gE H0 g ((ta ρ s).bind K) D) :
    tT o H0 W ta σ H fun b H1 => ∃ g1 s1, Cur o g1 s1 H1 ∧ Slots o H0 g1 ρ σ H1 ∧ Ext g H g1 H1 ∧ Ext gE H0 g1 H1 ∧ PoX o W gE H0 g1 (K b s1) D :=
  ⟨g, ρ, s, c, sl, (PoX.bind (.refl g) e p).mono fun x s1 g1 H1 e1 c1 q => ⟨g1, s1, c1, sl.ext e1, e1, e.trans e1, q⟩⟩
theorem x_snil : PSs X [] (tX o H0 gE W fun ρ s => .ok (.nx ρ) s) := pss_imp pss_nil fun D σ H ⟨g, ρ, s, c, sl, e, p⟩ => p g σ H (.refl g) c sl e
/-- one statement, then the rest -/
theorem PoX.seq {gB : Gh} {r : R Fl} {b : Env → S → R Fl} {D : Ends} (h : PoX o W gE H0 gB (r.bind fun f s => match f with | .nx ρ => b ρ s | f => .ok f s) D) : PoX o W gE H0 gB r { D with nx := tX o H0 gE W b D } := by
  cases r with
  | no => exact h
  | ex c xs s => exact h
  | ok f s =>
    cases f with
    | nx ρ =>
      intro g σ H l c sl e
      have h : PoX o W gE H0 gB (b ρ s) D := h
      exact ⟨g, ρ, s, c, sl, e, h.le l⟩
    | bk ρ => exact h
    | ct ρ => exact h
    | rt d => exact h
theorem x_scons {st : Stmt} {rest : List Stmt} {a b : Env → S → R Fl} (h1 : PS X st (tX o H0 gE W a)) (h2 : PSs X rest (tX o H0 gE W b)) : PSs X (st :: rest) (tX o H0 gE W (sSeq a b)) := by
  refine pss_imp (pss_cons h1 h2) fun D σ H ⟨g, ρ, s, c, sl, e, p⟩ => ?_
  exact ⟨g, ρ, s, c, sl, e, PoX.seq p⟩
theorem x_pass {pos : Pos} : PS X (.Pass pos) (tX o H0 gE W fun ρ s => .ok (.nx ρ) s) := ps_imp ps_pass fun D σ H ⟨g, ρ, s, c, sl, e, p⟩ => p g σ H (.refl g) c sl e
theorem x_brk {pos : Pos} : PS X (.Break pos) (tX o H0 gE W fun ρ s => .ok (.bk ρ) s) := ps_imp ps_break fun D σ H ⟨g, ρ, s, c, sl, e, p⟩ => p g σ H (.refl g) c sl e
theorem x_cnt {pos : Pos} : PS X (.Continue pos) (tX o H0 gE W fun ρ s => .ok (.ct ρ) s) := ps_imp ps_continue fun D σ H ⟨g, ρ, s, c, sl, e, p⟩ => p g σ H (.refl g) c sl e
/-- a value that is held so, held as a result -/
theorem Mo.rt {H : Hp} {md : Md} {g0 g g' : Gh} {H' : Hp} {d : D} {v : V} (e : Ext g0 H0 g H) (h : Mo o H md g' H' d v) : Mo o H0 md g' H' d v := Mo.hs e.still h
theorem x_ret {a : Expr} {f : Env → S → R D} {md : Md} {pos : Pos} (hm : gE.rm = md) (ha : PE X a (tE o H0 W md f)) : PS X (.Return (some a) pos) (tX o H0 gE W (sRet f)) := by
  refine ps_imp (ps_ret ha) fun D σ H ⟨g, ρ, s, c, sl, e, p⟩ => ?_
  refine tE_mono (oneX (ma := md) c sl e p) fun v H1 ⟨x, g1, s1, c1, sl1, e1, e2, hx, q⟩ => ?_
  exact q g1 H1 v (.refl _) c1 e2 (by rw [hm]; exact Mo.rt e hx)
theorem mo_plain {md : Md} {Hs : Hp} {g : Gh} {H : Hp} {d : D} {v : V} (hm : md = .F ∨ md = .O) (hb : isBox d = false) (h : Rep o g d v) : Mo o Hs md g H d v := by
  rcases hm with rfl | rfl
  · exact h
  · unfold Mo
    dsimp only
    rw [if_neg (by rw [hb]; decide)]
    exact h
theorem x_retn {pos : Pos} (hm : gE.rm = .F ∨ gE.rm = .O) : PS X (.Return none pos) (tX o H0 gE W fun _ s => .ok (.rt .non) s) := ps_imp ps_retN fun D σ H ⟨g, ρ, s, c, sl, e, p⟩ => p g H .non (.refl g) c e (mo_plain hm rfl (by simp only [Rep]))
/-- an owned slot becomes frozen -/
theorem Slots.frz {g : Gh} {ρ : Env} {σ : L2.St} {s : S} {H : Hp} (c : Cur o g s H) (sl : Slots o H0 g ρ σ H) (e : Ext gE H0 g H) {i : Nat} {d : D} (h : rd ρ i = .ow d) :
    ∃ g' a, Le g g' ∧ σ[i]? = some (some (.ref a)) ∧ Rep o g' d (.ref a) ∧ Cur o g' s H ∧ Ext gE H0 g' H ∧ Slots o H0 g' (wr ρ i (.fz d)) σ H := by
  obtain ⟨a, ea, w, n, m, z⟩ := sl.ow i d h
  have key : ∀ u, H a = some u → (∀ ps, u ≠ .tbl ps) → Le g ⟨upd g.Fz a u, g.cl⟩ ∧ Ext gE H0 ⟨upd g.Fz a u, g.cl⟩ H ∧ Cur o ⟨upd g.Fz a u, g.cl⟩ s H := fun u hu nt => by
    obtain ⟨l, c2⟩ := cur_freeze c hu nt n m
    exact ⟨l, ext_freeze e l z, c2⟩
  have fin : ∀ u, Le g ⟨upd g.Fz a u, g.cl⟩ → Rep o ⟨upd g.Fz a u, g.cl⟩ d (.ref a) → Slots o H0 ⟨upd g.Fz a u, g.cl⟩ (wr ρ i (.fz d)) σ H := fun u l r => by
    refine ⟨by rw [wr_len]; exact sl.len, fun j d' hj => ?_, fun j d' hj => ?_, fun j l' d1 d2 b nn h1 h2 e1 => ?_⟩
    · rw [rd_wr] at hj
      split at hj
      · rename_i q
        cases hj
        rw [← q.1]
        exact ⟨_, ea, r⟩
      · obtain ⟨v, h1, h2⟩ := sl.fz j d' hj
        exact ⟨v, h1, h2.le l⟩
    · rw [rd_wr] at hj
      split at hj
      · cases hj
      · rename_i q
        obtain ⟨b, h1, h2, h3, h4, h5⟩ := sl.ow j d' hj
        have hij : i ≠ j := fun z => by
          subst z
          have key : ∀ (ρ : Env) (i : Nat), rd ρ i = .ow d' → i < ρ.length := by
            intro ρ
            induction ρ with
            | nil => intro i h; cases h
            | cons x r ih =>
              intro i h
              cases i with
              | zero => exact Nat.succ_pos _
              | succ i => exact Nat.succ_lt_succ (ih i h)
          exact q ⟨rfl, key _ _ hj⟩
        have ne : b ≠ a := fun z => by
          subst z
          exact sl.ap i j d d' b hij h hj ea h1
        exact ⟨b, h1, Own.le l rfl h2, by show upd g.Fz a u b = _; rw [upd_ne ne]; exact h3, h4, h5⟩
    · rw [rd_wr] at h1 h2
      split at h1
      · cases h1
      · split at h2
        · cases h2
        · exact sl.ap j l' d1 d2 b nn h1 h2 e1
  cases d with
  | lst xs =>
    obtain ⟨vs, hu, r⟩ := w
    obtain ⟨l, e2, c2⟩ := key _ hu (fun ps z => by cases z)
    have rr : Rep o ⟨upd g.Fz a (.lst vs), g.cl⟩ (.lst xs) (.ref a) := by
      simp only [Rep]
      exact ⟨a, vs, rfl, .inl upd_same, r.le l⟩
    exact ⟨_, a, l, ea, rr, c2, e2, fin _ l rr⟩
  | dic ks xs =>
    obtain ⟨u, vv, hu, k, r⟩ := w
    obtain ⟨l, e2, c2⟩ := key _ hu k.nt
    have rr : Rep o ⟨upd g.Fz a u, g.cl⟩ (.dic ks xs) (.ref a) := by
      simp only [Rep]
      exact ⟨a, u, vv, rfl, upd_same, k, r.le l⟩
    exact ⟨_, a, l, ea, rr, c2, e2, fin _ l rr⟩
  | _ => exact w.elim
theorem x_rmv {i : Nat} {x : Str} {p pos : Pos} (hm : gE.rm = .F ∨ gE.rm = .O) (hN : X.N[i]? = some x) (hv : Vis X.env.scope x) (hd : (x == ("__debug__" : Str)) = false) (hcd : (x == ("__classdict__" : Str)) = false) :
    PS X (.Return (some (.Name x p)) pos) (tX o H0 gE W (sRmv i)) := by
  refine ps_imp (ps_ret (pe_var hN hv hd hcd)) fun D σ H ⟨g, ρ, s, c, sl, e, q⟩ => ?_
  unfold sRmv at q
  cases h : rd ρ i with
  | un => rw [h] at q; exact q.elim
  | fz d => rw [h] at q; exact q.elim
  | ow d =>
    rw [h] at q
    rcases hm with hm | hm
    · obtain ⟨g', a, l, ea, r, c', e', _⟩ := Slots.frz c sl e h
      exact ⟨_, ea, q g' H _ l c' e' (by rw [hm]; exact r)⟩
    · obtain ⟨a, ea, w, n, m, z⟩ := sl.ow i d h
      have hb : isBox d = true := by cases d <;> first | rfl | exact w.elim
      refine ⟨_, ea, q g H _ (.refl g) c e ?_⟩
      rw [hm]
      unfold Mo
      dsimp only
      rw [if_pos hb]
      exact ⟨a, rfl, w, n, m, z⟩
/-- a ghost step ahead of a block -/
theorem x_frz {b : List Stmt} {i : Nat} {f : Env → S → R Fl} (h : PSs X b (tX o H0 gE W f)) : PSs X b (tX o H0 gE W (sSeq (sFrz i) f)) := by
  refine pss_imp h fun D σ H ⟨g, ρ, s, c, sl, e, q⟩ => ?_
  unfold sSeq sFrz at q
  cases h : rd ρ i with
  | un => rw [h] at q; exact q.elim
  | fz d => rw [h] at q; exact q.elim
  | ow d =>
    rw [h] at q
    obtain ⟨g', a, l, ea, r, c', e', sl'⟩ := Slots.frz c sl e h
    have q : PoX o W gE H0 g (f (wr ρ i (.fz d)) s) D := q
    exact ⟨g', _, s, c', sl', e', q.le l⟩
theorem x_sif {c : Expr} {a b : List Stmt} {tc : Env → S → R Bool} {fa fb : Env → S → R Fl} {pos : Pos} (hc : PT X c (tT o H0 W tc)) (ha : PSs X a (tX o H0 gE W fa)) (hb : PSs X b (tX o H0 gE W fb)) : PS X (.If c a b pos) (tX o H0 gE W (sIf tc fa fb)) := by
  refine ps_imp (ps_if hc ha hb) fun D σ H ⟨g, ρ, s, c, sl, e, p⟩ => ?_
  refine tT_mono (oneXT c sl e p) fun b H1 ⟨g1, s1, c1, sl1, e1, e2, q⟩ => ?_
  cases b with
  | true => exact ⟨g1, ρ, s1, c1, sl1, e2, q⟩
  | false => exact ⟨g1, ρ, s1, c1, sl1, e2, q⟩
theorem x_while {c : Expr} {body : List Stmt} {tc : Env → S → R Bool} {fb : Env → S → R Fl} {pos : Pos} {n : Nat} (hp : PassesOwn (model X.prog X.w) X.A X.env X.xe) (hc : PT X c (tT o H0 W tc)) (hb : PSs X body (tX o H0 gE W fb)) :
    PS X (.While c body [] pos) (tX o H0 gE W fun ρ s => whLoop tc fb n ρ s) := by
  refine ps_imp (ps_while hp hc hb) fun D σ H ⟨g, ρ, s, c, sl, e, p⟩ => ?_
  refine ⟨fun m σ H => ∃ g ρ s, Cur o g s H ∧ Slots o H0 g ρ σ H ∧ Ext gE H0 g H ∧ PoX o W gE H0 g (whLoop tc fb m ρ s) D, ⟨n, g, ρ, s, c, sl, e, p⟩, ?_⟩
  rintro m σ H ⟨g, ρ, s, c, sl, e, p⟩
  cases m with
  | zero => exact p.elim
  | succ m =>
    refine tT_mono (oneXT c sl e p) fun b H1 ⟨g1, s1, c1, sl1, e1, e2, q⟩ => ?_
    cases b with
    | false => exact q g1 σ H1 (.refl _) c1 sl1 e2
    | true =>
      rw [if_pos rfl]
      refine ⟨fun σ H => ∃ g ρ s, Cur o g s H ∧ Slots o H0 g ρ σ H ∧ Ext gE H0 g H ∧ PoX o W gE H0 g (whLoop tc fb m ρ s) D, fun σ' H' h => ⟨m, Nat.lt_succ_self _, h⟩, g1, ρ, s1, c1, sl1, e2, ?_⟩
      have q : PoX o W gE H0 g1 ((fb ρ s1).bind fun f s => match f with | .nx ρ => whLoop tc fb m ρ s | .ct ρ => whLoop tc fb m ρ s | .bk ρ => .ok (.nx ρ) s | .rt d => .ok (.rt d) s) D := q
      cases hr : fb ρ s1 with
      | no => rw [hr] at q; exact q
      | ex c xs s => rw [hr] at q; exact q
      | ok f s2 =>
        rw [hr] at q
        cases f with
        | nx ρ2 => exact fun g2 σ2 H2 l c2 sl2 e3 => ⟨g2, ρ2, s2, c2, sl2, e3, PoX.le l q⟩
        | ct ρ2 => exact fun g2 σ2 H2 l c2 sl2 e3 => ⟨g2, ρ2, s2, c2, sl2, e3, PoX.le l q⟩
        | bk ρ2 => exact q
        | rt d => exact q
theorem x_for {iter tg : Expr} {body : List Stmt} {fi : Env → S → R (List D)} {t : E} {fb : Env → S → R Fl} {pos : Pos} (hp : PassesOwn (model X.prog X.w) X.A X.env X.xe) (hc : X.calm = true) (hi : PI X tg iter (tIF o H0 W fi)) (hg : PG X tg (gT o H0 t)) (hb : PSs X body (tX o H0 gE W fb))
    (hs : ∀ x, foldedSetIterable iter X.env x = pure x) : PS X (.For tg iter body [] pos) (tX o H0 gE W (sFor t fi fb)) := by
  refine ps_imp (ps_for hp hc hi hg hb hs) fun D σ H ⟨g, ρ, s, c, sl, e, p⟩ => ?_
  refine ⟨g, ρ, s, c, sl, (PoX.bind (.refl g) e p).mono fun xs s1 g1 H1 e1 c1 q J dr => ?_⟩
  clear p
  have sl1 := sl.ext e1
  generalize hst : forStep t fb = st at q
  refine ⟨fun i m σ H => ∃ g2 ρ s, (m = xs.length - i ∧ i ≤ xs.length) ∧ Le g1 g2 ∧ Cur o g2 s H ∧ Slots o H0 g2 ρ σ H ∧ Ext gE H0 g2 H ∧ PoX o W gE H0 g2 (forLoop st (xs.drop i) ρ s) D, ⟨xs.length, g1, ρ, s1, ⟨by simp, Nat.zero_le _⟩, .refl _, c1, sl1, e.trans e1, q⟩, ?_⟩
  rintro i m σ2 H2 ⟨g2, ρ2, s2, ⟨rfl, hle⟩, l2, c2, sl2, e2, q2⟩
  obtain ⟨d1, d2⟩ := dr i g2 H2 s2 l2 c2
  cases hn : nth xs i with
  | none =>
    rw [drop_nth.1 hn] at q2
    exact .inl ⟨d1 hle hn, q2 g2 σ2 H2 (.refl _) c2 sl2 e2⟩
  | some x =>
    obtain ⟨go, yl⟩ := d2 x hn
    rw [drop_nth.2 x hn] at q2
    have hlt := nth_lt hn
    refine .inr ⟨go, fun σ H => ∃ g2 ρ s, Le g1 g2 ∧ Cur o g2 s H ∧ Slots o H0 g2 ρ σ H ∧ Ext gE H0 g2 H ∧ PoX o W gE H0 g2 (forLoop st (xs.drop (i + 1)) ρ s) D, fun σ' H' ⟨g3, ρ3, s3, l3, c3, sl3, e3, q3⟩ => ⟨xs.length - (i + 1), by omega, g3, ρ3, s3, ⟨rfl, hlt⟩, l3, c3, sl3, e3, q3⟩, fun v H3 hy => ?_⟩
    obtain ⟨g3, e3, c3, r3⟩ := yl v H3 hy
    have q3 : PoX o W gE H0 g3 ((st x ρ2 s2).bind fun f s => match f with | .nx ρ => forLoop st (xs.drop (i + 1)) ρ s | .ct ρ => forLoop st (xs.drop (i + 1)) ρ s | .bk ρ => .ok (.nx ρ) s | .rt d => .ok (.rt d) s) D := PoX.le e3.le q2
    cases hb1 : bind1 t x ρ2 with
    | none =>
      have e : st x ρ2 s2 = .no := by rw [← hst]; unfold forStep; rw [hb1]
      rw [e] at q3
      exact q3.elim
    | some ρ3 =>
      have e : st x ρ2 s2 = fb ρ3 s2 := by rw [← hst]; unfold forStep; rw [hb1]
      rw [e] at q3
      refine ⟨g3, ρ2, s2, x, ρ3, c3, sl2.ext e3, r3, hb1, fun σ3 sl3 _ => ⟨g3, ρ3, s2, c3, sl3, e2.trans e3, ?_⟩⟩
      cases hr : fb ρ3 s2 with
      | no => rw [hr] at q3; exact q3
      | ex c xs s => rw [hr] at q3; exact q3
      | ok f s4 =>
        rw [hr] at q3
        have l13 := l2.trans e3.le
        cases f with
        | nx ρ4 => exact fun g4 σ4 H4 l c4 sl4 e4 => ⟨g4, ρ4, s4, l13.trans l, c4, sl4, e4, PoX.le l q3⟩
        | ct ρ4 => exact fun g4 σ4 H4 l c4 sl4 e4 => ⟨g4, ρ4, s4, l13.trans l, c4, sl4, e4, PoX.le l q3⟩
        | bk ρ4 => exact q3
        | rt d => exact q3
end
end MR
set_option Elab.async false
set_option linter.all false
set_option maxRecDepth 100000
namespace MR
open PySem PySem.Spec PyProof.Rows L2

section
variable {o : Om} {H0 : Hp} {gE : GE} {W : WX} {X : Cx} {k : Nat}
def notComp : Expr → Bool
  | .ListComp _ _ _ _ | .SetComp _ _ _ _ | .DictComp _ _ _ _ _ => false
  | _ => true
theorem swaps_no {e : Expr} {t : Option Expr} {l : Nat} {env : PySem.Env} (h : notComp e = true) : swapsWith e t l env = pure false := by
  cases e <;> first | rfl | cases h
def isTupE : Expr → Bool
  | .Tuple _ _ _ => true
  | _ => false
def isTgt : Expr → Bool
  | .Name _ _ | .Tuple _ _ _ => true
  | _ => false
theorem swapped_no {tg e : Expr} {env : PySem.Env} (h : isTupE e = false ∨ isTupE tg = false) (ht : isTgt tg = true) : swappedStores [tg] e env = pure none := by
  rcases h with h | h
  · cases tg <;> first | (cases ht; done) | (cases e <;> first | rfl | cases h)
  · cases tg <;> first | (cases ht; done) | (cases h; done) | (cases e <;> rfl)
/-- target = value, as a statement that stores a frozen value -/
theorem x_asgT {tg e : Expr} {f : Env → S → R D} {t : E} {pos : Pos} (he : PE X e (tE o H0 W .F f)) (hg : PG X tg (gT o H0 t)) (hs : swapsWith e (some tg) pos.line X.env = pure false) (hw : isTupE e = false ∨ isTupE tg = false) (ht : isTgt tg = true) :
    PS X (.Assign [tg] e pos) (tX o H0 gE W (sAsg t f)) := by
  refine ps_imp (ps_asg he hg hs (swapped_no hw ht) (by cases tg <;> first | rfl | cases ht)) fun D σ H ⟨g, ρ, s, c, sl, e, p⟩ => ?_
  refine tE_mono (oneX (ma := .F) c sl e p) fun v H1 ⟨x, g1, s1, c1, sl1, e1, e2, hx, q⟩ => ?_
  cases hb : bind1 t x ρ with
  | none => rw [hb] at q; exact q.elim
  | some ρ' =>
    rw [hb] at q
    exact ⟨g1, ρ, s1, x, ρ', c1, sl1, hx, hb, fun σ' sl' _ => q g1 σ' H1 (.refl _) c1 sl' e2⟩
theorem x_asgT2 {tg e : Expr} {f : Env → S → R D} {t : E} {pos : Pos} (he : PE X e (tE o H0 W .F f)) (hg : PG X tg (gT o H0 t)) (hs : swapsWith e (some tg) pos.line X.env = pure false) (hw : swappedStores [tg] e X.env = pure none) (ht : isTgt tg = true) :
    PS X (.Assign [tg] e pos) (tX o H0 gE W (sAsg t f)) := by
  refine ps_imp (ps_asg he hg hs hw (by cases tg <;> first | rfl | cases ht)) fun D σ H ⟨g, ρ, s, c, sl, e, p⟩ => ?_
  refine tE_mono (oneX (ma := .F) c sl e p) fun v H1 ⟨x, g1, s1, c1, sl1, e1, e2, hx, q⟩ => ?_
  cases hb : bind1 t x ρ with
  | none => rw [hb] at q; exact q.elim
  | some ρ' =>
    rw [hb] at q
    exact ⟨g1, ρ, s1, x, ρ', c1, sl1, hx, hb, fun σ' sl' _ => q g1 σ' H1 (.refl _) c1 sl' e2⟩
theorem swapped_no2 {x y : Str} {px py pt pt2 : Pos} {kt k2 : Nat} {a b : Expr} {env : PySem.Env} (h : env.scope.names.lookup x ≠ some .local ∨ env.scope.names.lookup y ≠ some .local) : swappedStores [.Tuple [.Name x px, .Name y py] kt pt] (.Tuple [a, b] k2 pt2) env = pure none := by
  have nb : ∀ z : Str, env.scope.names.lookup z ≠ some .local → (env.kindOf z == some NameKind.local) = false := fun z hz => by
    rw [beq_eq_false_iff_ne]
    exact hz
  unfold swappedStores
  simp only [List.length_cons, List.length_nil]
  split
  · rfl
  · split
    · rfl
    · have fm : ∀ f : Expr → Option Str, (f (.Name x px) = none ∨ f (.Name y py) = none) → ((([Expr.Name x px, Expr.Name y py].filterMap f).length != 0 + 1 + 1) = true) := fun f hf => by
        rw [bne_iff_ne]
        rcases hf with hf | hf
        · rw [List.filterMap_cons, hf]
          show ([Expr.Name y py].filterMap f).length ≠ 2
          have := List.length_filterMap_le f [Expr.Name y py]
          simp only [List.length_cons, List.length_nil] at this
          omega
        · have e : [Expr.Name x px, Expr.Name y py].filterMap f = [Expr.Name x px].filterMap f := by
            show ([Expr.Name x px] ++ [Expr.Name y py]).filterMap f = _
            rw [List.filterMap_append]
            have : [Expr.Name y py].filterMap f = [] := by rw [List.filterMap_cons, hf]; rfl
            rw [this, List.append_nil]
          rw [e]
          have := List.length_filterMap_le f [Expr.Name x px]
          simp only [List.length_cons, List.length_nil] at this
          omega
      refine if_pos ?_
      rw [Bool.or_eq_true]
      refine .inl (fm _ ?_)
      rcases h with h | h
      · refine .inl ?_
        show (if (env.kindOf x == some NameKind.local && _) = true then some x else none) = none
        rw [nb x h]
        rfl
      · refine .inr ?_
        show (if (env.kindOf y == some NameKind.local && _) = true then some y else none) = none
        rw [nb y h]
        rfl
/-- name = value: PS with the value as it comes -/
abbrev SetR (o : Om) (H0 : Hp) (W : WX) (X : Cx) (st : Stmt) (i : Nat) (md : Md) (f : Env → S → R D) : Prop := PS X st (tAsg (tE o H0 W md f) (gName i))
theorem x_asg {st : Stmt} {i : Nat} {md : Md} {f : Env → S → R D} (hm : md = .F ∨ md = .O) (h : SetR o H0 W X st i md f) : PS X st (tX o H0 gE W (sAsg (.tg i) f)) := by
  refine ps_imp h fun D σ H ⟨g, ρ, s, c, sl, e, p⟩ => ?_
  have key : tE o H0 W .F f σ H fun v H1 => D.nx (σ.set i (some v)) H1 :=
    tE_mono (oneX (ma := .F) c sl e p) fun v H1 ⟨x, g1, s1, c1, sl1, e1, e2, hx, q⟩ => q g1 _ H1 (.refl _) c1 (sl1.fzd hx i) e2
  rcases hm with rfl | rfl
  · exact key
  · exact tF_O key
theorem Slots.newOw {g : Gh} {ρ : Env} {σ : L2.St} {H Hs : Hp} (sl : Slots o H0 g ρ σ H) {d : D} {a : Addr} (w : Own o g H a d) (n : g.Fz a = none) (m : a ∉ g.cl) (z : H0 a = none) (nw : ∀ j d' b, rd ρ j = .ow d' → σ[j]? = some (some (.ref b)) → b ≠ a) (i : Nat) :
    Slots o H0 g (wr ρ i (.ow d)) (σ.set i (some (.ref a))) H := by
  by_cases hi : i < ρ.length
  · have hs : i < σ.length := by rw [← sl.len]; exact hi
    have f : ∀ j, rd (wr ρ i (.ow d)) j = if i = j then .ow d else rd ρ j := fun j => by
      rw [rd_wr]
      by_cases e : i = j
      · rw [if_pos ⟨e, hi⟩, if_pos e]
      · rw [if_neg (fun z => e z.1), if_neg e]
    refine ⟨by rw [wr_len, List.length_set]; exact sl.len, fun j d' h => ?_, fun j d' h => ?_, fun j l d1 d2 b nn h1 h2 e1 => ?_⟩
    · rw [f j] at h
      rw [set_get hs]
      by_cases e : i = j
      · rw [if_pos e] at h
        cases h
      · rw [if_neg e] at h ⊢
        exact sl.fz j d' h
    · rw [f j] at h
      rw [set_get hs]
      by_cases e : i = j
      · rw [if_pos e] at h ⊢
        cases h
        exact ⟨a, rfl, w, n, m, z⟩
      · rw [if_neg e] at h ⊢
        exact sl.ow j d' h
    · rw [f j] at h1
      rw [f l] at h2
      rw [set_get hs] at e1 ⊢
      by_cases e : i = j
      · rw [if_pos e] at e1
        cases e1
        by_cases e' : i = l
        · exact absurd (e.symm.trans e') nn
        · rw [if_neg e'] at h2 ⊢
          exact fun q => nw l d2 _ h2 q rfl
      · rw [if_neg e] at h1 e1
        by_cases e' : i = l
        · rw [if_pos e']
          intro q
          cases q
          exact nw j d1 _ h1 e1 rfl
        · rw [if_neg e'] at h2 ⊢
          exact sl.ap j l d1 d2 b nn h1 h2 e1
  · have e1 : wr ρ i (.ow d) = ρ := by
      have key : ∀ (ρ : Env) (i : Nat), ¬ i < ρ.length → ∀ y, wr ρ i y = ρ := by
        intro ρ
        induction ρ with
        | nil => intro i _ y; rfl
        | cons x r ih =>
          intro i h y
          cases i with
          | zero => exact absurd (Nat.succ_pos _) h
          | succ i => simp only [wr]; rw [ih i (fun z => h (Nat.succ_lt_succ z)) y]
      exact key ρ i hi _
    rw [e1, List.set_eq_of_length_le (by rw [← sl.len]; omega)]
    exact sl
/-- what is new since Hs is held by no slot of then -/
theorem Slots.notNew {g g1 : Gh} {ρ : Env} {σ : L2.St} {H : Hp} (sl : Slots o H0 g ρ σ H) {a : Addr} (h : H a = none) : ∀ j d' b, rd ρ j = .ow d' → σ[j]? = some (some (.ref b)) → b ≠ a := by
  intro j d' b h1 h2 e
  obtain ⟨b', e', w, _⟩ := sl.ow j d' h1
  rw [h2] at e'
  cases e'
  subst e
  exact Own.there w h
theorem H0_of {g : Gh} {H : Hp} (e : Ext gE H0 g H) {a : Addr} (h : H a = none) : H0 a = none := by
  cases q : H0 a with
  | none => rfl
  | some u => exact absurd h (e.still a (by rw [q]; simp))
theorem x_asgo {st : Stmt} {i : Nat} {f : Env → S → R D} (h : SetR o H0 W X st i .O f) : PS X st (tX o H0 gE W (sAsgo i f)) := by
  refine ps_imp h fun D σ H ⟨g, ρ, s, c, sl, e, p⟩ => ?_
  refine tE_mono (oneX (ma := .O) c sl e p) fun v H1 ⟨x, g1, s1, c1, sl1, e1, e2, hx, q⟩ => ?_
  split at q
  · rename_i b
    unfold Mo at hx
    dsimp only at hx
    rw [if_pos b] at hx
    obtain ⟨a, rfl, w, n, m, z⟩ := hx
    exact q g1 _ H1 (.refl _) c1 (Slots.newOw (Hs := H) sl1 w n m (H0_of e z) (Slots.notNew (g1 := g) sl z) i) e2
  · exact q.elim
theorem set_of {i : Nat} {x : Str} {e : Expr} {f : Env → S → R D} {md : Md} {pos pos' : Pos} (hN : X.N.Nodup) (hi : X.N[i]? = some x) (hx : Loc X.env.scope x) (he : PE X e (tE o H0 W md f)) (hs : swapsWith e (some (.Name x pos')) pos.line X.env = pure false) (hf : X.fn x = true ∨ X.env.scope.names.lookup x = some .local) :
    SetR o H0 W X (.Assign [.Name x pos'] e pos) i md f := ps_set hN hi hx he hs hf
theorem set_lc {i : Nat} {y : Str} {py : Pos} {elt tg iter : Expr} {ifs : List Expr} {scope : Scope} {own : List (Str × Nat)} {pos spos : Pos} {fi : Env → S → R (List D)} {t : E} {ft : Env → S → R Bool} {fe : Env → S → R D}
    (hc : X.calm = true) (hN : X.N.Nodup) (hy : X.N[i]? = some y) (hyl : X.env.scope.names.lookup y = some .local) (hsw : swapsWith (.ListComp elt [⟨tg, iter, ifs, 0⟩] scope pos) (some (.Name y py)) spos.line X.env = pure true) (hi : PI X tg iter (tIE o H0 W fi)) (ok : BlkOk X.N X.env.scope scope own) (hv : ∀ i ∈ tgs t, i ∈ own.map (·.2))
    (hg : ∀ (s : Shared) (H : Hp) (C : Addr) (cl : List (Str × Addr)) (fp : List Addr), PG (X.blk s H scope (compEnvC scope cl C X.env) fp) tg (gT o H0 t)) (ht : ∀ (s : Shared) (H : Hp) (C : Addr) (cl : List (Str × Addr)) (fp : List Addr), PTs (X.blk s H scope (compEnvC scope cl C X.env) fp) ifs (tT o H0 Wn ft))
    (he : ∀ (s : Shared) (H : Hp) (C : Addr) (cl : List (Str × Addr)) (fp : List Addr), PE (X.blk s H scope (compEnvC scope cl C X.env) fp) elt (tE o H0 Wn .F fe)) (hs : ∀ x, foldedSetIterable iter X.env x = pure x) :
    SetR o H0 W X (.Assign [.Name y py] (.ListComp elt [⟨tg, iter, ifs, 0⟩] scope pos) spos) i .O (vLc t fi ft fe (own.map (·.2))) :=
  ps_imp (ps_setLc hc hN hy hyl hsw hi ok hg ht he hs) fun D σ H h => lc_sem hv h
theorem set_lc2 {i : Nat} {y : Str} {py : Pos} {elt tg iter tg1 iter1 : Expr} {ifs ifs1 : List Expr} {scope : Scope} {own : List (Str × Nat)} {vs1 : List Nat} {pos spos : Pos} {fi fi1 : Env → S → R (List D)} {t t1 : E} {ft ft1 : Env → S → R Bool} {fe : Env → S → R D}
    (hc : X.calm = true) (hN : X.N.Nodup) (hy : X.N[i]? = some y) (hyl : X.env.scope.names.lookup y = some .local) (hsw : swapsWith (.ListComp elt [⟨tg, iter, ifs, 0⟩, ⟨tg1, iter1, ifs1, 0⟩] scope pos) (some (.Name y py)) spos.line X.env = pure true) (hi : PI X tg iter (tIE o H0 W fi)) (ok : BlkOk X.N X.env.scope scope own) (hv1 : ∀ i ∈ vs1, i ∈ own.map (·.2)) (hv : ∀ i ∈ tgs t, i ∈ own.map (·.2)) (hw : ∀ i ∈ tgs t1, i ∈ vs1)
    (hg : ∀ (s : Shared) (H : Hp) (C : Addr) (cl : List (Str × Addr)) (fp : List Addr), PG (X.blk s H scope (compEnvC scope cl C X.env) fp) tg (gT o H0 t)) (ht : ∀ (s : Shared) (H : Hp) (C : Addr) (cl : List (Str × Addr)) (fp : List Addr), PTs (X.blk s H scope (compEnvC scope cl C X.env) fp) ifs (tT o H0 Wn ft))
    (hi1 : ∀ (s : Shared) (H : Hp) (C : Addr) (cl : List (Str × Addr)) (fp : List Addr), PI (X.blk s H scope (compEnvC scope cl C X.env) fp) tg1 iter1 (tIF o H0 Wn fi1))
    (hg1 : ∀ (s : Shared) (H : Hp) (C : Addr) (cl : List (Str × Addr)) (fp : List Addr), PG (X.blk s H scope (compEnvC scope cl C X.env) fp) tg1 (gT o H0 t1)) (ht1 : ∀ (s : Shared) (H : Hp) (C : Addr) (cl : List (Str × Addr)) (fp : List Addr), PTs (X.blk s H scope (compEnvC scope cl C X.env) fp) ifs1 (tT o H0 Wn ft1))
    (he : ∀ (s : Shared) (H : Hp) (C : Addr) (cl : List (Str × Addr)) (fp : List Addr), PE (X.blk s H scope (compEnvC scope cl C X.env) fp) elt (tE o H0 Wn .F fe)) (hs : ∀ x, foldedSetIterable iter X.env x = pure x) (hs1 : ∀ env x, foldedSetIterable iter1 env x = pure x) :
    SetR o H0 W X (.Assign [.Name y py] (.ListComp elt [⟨tg, iter, ifs, 0⟩, ⟨tg1, iter1, ifs1, 0⟩] scope pos) spos) i .O (vLc2 t fi ft t1 fi1 ft1 fe (own.map (·.2)) vs1) :=
  ps_imp (ps_setLc2 hc hN hy hyl hsw hi ok hv1 hg ht hi1 hg1 ht1 he hs hs1) fun D σ H h => lc2_sem hv hw h
theorem swapped_yes {x y : Str} {px py pt pt2 : Pos} {kt k2 : Nat} {a b : Expr} {env : PySem.Env} (hk : env.scope.kind = .function) (hx : env.scope.names.lookup x = some .local) (hy : env.scope.names.lookup y = some .local) (hn : (x == y) = false) (hl : (py.line == px.line) = true)
    (hs : isStar a = false) (hs2 : isStar b = false) (h1 : (foldedForSure 8 a && foldedForSure 8 b) = false) (h2 : (constantsAlone 8 a && constantsAlone 8 b) = false) :
    swappedStores [.Tuple [.Name x px, .Name y py] kt pt] (.Tuple [a, b] k2 pt2) env = pure (some [x, y]) := by
  have kx : env.kindOf x = some .local := hx
  have ky : env.kindOf y = some .local := hy
  have hb : env.blockKind = .function := by unfold Env.blockKind; rw [hk]; rfl
  have hyx : (y == x) = false := by
    rw [beq_eq_false_iff_ne] at hn ⊢
    exact fun z => hn z.symm
  have st : ([a, b].any fun | .Starred .. => true | _ => false) = false := by
    cases a <;> first | (cases hs; done) | (cases b <;> first | rfl | cases hs2)
  have lx : (px.line == px.line) = true := beq_self_eq_true _
  have e1 : (some NameKind.local == some NameKind.local) = true := rfl
  unfold swappedStores
  simp only [hb, kx, ky, hl, st, List.all_cons, List.all_nil, Bool.and_true, h1, h2, List.length_cons, List.length_nil, List.head?_cons, List.filterMap_cons, List.filterMap_nil, Option.map_some, Option.getD_some, Expr.pos, lx, e1, Bool.and_self, if_true]
  simp [List.eraseDups_cons, hyx, hn]
  intro z
  rcases z with z | z
  · cases a <;> first | (cases hs; done) | cases z
  · cases b <;> first | (cases hs2; done) | cases z
/-- a value that goes to a slot: frozen, or a new container -/
theorem tE_keep {md : Md} {f : Env → S → R D} {σ : L2.St} {H : Hp} {Q : VK} (h : tE o H0 W md f σ H Q) : True := trivial
def slOf (b : Bool) (d : D) : Sl := if b then .ow d else .fz d
def mdOf (b : Bool) : Md := if b then .O else .F
/-- the slot's store, of either kind -/
theorem Slots.st {b : Bool} {g g0 : Gh} {ρ : Env} {σ : L2.St} {H Hs : Hp} {d : D} {v : V} (sl : Slots o H0 g ρ σ H) (hv : Mo o Hs (mdOf b) g H d v) (hb : b = true → isBox d = true) (z : ∀ a, Hs a = none → H0 a = none)
    (nw : ∀ j d' c, rd ρ j = .ow d' → σ[j]? = some (some (.ref c)) → Hs c ≠ none) (i : Nat) : Slots o H0 g (wr ρ i (slOf b d)) (σ.set i (some v)) H := by
  cases b with
  | false => exact sl.fzd hv i
  | true =>
    have hx : Mo o Hs .O g H d v := hv
    unfold Mo at hx
    dsimp only at hx
    rw [if_pos (hb rfl)] at hx
    obtain ⟨a, rfl, w, n, m, zz⟩ := hx
    exact Slots.newOw (Hs := Hs) sl w n m (z a zz) (fun j d' c h1 h2 e => nw j d' c h1 h2 (by rw [e]; exact zz)) i
theorem par_sem {st : Stmt} {i j : Nat} {a b : Expr} {fa fb : Env → S → R D} {oi oj : Bool} (hij : i ≠ j) (P : PS X st (tPar i j (tCons (tE o H0 W (mdOf oi) fa) (tCons (tE o H0 W (mdOf oj) fb) tNil)))) : PS X st (tX o H0 gE W (sPar i j fa fb oi oj)) := by
  refine ps_imp P fun D σ H ⟨g, ρ, s, c, sl, e, p⟩ => ?_
  refine tE_mono (oneX (ma := mdOf oi) c sl e p) fun v H1 ⟨d1, g1, s1, c1, sl1, e1, e2, hx1, q⟩ => ?_
  refine tE_mono (oneX (ma := mdOf oj) c1 sl1 e2 q) fun u H2 ⟨d2, g2, s2, c2, sl2, e3, e4, hx2, q⟩ => ?_
  refine ⟨v, u, rfl, ?_⟩
  split at q
  · exact q.elim
  · rename_i hbx
    have b1 : oi = true → isBox d1 = true := fun z => by
      subst z
      cases hh : isBox d1 with
      | true => rfl
      | false => exact absurd (by rw [hh]; rfl) hbx
    have b2 : oj = true → isBox d2 = true := fun z => by
      subst z
      cases hh : isBox d2 with
      | true => rfl
      | false => exact absurd (by rw [hh]; simp) hbx
    have s1' := Slots.st (g0 := g) sl2 (hx1.ext e3) b1 (fun a => H0_of e) (fun j d' cc h1 h2 => by
      obtain ⟨b', e', w, _⟩ := sl.ow j d' h1
      rw [h2] at e'
      cases e'
      exact Own.there w) i
    have hxo : ∀ j' d' cc, rd (wr ρ i (slOf oi d1)) j' = .ow d' → (σ.set i (some v))[j']? = some (some (.ref cc)) → H1 cc ≠ none := fun j' d' cc h1 h2 => by
      obtain ⟨b', e', w, n', m', z'⟩ := s1'.ow j' d' h1
      rw [h2] at e'
      cases e'
      rw [rd_wr] at h1
      split at h1
      · rename_i hc'
        rw [← hc'.1, List.getElem?_set_self (by rw [← sl.len]; exact hc'.2)] at h2
        have ev : v = .ref cc := by
          have := Option.some.inj h2
          exact Option.some.inj this
        cases oi with
        | false =>
          have h1 : Sl.fz d1 = .ow d' := h1
          cases h1
        | true =>
          have hx1 : Mo o H .O g1 H1 d1 v := hx1
          unfold Mo at hx1
          dsimp only at hx1
          rw [if_pos (b1 rfl)] at hx1
          obtain ⟨a, e', w', _⟩ := hx1
          rw [ev] at e'
          cases e'
          exact Own.there w'
      · rename_i hc'
        have hne : i ≠ j' ∨ ¬ i < ρ.length := by
          by_cases z : i = j'
          · exact .inr fun zz => hc' ⟨z, zz⟩
          · exact .inl z
        have h3 : σ[j']? = some (some (.ref cc)) := by
          rcases hne with z | z
          · rw [List.getElem?_set_ne z] at h2
            exact h2
          · rw [List.set_eq_of_length_le (by rw [← sl.len]; omega)] at h2
            exact h2
        obtain ⟨b', e', w', _⟩ := sl1.ow j' d' h1
        rw [h3] at e'
        cases e'
        exact Own.there w'
    have s2' := Slots.st (g0 := g) s1' hx2 b2 (fun a => H0_of e2) hxo j
    exact q g2 _ H2 (.refl _) c2 s2' e4
theorem x_par {i j : Nat} {x y : Str} {a b : Expr} {fa fb : Env → S → R D} {oi oj : Bool} {px py pt pt2 pos : Pos} {kt k2 : Nat} (hc : X.calm = true) (hN : X.N.Nodup) (hi : X.N[i]? = some x) (hj : X.N[j]? = some y) (hij : i ≠ j) (hk : X.env.scope.kind = .function)
    (hx : X.env.scope.names.lookup x = some .local) (hy : X.env.scope.names.lookup y = some .local) (ha : PE X a (tE o H0 W (mdOf oi) fa)) (hb : PE X b (tE o H0 W (mdOf oj) fb)) (hl : (py.line == px.line) = true)
    (hs : isStar a = false) (hs2 : isStar b = false) (h1 : (foldedForSure 8 a && foldedForSure 8 b) = false) (h2 : (constantsAlone 8 a && constantsAlone 8 b) = false) (hn : (x == y) = false) :
    PS X (.Assign [.Tuple [.Name x px, .Name y py] kt pt] (.Tuple [a, b] k2 pt2) pos) (tX o H0 gE W (sPar i j fa fb oi oj)) := by
  exact par_sem (a := a) (b := b) hij (ps_par hc hN hi hj hij hx hy (pa_cons ha (pa_cons hb pa_nil (star_no hs2)) (star_no hs)) (swapped_yes hk hx hy hn hl hs hs2 h1 h2) rfl)
/-- names that an inner block uses: stored one behind the other -/
theorem ps_par2 {i j : Nat} {x y : Str} {a b : Expr} {ta : TA} {px py pt : Pos} {kt k2 : Nat} {pt2 pos : Pos} (hc : X.calm = true) (hN : X.N.Nodup) (hi : X.N[i]? = some x) (hj : X.N[j]? = some y) (hij : i ≠ j)
    (hx : L2.Loc X.env.scope x) (hfx : X.fn x = true ∨ X.env.scope.names.lookup x = some .local) (hy : L2.Loc X.env.scope y) (hfy : X.fn y = true ∨ X.env.scope.names.lookup y = some .local) (ha : PA X [a, b] ta)
    (hw : swappedStores [.Tuple [.Name x px, .Name y py] kt pt] (.Tuple [a, b] k2 pt2) X.env = pure none)
    (hs : swapsWithSole [.Tuple [.Name x px, .Name y py] kt pt] (.Tuple [a, b] k2 pt2) pos.line X.env = pure false := by rfl) :
    PS X (.Assign [.Tuple [.Name x px, .Name y py] kt pt] (.Tuple [a, b] k2 pt2) pos) (tPar i j ta) := by
  refine ⟨fun pins s σ H D I h => ?_⟩
  refine wpAny_Assign_stores (Tuple_ (thn (ha.run _ pins s σ H _ I h) fun us s1 ⟨vs, H1, I1, r1, q1⟩ => ?_)) hs hw
  obtain ⟨v, w, e1, q1⟩ := q1
  subst e1
  obtain ⟨u1, u2, rfl, rv, rw'⟩ := vals2 r1
  refine wpAny_newObj_type ?_ (by show 2 ≤ sizeLine; decide)
  have I2 : Inv X pins σ H1 { s1 with heap := s1.heap.push { cls := .type "tuple", data := .seq [u1, u2].toArray } } := I1.kept (t' := s1.toks) fun b o e => Heap.get?_push_of_some _ e
  rw [show (assignEach [.Tuple [.Name x px, .Name y py] kt pt] X.env).map (·.2) = [assign (.Tuple [.Name x px, .Name y py] kt pt) X.env] from rfl]
  refine assign_Tuple_tuple (items := #[u1, u2]) (I.ok.hd hc) (IsTup.new s1.heap _) rfl rfl fun h' hx' => ?_
  have I3 := I2.kept (h' := h') (t' := s1.toks) fun b o e => hx' b o (Nat.ne_of_lt (Heap.lt_size e)) e
  show wpAny _ _ (assignInOrder [assign (.Name x px) X.env, assign (.Name y py) X.env] [u1, u2]) _ _ _
  refine assignInOrder_cons (wpAny_assign_Name (store_ok I3 hN hi hx rv (fun s2 I4 => ?_) hfx))
  refine assignInOrder_cons (wpAny_assign_Name (store_ok I4 hN hj hy rw' (fun s3 I5 => assignInOrder_nil ?_) hfy))
  exact ⟨_, H1, I5, q1⟩
theorem x_par2 {i j : Nat} {x y : Str} {a b : Expr} {fa fb : Env → S → R D} {oi oj : Bool} {px py pt pt2 pos : Pos} {kt k2 : Nat} (hc : X.calm = true) (hN : X.N.Nodup) (hi : X.N[i]? = some x) (hj : X.N[j]? = some y) (hij : i ≠ j)
    (hx : L2.Loc X.env.scope x) (hfx : X.fn x = true ∨ X.env.scope.names.lookup x = some .local) (hy : L2.Loc X.env.scope y) (hfy : X.fn y = true ∨ X.env.scope.names.lookup y = some .local) (hw : X.env.scope.names.lookup x ≠ some .local ∨ X.env.scope.names.lookup y ≠ some .local)
    (ha : PE X a (tE o H0 W (mdOf oi) fa)) (hb : PE X b (tE o H0 W (mdOf oj) fb)) (hs : isStar a = false) (hs2 : isStar b = false) :
    PS X (.Assign [.Tuple [.Name x px, .Name y py] kt pt] (.Tuple [a, b] k2 pt2) pos) (tX o H0 gE W (sPar i j fa fb oi oj)) :=
  par_sem (a := a) (b := b) hij (ps_par2 hc hN hi hj hij hx hfx hy hfy (pa_cons ha (pa_cons hb pa_nil (star_no hs2)) (star_no hs)) (swapped_no2 hw))
end
end MR
set_option Elab.async false
set_option linter.all false
set_option maxRecDepth 100000
namespace MR
open PySem PySem.Spec PyProof.Rows L2

section
variable {o : Om} {H0 : Hp} {gE : GE} {W : WX} {X : Cx} {k : Nat}
theorem x_exs {a : Expr} {f : Env → S → R D} {md : Md} {pos : Pos} (ha : PE X a (tE o H0 W md f)) (hs : notComp a = true) : PS X (.Expr a pos) (tX o H0 gE W (sExs f)) := by
  refine ps_imp (ps_expr ha (swaps_no hs)) fun D σ H ⟨g, ρ, s, c, sl, e, p⟩ => ?_
  refine tE_mono (oneX (ma := md) c sl e p) fun v H1 ⟨x, g1, s1, c1, sl1, e1, e2, hx, q⟩ => ?_
  exact q g1 σ H1 (.refl _) c1 sl1 e2
theorem rd_lt {e : Sl} (n : e ≠ .un) : ∀ (ρ : Env) (i : Nat), rd ρ i = e → i < ρ.length
  | [], _, h => absurd h.symm n
  | x :: r, 0, h => Nat.succ_pos _
  | x :: r, i + 1, h => Nat.succ_lt_succ (rd_lt n r i h)
/-- the list of the slot j is changed in place -/
theorem Slots.mut {g : Gh} {ρ : Env} {σ : L2.St} {s : S} {H : Hp} (c : Cur o g s H) (sl : Slots o H0 g ρ σ H) (e : Ext gE H0 g H) {j : Nat} {xs : List D} (h : rd ρ j = .ow (.lst xs)) :
    ∃ a vs, σ[j]? = some (some (.ref a)) ∧ H a = some (.lst vs) ∧ Reps o g xs vs ∧ ∀ ys us, Reps o g ys us → Cur o g s (upd H a (.lst us)) ∧ Ext gE H0 g (upd H a (.lst us)) ∧ Slots o H0 g (wr ρ j (.ow (.lst ys))) σ (upd H a (.lst us)) ∧
      (∀ i d b, i ≠ j → rd ρ i = .ow d → σ[i]? = some (some (.ref b)) → b ≠ a) := by
  obtain ⟨a, ea, ⟨vs, hu, r⟩, n, m, z⟩ := sl.ow j _ h
  have ap : ∀ i d b, i ≠ j → rd ρ i = .ow d → σ[i]? = some (some (.ref b)) → b ≠ a := fun i d b ne h1 h2 q => by
    subst q
    exact sl.ap j i _ d b (Ne.symm ne) h h1 ea h2
  refine ⟨a, vs, ea, hu, r, fun ys us ry => ⟨cur_upd c hu (fun ps z => by cases z) (fun ps z => by cases z) n m, ext_upd e z, ?_, ap⟩⟩
  have hj := rd_lt (fun z => by cases z) ρ j h
  have f : ∀ i, rd (wr ρ j (.ow (.lst ys))) i = if j = i then .ow (.lst ys) else rd ρ i := fun i => by
    rw [rd_wr]
    by_cases e : j = i
    · rw [if_pos ⟨e, hj⟩, if_pos e]
    · rw [if_neg (fun z => e z.1), if_neg e]
  refine ⟨by rw [wr_len]; exact sl.len, fun i d hi => ?_, fun i d hi => ?_, fun i l d1 d2 b nn h1 h2 e1 => ?_⟩
  · rw [f i] at hi
    by_cases q : j = i
    · rw [if_pos q] at hi; cases hi
    · rw [if_neg q] at hi; exact sl.fz i d hi
  · rw [f i] at hi
    by_cases q : j = i
    · rw [if_pos q] at hi
      cases hi
      rw [← q]
      exact ⟨a, ea, ⟨us, upd_same, ry⟩, n, m, z⟩
    · rw [if_neg q] at hi
      obtain ⟨b, h1, h2, h3, h4, h5⟩ := sl.ow i d hi
      have ne := ap i d b (fun z => q z.symm) hi h1
      exact ⟨b, h1, Own.le (.refl g) (upd_ne ne) h2, h3, h4, h5⟩
  · have g1 : ∃ d', rd ρ i = .ow d' := by
      rw [f i] at h1
      by_cases q : j = i
      · exact ⟨_, by rw [← q]; exact h⟩
      · rw [if_neg q] at h1; exact ⟨_, h1⟩
    have g2 : ∃ d', rd ρ l = .ow d' := by
      rw [f l] at h2
      by_cases q : j = l
      · exact ⟨_, by rw [← q]; exact h⟩
      · rw [if_neg q] at h2; exact ⟨_, h2⟩
    obtain ⟨d1', g1⟩ := g1
    obtain ⟨d2', g2⟩ := g2
    exact sl.ap i l d1' d2' b nn g1 g2 e1
theorem x_app {i : Nat} {x : Str} {a : Expr} {f : Env → S → R D} {p ap cp pos : Pos} (hN : X.N[i]? = some x) (hv : Vis X.env.scope x) (hd : (x == ("__debug__" : Str)) = false) (hcd : (x == ("__classdict__" : Str)) = false)
    (ha : PE X a (tE o H0 W .F f)) (hs : isStar a = false) (hl : (ap.endLine == cp.line) = true) :
    PS X (.Expr (.Call (.Attribute (.Name x p) "append" ap) [a] [] cp) pos) (tX o H0 gE W (sApp i f)) := by
  refine ps_imp (ps_expr (pe_bm PySem.F.plainAttrs_list PySem.F.slot_list_append PySem.F.type_list_append mt_append (pe_var hN hv hd hcd) (pa_cons ha pa_nil (star_no hs)) rfl (by rw [star_no hs]; rfl) hl (star_no hs) rfl) rfl) fun D σ H ⟨g, ρ, s, c, sl, e, q0⟩ => ?_
  unfold sApp at q0
  split at q0
  · rename_i xs hr
    obtain ⟨a, vs, ea, hu, r, _⟩ := Slots.mut c sl e hr
    refine ⟨.ref a, ea, .inl ⟨rfl, vs, .inl (.inl hu)⟩, ?_⟩
    refine tE_mono (oneX (ma := .F) c sl e q0) fun v H1 ⟨y, g1, s1, c1, sl1, e1, e2, hy, q⟩ => ?_
    split at q
    · rename_i hl
      obtain ⟨a', vs', ea', hu', r', mk⟩ := Slots.mut c1 sl1 e2 hr
      rw [ea] at ea'
      cases ea'
      obtain ⟨c3, e3, sl3, _⟩ := mk (xs ++ [y]) (vs' ++ [v]) (r'.append (.cons hy .nil))
      rw [lim_line, ← r'.length] at hl
      exact ⟨a, vs', v, rfl, rfl, hu', hl, q g1 σ _ (.refl _) c3 sl3 e3⟩
    · exact q.elim
  · exact q0.elim
theorem x_clr {i : Nat} {x : Str} {p ap cp pos : Pos} (hN : X.N[i]? = some x) (hv : Vis X.env.scope x) (hd : (x == ("__debug__" : Str)) = false) (hcd : (x == ("__classdict__" : Str)) = false) (hl : (ap.endLine == cp.line) = true) :
    PS X (.Expr (.Call (.Attribute (.Name x p) "clear" ap) [] [] cp) pos) (tX o H0 gE W (sClr i)) := by
  refine ps_imp (ps_expr (pe_bm0 PySem.F.plainAttrs_list PySem.F.slot_list_clear PySem.F.type_list_clear mt_clear (pe_var hN hv hd hcd) rfl hl) rfl) fun D σ H ⟨g, ρ, s, c, sl, e, q0⟩ => ?_
  unfold sClr at q0
  split at q0
  · rename_i xs hr
    obtain ⟨a, vs, ea, hu, r, mk⟩ := Slots.mut c sl e hr
    obtain ⟨c3, e3, sl3, _⟩ := mk [] [] .nil
    exact ⟨.ref a, ea, .inl ⟨rfl, vs, .inl (.inl hu)⟩, a, vs, rfl, rfl, hu, q0 g σ _ (.refl _) c3 sl3 e3⟩
  · exact q0.elim
theorem dropN_eq {α : Type} : ∀ (xs : List α) (i : Nat), dropN xs i = xs.eraseIdx i
  | [], _ => rfl
  | x :: r, 0 => rfl
  | x :: r, i + 1 => by simp only [dropN, List.eraseIdx_cons_succ, dropN_eq r i]
theorem Reps.erase {g : Gh} : ∀ {xs : List D} {vs : List V} (i : Nat), Reps o g xs vs → Reps o g (dropN xs i) (vs.eraseIdx i)
  | [], _, _, h => by rw [h.of_nil]; exact .nil
  | x :: xs, _, 0, h => by
    obtain ⟨v, r, rfl, a, b⟩ := h.of_cons
    exact b
  | x :: xs, _, i + 1, h => by
    obtain ⟨v, r, rfl, a, b⟩ := h.of_cons
    exact .cons a (Reps.erase i b)
theorem pop_of {g : Gh} {xs r : List D} {vs : List V} {k : Int} {y : D} (hr : Reps o g xs vs) (h : popAt xs k = some (y, r)) :
    ∃ j v, -(2 ^ 63) ≤ k ∧ k < 2 ^ 63 ∧ seqIndex? k vs.length = some j ∧ vs[j]? = some v ∧ Rep o g y v ∧ Reps o g r (vs.eraseIdx j) := by
  unfold popAt at h
  have l := hr.length
  dsimp only at h
  have key : ∀ j : Int, (if 0 ≤ j ∧ j < (xs.length : Int) ∧ inB k = true then (nth xs j.toNat).map fun y => (y, dropN xs j.toNat) else none) = some (y, r) → 0 ≤ j ∧ j < (xs.length : Int) ∧ -(2 ^ 63) ≤ k ∧ k < 2 ^ 63 ∧ ∃ v, vs[j.toNat]? = some v ∧ Rep o g y v ∧ Reps o g r (vs.eraseIdx j.toNat) := by
    intro j h
    by_cases q : 0 ≤ j ∧ j < (xs.length : Int) ∧ inB k = true
    · rw [if_pos q] at h
      obtain ⟨q1, q2, q3⟩ := q
      have q3 := Nat.le_of_ble_eq_true q3
      cases e : nth xs j.toNat with
      | none => rw [e] at h; cases h
      | some z =>
        rw [e] at h
        cases h
        obtain ⟨v, hv, rv⟩ := hr.get e
        exact ⟨q1, q2, by omega, by omega, v, hv, rv, hr.erase _⟩
    · rw [if_neg q] at h
      cases h
  by_cases h0 : 0 ≤ k
  · rw [if_pos h0] at h
    obtain ⟨q1, q2, q3, q4, v, hv, rv, re⟩ := key k h
    exact ⟨_, v, q3, q4, seqIndex_of h0 (by rw [l]; exact q2), hv, rv, re⟩
  · rw [if_neg h0] at h
    obtain ⟨q1, q2, q3, q4, v, hv, rv, re⟩ := key _ h
    rw [← l] at q1 q2 hv re
    exact ⟨_, v, q3, q4, seqIndex_neg (by omega) (by omega), hv, rv, re⟩
/-- xs.pop(k) of an owned list, as an expression's machine -/
theorem pe_popAt {j : Nat} {x : Str} {a : Expr} {ta : TE} {p ap cp : Pos} (hN : X.N[j]? = some x) (hv : Vis X.env.scope x) (hd : (x == ("__debug__" : Str)) = false) (hcd : (x == ("__classdict__" : Str)) = false) (ha : PE X a ta) (hs : isStar a = false) (hl : (ap.endLine == cp.line) = true) :
    PE X (.Call (.Attribute (.Name x p) "pop" ap) [a] [] cp) (tBM X.K "list" rPopAt (tVar j) (tCons ta tNil)) :=
  pe_bm PySem.F.plainAttrs_list PySem.F.slot_list_pop PySem.F.type_list_pop mt_popAt (pe_var hN hv hd hcd) (pa_cons ha pa_nil (star_no hs)) rfl (by rw [star_no hs]; rfl) hl (star_no hs) rfl
theorem x_popt {i j : Nat} {y x : Str} {a : Expr} {f : Env → S → R D} {md : Md} {p py ap cp pos : Pos} (hNd : X.N.Nodup) (hi : X.N[i]? = some y) (hyl : Loc X.env.scope y) (hf : X.fn y = true ∨ X.env.scope.names.lookup y = some .local)
    (hN : X.N[j]? = some x) (hv : Vis X.env.scope x) (hd : (x == ("__debug__" : Str)) = false) (hcd : (x == ("__classdict__" : Str)) = false) (ha : PE X a (tE o H0 W md f)) (hs : isStar a = false) (hl : (ap.endLine == cp.line) = true) :
    PS X (.Assign [.Name y py] (.Call (.Attribute (.Name x p) "pop" ap) [a] [] cp) pos) (tX o H0 gE W (sPopt i j f)) := by
  refine ps_imp (ps_set hNd hi hyl (pe_popAt hN hv hd hcd ha hs hl) rfl hf) fun D σ H ⟨g, ρ, s, c, sl, e, q0⟩ => ?_
  unfold sPopt at q0
  split at q0
  · rename_i xs hr
    obtain ⟨a, vs, ea, hu, r, _⟩ := Slots.mut c sl e hr
    refine ⟨.ref a, ea, .inl ⟨rfl, vs, .inl (.inl hu)⟩, ?_⟩
    refine tE_mono (oneX (ma := md) c sl e q0) fun v H1 ⟨z, g1, s1, c1, sl1, e1, e2, hz, q⟩ => ?_
    cases z with
    | int k =>
      obtain rfl := hz.of_int
      obtain ⟨a', vs', ea', hu', r', mk⟩ := Slots.mut c1 sl1 e2 hr
      rw [ea] at ea'
      cases ea'
      cases hp : popAt xs k with
      | none => simp only [hp] at q; exact q.elim
      | some yr =>
        obtain ⟨yy, rr⟩ := yr
        simp only [hp] at q
        obtain ⟨j', w, h1, h2, h3, h4, h5, h6⟩ := pop_of r' hp
        obtain ⟨c3, e3, sl3, _⟩ := mk rr (vs'.eraseIdx j') h6
        exact ⟨a, vs', k, j', w, rfl, rfl, hu', h1, h2, h3, h4, q g1 _ _ (.refl _) c3 (sl3.fzd h5 i) e3⟩
    | _ => exact q.elim
  · exact q0.elim
theorem x_apop {i j : Nat} {y x : Str} {a : Expr} {f : Env → S → R D} {md : Md} {p py ap cp ap2 cp2 pos : Pos} (hi : X.N[i]? = some y) (hvy : Vis X.env.scope y) (hdy : (y == ("__debug__" : Str)) = false) (hcdy : (y == ("__classdict__" : Str)) = false)
    (hN : X.N[j]? = some x) (hv : Vis X.env.scope x) (hd : (x == ("__debug__" : Str)) = false) (hcd : (x == ("__classdict__" : Str)) = false) (ha : PE X a (tE o H0 W md f)) (hs : isStar a = false) (hl : (ap.endLine == cp.line) = true) (hl2 : (ap2.endLine == cp2.line) = true) :
    PS X (.Expr (.Call (.Attribute (.Name y py) "append" ap2) [.Call (.Attribute (.Name x p) "pop" ap) [a] [] cp] [] cp2) pos) (tX o H0 gE W (sApop i j f)) := by
  refine ps_imp (ps_expr (pe_bm PySem.F.plainAttrs_list PySem.F.slot_list_append PySem.F.type_list_append mt_append (pe_var hi hvy hdy hcdy) (pa_cons (pe_popAt hN hv hd hcd ha hs hl) pa_nil rfl) rfl rfl hl2 rfl rfl) rfl) fun D σ H ⟨g, ρ, s, c, sl, e, q0⟩ => ?_
  unfold sApop at q0
  split at q0
  · exact q0.elim
  · rename_i hij
    split at q0
    · rename_i ys xs hri hrj
      obtain ⟨b, us, eb, hub, rb, _⟩ := Slots.mut c sl e hri
      obtain ⟨a, vs, ea, hu, r, _⟩ := Slots.mut c sl e hrj
      refine ⟨.ref b, eb, .inl ⟨rfl, us, .inl (.inl hub)⟩, .ref a, ea, .inl ⟨rfl, vs, .inl (.inl hu)⟩, ?_⟩
      refine tE_mono (oneX (ma := md) c sl e q0) fun v H1 ⟨z, g1, s1, c1, sl1, e1, e2, hz, q⟩ => ?_
      cases z with
      | int k =>
        obtain rfl := hz.of_int
        obtain ⟨a', vs', ea', hu', r', mk⟩ := Slots.mut c1 sl1 e2 hrj
        rw [ea] at ea'
        cases ea'
        cases hp : popAt xs k with
        | none => simp only [hp] at q; exact q.elim
        | some yr =>
          obtain ⟨yy, rr⟩ := yr
          simp only [hp] at q
          split at q
          · rename_i hlim
            obtain ⟨j', w, h1, h2, h3, h4, h5, h6⟩ := pop_of r' hp
            obtain ⟨c3, e3, sl3, ap3⟩ := mk rr (vs'.eraseIdx j') h6
            have hri' : rd (wr ρ j (.ow (.lst rr))) i = .ow (.lst ys) := by
              rw [rd_wr, if_neg (fun z => hij z.1.symm)]
              exact hri
            obtain ⟨b', us', eb', hub', rb', mk2⟩ := Slots.mut c3 sl3 e3 hri'
            rw [eb] at eb'
            cases eb'
            obtain ⟨c4, e4, sl4, _⟩ := mk2 (ys ++ [yy]) (us' ++ [w]) (rb'.append (.cons h5 .nil))
            refine ⟨a, vs', k, j', w, rfl, rfl, hu', h1, h2, h3, h4, ?_⟩
            rw [lim_line, ← rb'.length] at hlim
            exact ⟨b, us', w, rfl, rfl, hub', hlim, q g1 σ _ (.refl _) c4 sl4 e4⟩
          · exact q.elim
      | _ => exact q.elim
    · exact q0.elim
/-- an own exception class, as it stands -/
structure Xc (o : Om) (K : PySem.W.Frag) (mg : Str → Option Value) (c : Nat) (x : Str) : Prop where
  ex : ∃ B newId initId bmB, ExcBaseFacts B newId initId bmB ∧ PySem.W.excIn K (o.xc c) bmB newId = true
  gC : mg x = some (.ref (o.xc c))
  kC : PySem.W.keepIn K (.ref (o.xc c)) = true
  sub : PySem.W.subIn K (.ref (o.xc c)) (.type "BaseException") = some true
  ty : PySem.W.typeIn K (.ref (o.xc c)) = some (.type "type")
theorem x_raise {c : Nat} {x m : Str} {j : Nat} {p p2 cp pos : Pos} (hc : X.calm = true) (tk : Takes X W) (F : Xc o X.K X.mg c x) (hg : Gl X x) (hdb : (x == ("__debug__" : Str)) = false) :
    PS X (.Raise (some (.Call (.Name x p) [.Constant (.str m) j p2] [] cp)) none pos) (tX o H0 gE W fun _ s => .ex c [] s) := by
  obtain ⟨B, n, i, bm, E, q⟩ := F.ex
  exact ps_imp (ps_raise hc tk (pmk_own E q F.gC F.kC (raises_own F.sub F.ty) hg hdb)) fun D σ H ⟨g, ρ, s, c, sl, e, q0⟩ => q0 g σ H (.refl g) c e
end
end MR
set_option Elab.async false
set_option linter.all false
set_option maxRecDepth 100000
namespace MR
open PySem PySem.Spec PyProof.Rows L2

section
variable {o : Om} {H0 : Hp} {gE : GE} {W : WX} {X : Cx} {k : Nat}
def PpR (o : Om) (H0 : Hp) (W : WX) (X : Cx) (pos : Pos) (keys : List (Option Expr)) (values : List Expr) (ks : List Str) (l : Env → S → R (List D)) : Prop :=
  ∃ trs, PPs X pos keys values trs ∧ ∀ (σ : L2.St) (g : Gh) (ρ : Env) (s : S) (H : Hp) (Q : List (V × V) → Hp → Prop), Cur o g s H → Slots o H0 g ρ σ H →
    Po o W σ g H (l ρ s) (fun ds _ g' H' => ds.length = ks.length ∧ ∀ vs, Reps o g' ds vs → Q ((ks.map V.str).zip vs) H') → tPairs trs σ H Q
theorem pp_nil {pos : Pos} : PpR o H0 W X pos [] [] [] (fun _ s => .ok [] s) :=
  ⟨[], pps_nil, fun σ g ρ s H Q c sl p => (p g H (.refl _ _) c).2 [] .nil⟩
theorem pp_cons {pos p1 : Pos} {j : Nat} {x : Str} {keys : List (Option Expr)} {e : Expr} {values : List Expr} {ks : List Str} {f : Env → S → R D} {l : Env → S → R (List D)} (he : PE X e (tE o H0 W .F f)) (hr : PpR o H0 W X pos keys values ks l) :
    PpR o H0 W X pos (some (.Constant (.str x) j p1) :: keys) (e :: values) (x :: ks) (lCons (evl1 f) l) := by
  obtain ⟨trs, h, m⟩ := hr
  refine ⟨(tC (.str x), tE o H0 W .F f) :: trs, pps_cons pe_str he h, fun σ g ρ s H Q c sl p => ?_⟩
  show tE o H0 W .F f σ H _
  have p : Po o W σ g H ((f ρ s).bind fun y s => (l ρ s).bind fun ys s => .ok (y :: ys) s) fun ds _ g' H' => ds.length = (x :: ks).length ∧ ∀ vs, Reps o g' ds vs → Q (((x :: ks).map V.str).zip vs) H' := by
    have e : lCons (evl1 f) l ρ s = ((f ρ s).bind fun y s => (l ρ s).bind fun ys s => .ok (y :: ys) s) := by
      unfold lCons evl1
      cases f ρ s <;> rfl
    rw [e] at p
    exact p
  refine tE_mono (one (ma := .F) c sl p) fun v H1 ⟨y, g1, s1, c1, sl1, e1, hy, q⟩ => ?_
  refine m σ g1 ρ s1 H1 _ c1 sl1 ?_
  cases hl : l ρ s1 with
  | no => rw [hl] at q; exact q.elim
  | ex cc xs s2 => rw [hl] at q; exact q
  | ok ds s2 =>
    rw [hl] at q
    intro g2 H2 e2 c2
    obtain ⟨q1, q2⟩ := q g2 H2 e2 c2
    refine ⟨by simpa using q1, fun vs r => ?_⟩
    exact q2 (v :: vs) (.cons (Rep.le e2.le hy) r)
theorem mergeK_dist : ∀ (more acc : List (Key × V)), (∀ p ∈ more, ∀ q ∈ acc, q.1 ≠ p.1) → more.Pairwise (fun a b => a.1 ≠ b.1) → mergeK acc more = acc ++ more
  | [], acc, _, _ => by simp [mergeK]
  | p :: r, acc, h1, h2 => by
    have e : putK acc p.1 p.2 = acc ++ [p] := by
      unfold putK
      rw [if_neg]
      intro z
      rw [List.any_eq_true] at z
      obtain ⟨q, hq, e⟩ := z
      exact h1 p List.mem_cons_self q hq (of_decide_eq_true e)
    show mergeK (putK acc p.1 p.2) r = _
    rw [e, mergeK_dist r (acc ++ [p]) (fun a ha b hb => ?_) (List.pairwise_cons.mp h2).2, List.append_assoc]
    · rfl
    · rcases List.mem_append.mp hb with hb | hb
      · exact h1 a (List.mem_cons_of_mem _ ha) b hb
      · have : b = p := by simpa using hb
        subst this
        exact (List.pairwise_cons.mp h2).1 a ha
theorem dist_pw : ∀ {ks : List Str}, distK ks = true → ks.Pairwise (fun a b => a ≠ b)
  | [], _ => .nil
  | x :: r, h => by
    unfold distK at h
    simp only [Bool.and_eq_true, List.all_eq_true, Bool.not_eq_true'] at h
    refine .cons (fun y hy => ?_) (dist_pw h.2)
    have := h.1 y hy
    rw [beq_eq_false_iff_ne] at this
    exact this
theorem zip_kV : ∀ (ks : List Str) (vs : List V), (ks.map V.str).zip vs = (((ks.map Sum.inr).zip vs : List (Key × V))).map fun kv => (kV kv.1, kv.2)
  | [], vs => rfl
  | x :: ks, [] => rfl
  | x :: ks, v :: vs => by
    simp only [List.map_cons, List.zip_cons_cons, zip_kV ks vs]
    rfl
theorem zip_pw : ∀ {ks : List Str}, ks.Pairwise (fun a b => a ≠ b) → ∀ vs : List V, ((ks.map Sum.inr).zip vs : List (Key × V)).Pairwise (fun a b => a.1 ≠ b.1)
  | [], _, vs => .nil
  | x :: ks, h, [] => .nil
  | x :: ks, h, v :: vs => by
    obtain ⟨h1, h2⟩ := List.pairwise_cons.mp h
    refine .cons (fun p hp => ?_) (zip_pw h2 vs)
    have := (List.of_mem_zip hp).1
    obtain ⟨y, hy, e⟩ := List.mem_map.mp this
    rw [← e]
    exact fun z => h1 y hy (Sum.inr.inj z)
theorem zip_keys : ∀ (ks : List Str) (vs : List V), ks.length = vs.length → ks.map D.str = ((ks.map Sum.inr).zip vs : List (Key × V)).map fun p => keyD p.1
  | [], _, _ => rfl
  | x :: ks, [], h => by simp at h
  | x :: ks, v :: vs, h => by
    simp only [List.map_cons, List.zip_cons_cons]
    rw [zip_keys ks vs (by simpa using h)]
    rfl
theorem zip_vals : ∀ (ks : List Str) (vs : List V), ks.length = vs.length → vs = ((ks.map Sum.inr).zip vs : List (Key × V)).map (·.2)
  | [], [], _ => rfl
  | [], v :: vs, h => by simp at h
  | x :: ks, [], h => by simp at h
  | x :: ks, v :: vs, h => by
    simp only [List.map_cons, List.zip_cons_cons]
    rw [← zip_vals ks vs (by simpa using h)]
theorem Mo.newD {Hs H : Hp} {g : Gh} {s : S} {ks xs : List D} {u : HO} {vv : List V} {p : Addr} (c : Cur o g s H) (h : H p = none) (hs : Hs p = none) (k : DicK u ks vv) (r : Reps o g xs vv) : Ext g H g (upd H p u) ∧ Cur o g s (upd H p u) ∧ Mo o Hs .O g (upd H p u) (.dic ks xs) (.ref p) := by
  obtain ⟨e, c1⟩ := ext_new c u h k.nt
  refine ⟨e, c1, ?_⟩
  unfold Mo
  dsimp only
  rw [if_pos (show isBox (.dic ks xs) = true from rfl)]
  exact ⟨p, rfl, ⟨u, vv, upd_same, k, r⟩, c.nfz h, c.ncl h, hs⟩
theorem x_dnew {pos : Pos} {l : Env → S → R (List D)} (hl : l = fun _ s => .ok [] s) : PE X (.Dict [] [] pos) (tE o H0 W .O (vDsp [] l)) := by
  subst hl
  refine pe_imp pe_dnewK fun σ H Q ⟨g, ρ, s, c, sl, p⟩ q hq => ?_
  obtain ⟨e, c1, m⟩ := Mo.newD (ks := []) (xs := []) (u := .dK []) c hq hq ⟨[], rfl, rfl, rfl⟩ .nil
  have p : Po o W σ g H (.ok (.dic [] []) s) fun d _ g' H' => ∀ v, Mo o H .O g' H' d v → Q v H' := by
    unfold vDsp at p
    simpa [R.bind, distK] using p
  exact p g _ e c1 _ m
theorem x_dsp {keys : List (Option Expr)} {values : List Expr} {ks : List Str} {l : Env → S → R (List D)} {pos : Pos} (h : PpR o H0 W X pos keys values ks l) (hall : keys.all (·.isSome) = true) (hl : keys.length = values.length) (h0 : keys ≠ []) (h15 : keys.length ≤ 15) :
    PE X (.Dict keys values pos) (tE o H0 W .O (vDsp ks l)) := by
  obtain ⟨trs, h, m⟩ := h
  refine pe_imp (pe_disp h hall hl h0 h15) fun σ H Q ⟨g, ρ, s, c, sl, p⟩ q hq => ?_
  obtain ⟨e, c1⟩ := ext_new c (.dK []) hq (fun ps z => by cases z)
  have np := c.nfz hq
  have nc := c.ncl hq
  refine m σ g ρ s _ _ c1 (sl.ext e) ?_
  unfold vDsp at p
  cases hl : l ρ s with
  | no => rw [hl] at p; exact p.elim
  | ex cc xs s2 => rw [hl] at p; exact fun g' H' e' c' => p g' H' (e.trans e') c'
  | ok ds s2 =>
    rw [hl] at p
    have p : Po o W σ g H (if ds.length = ks.length ∧ ks.length ≤ 15 ∧ distK ks = true then .ok (.dic (ks.map .str) ds) s2 else .no) fun d _ g' H' => ∀ v, Mo o H .O g' H' d v → Q v H' := p
    intro g2 H2 e2 c2
    by_cases hc : ds.length = ks.length ∧ ks.length ≤ 15 ∧ distK ks = true
    · rw [if_pos hc] at p
      obtain ⟨hc1, hc2, hc3⟩ := hc
      refine ⟨hc1, fun vs r => ?_⟩
      have nc2 : q ∉ g2.cl := fun z => by
        have := e2.ncl q z nc
        rw [upd_same] at this
        cases this
      have hu : H2 q = some (.dK []) := e2.old q _ upd_same (fun ps z => by cases z) nc2
      have nf2 : g2.Fz q = none := (e2.fzs q (by rw [upd_same]; simp)).trans np
      have hlen : vs.length = ks.length := by rw [r.length, hc1]
      refine ⟨hu, (ks.map Sum.inr).zip vs, ?_, ?_, ?_⟩
      · exact zip_kV ks vs
      · rw [List.length_zip, List.length_map]
        omega
      · have pw : ((ks.map Sum.inr).zip vs : List (Key × V)).Pairwise (fun a b => a.1 ≠ b.1) := zip_pw (dist_pw hc3) vs
        rw [mergeK_dist _ [] (fun _ _ _ z => by cases z) pw, List.nil_append]
        have dk : DicK (.dK ((ks.map Sum.inr).zip vs)) (ks.map .str) vs := ⟨_, rfl, zip_keys ks vs hlen.symm, zip_vals ks vs hlen.symm⟩
        have c3 : Cur o g2 s2 (upd H2 q (.dK ((ks.map Sum.inr).zip vs))) := cur_upd c2 hu (fun ps z => by cases z) (fun ps z => by cases z) nf2 nc2
        refine p g2 _ (ext_upd (e.trans e2) hq) c3 _ ?_
        unfold Mo
        dsimp only
        rw [if_pos (show isBox (.dic (ks.map .str) ds) = true from rfl)]
        exact ⟨q, rfl, ⟨_, vs, upd_same, dk, r⟩, nf2, nc2, hq⟩
    · rw [if_neg hc] at p
      exact p.elim
theorem setN_len {α : Type} : ∀ (xs : List α) (i : Nat) (y : α), (setN xs i y).length = xs.length
  | [], _, _ => rfl
  | x :: r, 0, y => rfl
  | x :: r, i + 1, y => by simp only [setN, List.length_cons, setN_len r i y]
theorem nth_setN {α : Type} : ∀ (xs : List α) (i j : Nat) (y : α), nth (setN xs i y) j = if i = j ∧ i < xs.length then some y else nth xs j
  | [], i, j, y => by simp [setN, nth]
  | x :: r, 0, 0, y => by simp [setN, nth]
  | x :: r, 0, j + 1, y => by simp [setN, nth]
  | x :: r, i + 1, 0, y => by simp [setN, nth]
  | x :: r, i + 1, j + 1, y => by
    simp only [setN, nth, nth_setN r i j y, List.length_cons]
    by_cases h : i = j ∧ i < r.length
    · rw [if_pos h, if_pos ⟨by omega, by omega⟩]
    · rw [if_neg h, if_neg (by omega)]
theorem nth_inj {l : List Addr} (nd : l.Nodup) : ∀ {i j : Nat} {a : Addr}, nth l i = some a → nth l j = some a → i = j := by
  induction nd with
  | nil => intro i j a h; simp [nth] at h
  | @cons x r hx _ ih =>
    intro i j a h1 h2
    cases i with
    | zero =>
      have e : x = a := by simpa [nth] using h1
      subst e
      cases j with
      | zero => rfl
      | succ j => exact absurd rfl (hx _ (mem_nth (l := r) (k := j) h2))
    | succ i =>
      cases j with
      | zero =>
        have e : x = a := by simpa [nth] using h2
        subst e
        exact absurd rfl (hx _ (mem_nth (l := r) (k := i) h1))
      | succ j => rw [ih h1 h2]
/-- a cell's content is changed -/
theorem cur_cell {g : Gh} {s : S} {H : Hp} (c : Cur o g s H) {n : Nat} {a : Addr} (h : nth g.cl n = some a) {d : D} {u : HO} (hd : Own o g (upd H a u) a d) :
    Cur o g (setN s n d) (upd H a u) ∧ Ext g H g (upd H a u) := by
  obtain ⟨d0, e0, w0, n0⟩ := c.cel n a h
  have hs : n < s.length := nth_lt e0
  refine ⟨⟨fun b v e => ?_, c.fzt, fun m b e => ?_, by rw [setN_len]; exact c.len, c.cnd, ?_⟩, ⟨.refl g, fun _ _ => rfl, fun b v e _ m => ?_, fun b m nn => absurd m nn, fun b e => ?_⟩⟩
  · have ne : b ≠ a := fun z => by rw [z, n0] at e; cases e
    rw [upd_ne ne]
    exact c.fz b v e
  · obtain ⟨d1, e1, w1, n1⟩ := c.cel m b e
    by_cases q : n = m
    · subst q
      rw [h] at e
      cases e
      exact ⟨d, by rw [nth_setN, if_pos ⟨rfl, hs⟩], hd, n0⟩
    · have ne : b ≠ a := fun z => by
        subst z
        exact q (nth_inj c.cnd h e)
      exact ⟨d1, by rw [nth_setN, if_neg (fun z => q z.1)]; exact e1, Own.le (.refl g) (upd_ne ne) w1, n1⟩
  · cases d0 with
    | lst xs =>
      obtain ⟨vs, hu, _⟩ := w0
      exact tabs_upd c.tab hu (fun ps z => by cases z) (fun ps z => by cases z)
    | dic ks xs =>
      obtain ⟨u0, vv, hu, k, _⟩ := w0
      exact tabs_upd c.tab hu k.nt k.ne
    | _ => exact w0.elim
  · have ne : b ≠ a := fun z => m (by rw [z]; exact mem_nth h)
    rw [upd_ne ne]
    exact e
  · by_cases z : b = a
    · rw [z, upd_same]; simp
    · rw [upd_ne z]; exact e
theorem nth_last {α : Type} (a : α) : ∀ l : List α, nth (l ++ [a]) l.length = some a
  | [] => rfl
  | _ :: r => nth_last a r
theorem nth_snoc {α : Type} {a b : α} : ∀ (l : List α) (k : Nat), ¬ k < l.length → nth (l ++ [a]) k = some b → k = l.length ∧ b = a
  | [], 0, _, h => by
    simp only [List.nil_append, nth, Option.some.injEq] at h
    exact ⟨rfl, h.symm⟩
  | [], k + 1, _, h => by simp [nth] at h
  | x :: r, 0, h1, _ => absurd (Nat.succ_pos _) h1
  | x :: r, k + 1, h1, h => by
    obtain ⟨h2, h3⟩ := nth_snoc r k (fun z => h1 (Nat.succ_lt_succ z)) h
    exact ⟨by rw [h2]; rfl, h3⟩
theorem new_cell {g g1 : Gh} {s1 : S} {H H1 : Hp} {x : D} {a : Addr} (c1 : Cur o g1 s1 H1) (e1 : Ext g H g1 H1) (w : Own o g1 H1 a x) (n : g1.Fz a = none) (m : a ∉ g1.cl) (z : H a = none) :
    Ext g H ⟨g1.Fz, g1.cl ++ [a]⟩ H1 ∧ Cur o ⟨g1.Fz, g1.cl ++ [a]⟩ (s1 ++ [x]) H1 ∧ Rep o ⟨g1.Fz, g1.cl ++ [a]⟩ (.cell s1.length) (.ref a) := by
  have l : Le g1 ⟨g1.Fz, g1.cl ++ [a]⟩ := ⟨fun _ _ h => h, [a], rfl⟩
  refine ⟨⟨e1.le.trans l, e1.fzs, fun b u h n m' => e1.old b u h n fun zz => m' (List.mem_append_left _ zz), fun b hb nb => ?_, e1.still⟩, ⟨c1.fz, c1.fzt, fun k b e => ?_, by simp [c1.len], ?_, c1.tab⟩, ?_⟩
  · rcases List.mem_append.mp hb with hb | hb
    · exact e1.ncl b hb nb
    · have : b = a := by simpa using hb
      subst this
      exact z
  · by_cases hk : k < g1.cl.length
    · have e' : nth g1.cl k = some b := by
        cases q : nth g1.cl k with
        | none => exact absurd (nth_none q) (by omega)
        | some b' =>
          have e : nth (g1.cl ++ [a]) k = some b := e
          rw [nth_append q] at e
          exact e
      obtain ⟨d, h1, h2, h3⟩ := c1.cel k b e'
      exact ⟨d, nth_append h1, Own.le l rfl h2, h3⟩
    · obtain ⟨rfl, rfl⟩ := nth_snoc _ _ hk e
      exact ⟨x, by rw [c1.len]; exact nth_last x s1, Own.le l rfl w, n⟩
  · exact List.nodup_append.mpr ⟨c1.cnd, by simp, fun b hb b' hb' => by
      have : b' = a := by simpa using hb'
      subst this
      exact fun z => m (by rw [← z]; exact hb)⟩
  · simp only [Rep]
    exact ⟨a, rfl, by rw [← c1.len]; exact nth_last a g1.cl⟩
/-- a new cell -/
theorem tN_O {f : Env → S → R D} {σ : L2.St} {H : Hp} {Q : VK} (h : tE o H0 W .F (vNew f) σ H Q) : tE o H0 W .O f σ H Q := by
  obtain ⟨g, ρ, s, c, sl, p⟩ := h
  refine ⟨g, ρ, s, c, sl, ?_⟩
  unfold vNew at p
  cases hf : f ρ s with
  | no => rw [hf] at p; exact p
  | ex cc xs s1 => rw [hf] at p; exact p
  | ok x s1 =>
    rw [hf] at p
    intro g1 H1 e1 c1 v hx
    by_cases hb : isBox x = true
    · have p : Po o W σ g H (.ok (D.cell s1.length) (s1 ++ [x])) fun d _ g' H' => ∀ v, Mo o H .F g' H' d v → Q v H' := by
        have p : Po o W σ g H (if isBox x = true then .ok (D.cell s1.length) (s1 ++ [x]) else .no) _ := p
        rw [if_pos hb] at p
        exact p
      unfold Mo at hx
      dsimp only at hx
      rw [if_pos hb] at hx
      obtain ⟨a, rfl, w, n, m, z⟩ := hx
      obtain ⟨e2, c2, r2⟩ := new_cell c1 e1 w n m z
      exact p _ H1 e2 c2 _ r2
    · have p : Po o W σ g H (if isBox x = true then .ok (D.cell s1.length) (s1 ++ [x]) else .no) fun d _ g' H' => ∀ v, Mo o H .F g' H' d v → Q v H' := p
      rw [if_neg hb] at p
      exact p.elim
theorem x_newc {e : Expr} {f : Env → S → R D} (h : PE X e (tE o H0 W .O f)) : PE X e (tE o H0 W .F (vNew f)) := pe_imp h fun _ _ _ => tN_O
theorem set_newc {st : Stmt} {i : Nat} {f : Env → S → R D} (h : SetR o H0 W X st i .O f) : SetR o H0 W X st i .F (vNew f) := ps_imp h fun _ _ _ => tN_O
/-- .pop(0) of a cell's list -/
theorem x_popc {b : Expr} {fb : Env → S → R D} {j : Nat} {p ap cp : Pos} (hb : PE X b (tE o H0 W .F fb)) (hbase : attributeBase b "pop" X.env (eval b X.env) = eval b X.env) (hl : (ap.endLine == cp.line) = true) :
    PE X (.Call (.Attribute b "pop" ap) [.Constant (.int 0) j p] [] cp) (tE o H0 W .F (vPopc fb)) := by
  refine pe_imp (pe_bm PySem.F.plainAttrs_list PySem.F.slot_list_pop PySem.F.type_list_pop mt_popAt hb (pa_cons pe_int pa_nil) hbase rfl hl rfl rfl) fun σ H Q ⟨g, ρ, s, c, sl, p⟩ => ?_
  refine tE_mono (one (ma := .F) c sl p) fun v H1 ⟨x, g1, s1, c1, sl1, e1, hx, q⟩ => ?_
  cases x with
  | cell k =>
    have hx : Rep o g1 (.cell k) v := hx
    simp only [Rep] at hx
    obtain ⟨a, rfl, ha⟩ := hx
    obtain ⟨d, hd, w, n⟩ := c1.cel k a ha
    dsimp only at q
    rw [hd] at q
    cases d with
    | lst xs =>
      cases xs with
      | nil => exact q.elim
      | cons y r =>
        obtain ⟨vs, hu, rr⟩ := w
        obtain ⟨v0, vr, rfl, r0, r1⟩ := rr.of_cons
        obtain ⟨c2, e2⟩ := cur_cell (d := .lst r) (u := .lst vr) c1 ha ⟨vr, upd_same, r1⟩
        refine ⟨.inl ⟨rfl, _, .inl (.inl hu)⟩, a, v0 :: vr, 0, 0, v0, rfl, rfl, hu, by omega, by omega, seqIndex_of (by omega) (by simp), rfl, ?_⟩
        exact q g1 _ e2 c2 _ r0
    | _ => exact q.elim
  | _ => exact q.elim
theorem eqv_key (kk : Key) (k : Str) : eqv (keyD kk) (.str k) = decide (kk = .inr k) := by
  cases kk with
  | inl i => simp [keyD, eqv]
  | inr x =>
    simp only [keyD, eqv]
    by_cases h : x = k
    · subst h; simp
    · simp [h]
theorem put_rep {g : Gh} {k : Str} {y : D} {v : V} (ry : Rep o g y v) : ∀ (l : List (Key × V)) (xs : List D), Reps o g xs (l.map (·.2)) →
    (putK l (.inr k) v).map (fun p => keyD p.1) = (dput (l.map fun p => keyD p.1) xs (.str k) y).1 ∧ Reps o g (dput (l.map fun p => keyD p.1) xs (.str k) y).2 ((putK l (.inr k) v).map (·.2)) := by
  intro l xs r
  have ha : ((l.map fun p => keyD p.1).any fun x => eqv x (.str k)) = (l.any fun kv => decide (kv.1 = .inr k)) := by
    rw [List.any_map]
    congr 1
    funext p
    exact eqv_key p.1 k
  unfold dput putK
  rw [ha]
  by_cases h : (l.any fun kv => decide (kv.1 = Sum.inr k)) = true
  · rw [if_pos h, if_pos h]
    clear h ha
    refine ⟨?_, ?_⟩
    · rw [List.map_map]
      apply List.map_congr_left
      intro p _
      show keyD (if p.1 = Sum.inr k then (p.1, v) else p).1 = keyD p.1
      split <;> rfl
    · show Reps o g (mapAt (.str k) y (l.map fun p => keyD p.1) xs) _
      induction l generalizing xs with
      | nil =>
        cases xs with
        | nil => exact .nil
        | cons x xs => exact .nil
      | cons p l ih =>
        cases xs with
        | nil => cases r.of_nil
        | cons x xs =>
          obtain ⟨v', r', e, a, b⟩ := r.of_cons
          cases e
          simp only [List.map_cons, mapAt]
          refine .cons ?_ (ih xs b)
          rw [eqv_key]
          by_cases q : p.1 = Sum.inr k
          · rw [if_pos (decide_eq_true q), if_pos q]
            exact ry
          · rw [if_neg (by rw [decide_eq_false q]; exact Bool.false_ne_true), if_neg q]
            exact a
  · rw [if_neg h, if_neg h]
    refine ⟨by rw [List.map_append]; rfl, ?_⟩
    rw [List.map_append]
    exact r.append (.cons ry .nil)
theorem x_cset {b kx e : Expr} {fb fk fa : Env → S → R D} {mk : Md} {pos pos' : Pos} (hu : X.A.units + 1 < cLine) (hb : PE X b (tE o H0 W .F fb)) (hk : PE X kx (tE o H0 W mk fk)) (he : PE X e (tE o H0 W .F fa)) :
    PS X (.Assign [.Subscript b kx pos'] e pos) (tX o H0 gE W (sCset fb fk fa)) := by
  refine ps_imp (ps_dput hu hb hk he (by cases e <;> rfl)) fun D σ H ⟨g, ρ, s, c, sl, ee, p⟩ => ?_
  refine tE_mono (oneX (ma := .F) c sl ee p) fun v H1 ⟨y, g1, s1, c1, sl1, e1, e2, hy, q⟩ => ?_
  refine tE_mono (oneX (ma := .F) c1 sl1 e2 q) fun u H2 ⟨x, g2, s2, c2, sl2, e3, e4, hx, q⟩ => ?_
  refine tE_mono (oneX (ma := mk) c2 sl2 e4 q) fun w H3 ⟨j, g3, s3, c3, sl3, e5, e6, hj, q⟩ => ?_
  have hy := Rep.le e5.le (Rep.le e3.le (show Rep o g1 y v from hy))
  have hx := Rep.le e5.le (show Rep o g2 x u from hx)
  cases x with
  | cell n =>
    simp only [Rep] at hx
    obtain ⟨a, rfl, ha⟩ := hx
    obtain ⟨d, hd, ww, nn⟩ := c3.cel n a ha
    dsimp only at q
    rw [hd] at q
    cases d with
    | dic ks xs =>
      dsimp only at q
      split at q
      · rename_i hc
        simp only [Bool.and_eq_true, decide_eq_true_eq] at hc
        cases j with
        | str k =>
          obtain rfl := hj.of_str
          obtain ⟨u, vv, hu, ⟨l, rfl, ek, ev⟩, r⟩ := ww
          subst ek ev
          obtain ⟨p1, p2⟩ := put_rep (k := k) hy l xs r
          obtain ⟨c4, e7⟩ := cur_cell (d := .dic (dput (l.map fun p => keyD p.1) xs (.str k) y).1 (dput (l.map fun p => keyD p.1) xs (.str k) y).2) (u := .dK (putK l (.inr k) v)) c3 ha ⟨_, _, upd_same, ⟨_, rfl, p1.symm, rfl⟩, p2⟩
          have hl : l.length < sizeLine := by
            have := hc.2
            rw [List.length_map, lim_line] at this
            exact this
          exact ⟨a, _, rfl, .inl ⟨l, .inr k, hu, rfl, hl, rfl⟩, q g3 σ _ (.refl _) c4 (sl3.ext e7) (e6.trans e7)⟩
        | _ => cases hc.1
      · exact q.elim
    | _ => exact q.elim
  | _ => exact q.elim
end
end MR
set_option Elab.async false
set_option linter.all false
set_option maxRecDepth 100000
namespace MR
open PySem PySem.Spec PyProof.Rows L2

section
variable {X : Cx} {pins : List (Addr × Obj)} {σ : L2.St} {H : Hp} {s : Shared}
/-- a thing that was not followed is followed from here on -/
theorem inv_track (I : Inv X pins σ H s) {a C : Addr} {oe : Obj} {vs : Array Value} (he : s.heap.get? a = some oe) (hz : Zc (.ref C) none oe) (hd : oe.data = .fields vs) (na : H a = none) (nL : a ≠ X.env.locals) (n0 : X.s_0.heap.get? a = none) (np : ∀ p ∈ X.pn ++ pins, p.1 ≠ a) :
    Inv X pins σ (upd H a (ExH C a)) s := by
  have ne : ∀ {b : Addr} {u : HO}, H b = some u → b ≠ a := fun {b u} e z => by rw [z, na] at e; cases e
  have nc : ∀ y c, X.env.cells.lookup y = some c → c ≠ a := fun y c e z => by
    obtain ⟨v, o', ho, hd'⟩ := I.cell y c e
    rw [z, he] at ho
    cases ho
    rw [hd] at hd'
    cases hd'
  refine ⟨I.ok, I.os, I.bare, ⟨I.base.keep, I.base.slot, fun b o e n hb => ?_, I.base.there, fun b xs e => ?_, fun b o u e => ?_, fun b ps e => ?_⟩, I.loc, I.cell, ?_, fun y c e => ?_, fun p hp => ?_, fun b u e => ?_, I.len⟩
  · have : b ≠ a := fun z => by rw [z, n0] at e; cases e
    rw [upd_ne this]
    exact I.base.free b o e n hb
  · have q := I.base.tups b xs e
    rw [upd_ne (ne q)]
    exact q
  · have q := I.base.frzs b o u e
    rw [upd_ne (ne q)]
    exact q
  · obtain ⟨more, q⟩ := I.base.tbls b ps e
    exact ⟨more, by rw [upd_ne (ne q)]; exact q⟩
  · rw [upd_ne (Ne.symm nL)]
    exact I.free
  · rw [upd_ne (nc y c e)]
    exact I.freeC y c e
  · obtain ⟨e, n, r⟩ := I.pin p hp
    exact ⟨e, by rw [upd_ne (np p hp)]; exact n, r⟩
  · by_cases q : b = a
    · subst q
      rw [upd_same] at e
      cases e
      exact ⟨⟨oe, vs, he, hz, hd⟩, ⟨oe, he⟩, fun h1 h2 ⟨o1, v1, e1, z1, d1⟩ st => ⟨o1, v1, st _ e1, z1, d1⟩⟩
    · rw [upd_ne q] at e
      refine (I.hok b u e).stay (fun _ _ _ q => q) (fun d q' => ?_) (fun d xs q' => ?_)
      · rw [upd_ne (ne q')]; exact q'
      · rw [upd_ne (ne q')]; exact q'
/-- what «except c as n: y = n» wishes of an exception: it is kept -/
def wEx (K : PySem.W.Frag) (c : Value) (i j : Nat) (D : Ends) : WX := fun cls d σ H =>
  ∃ C : Addr, cls = .ref C ∧ d = none ∧ PySem.W.exmOne K cls c = some true ∧ ∀ a, H a = none → j < σ.length → D.nx (((σ.set i (some (.ref a))).set j (some (.ref a))).set i none) (upd H a (ExH C a))
end
section
variable {X : Cx} {x n y : Str} {c : Value} {i j : Nat} {body : List Stmt} {np ep yp sp pos pos' : Pos} {tb : WX → TS}
theorem ps_try_ex (hs : X.stack = X.env :: X.outer) (hf : X.env.frame = some X.env.locals) (hex : X.ex = []) (hN : X.N.Nodup) (hi : X.N[i]? = some n) (hln : X.env.scope.names.lookup n = some .local) (hj : X.N[j]? = some y) (hly : X.env.scope.names.lookup y = some .local) (hc : Names X x c)
    (hd : (n == ("__debug__" : Str)) = false) (hcd : (n == ("__classdict__" : Str)) = false)
    (hb : ∀ (W : WX) (pn : List (Addr × Obj)) (xe : Value → Shared → Prop), Takes (X.tr pn xe) W → PassesOwn (model X.prog X.w) X.A X.env xe → PSs (X.tr pn xe) body (tb W)) :
    PS X (.Try body [.ExceptHandler (some (.Name x np)) (some n) [.Assign [.Name y yp] (.Name n ep) sp] pos'] [] [] pos) (fun D σ H => tb (wEx X.K c i j D) D σ H) := by
  refine ⟨fun pins s σ H D I h => ?_⟩
  have ok := I.ok
  have hfr : X.A.frames = some (X.env :: X.outer) := by rw [ok.frames, hs]
  have hloc : Loc X.env.scope n := .inl hln
  have hlenN : ∀ {σ H s pins}, Inv X pins σ H s → σ.length = X.N.length := fun I => I.len
  have hiN : i < X.N.length := by
    by_cases q : i < X.N.length
    · exact q
    · rw [List.getElem?_eq_none (by omega)] at hi; cases hi
  have hjN : j < X.N.length := by
    by_cases q : j < X.N.length
    · exact q
    · rw [List.getElem?_eq_none (by omega)] at hj; cases hj
  refine wpAny_Try_except ?_
  refine wpAny_mono ((hb (wEx X.K c i j D) (X.pn ++ pins) (fun e s₁ => wpAny (model X.prog X.w) X.A (noteFrame e X.env) (fun _ s₂ => wpAny (model X.prog X.w) X.A (setFlight e none) (fun _ s₃ =>
    wpAny (model X.prog X.w) X.A (handleBy e X.env [.ExceptHandler (some (.Name x np)) (some n) [.Assign [.Name y yp] (.Name n ep) sp] pos']) (SP X pins D) X.xe s₃) X.xe s₂) X.xe s₁) (fun u s' xx => ?_) PassesOwn.looking).run [] s σ H D (I.toTry _) h) (fun f s1 hsp => ?_) (fun e s1 he => he)
  · obtain ⟨a, B, sI, pins', σ', H', cls, d, rfl, J', nb, up, sky, na, os, ag, C, rfl, rfl, hm, hnx⟩ := xx
    have J : Inv X pins σ' H' sI := J'.ofTry ok
    have sky' : Sky B (X.env :: X.outer) a (Zc (.ref C) none) X.env.locals s'.heap := by rw [← hs]; exact sky
    show wpAny (model X.prog X.w) X.A (noteFrame (.ref a) X.env) _ _ _
    refine Sky.land Zc.steady hfr hf sky' fun h3 fl3 up3 => ?_
    have J3 : Inv X pins σ' H' { s' with heap := h3 } := J.landed nb fl3.1 (up.trans up3) os ag
    obtain ⟨oe3, vs3, he3, hz3, hd3⟩ := fl3.there
    have notFr : ∀ {h : Heap} {o : Obj} {vs : Array Value}, h.FunFrames B (X.env :: X.outer) → h.get? a = some o → o.data = .fields vs → a ∉ frs (X.env :: X.outer) := fun {h o vs} ff e dd hm => by
      obtain ⟨_, o', e', hnf⟩ := ff.mem hm
      rw [e] at e'; cases e'
      exact hnf _ dd
    have nfr := notFr fl3.2.2.1 he3 hd3
    have nL : a ≠ X.env.locals := fun z => nfr (List.mem_filterMap.mpr ⟨X.env, List.mem_cons_self, by rw [hf, z]⟩)
    have nF : a ∉ X.fs := fun hm => by
      obtain ⟨e, he, q⟩ := List.mem_filterMap.mp hm
      exact nfr (List.mem_filterMap.mpr ⟨e, List.mem_cons_of_mem _ he, q⟩)
    -- it is new
    have nI : sI.heap.get? a = none := by
      cases q : sI.heap.get? a with
      | none => rfl
      | some ob =>
        have := nb a ob q (by rw [hs]; exact nfr)
        rw [fl3.2.1] at this
        cases this
    have n0 : X.s_0.heap.get? a = none := by
      cases q : X.s_0.heap.get? a with
      | none => rfl
      | some ob =>
        obtain ⟨o', e'⟩ := J.base.there a ob q (by rw [hex]; simp)
        rw [nI] at e'
        cases e'
    have npin : ∀ p ∈ X.pn ++ pins, p.1 ≠ a := fun p hp z => by
      have := (J.pin p hp).1
      rw [z, nI] at this
      cases this
    have S3 := J3.suite he3 hd3 na nL nF
    refine wpAny_handleBy_cons (codeAny_handlers_test ?_) (by intro q; cases q)
    have LT : PySem.W.Looks (model X.prog X.w) h3 (typeOf (.ref a)) (.ref C) := fun A Q E s k q => wpAny_typeOf_ref (k _ _ he3) (by rw [hz3.1]; exact q)
    have LM := PySem.W.exm_one (M := model X.prog X.w) (J3.kIn) LT hm
    have test : ∀ {Q : Value → Shared → Prop} {E : Value → Shared → Prop}, Q c { s' with heap := h3 } → wpAny (model X.prog X.w) (X.A.mark (some (.ref a))) (eval (.Name x np) X.env) Q E { s' with heap := h3 } := fun {Q E} q => by
      obtain ⟨hg, hdbg, hm | ⟨hm, hv, hnn⟩⟩ := hc
      · exact ld_glob (X := X.suite a ((a, oe3) :: (X.pn ++ pins))) S3 hg hm q hdbg
      · exact ld_blt (X := X.suite a ((a, oe3) :: (X.pn ++ pins))) S3 hg hm hv q hnn hdbg
    refine test (LM.here ?_)
    refine codeAny_handlers_suite_as ?_
    refine HandSPX.lands_againZ fl3 fun h4 fl4 up4 => ?_
    have J4 : Inv X pins σ' H' { s' with heap := h4 } := J.landed nb fl4.1 ((up.trans up3).trans up4) os ag
    obtain ⟨oe4, vs4, he4, hz4, hd4⟩ := fl4.there
    have S4 := J4.suite he4 hd4 na nL nF
    refine store_ok (X := X.suite a ((a, oe4) :: (X.pn ++ pins))) (v := .ref a) S4 hN hi hloc rfl (fun s5 S5 => ?_) (.inr hln)
    have hset : (σ'.set i (some (.ref a)))[i]? = some (some (V.ref a)) := List.getElem?_set_self (by rw [J.len]; exact hiN)
    have suite : PSs (X.suite a ((a, oe4) :: (X.pn ++ pins))) [.Assign [.Name y yp] (.Name n ep) sp] (tAsg (tVar i) (gName j)) := pss_one (ps_set (X := X.suite a ((a, oe4) :: (X.pn ++ pins))) (i := j) hN hj (.inl hly) (pe_var (X := X.suite a ((a, oe4) :: (X.pn ++ pins))) hi (.inl hln) hd hcd) rfl (.inr hly))
    refine wpAny_mono (suite.run [] s5 _ H' { nx := fun σ6 H6 => σ6 = (σ'.set i (some (.ref a))).set j (some (.ref a)) ∧ H6 = H', rt := fun _ _ => False } S5 ⟨.ref a, hset, rfl, rfl⟩) (fun f s6 hsp => ?_) (fun _ _ z => False.elim z)
    cases f with
    | next =>
      obtain ⟨σ6, H6, S6, e6, eH⟩ := hsp
      subst e6
      rw [eH] at S6
      have hp := S6.pin (a, oe4) (List.mem_append_left _ List.mem_cons_self)
      have S7 : Inv X pins ((σ'.set i (some (.ref a))).set j (some (.ref a))) H' s6 := S6.unsuite ok
      have S8 : Inv X ((a, oe4) :: pins) ((σ'.set i (some (.ref a))).set j (some (.ref a))) H' s6 := S7.pins_of fun p hp' => by
        rcases List.mem_cons.mp hp' with z | z
        · subst z
          exact hp
        · exact S7.pin p (List.mem_append_right _ z)
      refine gone_ok S8 hN hi hln fun s7 S9 => ?_
      have hp9 := S9.pin (a, oe4) (List.mem_append_right _ List.mem_cons_self)
      have S10 : Inv X pins (((σ'.set i (some (.ref a))).set j (some (.ref a))).set i none) H' s7 := S9.pins_of fun p hp' => S9.pin p (List.mem_append_right _ (List.mem_cons_of_mem _ hp'))
      exact ⟨_, _, inv_track S10 hp9.1 hz4 hd4 na nL n0 npin, hnx a na (by rw [J.len]; exact hjN)⟩
    | brk => obtain ⟨_, _, _, z⟩ := hsp; exact z.elim
    | cont => obtain ⟨_, _, _, z⟩ := hsp; exact z.elim
    | ret u => obtain ⟨_, _, _, _, _, z⟩ := hsp; exact z.elim
  · cases f with
    | next =>
      obtain ⟨σ', H', J', q⟩ := hsp
      exact wpAny_execs_nil ⟨σ', H', J'.ofTry ok, q⟩
    | brk =>
      obtain ⟨σ', H', J', q⟩ := hsp
      exact ⟨σ', H', J'.ofTry ok, q⟩
    | cont =>
      obtain ⟨σ', H', J', q⟩ := hsp
      exact ⟨σ', H', J'.ofTry ok, q⟩
    | ret u =>
      obtain ⟨v, σ', H', J', r, q⟩ := hsp
      exact ⟨v, σ', H', J'.ofTry ok, r, q⟩
end
end MR
set_option Elab.async false
set_option linter.all false
set_option maxRecDepth 100000
namespace MR
open PySem PySem.Spec PyProof.Rows L2 LamX
section
variable {X : Cx} {pins : List (Addr × Obj)} {σ : L2.St} {H : Hp} {s : Shared}
/-- the lambda is called in the def that got it -/
theorem pe_actG {gf : Bool} {CXg : CXT} {Eg : XK} {Ng : List Str} {qg : Str} {sg : Scope} {g f c' : Addr} {cdg pm ctv : Value} {params : Arguments} {body : Expr} {scope : Scope} {k i : Nat} {a : Str} {pn : List (Addr × Obj)} {xe : Value → Shared → Prop} {W : WX} {E : XK} {tb : TE} {p1 p2 : Pos}
    (I : Inv X pins σ H s) (L : LamS X.env.scope scope) (hf : s.heap.get? f = some (PySem.W.kla_obj "<lambda>" (X.env.qual ++ "<lambda>") params body scope (cloFrom X.env.cells scope.names []) pm c' ctv)) (hfn : H f = none) (hfr : f ∉ frs X.stack)
    (hbind : bindArgs (PySem.W.kla_fn "<lambda>" (X.env.qual ++ "<lambda>") params body scope (cloFrom X.env.cells scope.names []) pm (.ref c') ctv) ⟨[], []⟩ = pure [])
    (tk : Takes ((cxOf CXg X.prog X.w X.K X.mg X.base Ng qg sg g cdg X.A X.stack s H Eg).tr pn xe) W) (hW : ∀ cls d σ' H', E cls d H' → W cls d σ' H') (hr : Room (k + 1) (X.A.deeper (envOfC qg sg s.heap.objs.size g cdg))) (hgd : GdOk gf X.A)
    (hbody : ∀ (A : Around) (outer : List PySem.Env) (s : Shared) (H : Hp), Room k (A.deeper (lamEnv X scope s.heap.objs.size f c')) → GdOk gf A → PE (lamCx X A outer s H E scope f c') body tb)
    (hN : Ng[i]? = some a) (hv : Vis sg a) (hd : (a == ("__debug__" : Str)) = false) (hcd : (a == ("__classdict__" : Str)) = false) :
    PE ((cxOf CXg X.prog X.w X.K X.mg X.base Ng qg sg g cdg X.A X.stack s H Eg).tr pn xe) (.Call (.Name a p1) [] [] p2)
      (fun σZ HZ Q => σZ[i]? = some (some (.ref f)) ∧ HZ c' = some (CodeO c' (X.env.qual ++ "<lambda>")) ∧ tb σ HZ Q) := by
  refine ⟨fun pinsZ sZ σZ HZ Q IZ h => ?_⟩
  obtain ⟨hs, hc, ht⟩ := h
  refine wpAny_Call_Name_kw (thn ((pe_var (pos := p1) (i := i) hN hv hd hcd).run pinsZ sZ σZ HZ (fun v H1 => v = .ref f ∧ H1 = HZ) IZ ⟨.ref f, hs, rfl, rfl⟩) fun u s1 ⟨v, H1, I1, r1, q1⟩ => ?_)
  obtain ⟨ev, eH⟩ := q1
  subst ev
  rw [eH] at I1
  obtain rfl : u = Value.ref f := r1
  have of1 := I1.base.keep f _ hf hfn hfr (fun z => nomatch (show f ∈ ([] : List Addr) from z))
  refine PySem.W.callWith_F0 ⟨_, _, _, _, of1⟩ ?_
  have un : Un (frs X.stack) [] H HZ s.heap s1.heap := I1.base
  obtain ⟨⟨oc, vs, t, hoc, hdc, hvc⟩, _, _⟩ := I1.hok c' _ hc
  have rc : codeAny (model X.prog X.w) (X.A.deeper (envOfC qg sg s.heap.objs.size g cdg)) (.call (.ref f) ⟨[], []⟩) (CR (L2.CX X.prog X.w) (envOfC qg sg s.heap.objs.size g cdg :: X.stack) X.prog X.w HZ s1 Q E) s1 := by
    refine PySem.W.kla_callFunE hr.depth of1 rfl L.co L.gen rfl ⟨c', oc, vs, t, rfl, hoc, hdc, hvc⟩ ?_
    rw [hbind]
    refine wpAny_pure (wpAny_newFunctionEnv (fun y hy => (L.own y hy).2) (fun y hy => absurd hy (by simp)) (fun h₁ hns hsb => ⟨I1.nolimit.fresh _ hsb, ?_⟩) L.kind)
    show codeAny _ _ (.expr body (lamEnv X scope s1.heap.objs.size f c')) _ _
    have kp : ∀ b o, s1.heap.get? b = some o → h₁.get? b = some o := fun b o e => hsb.extBut b o (Nat.ne_of_lt (Heap.lt_size e)) (Heap.get?_push_of_some _ e)
    have J := lam_start2 (E := E) (f := f) (c' := c') (tk := s1.toks + ([] : List (Str × Value)).length) I L I1.env0 hr.hd un hns kp
    refine PySem.W.kla_codeExpr (wpAny_mono ((hbody _ _ s1 HZ (hr.deeper _) hgd).run [] _ _ HZ Q J ht) (fun v s' hq => ?_) fun e s' hq => hq)
    obtain ⟨w', H', J', rv, q⟩ := hq
    exact ⟨w', H', J'.os, J'.bare, J'.base, J'.hok, rv, q⟩
  have hx : Passes (L2.CX X.prog X.w) ((cxOf CXg X.prog X.w X.K X.mg X.base Ng qg sg g cdg X.A X.stack s H Eg).tr pn xe) E := passes_call tk hW
  refine wpAny_call (codeAny_mono rc fun r s' hq => ?_)
  cases r with
  | error e => exact hx pinsZ σZ HZ s1 e s' I1 hq
  | ok fl =>
    cases fl with
    | ret u => exact I1.after hq
    | next => exact False.elim hq
    | brk => exact False.elim hq
    | cont => exact False.elim hq
/-- the lambda is made, and nothing goes -/
theorem lam_make3 {T : List (Addr × Str)} {c P : Addr} {params : Arguments} {body : Expr} {scope : Scope} {pos : Pos} {E : Value → Shared → Prop} {Q : Value → Shared → Prop} (I : Inv X pins σ H s) (TB : TabB X.base X.mg c P) (hcode : X.env.code = .ref c)
    (hm : (P, X.env.qual ++ "<lambda>") ∈ T) (hu : ∀ p ∈ T, p.1 = P → p.2 = X.env.qual ++ "<lambda>") (hT : Tabs T H) (hdef : defaultsOf params X.env = ([], [])) (hfree : ∀ y ∈ scope.names, y.2 = .free → ∃ c, X.env.cells.lookup y.1 = some c)
    (h : ∀ (f c' : Addr) (pm ctv : Value) (H1 : Hp) (s' : Shared), Inv X pins σ H1 s' → ExtN H H1 → (∀ b, H b ≠ none → H1 b ≠ none) → Tabs T H1 →
      s'.heap.get? f = some (PySem.W.kla_obj "<lambda>" (X.env.qual ++ "<lambda>") params body scope (cloFrom X.env.cells scope.names []) pm c' ctv) → H1 f = none → f ∉ frs X.stack → s.heap.objs.size ≤ f → H1 c' = some (CodeO c' (X.env.qual ++ "<lambda>")) → Q (.ref f) s') :
    wpAny (model X.prog X.w) X.A (eval (.Lambda params body scope pos) X.env) Q E s := by
  obtain ⟨ps, hP, ht, ha⟩ := hT _ hm
  have hP' : s.heap.get? P = some { cls := .none, data := .fields ps } := I.hok P _ hP
  have nofr : ∀ f, s.heap.objs.size ≤ f → f ∉ frs X.stack := fun f hf z => by
    rcases List.mem_cons.mp (I.stkSub _ z) with e | e
    · exact Nat.lt_irrefl _ (Nat.lt_of_lt_of_le (e ▸ I.lt) hf)
    · exact I.nofs hf e
  refine PySem.W.kla_eval hdef ?_
  cases hc : codeAmong pos ps.toList with
  | some cv =>
    obtain ⟨c', rfl, hco⟩ := ha pos cv hc
    exact PySem.W.kla_makeFunctionHit (mg := X.mg) (c := c) (P := P) (ps := ps) (closure_ok hfree) I.ok.glob (I.mod.glob.keeps I.bk) hcode (TB.code.keeps I.bk) hP' ht hc (TB.bm.keeps I.bk) fun ctv h' tk hx hsz =>
      h h'.objs.size c' ((X.mg "__name__").getD .none) ctv H _ (I.kept fun b o e => Heap.get?_push_of_some _ (hx b o e)) (ExtN.refl H) (fun _ z => z) hT (Heap.get?_push_size _ rfl) (I.hok.fresh hsz) (nofr _ hsz) hsz hco
  | none =>
    refine PySem.W.kla_makeFunction (mg := X.mg) (c := c) (P := P) (ps := ps) (closure_ok hfree) I.ok.glob (I.mod.glob.keeps I.bk) hcode (TB.code.keeps I.bk) hP' ht hc TB.gP (TB.bm.keeps I.bk) fun c' ctv h' tk hx hge hlt hrec htb => ?_
    obtain ⟨c2, oc, vs, t, e2, hoc, hd, hv⟩ := hrec
    cases e2
    have hsz : s.heap.objs.size ≤ h'.objs.size := Nat.le_trans hge (Nat.le_of_lt hlt)
    have nC : H c' = none := I.hok.fresh hge
    have other : ∀ b, b ≠ P → b ≠ c' → upd (upd H P (.tbl (ps ++ #[rawInt pos.line, rawInt pos.col, .ref c']))) c' (CodeO c' (X.env.qual ++ "<lambda>")) b = H b := fun b h1 h2 => by rw [upd_ne h2, upd_ne h1]
    have hE : ExtN H (upd (upd H P (.tbl (ps ++ #[rawInt pos.line, rawInt pos.col, .ref c']))) c' (CodeO c' (X.env.qual ++ "<lambda>"))) := fun b o e n => by
      rw [other b (fun z => n ps (Option.some.inj (e.symm.trans (by rw [z]; exact hP)))) (ne_of_none e nC)]
      exact e
    have I1 := inv_table (t' := tk) (more := #[rawInt pos.line, rawInt pos.col, .ref c']) (h' := h'.push (PySem.W.kla_obj "<lambda>" (X.env.qual ++ "<lambda>") params body scope (cloFrom X.env.cells scope.names []) ((X.mg "__name__").getD .none) c' ctv)) I hP
      (fun b o hb e => Heap.get?_push_of_some _ (hx b o hb e)) (Heap.get?_push_of_some _ htb) hge ⟨oc, vs, t, Heap.get?_push_of_some _ hoc, hd, hv⟩
    have n1 : h'.objs.size ≠ c' := Nat.ne_of_gt hlt
    have n2 : h'.objs.size ≠ P := Nat.ne_of_gt (Nat.lt_of_lt_of_le (Heap.lt_size hP') hsz)
    refine h h'.objs.size c' ((X.mg "__name__").getD .none) ctv _ _ I1 hE (fun b n => ?_) (fun p hp => ?_) (Heap.get?_push_size _ rfl) (by rw [other _ n2 n1]; exact I.hok.fresh hsz) (nofr _ hsz) hsz upd_same
    · by_cases h1 : b = c'
      · rw [h1, upd_same]; simp
      · by_cases h2 : b = P
        · rw [upd_ne h1, h2, upd_same]; simp
        · rw [other b h2 h1]; exact n
    · by_cases hb : p.1 = P
      · rw [hu p hp hb, hb]
        have eL : (ps ++ #[rawInt pos.line, rawInt pos.col, .ref c']).toList = ps.toList ++ [rawInt pos.line, rawInt pos.col, .ref c'] := by simp
        refine ⟨_, by rw [upd_ne (ne_of_none hP nC), upd_same], by rw [eL]; exact PySem.TriplesOk_snoc _ _ _ _ ht, fun p' cv hcv => ?_⟩
        rw [eL] at hcv
        rcases among_app _ ht hcv with z | z
        · obtain ⟨c0, e1, e2⟩ := ha p' cv z
          exact ⟨c0, e1, hE _ _ e2 codeO_ne⟩
        · exact ⟨c', z, upd_same⟩
      · obtain ⟨ps', a1, a2, a3⟩ := hT p hp
        refine ⟨ps', by rw [other _ hb (ne_of_none a1 nC)]; exact a1, a2, fun p' cv hcv => ?_⟩
        obtain ⟨c0, e1, e2⟩ := a3 p' cv hcv
        exact ⟨c0, e1, hE _ _ e2 codeO_ne⟩
/-- as tLam, and nothing goes -/
def tLamG (T : List (Addr × Str)) (TT : (XK → Hp → VK → Prop) → Hp → VK → Prop) (t : XK → TE) : TE := fun σ H Q => Tabs T H ∧ ∀ H1, ExtN H H1 → (∀ b, H b ≠ none → H1 b ≠ none) → Tabs T H1 → TT (fun E H' Q' => t E σ H' Q') H1 Q
/-- x(lambda: body) -/
theorem pe_lamcallG {gf : Bool} {T : List (Addr × Str)} {TT : (XK → Hp → VK → Prop) → Hp → VK → Prop} {x a : Str} {g c P : Addr} {k : Nat} {pg : Arguments} {bg : List Stmt} {sg : Scope} {dV kV doc pm cdv ct oc : Value} {an od : Option Addr} {osl : Array (Option Value)} {Ng : List Str}
    {params : Arguments} {body : Expr} {scope : Scope} {t : XK → TE} {p lpos pos : Pos} (hg : Gl X x) (hm : X.mg x = some (.ref g)) (hk : PySem.W.keepIn X.K (.ref g) = true)
    (lk : X.K.lookup g = some ⟨oc, od, .func (PySem.W.fnOf x x pg bg sg dV kV doc pm an cdv ct), osl⟩) (hcg : PySem.W.codeIn X.K cdv x = true) (hb : L2.Binds X.K (PySem.W.fnOf x x pg bg sg dV kV doc pm an cdv ct) [a] []) (Sg : FnScope Ng [a] sg) (hNg : Ng[0]? = some a) (hva : Vis sg a)
    (hG : GivesTo X Ng x sg g cdv bg a (X.env.qual ++ "<lambda>") TT)
    (TB : TabB X.base X.mg c P) (hcode : X.env.code = .ref c) (hmT : (P, X.env.qual ++ "<lambda>") ∈ T) (hu : ∀ p ∈ T, p.1 = P → p.2 = X.env.qual ++ "<lambda>") (hr : Room (k + 2) X.A) (hgd : GdOk gf X.A) (L : LamS X.env.scope scope) (hdef : defaultsOf params X.env = ([], []))
    (hbind : ∀ (q : Str) (cl : List (Str × Addr)) (pm cv ctv : Value), bindArgs (PySem.W.kla_fn "<lambda>" q params body scope cl pm cv ctv) ⟨[], []⟩ = pure [])
    (hbody : ∀ (A : Around) (outer : List PySem.Env) (s : Shared) (H : Hp) (E : XK) (f c' : Addr), Room k (A.deeper (lamEnv X scope s.heap.objs.size f c')) → GdOk gf A → PE (lamCx X A outer s H E scope f c') body (t E))
    (hdb : (x == ("__debug__" : Str)) = false) (hd : (a == ("__debug__" : Str)) = false) (hcd : (a == ("__classdict__" : Str)) = false) :
    PE X (.Call (.Name x p) [.Lambda params body scope lpos] [] pos) (tLamG T TT t) := by
  refine ⟨fun pins s σ H Q I h => ?_⟩
  obtain ⟨hT, h⟩ := h
  refine wpAny_Call_Name_kw (ld_glob I hg hm ?_ hdb)
  refine PySem.W.callWith_K (h₀ := X.base) I.ok.mod.kin hk ?_ (by rfl) (by rfl)
  show wpAny _ _ (spliced ((false, eval (.Lambda params body scope lpos) X.env) :: backTo pos (starEach [] X.env))) _ _ s
  refine Calls.spliced_cons (lam_make3 I TB hcode hmT hu hT hdef (L.has I.ok) fun f c' pm' ctv H1 s' I1 eN st T1 hf hfn hfr _ hco => ?_)
  refine Calls.spliced_nil ⟨I1.kIn, ?_⟩
  have rc : codeAny (model X.prog X.w) X.A (.call (.ref g) ⟨[.ref f], []⟩) (CR C8.CX0 X.stack X.prog X.w H1 s' Q C8.E0) s' := by
    refine run_ofS (N := Ng) (ps := [a]) (us := [.ref f]) (vs := [.ref f]) lk hcg Sg hr I1.env0 (hb s' [.ref f] I1.kIn rfl) (.cons rfl .nil) rfl fun hr' => ?_
    obtain ⟨t', ht', hq'⟩ := hG f c' s' H1 Q (fun E H' Q' => t E σ H' Q') (fun W pn xe E p1 p2 tk hW => pe_actG (i := 0) I1 L hf hfn hfr (hbind _ _ _ _ _) tk hW hr' hgd (fun A outer s H hr2 hg2 => hbody A outer s H E f c' hr2 hg2) hNg hva hd hcd) hco (h H1 eN st T1)
    exact ⟨t', ht'.nox, hq'⟩
  refine wpAny_call (codeAny_mono rc fun r s2 hq => ?_)
  cases r with
  | error e => exact (show False from hq).elim
  | ok fl =>
    cases fl with
    | ret u => exact I1.after hq
    | next => exact False.elim hq
    | brk => exact False.elim hq
    | cont => exact False.elim hq
end
theorem pe_up {X : Cx} {e : Expr} {t : TE} (h : PE X e t) : PE X e (fun σ H Q => ∃ R : VK, t σ H R ∧ ∀ v H', R v H' → Q v H') :=
  ⟨fun pins s σ H Q I ⟨R, h1, m⟩ => thn (h.run pins s σ H R I h1) fun u s' ⟨v, H', I', r, q⟩ => ⟨v, H', I', r, m v H' q⟩⟩
def TTc (K : PySem.W.Frag) (CS : Addr) : (XK → Hp → VK → Prop) → Hp → VK → Prop := fun tl H Q =>
  tl (fun cls d H' => ∃ C, cls = .ref C ∧ d = none ∧ PySem.W.exmOne K cls (.ref CS) = some true ∧ ∀ a, H' a = none → Q (.ref a) (upd H' a (ExH C a))) H fun _ H' => Q .non H'
theorem caught_gives {X : Cx} {x a e y n q : Str} {sg : Scope} {g CS : Addr} {cdg : Value} {j0 : Nat} {p1 p2 p3 p4 p5 p6 p7 p8 p9 p10 p11 p12 p13 p14 : Pos} (hk : sg.names.lookup a = some .local) (hy : sg.names.lookup y = some .local) (hn : sg.names.lookup n = some .local)
    (nd : [a, y, n].Nodup) (hge : sg.names.lookup e = some .globalImplicit) (hme : X.mg e = some (.ref CS)) (hde : (e == ("__debug__" : Str)) = false) (hdn : (n == ("__debug__" : Str)) = false) (hcn : (n == ("__classdict__" : Str)) = false) (hdy : (y == ("__debug__" : Str)) = false) (hcy : (y == ("__classdict__" : Str)) = false) :
    GivesTo X [a, y, n] x sg g cdg [.Assign [.Name y p1] (.Constant .none j0 p2) p3,
      .Try [.Expr (.Call (.Name a p4) [] [] p5) p6] [.ExceptHandler (some (.Name e p7)) (some n) [.Assign [.Name y p8] (.Name n p9) p10] p11] [] [] p12,
      .Return (some (.Name y p13)) p14] a q (TTc X.K CS) := by
  intro f c' s H Q tl act hc h
  have hgl : Gl (cxOf C8.CX0 X.prog X.w X.K X.mg X.base [a, y, n] x sg g cdg X.A X.stack s H C8.E0).nox e := hge
  refine ⟨_, pss_cons (ps_set (X := (cxOf C8.CX0 X.prog X.w X.K X.mg X.base [a, y, n] x sg g cdg X.A X.stack s H C8.E0).nox) (i := 1) nd rfl (.inl hy) pe_non rfl (.inr hy))
    (pss_cons (ps_try_ex (X := (cxOf C8.CX0 X.prog X.w X.K X.mg X.base [a, y, n] x sg g cdg X.A X.stack s H C8.E0).nox) (c := .ref CS) (i := 2) (j := 1)
      (tb := fun W D σ H => ∃ (Ech : XK) (R : VK), (∀ cls d σ' H', Ech cls d H' → W cls d σ' H') ∧ σ[0]? = some (some (.ref f)) ∧ H c' = some (CodeO c' q) ∧ tl Ech H R ∧ ∀ v H', R v H' → D.nx σ H')
      rfl rfl rfl nd rfl hn rfl hy ⟨hgl, hde, .inl hme⟩ hdn hcn (fun W pn xe tk _ => ?_))
    (pss_one (ps_ret (pe_var (X := (cxOf C8.CX0 X.prog X.w X.K X.mg X.base [a, y, n] x sg g cdg X.A X.stack s H C8.E0).nox) (i := 1) rfl (.inl hy) hdy hcy)))), ?_⟩
  · refine ⟨fun pins s' σ H' D I h' => ?_⟩
    obtain ⟨Ech, R, hW, h1, h2, h3, h4⟩ := h'
    have hp := pe_up (act W pn xe Ech p4 p5 tk hW)
    exact (pss_one (ps_expr (pos := p6) hp rfl)).run pins s' σ H' D I ⟨R, ⟨h1, h2, h3⟩, h4⟩
  · refine ⟨fun cls d H' => ∃ C, cls = .ref C ∧ d = none ∧ PySem.W.exmOne X.K cls (.ref CS) = some true ∧ ∀ a, H' a = none → Q (.ref a) (upd H' a (ExH C a)), fun _ H' => Q .non H', fun cls d σ' H' ⟨C, e1, e2, e3, e4⟩ => ⟨C, e1, e2, e3, fun a na hl => ?_⟩, rfl, hc, h, fun v H' q => ⟨.non, rfl, q⟩⟩
    refine ⟨.ref a, ?_, e4 a na⟩
    rw [List.getElem?_set_ne (by decide), List.getElem?_set_self (by rw [List.length_set]; exact hl)]
section
variable {o : Om} {H0 : Hp} {W : WX} {X : Cx} {k : Nat}
theorem cur_lam {g : Gh} {s : S} {H H1 : Hp} (c : Cur o g s H) (eN : ExtN H H1) (st : ∀ b, H b ≠ none → H1 b ≠ none) (T1 : Tabs o.tb H1) : Cur o g s H1 ∧ Ext g H g H1 := by
  refine ⟨⟨fun a u e => eN a u (c.fz a u e) fun ps z => c.fzt a ps (by rw [e, z]), c.fzt, fun k a e => ?_, c.len, c.cnd, T1⟩, ⟨.refl g, fun _ _ => rfl, fun a u e n _ => eN a u e n, fun a h n => absurd h n, st⟩⟩
  obtain ⟨d, h1, w, n⟩ := c.cel k a e
  refine ⟨d, h1, Own.le (.refl g) ?_ w, n⟩
  cases q : H a with
  | none => exact absurd q (Own.there w)
  | some u => exact eN a u q fun ps z => Own.notTbl w ps (by rw [q, z])
/-- the exceptions of the text come under the caught class -/
def XcAll (o : Om) (CS : Addr) : Prop := ∀ c, PySem.W.exmOne o.K (.ref (o.xc c)) (.ref CS) = some true
def wE (E : XK) : WX := fun cls d _ H => E cls d H
theorem cgt_sem {CS : Addr} {fb : Env → S → R D} {md : Md} (hx : ∀ c ρ s xs s', fb ρ s = .ex c xs s' → PySem.W.exmOne o.K (.ref (o.xc c)) (.ref CS) = some true) {σ : L2.St} {H : Hp} {Q : VK} (h : tE o H0 W .F (vCgt fb) σ H Q) :
    tLamG o.tb (TTc o.K CS) (fun E => tE o H0 (wE E) md fb) σ H Q := by
  obtain ⟨g, ρ, s, c, sl, p⟩ := h
  refine ⟨c.tab, fun H1 eN st T1 => ?_⟩
  obtain ⟨c1, e1⟩ := cur_lam c eN st T1
  refine ⟨g, ρ, s, c1, sl.ext e1, ?_⟩
  unfold vCgt at p
  cases hf : fb ρ s with
  | no => rw [hf] at p; exact p
  | ok d s1 =>
    rw [hf] at p
    exact fun g' H' e' c' v hv => p g' H' (e1.trans e') c' _ (by show Rep o g' .non .non; simp only [Rep])
  | ex cc xs s1 =>
    rw [hf] at p
    intro g' H' e' c'
    refine ⟨o.xc cc, rfl, rfl, hx _ _ _ _ _ hf, fun a na => ?_⟩
    obtain ⟨e2, c2⟩ := ext_newF c' (ExH (o.xc cc) a) na (fun ps z => by unfold ExH at z; cases z)
    refine p _ _ ((e1.trans e').trans e2) c2 (.ref a) ?_
    show Rep o _ (.exc cc xs) (.ref a)
    simp only [Rep]
    exact ⟨a, rfl, upd_same⟩
end
end MR
set_option Elab.async false
set_option linter.all false
set_option maxRecDepth 100000
namespace MR
open PySem PySem.Spec PyProof.Rows L2 LamX
/-- a function object that stands -/
def FnO (f : Addr) (ob : Obj) : HO := .ext fun h => h.get? f = some ob
section
variable {X : Cx} {pins : List (Addr × Obj)} {σ : L2.St} {H : Hp} {s : Shared}
theorem inv_track2 (I : Inv X pins σ H s) {a : Addr} {ob : Obj} (he : s.heap.get? a = some ob) (hd : ∀ v, ob.data ≠ .cell v) (na : H a = none) (nL : a ≠ X.env.locals) (n0 : X.s_0.heap.get? a = none) (np : ∀ p ∈ X.pn ++ pins, p.1 ≠ a) :
    Inv X pins σ (upd H a (FnO a ob)) s := by
  have ne : ∀ {b : Addr} {u : HO}, H b = some u → b ≠ a := fun {b u} e z => by rw [z, na] at e; cases e
  have nc : ∀ y c, X.env.cells.lookup y = some c → c ≠ a := fun y c e z => by
    obtain ⟨v, o', ho, hd'⟩ := I.cell y c e
    rw [z, he] at ho
    cases ho
    exact hd _ hd'
  refine ⟨I.ok, I.os, I.bare, ⟨I.base.keep, I.base.slot, fun b o e n hb => ?_, I.base.there, fun b xs e => ?_, fun b o u e => ?_, fun b ps e => ?_⟩, I.loc, I.cell, ?_, fun y c e => ?_, fun p hp => ?_, fun b u e => ?_, I.len⟩
  · have : b ≠ a := fun z => by rw [z, n0] at e; cases e
    rw [upd_ne this]
    exact I.base.free b o e n hb
  · have q := I.base.tups b xs e
    rw [upd_ne (ne q)]
    exact q
  · have q := I.base.frzs b o u e
    rw [upd_ne (ne q)]
    exact q
  · obtain ⟨more, q⟩ := I.base.tbls b ps e
    exact ⟨more, by rw [upd_ne (ne q)]; exact q⟩
  · rw [upd_ne (Ne.symm nL)]
    exact I.free
  · rw [upd_ne (nc y c e)]
    exact I.freeC y c e
  · obtain ⟨e, n, r⟩ := I.pin p hp
    exact ⟨e, by rw [upd_ne (np p hp)]; exact n, r⟩
  · by_cases q : b = a
    · subst q
      rw [upd_same] at e
      cases e
      exact ⟨he, ⟨ob, he⟩, fun h1 h2 e1 st => st _ e1⟩
    · rw [upd_ne q] at e
      refine (I.hok b u e).stay (fun _ _ _ q => q) (fun d q' => ?_) (fun d xs q' => ?_)
      · rw [upd_ne (ne q')]; exact q'
      · rw [upd_ne (ne q')]; exact q'
/-- f is this lambda of this frame -/
def LamIs (X : Cx) (params : Arguments) (body : Expr) (scope : Scope) (f : Addr) (H : Hp) : Prop := ∃ (pm ctv : Value) (c' : Addr),
  H f = some (FnO f (PySem.W.kla_obj "<lambda>" (X.env.qual ++ "<lambda>") params body scope (cloFrom X.env.cells scope.names []) pm c' ctv)) ∧ H c' = some (CodeO c' (X.env.qual ++ "<lambda>"))
def tLamV (T : List (Addr × Str)) (X : Cx) (params : Arguments) (body : Expr) (scope : Scope) : TE := fun σ H Q =>
  Tabs T H ∧ ∀ H1 f, ExtN H H1 → (∀ b, H b ≠ none → H1 b ≠ none) → Tabs T H1 → H f = none → LamIs X params body scope f H1 → Q (.ref f) H1
theorem pe_lamV {T : List (Addr × Str)} {c P : Addr} {params : Arguments} {body : Expr} {scope : Scope} {pos : Pos} (TB : TabB X.base X.mg c P) (hcode : X.env.code = .ref c)
    (hm : (P, X.env.qual ++ "<lambda>") ∈ T) (hu : ∀ p ∈ T, p.1 = P → p.2 = X.env.qual ++ "<lambda>") (hdef : defaultsOf params X.env = ([], [])) (L : LamS X.env.scope scope) :
    PE X (.Lambda params body scope pos) (tLamV T X params body scope) := by
  refine ⟨fun pins s σ H Q I h => ?_⟩
  obtain ⟨hT, h⟩ := h
  refine lam_make3 I TB hcode hm hu hT hdef (L.has I.ok) fun f c' pm ctv H1 s' I1 eN st T1 hf hfn hfr hge hco => ?_
  have nL : f ≠ X.env.locals := fun z => Nat.lt_irrefl _ (Nat.lt_of_lt_of_le I.lt (z ▸ hge))
  have n0 : X.s_0.heap.get? f = none := by
    cases q : X.s_0.heap.get? f with
    | none => rfl
    | some o => exact absurd (Nat.lt_of_lt_of_le (Heap.lt_size q) (Nat.le_trans I.sz hge)) (Nat.lt_irrefl _)
  have np : ∀ p ∈ X.pn ++ pins, p.1 ≠ f := fun p hp z => by
    have := Heap.lt_size (I.pin p hp).1
    rw [z] at this
    exact Nat.lt_irrefl _ (Nat.lt_of_lt_of_le this hge)
  have fresh : H f = none := I.hok.fresh hge
  have I2 := inv_track2 I1 hf (fun v z => by cases z) hfn nL n0 np
  have up : ∀ b o, H1 b = some o → upd H1 f (FnO f (PySem.W.kla_obj "<lambda>" (X.env.qual ++ "<lambda>") params body scope (cloFrom X.env.cells scope.names []) pm c' ctv)) b = some o := fun b o e => by
    rw [upd_ne (fun z => by rw [z, hfn] at e; cases e)]
    exact e
  refine ⟨.ref f, _, I2, rfl, h _ f (eN.trans (.of up)) (fun b n => ?_) (fun p hp => (T1 p hp).ext up) fresh ⟨pm, ctv, c', upd_same, up _ _ hco⟩⟩
  cases q : H1 b with
  | none => exact absurd q (st b n)
  | some o => rw [up b o q]; simp
/-- the lambda is called in the def that got it -/
theorem pe_actF {gf : Bool} {CXg : CXT} {Eg : XK} {Ng : List Str} {qg : Str} {sg : Scope} {g f c' : Addr} {cdg pm ctv : Value} {params : Arguments} {body : Expr} {scope : Scope} {k i : Nat} {a : Str} {pn : List (Addr × Obj)} {xe : Value → Shared → Prop} {W : WX} {E : XK} {tb : TE} {p1 p2 : Pos}
    (I : Inv X pins σ H s) (L : LamS X.env.scope scope)
    (hbind : bindArgs (PySem.W.kla_fn "<lambda>" (X.env.qual ++ "<lambda>") params body scope (cloFrom X.env.cells scope.names []) pm (.ref c') ctv) ⟨[], []⟩ = pure [])
    (tk : Takes ((cxOf CXg X.prog X.w X.K X.mg X.base Ng qg sg g cdg X.A X.stack s H Eg).tr pn xe) W) (hW : ∀ cls d σ' H', E cls d H' → W cls d σ' H') (hr : Room (k + 1) (X.A.deeper (envOfC qg sg s.heap.objs.size g cdg))) (hgd : GdOk gf X.A)
    (hbody : ∀ (A : Around) (outer : List PySem.Env) (s : Shared) (H : Hp), Room k (A.deeper (lamEnv X scope s.heap.objs.size f c')) → GdOk gf A → PE (lamCx X A outer s H E scope f c') body tb)
    (hN : Ng[i]? = some a) (hv : Vis sg a) (hd : (a == ("__debug__" : Str)) = false) (hcd : (a == ("__classdict__" : Str)) = false) :
    PE ((cxOf CXg X.prog X.w X.K X.mg X.base Ng qg sg g cdg X.A X.stack s H Eg).tr pn xe) (.Call (.Name a p1) [] [] p2)
      (fun σZ HZ Q => σZ[i]? = some (some (.ref f)) ∧ (HZ f = some (FnO f (PySem.W.kla_obj "<lambda>" (X.env.qual ++ "<lambda>") params body scope (cloFrom X.env.cells scope.names []) pm c' ctv)) ∧ HZ c' = some (CodeO c' (X.env.qual ++ "<lambda>"))) ∧ tb σ HZ Q) := by
  refine ⟨fun pinsZ sZ σZ HZ Q IZ h => ?_⟩
  obtain ⟨hs, ⟨hzf, hc⟩, ht⟩ := h
  refine wpAny_Call_Name_kw (thn ((pe_var (pos := p1) (i := i) hN hv hd hcd).run pinsZ sZ σZ HZ (fun v H1 => v = .ref f ∧ H1 = HZ) IZ ⟨.ref f, hs, rfl, rfl⟩) fun u s1 ⟨v, H1, I1, r1, q1⟩ => ?_)
  obtain ⟨ev, eH⟩ := q1
  subst ev
  rw [eH] at I1
  obtain rfl : u = Value.ref f := r1
  have of1 : s1.heap.get? f = some (PySem.W.kla_obj "<lambda>" (X.env.qual ++ "<lambda>") params body scope (cloFrom X.env.cells scope.names []) pm c' ctv) := (I1.hok f _ hzf).1
  refine PySem.W.callWith_F0 ⟨_, _, _, _, of1⟩ ?_
  have un : Un (frs X.stack) [] H HZ s.heap s1.heap := I1.base
  obtain ⟨⟨oc, vs, t, hoc, hdc, hvc⟩, _, _⟩ := I1.hok c' _ hc
  have rc : codeAny (model X.prog X.w) (X.A.deeper (envOfC qg sg s.heap.objs.size g cdg)) (.call (.ref f) ⟨[], []⟩) (CR (L2.CX X.prog X.w) (envOfC qg sg s.heap.objs.size g cdg :: X.stack) X.prog X.w HZ s1 Q E) s1 := by
    refine PySem.W.kla_callFunE hr.depth of1 rfl L.co L.gen rfl ⟨c', oc, vs, t, rfl, hoc, hdc, hvc⟩ ?_
    rw [hbind]
    refine wpAny_pure (wpAny_newFunctionEnv (fun y hy => (L.own y hy).2) (fun y hy => absurd hy (by simp)) (fun h₁ hns hsb => ⟨I1.nolimit.fresh _ hsb, ?_⟩) L.kind)
    show codeAny _ _ (.expr body (lamEnv X scope s1.heap.objs.size f c')) _ _
    have kp : ∀ b o, s1.heap.get? b = some o → h₁.get? b = some o := fun b o e => hsb.extBut b o (Nat.ne_of_lt (Heap.lt_size e)) (Heap.get?_push_of_some _ e)
    have J := lam_start2 (E := E) (f := f) (c' := c') (tk := s1.toks + ([] : List (Str × Value)).length) I L I1.env0 hr.hd un hns kp
    refine PySem.W.kla_codeExpr (wpAny_mono ((hbody _ _ s1 HZ (hr.deeper _) hgd).run [] _ _ HZ Q J ht) (fun v s' hq => ?_) fun e s' hq => hq)
    obtain ⟨w', H', J', rv, q⟩ := hq
    exact ⟨w', H', J'.os, J'.bare, J'.base, J'.hok, rv, q⟩
  have hx : Passes (L2.CX X.prog X.w) ((cxOf CXg X.prog X.w X.K X.mg X.base Ng qg sg g cdg X.A X.stack s H Eg).tr pn xe) E := passes_call tk hW
  refine wpAny_call (codeAny_mono rc fun r s' hq => ?_)
  cases r with
  | error e => exact hx pinsZ σZ HZ s1 e s' I1 hq
  | ok fl =>
    cases fl with
    | ret u => exact I1.after hq
    | next => exact False.elim hq
    | brk => exact False.elim hq
    | cont => exact False.elim hq
/-- as GivesTo; J: what is known of the handed function -/
def GivesJ (X : Cx) (Ng : List Str) (x : Str) (sg : Scope) (g : Addr) (cdg : Value) (bg : List Stmt) (a : Str) (TT : (XK → Hp → VK → Prop) → Hp → VK → Prop) : Prop :=
  ∀ (f : Addr) (J : Hp → Prop) (s : Shared) (H : Hp) (Q : VK) (tl : XK → Hp → VK → Prop),
    (∀ (W : WX) (pn : List (Addr × Obj)) (xe : Value → Shared → Prop) (E : XK) (p1 p2 : Pos), Takes ((cxOf C8.CX0 X.prog X.w X.K X.mg X.base Ng x sg g cdg X.A X.stack s H C8.E0).tr pn xe) W → (∀ cls d σ' H', E cls d H' → W cls d σ' H') →
      PE ((cxOf C8.CX0 X.prog X.w X.K X.mg X.base Ng x sg g cdg X.A X.stack s H C8.E0).tr pn xe) (.Call (.Name a p1) [] [] p2) (fun σZ HZ Q => σZ[0]? = some (some (.ref f)) ∧ J HZ ∧ tl E HZ Q)) →
    J H → TT tl H Q →
    ∃ t, PSs (cxOf C8.CX0 X.prog X.w X.K X.mg X.base Ng x sg g cdg X.A X.stack s H C8.E0).nox bg t ∧ t { nx := fun _ H' => Q .non H', rt := Q } (L2.start Ng [.ref f]) H
/-- x(w), w being a lambda of this frame -/
theorem pe_lamvar {gf : Bool} {TT : (XK → Hp → VK → Prop) → Hp → VK → Prop} {x a w : Str} {g : Addr} {k iw : Nat} {pg : Arguments} {bg : List Stmt} {sg : Scope} {dV kV doc pm cdv ct oc : Value} {an od : Option Addr} {osl : Array (Option Value)} {Ng : List Str}
    {params : Arguments} {body : Expr} {scope : Scope} {t : XK → TE} {p wp pos : Pos} (hg : Gl X x) (hm : X.mg x = some (.ref g)) (hk : PySem.W.keepIn X.K (.ref g) = true)
    (lk : X.K.lookup g = some ⟨oc, od, .func (PySem.W.fnOf x x pg bg sg dV kV doc pm an cdv ct), osl⟩) (hcg : PySem.W.codeIn X.K cdv x = true) (hb : L2.Binds X.K (PySem.W.fnOf x x pg bg sg dV kV doc pm an cdv ct) [a] []) (Sg : FnScope Ng [a] sg) (hNg : Ng[0]? = some a) (hva : Vis sg a)
    (hG : GivesJ X Ng x sg g cdv bg a TT) (hNw : X.N[iw]? = some w) (hvw : Vis X.env.scope w) (hdw : (w == ("__debug__" : Str)) = false) (hcw : (w == ("__classdict__" : Str)) = false)
    (hr : Room (k + 2) X.A) (hgd : GdOk gf X.A) (L : LamS X.env.scope scope)
    (hbind : ∀ (q : Str) (cl : List (Str × Addr)) (pm cv ctv : Value), bindArgs (PySem.W.kla_fn "<lambda>" q params body scope cl pm cv ctv) ⟨[], []⟩ = pure [])
    (hbody : ∀ (A : Around) (outer : List PySem.Env) (s : Shared) (H : Hp) (E : XK) (f c' : Addr), Room k (A.deeper (lamEnv X scope s.heap.objs.size f c')) → GdOk gf A → PE (lamCx X A outer s H E scope f c') body (t E))
    (hdb : (x == ("__debug__" : Str)) = false) (hd : (a == ("__debug__" : Str)) = false) (hcd : (a == ("__classdict__" : Str)) = false) :
    PE X (.Call (.Name x p) [.Name w wp] [] pos) (fun σ H Q => ∃ f, σ[iw]? = some (some (.ref f)) ∧ LamIs X params body scope f H ∧ TT (fun E H' Q' => t E σ H' Q') H Q) := by
  refine ⟨fun pins s σ H Q I h => ?_⟩
  obtain ⟨f, hσ, ⟨pm', ctv, c', hF, hco⟩, h⟩ := h
  refine wpAny_Call_Name_kw (ld_glob I hg hm ?_ hdb)
  refine PySem.W.callWith_K (h₀ := X.base) I.ok.mod.kin hk ?_ (by rfl) (by rfl)
  show wpAny _ _ (spliced ((false, eval (.Name w wp) X.env) :: backTo pos (starEach [] X.env))) _ _ s
  refine Calls.spliced_cons (thn ((pe_var (pos := wp) (i := iw) hNw hvw hdw hcw).run pins s σ H (fun v H1 => v = .ref f ∧ H1 = H) I ⟨.ref f, hσ, rfl, rfl⟩) fun u s' ⟨v, H1, I1, r1, q1⟩ => ?_)
  obtain ⟨ev, eH⟩ := q1
  subst ev
  rw [eH] at I1
  obtain rfl : u = Value.ref f := r1
  refine Calls.spliced_nil ⟨I1.kIn, ?_⟩
  have rc : codeAny (model X.prog X.w) X.A (.call (.ref g) ⟨[.ref f], []⟩) (CR C8.CX0 X.stack X.prog X.w H s' Q C8.E0) s' := by
    refine run_ofS (N := Ng) (ps := [a]) (us := [.ref f]) (vs := [.ref f]) lk hcg Sg hr I1.env0 (hb s' [.ref f] I1.kIn rfl) (.cons rfl .nil) rfl fun hr' => ?_
    obtain ⟨t', ht', hq'⟩ := hG f _ s' H Q (fun E H' Q' => t E σ H' Q') (fun W pn xe E p1 p2 tk hW => pe_actF (i := 0) I1 L (hbind _ _ _ _ _) tk hW hr' hgd (fun A outer s H hr2 hg2 => hbody A outer s H E f c' hr2 hg2) hNg hva hd hcd) ⟨hF, hco⟩ h
    exact ⟨t', ht'.nox, hq'⟩
  refine wpAny_call (codeAny_mono rc fun r s2 hq => ?_)
  cases r with
  | error e => exact (show False from hq).elim
  | ok fl =>
    cases fl with
    | ret u => exact I1.after hq
    | next => exact False.elim hq
    | brk => exact False.elim hq
    | cont => exact False.elim hq
end
theorem caught_givesJ {X : Cx} {x a e y n : Str} {sg : Scope} {g CS : Addr} {cdg : Value} {j0 : Nat} {p1 p2 p3 p4 p5 p6 p7 p8 p9 p10 p11 p12 p13 p14 : Pos} (hk : sg.names.lookup a = some .local) (hy : sg.names.lookup y = some .local) (hn : sg.names.lookup n = some .local)
    (nd : [a, y, n].Nodup) (hge : sg.names.lookup e = some .globalImplicit) (hme : X.mg e = some (.ref CS)) (hde : (e == ("__debug__" : Str)) = false) (hdn : (n == ("__debug__" : Str)) = false) (hcn : (n == ("__classdict__" : Str)) = false) (hdy : (y == ("__debug__" : Str)) = false) (hcy : (y == ("__classdict__" : Str)) = false) :
    GivesJ X [a, y, n] x sg g cdg [.Assign [.Name y p1] (.Constant .none j0 p2) p3,
      .Try [.Expr (.Call (.Name a p4) [] [] p5) p6] [.ExceptHandler (some (.Name e p7)) (some n) [.Assign [.Name y p8] (.Name n p9) p10] p11] [] [] p12,
      .Return (some (.Name y p13)) p14] a (TTc X.K CS) := by
  intro f J s H Q tl act hc h
  have hgl : Gl (cxOf C8.CX0 X.prog X.w X.K X.mg X.base [a, y, n] x sg g cdg X.A X.stack s H C8.E0).nox e := hge
  refine ⟨_, pss_cons (ps_set (X := (cxOf C8.CX0 X.prog X.w X.K X.mg X.base [a, y, n] x sg g cdg X.A X.stack s H C8.E0).nox) (i := 1) nd rfl (.inl hy) pe_non rfl (.inr hy))
    (pss_cons (ps_try_ex (X := (cxOf C8.CX0 X.prog X.w X.K X.mg X.base [a, y, n] x sg g cdg X.A X.stack s H C8.E0).nox) (c := .ref CS) (i := 2) (j := 1)
      (tb := fun W D σ H => ∃ (Ech : XK) (R : VK), (∀ cls d σ' H', Ech cls d H' → W cls d σ' H') ∧ σ[0]? = some (some (.ref f)) ∧ J H ∧ tl Ech H R ∧ ∀ v H', R v H' → D.nx σ H')
      rfl rfl rfl nd rfl hn rfl hy ⟨hgl, hde, .inl hme⟩ hdn hcn (fun W pn xe tk _ => ?_))
    (pss_one (ps_ret (pe_var (X := (cxOf C8.CX0 X.prog X.w X.K X.mg X.base [a, y, n] x sg g cdg X.A X.stack s H C8.E0).nox) (i := 1) rfl (.inl hy) hdy hcy)))), ?_⟩
  · refine ⟨fun pins s' σ H' D I h' => ?_⟩
    obtain ⟨Ech, R, hW, h1, h2, h3, h4⟩ := h'
    have hp := pe_up (act W pn xe Ech p4 p5 tk hW)
    exact (pss_one (ps_expr (pos := p6) hp rfl)).run pins s' σ H' D I ⟨R, ⟨h1, h2, h3⟩, h4⟩
  · refine ⟨fun cls d H' => ∃ C, cls = .ref C ∧ d = none ∧ PySem.W.exmOne X.K cls (.ref CS) = some true ∧ ∀ a, H' a = none → Q (.ref a) (upd H' a (ExH C a)), fun _ H' => Q .non H', fun cls d σ' H' ⟨C, e1, e2, e3, e4⟩ => ⟨C, e1, e2, e3, fun a na hl => ?_⟩, rfl, hc, h, fun v H' q => ⟨.non, rfl, q⟩⟩
    refine ⟨.ref a, ?_, e4 a na⟩
    rw [List.getElem?_set_ne (by decide), List.getElem?_set_self (by rw [List.length_set]; exact hl)]
end MR
set_option Elab.async false
set_option linter.all false
set_option maxRecDepth 100000
namespace MR
open PySem PySem.Spec PyProof.Rows L2
inductive Sk where
  | l | t
def SrcIs (K : PySem.W.Frag) (H : Hp) : Sk → Addr → List V → Prop
  | .l, a, xs => SqL K H a xs
  | .t, a, xs => SqT K H a xs
def IterAt (h : Heap) : Sk → Addr → Addr → Nat → Prop
  | .l, it, a, i => h.IsListIter it a i
  | .t, it, a, i => h.IsTupleIter it a i
def HeapIs (h : Heap) : Sk → Addr → Array Value → Prop
  | .l, a, x => h.IsList a x
  | .t, a, x => h.IsTuple a x
theorem nmem (a x y : Nat) (h1 : a < x ∨ x < a) (h2 : a < y ∨ y < a) : a ∉ [x, y] := by
  simp only [List.mem_cons, List.not_mem_nil, or_false, not_or]
  omega
theorem zne (n k a : Nat) (h : a < n) : a ≠ n + k := by omega
def iterObj : Sk → Addr → Obj
  | .l, a => { cls := .type "list_iterator", data := .fields #[.ref a, .int 0 0] }
  | .t, a => { cls := .type "tuple_iterator", data := .fields #[.ref a, .int 0 0] }
theorem drawsK {prog : Program} {w : World} {A : Around} (hh : A.handled = none) (k : Sk) (it a : Addr) (hne : a ≠ it) (items : Array Value) :
    Draws prog w A it [it, a] items.size (fun i v => items[i]? = some v) (fun i h => IterAt h k it a i ∧ HeapIs h k a items) := by
  cases k with
  | l => exact Draws.list hh it a hne items
  | t => exact Draws.tuple hh it a hne items
theorem beginsK (k : Sk) (a : Addr) (items : Array Value) : Begins (.ref a) (iterObj k a) fun h => HeapIs h k a items := by
  cases k with
  | l => exact begins_list a items
  | t => exact begins_tuple a items
theorem iterK {h : Heap} {k : Sk} {it a : Addr} (e : h.get? it = some (iterObj k a)) : IterAt h k it a 0 := by
  cases k with
  | l => exact ⟨_, e, rfl, rfl⟩
  | t => exact ⟨_, e, rfl, rfl⟩
theorem iterObjK {h : Heap} {k : Sk} {it a : Addr} {i : Nat} (x : IterAt h k it a i) : ∃ o, h.get? it = some o ∧ ∀ v, o.data ≠ .cell v := by
  cases k with
  | l => obtain ⟨o, e, _, d⟩ := x; exact ⟨o, e, fun v q => by rw [d] at q; cases q⟩
  | t => obtain ⟨o, e, _, d⟩ := x; exact ⟨o, e, fun v q => by rw [d] at q; cases q⟩
theorem iterAtK {h h' : Heap} {k : Sk} {it a : Addr} {i : Nat} (x : IterAt h k it a i) (e : ∀ o, h.get? it = some o → h'.get? it = some o) : IterAt h' k it a i := by
  cases k with
  | l => exact Heap.IsListIter.at x e
  | t => exact Heap.IsTupleIter.at x e
section
variable {X : Cx} {pins : List (Addr × Obj)} {σ : L2.St} {H : Hp} {s : Shared}
theorem srcK (I : Inv X pins σ H s) {k : Sk} {a : Addr} {xs : List V} (h : SrcIs X.K H k a xs) : ∃ its : List Value, Vals xs its ∧ HeapIs s.heap k a its.toArray ∧ a < s.heap.objs.size := by
  cases k with
  | l =>
    obtain ⟨its, r, p, _⟩ := I.list h
    exact ⟨its, r, p.isList, p.lt⟩
  | t =>
    obtain ⟨its, r, p, _⟩ := I.tuple h
    exact ⟨its, r, p, p.lt⟩
theorem srcInj (I : Inv X pins σ H s) {k : Sk} {a : Addr} {xs ys : List V} (h : SrcIs X.K H k a xs) (h' : SrcIs X.K H k a ys) : xs = ys := by
  cases k with
  | l => exact I.list_inj h h'
  | t => exact I.tuple_inj h h'
end

theorem len_zip2 : ∀ (x1 x2 : List D), (zip2 x1 x2).length ≤ x1.length ∧ (zip2 x1 x2).length ≤ x2.length
  | a :: x1, b :: x2 => by
    have := len_zip2 x1 x2
    simp only [zip2, List.length_cons]
    omega
  | [], _ => by simp [zip2]
  | _ :: _, [] => by simp [zip2]
theorem len_zip3 : ∀ (x1 x2 x3 : List D), (zip3 x1 x2 x3).length ≤ x1.length ∧ (zip3 x1 x2 x3).length ≤ x2.length ∧ (zip3 x1 x2 x3).length ≤ x3.length
  | a :: x1, b :: x2, c :: x3 => by
    have := len_zip3 x1 x2 x3
    simp only [zip3, List.length_cons]
    omega
  | [], _, _ => by simp [zip3]
  | _ :: _, [], _ => by simp [zip3]
  | _ :: _, _ :: _, [] => by simp [zip3]
def ilNil (_ : Env) (s : S) : R (List (List D)) := .ok [] s

def ItZ2 (K : PySem.W.Frag) (k1 k2 : Sk) (a1 a2 : Addr) : It :=
  ⟨fun i H => ∃ (l1 l2 : List V) (x1 x2 : V), SrcIs K H k1 a1 l1 ∧ l1[i]? = some x1 ∧ SrcIs K H k2 a2 l2 ∧ l2[i]? = some x2,
    fun i H v H' => ∃ T x1 x2, v = .ref T ∧ H T = none ∧ H' = upd H T (.tup [x1, x2]) ∧ (∀ l, SrcIs K H k1 a1 l → l[i]? = some x1) ∧ (∀ l, SrcIs K H k2 a2 l → l[i]? = some x2),
    fun i H => ∃ (l1 l2 : List V), SrcIs K H k1 a1 l1 ∧ i ≤ l1.length ∧ SrcIs K H k2 a2 l2 ∧ i ≤ l2.length ∧ (i = l1.length ∨ i = l2.length)⟩
theorem turn_z2 {P : Program} {w : World} {K : PySem.W.Frag} {elts : List Expr} {kk : Nat} {tpos : Pos} {k1 k2 : Sk} {a1 a2 z TI TO i1 i2 : Addr} (D : ZipSep2 z TI TO i1 i2 [i1, a1] [i2, a2]) (ne1 : a1 ≠ i1) (ne2 : a2 ≠ i2) :
    Turn P w K (.Tuple elts kk tpos) (ItZ2 K k1 k2 a1 a2) [z, TI, TO, i1, i2] z (fun i h => IsZip h z TI TO .none ∧ IsTupOf2 h TI (.ref i1) (.ref i2) ∧ (∃ y1 y2, IsTupOf2 h TO y1 y2) ∧ IterAt h k1 i1 a1 i ∧ IterAt h k2 i2 a2 i) where
  mem := by simp
  obj := fun i h st c hc => by
    obtain ⟨hz, hTI, ⟨y1, y2, hTO⟩, h1, h2⟩ := st
    have e' : c = z ∨ c = TI ∨ c = TO ∨ c = i1 ∨ c = i2 := by simpa using hc
    rcases e' with q | q | q | q | q
    · rw [q]; exact ⟨_, hz, fun v q => nomatch q⟩
    · rw [q]; exact ⟨_, hTI, fun v q => nomatch q⟩
    · rw [q]; exact ⟨_, hTO, fun v q => nomatch q⟩
    · rw [q]; exact iterObjK h1
    · rw [q]; exact iterObjK h2
  keep := fun i h h' st k => by
    obtain ⟨hz, hTI, ⟨y1, y2, hTO⟩, h1, h2⟩ := st
    exact ⟨k z (by simp) _ hz, k TI (by simp) _ hTI, ⟨y1, y2, k TO (by simp) _ hTO⟩, iterAtK h1 fun o q => k i1 (by simp) o q, iterAtK h2 fun o q => k i2 (by simp) o q⟩
  item := by
    intro X hP hw hK hc i pins s σ H E I hf st hg
    subst hP hw hK
    obtain ⟨hz, hTI, ⟨y1, y2, hTO⟩, h1, h2⟩ := st
    obtain ⟨l1, l2, x1, x2, sr1, g1, sr2, g2⟩ := hg
    obtain ⟨t1, r1, p1, lt1⟩ := srcK I sr1
    obtain ⟨u1, hu1, ru1⟩ := r1.get g1
    have b1 : i < t1.toArray.size := by rw [List.size_toArray]; exact (List.getElem?_eq_some_iff.mp hu1).1
    obtain ⟨t2, r2, p2, lt2⟩ := srcK I sr2
    obtain ⟨u2, hu2, ru2⟩ := r2.get g2
    have b2 : i < t2.toArray.size := by rw [List.size_toArray]; exact (List.getElem?_eq_some_iff.mp hu2).1
    have hzl : z < s.heap.objs.size := Heap.lt_size hz
    refine wpAny_pyNext_zipD2_item D (drawsK (A := X.A.in1) (I.ok.hd hc) k1 i1 a1 ne1 t1.toArray) (drawsK (A := X.A.in1) (I.ok.hd hc) k2 i2 a2 ne2 t2.toArray) hz hTI hTO ⟨h1, p1⟩ ⟨h2, p2⟩ b1 b2 fun w1 w2 h' tk e1 e2 z' TO' n1 n2 hT hsz hk => ?_
    obtain rfl : w1 = u1 := by
      have q : t1[i]? = some w1 := by simpa using e1
      exact Option.some.inj (q.symm.trans hu1)
    obtain rfl : w2 = u2 := by
      have q : t2[i]? = some w2 := by simpa using e2
      exact Option.some.inj (q.symm.trans hu2)
    refine ⟨_, rfl, wpAny_letOwnedTupleGo_zip (s := { s with heap := h', toks := tk }) z' fun h'' z'' sb => ?_⟩
    have hT2 : h''.get? s.heap.objs.size = some { cls := .type "tuple", data := .seq #[w1, w2] } := (sb.2 _ (Nat.ne_of_gt hzl)).trans hT
    have new : ObjOk X.prog X.w (upd H s.heap.objs.size (.tup [x1, x2])) h'' s.heap.objs.size (.tup [x1, x2]) :=
      ⟨by show 2 ≤ sizeLine; decide, [w1, w2], (.cons ru1 (.cons ru2 .nil)), ⟨_, hT2, rfl, _, rfl⟩⟩
    have I1 : Inv X pins σ (upd H s.heap.objs.size (.tup [x1, x2])) { s with heap := h'', toks := tk } :=
      I.turnedNew (t' := tk) (ch := [z, TI, TO, i1, i2]) (fun c o hb q => (sb.2 c (fun q' => hb (by simp [q']))).trans (hk c o (fun q' => hb (by simp [q'])) (fun q' => hb (by simp [q'])) (fun q' => hb (by simp [q'])) (fun q' => hb (by simp [q'])) q)) hf (Nat.le_refl _) new
    refine ⟨.ref s.heap.objs.size, _, I1, rfl, ⟨_, x1, x2, rfl, I.hok.fresh (Nat.le_refl _), rfl, fun l hl => by rw [srcInj I hl sr1]; exact g1, fun l hl => by rw [srcInj I hl sr2]; exact g2⟩, ⟨z'', ?_, ⟨w1, w2, ?_⟩, ?_, ?_⟩, fun c hcm => ?_⟩
    · exact (sb.2 _ D.TIz).trans (hk _ _ D.TIz D.TITO D.TIi1 D.TIi2 hTI)
    · exact (sb.2 _ D.TOz).trans TO'
    · exact iterAtK n1.1 fun o q => (sb.2 _ (Ne.symm D.zi1)).trans q
    · exact iterAtK n2.1 fun o q => (sb.2 _ (Ne.symm D.zi2)).trans q
    · have hlt : c < s.heap.objs.size := by
        have e' : c = z ∨ c = TI ∨ c = TO ∨ c = i1 ∨ c = i2 := by simpa using hcm
        rcases e' with q | q | q | q | q
        · rw [q]; exact hzl
        · rw [q]; exact Heap.lt_size hTI
        · rw [q]; exact Heap.lt_size hTO
        · rw [q]; obtain ⟨_, e1, _⟩ := iterObjK h1; exact Heap.lt_size e1
        · rw [q]; obtain ⟨_, e1, _⟩ := iterObjK h2; exact Heap.lt_size e1
      rw [upd_ne (Nat.ne_of_lt hlt)]
      exact (hf c hcm).1
  done := by
    intro X hP hw hK hc i pins s σ H E I hf st hg
    subst hP hw hK
    obtain ⟨hz, hTI, ⟨y1, y2, hTO⟩, h1, h2⟩ := st
    obtain ⟨l1, l2, sr1, g1, sr2, g2, hend⟩ := hg
    obtain ⟨t1, r1, p1, lt1⟩ := srcK I sr1
    have z1 : t1.toArray.size = l1.length := by rw [List.size_toArray]; exact r1.length.symm
    obtain ⟨t2, r2, p2, lt2⟩ := srcK I sr2
    have z2 : t2.toArray.size = l2.length := by rw [List.size_toArray]; exact r2.length.symm
    exact wpAny_pyNext_zipD2_end D (drawsK (A := X.A.in1) (I.ok.hd hc) k1 i1 a1 ne1 t1.toArray) (drawsK (A := X.A.in1) (I.ok.hd hc) k2 i2 a2 ne2 t2.toArray) hz hTI hTO ⟨h1, p1⟩ ⟨h2, p2⟩ (by rw [z1]; exact g1) (by rw [z2]; exact g2) (by rw [z1, z2]; exact hend) fun h' tk hk => ⟨rfl, I.turnedL (t' := tk) (ch := [z, TI, TO, i1, i2]) (fun c o hb q =>
      hk c o (fun q' => hb (by simp [q'])) (fun q' => hb (by simp [q'])) (fun q' => hb (by simp [q'])) (fun q' => hb (by simp [q'])) q) hf⟩
  self := fun A i s Q E st h => wpAny_pyIter_zip st.1 h
theorem zsep2 (n z TI TO i1 i2 a1 a2 : Nat) (ez : z = n + 4) (eI : TI = n + 2) (eO : TO = n + 3) (e1 : i1 = n + 0) (e2 : i2 = n + 1) (h1 : a1 < n) (h2 : a2 < n) : ZipSep2 z TI TO i1 i2 [i1, a1] [i2, a2] := by
  constructor <;> first | exact List.mem_cons_self | exact nmem _ _ _ (by omega) (by omega) | exact Nat.ne_of_gt (by omega) | exact Nat.ne_of_lt (by omega)
def iZ2 (K : PySem.W.Frag) (ta : TA) : TI := fun σ H R => ta σ H fun vs H1 => ∃ (k1 k2 : Sk) (a1 a2 : Addr) (l1 l2 : List V), vs = [.ref a1, .ref a2] ∧ SrcIs K H1 k1 a1 l1 ∧ SrcIs K H1 k2 a2 l2 ∧ R (ItZ2 K k1 k2 a1 a2) H1
theorem pi_z2 {X : Cx} {e1 e2 : Expr} {ta : TA} {p pos tpos : Pos} {elts : List Expr} {kk : Nat} (hg : Gl X "zip") (hm : X.mg "zip" = none) (ha : PA X [e1, e2] ta)
    (hs : starEach [e1, e2] X.env = (false, eval e1 X.env) :: starEach [e2] X.env) (hpl : (backTo pos (starEach [e2] X.env)).any (·.1) = false) :
    PI X (.Tuple elts kk tpos) (.Call (.Name "zip" p) [e1, e2] [] pos) (iZ2 X.K ta) := by
  refine ⟨fun pins s σ H R I h => ?_⟩
  refine Call_ (ld_blt I hg hm PyProof.Rows.boot_zip (PyProof.Rows.callWith_type1 (thn (ha.run pos pins s σ H _ I h) fun us s1 ⟨vs, H1, I1, r1, q1⟩ => ?_) hs hpl))
  obtain ⟨k1, k2, a1, a2, l1, l2, ex, sr1, sr2, q⟩ := q1
  subst ex
  obtain ⟨u1, u2, rfl, ru1, ru2⟩ : ∃ u1 u2, us = [u1, u2] ∧ RelV (.ref a1) u1 ∧ RelV (.ref a2) u2 := by
    cases r1 with
    | cons p1 q1 =>
      cases q1 with
      | cons p2 q2 =>
        cases q2
        exact ⟨_, _, rfl, p1, p2⟩
  obtain rfl : u1 = Value.ref a1 := ru1
  obtain rfl : u2 = Value.ref a2 := ru2
  obtain ⟨t1, r1, p1, lt1⟩ := srcK I1 sr1
  obtain ⟨t2, r2, p2, lt2⟩ := srcK I1 sr2
  have fresh : ∀ c, c ∈ [s1.heap.objs.size + 4, s1.heap.objs.size + 2, s1.heap.objs.size + 3, s1.heap.objs.size, s1.heap.objs.size + 1] → FpOk X pins H1 c := fun c hcm => by
    have hle : s1.heap.objs.size ≤ c := by
      simp only [List.mem_cons, List.not_mem_nil, or_false] at hcm
      omega
    exact I1.fpOk hle (I1.hok.fresh hle)
  refine zip_begins2 (beginsK k1 a1 t1.toArray) (beginsK k2 a2 t2.toArray) p1 p2 fun h' hz hTI hTO h1 h2 hsz hk => wpAny_pyIter_zip hz ?_
  have I2 : Inv X pins σ H1 { s1 with heap := h' } := I1.kept (t' := s1.toks) hk
  refine ⟨s1.heap.objs.size + 4, [s1.heap.objs.size + 4, s1.heap.objs.size + 2, s1.heap.objs.size + 3, s1.heap.objs.size, s1.heap.objs.size + 1], _, _, H1, rfl, I2, turn_z2 (k1 := k1) (a1 := a1) (i1 := s1.heap.objs.size) (k2 := k2) (a2 := a2) (i2 := s1.heap.objs.size + 1) (z := s1.heap.objs.size + 4) (TI := s1.heap.objs.size + 2) (TO := s1.heap.objs.size + 3) (zsep2 s1.heap.objs.size _ _ _ _ _ a1 a2 rfl rfl rfl rfl rfl lt1 lt2) (zne s1.heap.objs.size 0 a1 lt1) (zne s1.heap.objs.size 1 a2 lt2), ⟨hz, hTI, ⟨_, _, hTO⟩, iterK h1, iterK h2⟩, fresh, q⟩
theorem nth_zip2 : ∀ (x1 x2 : List D) (i : Nat), (nth (zip2 x1 x2) i = none → x1.length ≤ i ∨ x2.length ≤ i) ∧ ∀ d, nth (zip2 x1 x2) i = some d → ∃ d1 d2, d = .tup [d1, d2] ∧ nth x1 i = some d1 ∧ nth x2 i = some d2
  | y1 :: x1, y2 :: x2, 0 => ⟨(fun h => by simp [zip2, nth] at h), fun d h => by
    simp only [zip2, nth, Option.some.injEq] at h
    exact ⟨y1, y2, h.symm, rfl, rfl⟩⟩
  | y1 :: x1, y2 :: x2, i + 1 => by
    obtain ⟨h1, h2⟩ := nth_zip2 x1 x2 i
    refine ⟨fun h => ?_, fun d h => h2 d h⟩
    have := h1 h
    simp only [List.length_cons]
    omega
  | [], _, i => ⟨(fun _ => .inl (by simp)), fun d h => by simp [zip2, nth] at h⟩
  | _ :: _, [], i => ⟨(fun _ => .inr ((by simp))), fun d h => by simp [zip2, nth] at h⟩
theorem src_of {o : Om} {g : Gh} {s : S} {H : Hp} {d : D} {ds : List D} {v : V} (c : Cur o g s H) (h : Rep o g d v) (e : items d = some ds) : ∃ k a vs, v = .ref a ∧ SrcIs o.K g.Fz k a vs ∧ Reps o g ds vs := by
  cases d with
  | tup xs =>
    cases e
    simp only [Rep] at h
    obtain ⟨a, vs, rfl, q, r⟩ := h
    exact ⟨.t, a, vs, rfl, q, r⟩
  | lst xs =>
    cases e
    simp only [Rep] at h
    obtain ⟨a, vs, rfl, q, r⟩ := h
    exact ⟨.l, a, vs, rfl, .inl q, r⟩
  | scr xs =>
    cases e
    simp only [Rep] at h
    obtain ⟨a, vs, rfl, q, r⟩ := h
    exact ⟨.l, a, vs, rfl, q, r⟩
  | _ => cases e
theorem SrcIs.le {K : PySem.W.Frag} {H H' : Hp} {k : Sk} {a : Addr} {xs : List V} (l : ∀ a u, H a = some u → H' a = some u) (h : SrcIs K H k a xs) : SrcIs K H' k a xs := by
  cases k with
  | l =>
    rcases h with h | h
    · exact .inl (Rd.le l h)
    · exact .inr h
  | t => exact SqT.le l h
theorem drw_z2 {o : Om} {g0 : Gh} {k1 k2 : Sk} {a1 a2 : Addr} {x1 x2 : List D} {l1 l2 : List V} (s1 : SrcIs o.K g0.Fz k1 a1 l1) (r1 : Reps o g0 x1 l1) (s2 : SrcIs o.K g0.Fz k2 a2 l2) (r2 : Reps o g0 x2 l2) : Drw o (ItZ2 o.K k1 k2 a1 a2) (RlF g0) (zip2 x1 x2) := by
  intro i g H s rl c
  have rl : Le g0 g := rl
  have s1 : SrcIs o.K H k1 a1 l1 := SrcIs.le c.fz (SrcIs.le rl.fz s1)
  have m1 := r1.length
  have s2 : SrcIs o.K H k2 a2 l2 := SrcIs.le c.fz (SrcIs.le rl.fz s2)
  have m2 := r2.length
  obtain ⟨n1, n2⟩ := nth_zip2 x1 x2 i
  have ln := len_zip2 x1 x2
  refine ⟨fun hle h => ⟨l1, l2, s1, by omega, s2, by omega, ?_⟩, fun d h => ?_⟩
  · have := n1 h
    omega
  · obtain ⟨d1, d2, rfl, e1, e2⟩ := n2 d h
    obtain ⟨v1, hv1, rv1⟩ := r1.get e1
    obtain ⟨v2, hv2, rv2⟩ := r2.get e2
    refine ⟨⟨l1, l2, v1, v2, s1, hv1, s2, hv2⟩, fun x H' y => ?_⟩
    obtain ⟨T, w1, w2, rfl, nT, rfl, f1, f2⟩ := y
    obtain rfl : w1 = v1 := Option.some.inj ((f1 _ s1).symm.trans hv1)
    obtain rfl : w2 = v2 := Option.some.inj ((f2 _ s2).symm.trans hv2)
    obtain ⟨ee, cc, rr⟩ := newT c nT (.cons (Rep.le rl rv1) (.cons (Rep.le rl rv2) .nil))
    exact ⟨_, ee, cc, rr⟩
theorem x_z2 {o : Om} {H0 : Hp} {W : WX} {X : Cx} {e1 e2 : Expr} {f1 f2 : Env → S → R D} {p pos tpos : Pos} {elts : List Expr} {kk : Nat} (hK : X.K = o.K) (hg : Gl X "zip") (hm : X.mg "zip" = none) (h1 : PE X e1 (tE o H0 W .F f1)) (h2 : PE X e2 (tE o H0 W .F f2)) (n1 : isStar e1 = false) (n2 : isStar e2 = false) :
    PI X (.Tuple elts kk tpos) (.Call (.Name "zip" p) [e1, e2] [] pos) (tIF o H0 W (iZip (ilCons f1 (ilCons f2 ilNil)))) := by
  refine pi_imp (pi_z2 hg hm (pa_cons h1 (pa_cons h2 pa_nil (star_no n2)) (star_no n1)) (star_no n1) (nostar_pl (by simp [n1, n2]))) fun σ H Q ⟨g, ρ, s, c, sl, p⟩ => ?_
  have p : Po o W σ g H ((f1 ρ s).bind fun x1 s => (R.of (items x1) s).bind fun y1 s => (f2 ρ s).bind fun x2 s => (R.of (items x2) s).bind fun y2 s => R.of (zipOf [y1, y2]) s) fun xs _ g' H' => ∀ J, Drw o J (RlF g') xs → Q J H' := by
    have e : iZip (ilCons f1 (ilCons f2 ilNil)) ρ s = ((f1 ρ s).bind fun x1 s => (R.of (items x1) s).bind fun y1 s => (f2 ρ s).bind fun x2 s => (R.of (items x2) s).bind fun y2 s => R.of (zipOf [y1, y2]) s) := by
      simp only [iZip, ilCons, ilNil, iVal, R.assoc]
      rfl
    rw [e] at p
    exact p
  refine tE_mono (one (ma := .F) c sl p) fun v1 H1 ⟨d1, g1, s1, c1, sl1, e1, hx1, q1⟩ => ?_
  obtain ⟨y1, hy1, q1⟩ := Po.of (Po.bind q1) c1
  obtain ⟨k1, a1, vs1, rfl, sr1, r1⟩ := src_of c1 (show Rep o g1 d1 v1 from hx1) hy1
  refine tE_mono (one (ma := .F) c1 sl1 q1) fun v2 H2 ⟨d2, g2, s2, c2, sl2, e2, hx2, q2⟩ => ?_
  obtain ⟨y2, hy2, q2⟩ := Po.of (Po.bind q2) c2
  obtain ⟨k2, a2, vs2, rfl, sr2, r2⟩ := src_of c2 (show Rep o g2 d2 v2 from hx2) hy2
  have sr1 := SrcIs.le (e2.le).fz sr1
  have r1 := Reps.le (e2.le) r1
  obtain ⟨zs, hz, qz⟩ := Po.of q2 c2
  cases hz
  refine ⟨k1, k2, a1, a2, vs1, vs2, rfl, by rw [hK]; exact SrcIs.le c2.fz sr1, by rw [hK]; exact SrcIs.le c2.fz sr2, ?_⟩
  rw [hK]
  exact qz _ (drw_z2 sr1 r1 sr2 r2)

def ItZ3 (K : PySem.W.Frag) (k1 k2 k3 : Sk) (a1 a2 a3 : Addr) : It :=
  ⟨fun i H => ∃ (l1 l2 l3 : List V) (x1 x2 x3 : V), SrcIs K H k1 a1 l1 ∧ l1[i]? = some x1 ∧ SrcIs K H k2 a2 l2 ∧ l2[i]? = some x2 ∧ SrcIs K H k3 a3 l3 ∧ l3[i]? = some x3,
    fun i H v H' => ∃ T x1 x2 x3, v = .ref T ∧ H T = none ∧ H' = upd H T (.tup [x1, x2, x3]) ∧ (∀ l, SrcIs K H k1 a1 l → l[i]? = some x1) ∧ (∀ l, SrcIs K H k2 a2 l → l[i]? = some x2) ∧ (∀ l, SrcIs K H k3 a3 l → l[i]? = some x3),
    fun i H => ∃ (l1 l2 l3 : List V), SrcIs K H k1 a1 l1 ∧ i ≤ l1.length ∧ SrcIs K H k2 a2 l2 ∧ i ≤ l2.length ∧ SrcIs K H k3 a3 l3 ∧ i ≤ l3.length ∧ (i = l1.length ∨ i = l2.length ∨ i = l3.length)⟩
theorem turn_z3 {P : Program} {w : World} {K : PySem.W.Frag} {elts : List Expr} {kk : Nat} {tpos : Pos} {k1 k2 k3 : Sk} {a1 a2 a3 z TI TO i1 i2 i3 : Addr} (D : ZipSep3 z TI TO i1 i2 i3 [i1, a1] [i2, a2] [i3, a3]) (ne1 : a1 ≠ i1) (ne2 : a2 ≠ i2) (ne3 : a3 ≠ i3) :
    Turn P w K (.Tuple elts kk tpos) (ItZ3 K k1 k2 k3 a1 a2 a3) [z, TI, TO, i1, i2, i3] z (fun i h => IsZip h z TI TO .none ∧ IsTupOf3 h TI (.ref i1) (.ref i2) (.ref i3) ∧ (∃ y1 y2 y3, IsTupOf3 h TO y1 y2 y3) ∧ IterAt h k1 i1 a1 i ∧ IterAt h k2 i2 a2 i ∧ IterAt h k3 i3 a3 i) where
  mem := by simp
  obj := fun i h st c hc => by
    obtain ⟨hz, hTI, ⟨y1, y2, y3, hTO⟩, h1, h2, h3⟩ := st
    have e' : c = z ∨ c = TI ∨ c = TO ∨ c = i1 ∨ c = i2 ∨ c = i3 := by simpa using hc
    rcases e' with q | q | q | q | q | q
    · rw [q]; exact ⟨_, hz, fun v q => nomatch q⟩
    · rw [q]; exact ⟨_, hTI, fun v q => nomatch q⟩
    · rw [q]; exact ⟨_, hTO, fun v q => nomatch q⟩
    · rw [q]; exact iterObjK h1
    · rw [q]; exact iterObjK h2
    · rw [q]; exact iterObjK h3
  keep := fun i h h' st k => by
    obtain ⟨hz, hTI, ⟨y1, y2, y3, hTO⟩, h1, h2, h3⟩ := st
    exact ⟨k z (by simp) _ hz, k TI (by simp) _ hTI, ⟨y1, y2, y3, k TO (by simp) _ hTO⟩, iterAtK h1 fun o q => k i1 (by simp) o q, iterAtK h2 fun o q => k i2 (by simp) o q, iterAtK h3 fun o q => k i3 (by simp) o q⟩
  item := by
    intro X hP hw hK hc i pins s σ H E I hf st hg
    subst hP hw hK
    obtain ⟨hz, hTI, ⟨y1, y2, y3, hTO⟩, h1, h2, h3⟩ := st
    obtain ⟨l1, l2, l3, x1, x2, x3, sr1, g1, sr2, g2, sr3, g3⟩ := hg
    obtain ⟨t1, r1, p1, lt1⟩ := srcK I sr1
    obtain ⟨u1, hu1, ru1⟩ := r1.get g1
    have b1 : i < t1.toArray.size := by rw [List.size_toArray]; exact (List.getElem?_eq_some_iff.mp hu1).1
    obtain ⟨t2, r2, p2, lt2⟩ := srcK I sr2
    obtain ⟨u2, hu2, ru2⟩ := r2.get g2
    have b2 : i < t2.toArray.size := by rw [List.size_toArray]; exact (List.getElem?_eq_some_iff.mp hu2).1
    obtain ⟨t3, r3, p3, lt3⟩ := srcK I sr3
    obtain ⟨u3, hu3, ru3⟩ := r3.get g3
    have b3 : i < t3.toArray.size := by rw [List.size_toArray]; exact (List.getElem?_eq_some_iff.mp hu3).1
    have hzl : z < s.heap.objs.size := Heap.lt_size hz
    refine wpAny_pyNext_zipD3_item D (drawsK (A := X.A.in1) (I.ok.hd hc) k1 i1 a1 ne1 t1.toArray) (drawsK (A := X.A.in1) (I.ok.hd hc) k2 i2 a2 ne2 t2.toArray) (drawsK (A := X.A.in1) (I.ok.hd hc) k3 i3 a3 ne3 t3.toArray) hz hTI hTO ⟨h1, p1⟩ ⟨h2, p2⟩ ⟨h3, p3⟩ b1 b2 b3 fun w1 w2 w3 h' tk e1 e2 e3 z' TO' n1 n2 n3 hT hsz hk => ?_
    obtain rfl : w1 = u1 := by
      have q : t1[i]? = some w1 := by simpa using e1
      exact Option.some.inj (q.symm.trans hu1)
    obtain rfl : w2 = u2 := by
      have q : t2[i]? = some w2 := by simpa using e2
      exact Option.some.inj (q.symm.trans hu2)
    obtain rfl : w3 = u3 := by
      have q : t3[i]? = some w3 := by simpa using e3
      exact Option.some.inj (q.symm.trans hu3)
    refine ⟨_, rfl, wpAny_letOwnedTupleGo_zip (s := { s with heap := h', toks := tk }) z' fun h'' z'' sb => ?_⟩
    have hT2 : h''.get? s.heap.objs.size = some { cls := .type "tuple", data := .seq #[w1, w2, w3] } := (sb.2 _ (Nat.ne_of_gt hzl)).trans hT
    have new : ObjOk X.prog X.w (upd H s.heap.objs.size (.tup [x1, x2, x3])) h'' s.heap.objs.size (.tup [x1, x2, x3]) :=
      ⟨by show 3 ≤ sizeLine; decide, [w1, w2, w3], (.cons ru1 (.cons ru2 (.cons ru3 .nil))), ⟨_, hT2, rfl, _, rfl⟩⟩
    have I1 : Inv X pins σ (upd H s.heap.objs.size (.tup [x1, x2, x3])) { s with heap := h'', toks := tk } :=
      I.turnedNew (t' := tk) (ch := [z, TI, TO, i1, i2, i3]) (fun c o hb q => (sb.2 c (fun q' => hb (by simp [q']))).trans (hk c o (fun q' => hb (by simp [q'])) (fun q' => hb (by simp [q'])) (fun q' => hb (by simp [q'])) (fun q' => hb (by simp [q'])) (fun q' => hb (by simp [q'])) q)) hf (Nat.le_refl _) new
    refine ⟨.ref s.heap.objs.size, _, I1, rfl, ⟨_, x1, x2, x3, rfl, I.hok.fresh (Nat.le_refl _), rfl, fun l hl => by rw [srcInj I hl sr1]; exact g1, fun l hl => by rw [srcInj I hl sr2]; exact g2, fun l hl => by rw [srcInj I hl sr3]; exact g3⟩, ⟨z'', ?_, ⟨w1, w2, w3, ?_⟩, ?_, ?_, ?_⟩, fun c hcm => ?_⟩
    · exact (sb.2 _ D.TIz).trans (hk _ _ D.TIz D.TITO D.TIi1 D.TIi2 D.TIi3 hTI)
    · exact (sb.2 _ D.TOz).trans TO'
    · exact iterAtK n1.1 fun o q => (sb.2 _ (Ne.symm D.zi1)).trans q
    · exact iterAtK n2.1 fun o q => (sb.2 _ (Ne.symm D.zi2)).trans q
    · exact iterAtK n3.1 fun o q => (sb.2 _ (Ne.symm D.zi3)).trans q
    · have hlt : c < s.heap.objs.size := by
        have e' : c = z ∨ c = TI ∨ c = TO ∨ c = i1 ∨ c = i2 ∨ c = i3 := by simpa using hcm
        rcases e' with q | q | q | q | q | q
        · rw [q]; exact hzl
        · rw [q]; exact Heap.lt_size hTI
        · rw [q]; exact Heap.lt_size hTO
        · rw [q]; obtain ⟨_, e1, _⟩ := iterObjK h1; exact Heap.lt_size e1
        · rw [q]; obtain ⟨_, e1, _⟩ := iterObjK h2; exact Heap.lt_size e1
        · rw [q]; obtain ⟨_, e1, _⟩ := iterObjK h3; exact Heap.lt_size e1
      rw [upd_ne (Nat.ne_of_lt hlt)]
      exact (hf c hcm).1
  done := by
    intro X hP hw hK hc i pins s σ H E I hf st hg
    subst hP hw hK
    obtain ⟨hz, hTI, ⟨y1, y2, y3, hTO⟩, h1, h2, h3⟩ := st
    obtain ⟨l1, l2, l3, sr1, g1, sr2, g2, sr3, g3, hend⟩ := hg
    obtain ⟨t1, r1, p1, lt1⟩ := srcK I sr1
    have z1 : t1.toArray.size = l1.length := by rw [List.size_toArray]; exact r1.length.symm
    obtain ⟨t2, r2, p2, lt2⟩ := srcK I sr2
    have z2 : t2.toArray.size = l2.length := by rw [List.size_toArray]; exact r2.length.symm
    obtain ⟨t3, r3, p3, lt3⟩ := srcK I sr3
    have z3 : t3.toArray.size = l3.length := by rw [List.size_toArray]; exact r3.length.symm
    exact wpAny_pyNext_zipD3_end D (drawsK (A := X.A.in1) (I.ok.hd hc) k1 i1 a1 ne1 t1.toArray) (drawsK (A := X.A.in1) (I.ok.hd hc) k2 i2 a2 ne2 t2.toArray) (drawsK (A := X.A.in1) (I.ok.hd hc) k3 i3 a3 ne3 t3.toArray) hz hTI hTO ⟨h1, p1⟩ ⟨h2, p2⟩ ⟨h3, p3⟩ (by rw [z1]; exact g1) (by rw [z2]; exact g2) (by rw [z3]; exact g3) (by rw [z1, z2, z3]; exact hend) fun h' tk hk => ⟨rfl, I.turnedL (t' := tk) (ch := [z, TI, TO, i1, i2, i3]) (fun c o hb q =>
      hk c o (fun q' => hb (by simp [q'])) (fun q' => hb (by simp [q'])) (fun q' => hb (by simp [q'])) (fun q' => hb (by simp [q'])) (fun q' => hb (by simp [q'])) q) hf⟩
  self := fun A i s Q E st h => wpAny_pyIter_zip st.1 h
theorem zsep3 (n z TI TO i1 i2 i3 a1 a2 a3 : Nat) (ez : z = n + 5) (eI : TI = n + 3) (eO : TO = n + 4) (e1 : i1 = n + 0) (e2 : i2 = n + 1) (e3 : i3 = n + 2) (h1 : a1 < n) (h2 : a2 < n) (h3 : a3 < n) : ZipSep3 z TI TO i1 i2 i3 [i1, a1] [i2, a2] [i3, a3] := by
  constructor <;> first | exact List.mem_cons_self | exact nmem _ _ _ (by omega) (by omega) | exact Nat.ne_of_gt (by omega) | exact Nat.ne_of_lt (by omega)
def iZ3 (K : PySem.W.Frag) (ta : TA) : TI := fun σ H R => ta σ H fun vs H1 => ∃ (k1 k2 k3 : Sk) (a1 a2 a3 : Addr) (l1 l2 l3 : List V), vs = [.ref a1, .ref a2, .ref a3] ∧ SrcIs K H1 k1 a1 l1 ∧ SrcIs K H1 k2 a2 l2 ∧ SrcIs K H1 k3 a3 l3 ∧ R (ItZ3 K k1 k2 k3 a1 a2 a3) H1
theorem pi_z3 {X : Cx} {e1 e2 e3 : Expr} {ta : TA} {p pos tpos : Pos} {elts : List Expr} {kk : Nat} (hg : Gl X "zip") (hm : X.mg "zip" = none) (ha : PA X [e1, e2, e3] ta)
    (hs : starEach [e1, e2, e3] X.env = (false, eval e1 X.env) :: starEach [e2, e3] X.env) (hpl : (backTo pos (starEach [e2, e3] X.env)).any (·.1) = false) :
    PI X (.Tuple elts kk tpos) (.Call (.Name "zip" p) [e1, e2, e3] [] pos) (iZ3 X.K ta) := by
  refine ⟨fun pins s σ H R I h => ?_⟩
  refine Call_ (ld_blt I hg hm PyProof.Rows.boot_zip (PyProof.Rows.callWith_type1 (thn (ha.run pos pins s σ H _ I h) fun us s1 ⟨vs, H1, I1, r1, q1⟩ => ?_) hs hpl))
  obtain ⟨k1, k2, k3, a1, a2, a3, l1, l2, l3, ex, sr1, sr2, sr3, q⟩ := q1
  subst ex
  obtain ⟨u1, u2, u3, rfl, ru1, ru2, ru3⟩ : ∃ u1 u2 u3, us = [u1, u2, u3] ∧ RelV (.ref a1) u1 ∧ RelV (.ref a2) u2 ∧ RelV (.ref a3) u3 := by
    cases r1 with
    | cons p1 q1 =>
      cases q1 with
      | cons p2 q2 =>
        cases q2 with
        | cons p3 q3 =>
          cases q3
          exact ⟨_, _, _, rfl, p1, p2, p3⟩
  obtain rfl : u1 = Value.ref a1 := ru1
  obtain rfl : u2 = Value.ref a2 := ru2
  obtain rfl : u3 = Value.ref a3 := ru3
  obtain ⟨t1, r1, p1, lt1⟩ := srcK I1 sr1
  obtain ⟨t2, r2, p2, lt2⟩ := srcK I1 sr2
  obtain ⟨t3, r3, p3, lt3⟩ := srcK I1 sr3
  have fresh : ∀ c, c ∈ [s1.heap.objs.size + 5, s1.heap.objs.size + 3, s1.heap.objs.size + 4, s1.heap.objs.size, s1.heap.objs.size + 1, s1.heap.objs.size + 2] → FpOk X pins H1 c := fun c hcm => by
    have hle : s1.heap.objs.size ≤ c := by
      simp only [List.mem_cons, List.not_mem_nil, or_false] at hcm
      omega
    exact I1.fpOk hle (I1.hok.fresh hle)
  refine zip_begins3 (beginsK k1 a1 t1.toArray) (beginsK k2 a2 t2.toArray) (beginsK k3 a3 t3.toArray) p1 p2 p3 fun h' hz hTI hTO h1 h2 h3 hsz hk => wpAny_pyIter_zip hz ?_
  have I2 : Inv X pins σ H1 { s1 with heap := h' } := I1.kept (t' := s1.toks) hk
  refine ⟨s1.heap.objs.size + 5, [s1.heap.objs.size + 5, s1.heap.objs.size + 3, s1.heap.objs.size + 4, s1.heap.objs.size, s1.heap.objs.size + 1, s1.heap.objs.size + 2], _, _, H1, rfl, I2, turn_z3 (k1 := k1) (a1 := a1) (i1 := s1.heap.objs.size) (k2 := k2) (a2 := a2) (i2 := s1.heap.objs.size + 1) (k3 := k3) (a3 := a3) (i3 := s1.heap.objs.size + 2) (z := s1.heap.objs.size + 5) (TI := s1.heap.objs.size + 3) (TO := s1.heap.objs.size + 4) (zsep3 s1.heap.objs.size _ _ _ _ _ _ a1 a2 a3 rfl rfl rfl rfl rfl rfl lt1 lt2 lt3) (zne s1.heap.objs.size 0 a1 lt1) (zne s1.heap.objs.size 1 a2 lt2) (zne s1.heap.objs.size 2 a3 lt3), ⟨hz, hTI, ⟨_, _, _, hTO⟩, iterK h1, iterK h2, iterK h3⟩, fresh, q⟩
theorem nth_zip3 : ∀ (x1 x2 x3 : List D) (i : Nat), (nth (zip3 x1 x2 x3) i = none → x1.length ≤ i ∨ x2.length ≤ i ∨ x3.length ≤ i) ∧ ∀ d, nth (zip3 x1 x2 x3) i = some d → ∃ d1 d2 d3, d = .tup [d1, d2, d3] ∧ nth x1 i = some d1 ∧ nth x2 i = some d2 ∧ nth x3 i = some d3
  | y1 :: x1, y2 :: x2, y3 :: x3, 0 => ⟨(fun h => by simp [zip3, nth] at h), fun d h => by
    simp only [zip3, nth, Option.some.injEq] at h
    exact ⟨y1, y2, y3, h.symm, rfl, rfl, rfl⟩⟩
  | y1 :: x1, y2 :: x2, y3 :: x3, i + 1 => by
    obtain ⟨h1, h2⟩ := nth_zip3 x1 x2 x3 i
    refine ⟨fun h => ?_, fun d h => h2 d h⟩
    have := h1 h
    simp only [List.length_cons]
    omega
  | [], _, _, i => ⟨(fun _ => .inl (by simp)), fun d h => by simp [zip3, nth] at h⟩
  | _ :: _, [], _, i => ⟨(fun _ => .inr (.inl (by simp))), fun d h => by simp [zip3, nth] at h⟩
  | _ :: _, _ :: _, [], i => ⟨(fun _ => .inr (.inr ((by simp)))), fun d h => by simp [zip3, nth] at h⟩
theorem drw_z3 {o : Om} {g0 : Gh} {k1 k2 k3 : Sk} {a1 a2 a3 : Addr} {x1 x2 x3 : List D} {l1 l2 l3 : List V} (s1 : SrcIs o.K g0.Fz k1 a1 l1) (r1 : Reps o g0 x1 l1) (s2 : SrcIs o.K g0.Fz k2 a2 l2) (r2 : Reps o g0 x2 l2) (s3 : SrcIs o.K g0.Fz k3 a3 l3) (r3 : Reps o g0 x3 l3) : Drw o (ItZ3 o.K k1 k2 k3 a1 a2 a3) (RlF g0) (zip3 x1 x2 x3) := by
  intro i g H s rl c
  have rl : Le g0 g := rl
  have s1 : SrcIs o.K H k1 a1 l1 := SrcIs.le c.fz (SrcIs.le rl.fz s1)
  have m1 := r1.length
  have s2 : SrcIs o.K H k2 a2 l2 := SrcIs.le c.fz (SrcIs.le rl.fz s2)
  have m2 := r2.length
  have s3 : SrcIs o.K H k3 a3 l3 := SrcIs.le c.fz (SrcIs.le rl.fz s3)
  have m3 := r3.length
  obtain ⟨n1, n2⟩ := nth_zip3 x1 x2 x3 i
  have ln := len_zip3 x1 x2 x3
  refine ⟨fun hle h => ⟨l1, l2, l3, s1, by omega, s2, by omega, s3, by omega, ?_⟩, fun d h => ?_⟩
  · have := n1 h
    omega
  · obtain ⟨d1, d2, d3, rfl, e1, e2, e3⟩ := n2 d h
    obtain ⟨v1, hv1, rv1⟩ := r1.get e1
    obtain ⟨v2, hv2, rv2⟩ := r2.get e2
    obtain ⟨v3, hv3, rv3⟩ := r3.get e3
    refine ⟨⟨l1, l2, l3, v1, v2, v3, s1, hv1, s2, hv2, s3, hv3⟩, fun x H' y => ?_⟩
    obtain ⟨T, w1, w2, w3, rfl, nT, rfl, f1, f2, f3⟩ := y
    obtain rfl : w1 = v1 := Option.some.inj ((f1 _ s1).symm.trans hv1)
    obtain rfl : w2 = v2 := Option.some.inj ((f2 _ s2).symm.trans hv2)
    obtain rfl : w3 = v3 := Option.some.inj ((f3 _ s3).symm.trans hv3)
    obtain ⟨ee, cc, rr⟩ := newT c nT (.cons (Rep.le rl rv1) (.cons (Rep.le rl rv2) (.cons (Rep.le rl rv3) .nil)))
    exact ⟨_, ee, cc, rr⟩
theorem x_z3 {o : Om} {H0 : Hp} {W : WX} {X : Cx} {e1 e2 e3 : Expr} {f1 f2 f3 : Env → S → R D} {p pos tpos : Pos} {elts : List Expr} {kk : Nat} (hK : X.K = o.K) (hg : Gl X "zip") (hm : X.mg "zip" = none) (h1 : PE X e1 (tE o H0 W .F f1)) (h2 : PE X e2 (tE o H0 W .F f2)) (h3 : PE X e3 (tE o H0 W .F f3)) (n1 : isStar e1 = false) (n2 : isStar e2 = false) (n3 : isStar e3 = false) :
    PI X (.Tuple elts kk tpos) (.Call (.Name "zip" p) [e1, e2, e3] [] pos) (tIF o H0 W (iZip (ilCons f1 (ilCons f2 (ilCons f3 ilNil))))) := by
  refine pi_imp (pi_z3 hg hm (pa_cons h1 (pa_cons h2 (pa_cons h3 pa_nil (star_no n3)) (star_no n2)) (star_no n1)) (star_no n1) (nostar_pl (by simp [n1, n2, n3]))) fun σ H Q ⟨g, ρ, s, c, sl, p⟩ => ?_
  have p : Po o W σ g H ((f1 ρ s).bind fun x1 s => (R.of (items x1) s).bind fun y1 s => (f2 ρ s).bind fun x2 s => (R.of (items x2) s).bind fun y2 s => (f3 ρ s).bind fun x3 s => (R.of (items x3) s).bind fun y3 s => R.of (zipOf [y1, y2, y3]) s) fun xs _ g' H' => ∀ J, Drw o J (RlF g') xs → Q J H' := by
    have e : iZip (ilCons f1 (ilCons f2 (ilCons f3 ilNil))) ρ s = ((f1 ρ s).bind fun x1 s => (R.of (items x1) s).bind fun y1 s => (f2 ρ s).bind fun x2 s => (R.of (items x2) s).bind fun y2 s => (f3 ρ s).bind fun x3 s => (R.of (items x3) s).bind fun y3 s => R.of (zipOf [y1, y2, y3]) s) := by
      simp only [iZip, ilCons, ilNil, iVal, R.assoc]
      rfl
    rw [e] at p
    exact p
  refine tE_mono (one (ma := .F) c sl p) fun v1 H1 ⟨d1, g1, s1, c1, sl1, e1, hx1, q1⟩ => ?_
  obtain ⟨y1, hy1, q1⟩ := Po.of (Po.bind q1) c1
  obtain ⟨k1, a1, vs1, rfl, sr1, r1⟩ := src_of c1 (show Rep o g1 d1 v1 from hx1) hy1
  refine tE_mono (one (ma := .F) c1 sl1 q1) fun v2 H2 ⟨d2, g2, s2, c2, sl2, e2, hx2, q2⟩ => ?_
  obtain ⟨y2, hy2, q2⟩ := Po.of (Po.bind q2) c2
  obtain ⟨k2, a2, vs2, rfl, sr2, r2⟩ := src_of c2 (show Rep o g2 d2 v2 from hx2) hy2
  refine tE_mono (one (ma := .F) c2 sl2 q2) fun v3 H3 ⟨d3, g3, s3, c3, sl3, e3, hx3, q3⟩ => ?_
  obtain ⟨y3, hy3, q3⟩ := Po.of (Po.bind q3) c3
  obtain ⟨k3, a3, vs3, rfl, sr3, r3⟩ := src_of c3 (show Rep o g3 d3 v3 from hx3) hy3
  have sr1 := SrcIs.le ((e2.le).trans e3.le).fz sr1
  have r1 := Reps.le ((e2.le).trans e3.le) r1
  have sr2 := SrcIs.le (e3.le).fz sr2
  have r2 := Reps.le (e3.le) r2
  obtain ⟨zs, hz, qz⟩ := Po.of q3 c3
  cases hz
  refine ⟨k1, k2, k3, a1, a2, a3, vs1, vs2, vs3, rfl, by rw [hK]; exact SrcIs.le c3.fz sr1, by rw [hK]; exact SrcIs.le c3.fz sr2, by rw [hK]; exact SrcIs.le c3.fz sr3, ?_⟩
  rw [hK]
  exact qz _ (drw_z3 sr1 r1 sr2 r2 sr3 r3)
end MR
set_option Elab.async false
set_option linter.all false
set_option maxRecDepth 100000
namespace MR
open PySem PySem.Spec PyProof.Rows L2
open Sem (wp)
set_option maxHeartbeats 1000000 in
theorem enum_newB1 {v : Value} {ob : Obj} {Hs : Heap → Prop} (B : Begins v ob Hs) :
    Meets (Builtin.«enumerate.__new__» ⟨[.type "enumerate", v], []⟩) (fun _ Rr s => Hs s.heap ∧
      Rr (.ok (.ret (.ref (s.heap.push ob).objs.size))) { s with heap := (s.heap.push ob).push { cls := .type "enumerate", data := .fields #[.none, .bool false, .ref s.heap.objs.size, rawInt 0, .none, .none] } }) :=
  .of_wp fun prog w A Rr s h => by
    obtain ⟨hp, g, d, tk, os⟩ := s
    obtain ⟨h1, h⟩ := h
    have hsub := sub_enumerate
    have q1 : ∀ {A' : Around} {E : Value → Shared → Prop} {Q : Value → Shared → Prop}, Q (.ref hp.objs.size) ⟨hp.push ob, g, d, tk, os⟩ → wpAny (model prog w) A' (pyIter v) Q E ⟨hp, g, d, tk, os⟩ :=
      fun q => B.iter prog w _ _ ⟨hp, g, d, tk, os⟩ _ h1 q
    wp_walk using q1
    refine wpAny_stack_any fun st => wpAny_pure ?_
    split
    · rename_i c _ _ _ _ _
      cases (c == Value.type "enumerate")
      · wp_walk using q1
        exact ⟨_, rfl, h⟩
      · wp_walk using q1
        exact ⟨_, rfl, h⟩
    · wp_walk using q1
      exact ⟨_, rfl, h⟩
theorem enum_begins1 {prog : Program} {w : World} {A : Around} {E : Value → Shared → Prop} {s : Shared} {v : Value} {ob : Obj} {Hs : Heap → Prop} {Q : Value → Shared → Prop} (B : Begins v ob Hs) (h1 : Hs s.heap)
    (h : ∀ h', IsEnum h' (s.heap.objs.size + 1) s.heap.objs.size 0 .none → h'.get? s.heap.objs.size = some ob → h'.objs.size = s.heap.objs.size + 2 →
      (∀ b o, s.heap.get? b = some o → h'.get? b = some o) → Q (.ref (s.heap.objs.size + 1)) { s with heap := h' }) :
    wpAny (model prog w) A (call (.type "enumerate") [v]) Q E s := by
  refine callType_new PySem.F.called_enumerate (by decide) (PySem.F.typeCall_enumerate_1 _) (PySem.F.newCall_enumerate_1 _) (fun obj => PySem.F.args_object_init_2 obj _) PySem.F.entry_enumerate_new
    (enum_newB1 B) ⟨h1, ?_⟩
  have hz : (s.heap.push ob).objs.size = s.heap.objs.size + 1 := Heap.size_push ..
  show _ ∧ _
  rw [hz]
  have he : IsEnum ((s.heap.push ob).push { cls := .type "enumerate", data := .fields #[.none, .bool false, .ref s.heap.objs.size, rawInt 0, .none, .none] }) (s.heap.objs.size + 1) s.heap.objs.size 0 .none := by
    have := Heap.get?_push_size (s.heap.push ob) (o := { cls := .type "enumerate", data := .fields #[.none, .bool false, .ref s.heap.objs.size, rawInt 0, .none, .none] }) rfl
    rw [hz] at this
    exact this
  refine ⟨⟨_, he, rfl⟩, h _ he (Heap.get?_push_of_some _ (Heap.get?_push_size _ B.free)) (by rw [Heap.size_push, hz]) fun b o x => Heap.get?_push_of_some _ (Heap.get?_push_of_some _ x)⟩
def ItE (K : PySem.W.Frag) (k : Sk) (a : Addr) : It :=
  ⟨fun i H => ∃ (xs : List V) (x : V), SrcIs K H k a xs ∧ xs[i]? = some x, fun i H v H' => ∃ T x, v = .ref T ∧ H T = none ∧ H' = upd H T (.tup [.int (i : Nat), x]) ∧ ∀ xs, SrcIs K H k a xs → xs[i]? = some x, fun i H => ∃ xs : List V, SrcIs K H k a xs ∧ xs.length = i⟩
theorem turn_enumK {P : Program} {w : World} {K : PySem.W.Frag} {elts : List Expr} {kk : Nat} {tpos : Pos} {k : Sk} {a e it : Addr} (hne : e ≠ it) (hai : a ≠ it) (hae : e ≠ a) :
    Turn P w K (.Tuple elts kk tpos) (ItE K k a) [e, it] e (fun i h => (∃ old, IsEnum h e it ((i : Nat) : Int) old) ∧ IterAt h k it a i) where
  mem := by simp
  obj := fun i h st b hb => by
    obtain ⟨⟨old, he⟩, hi⟩ := st
    have e' : b = e ∨ b = it := by simpa using hb
    rcases e' with z | z
    · rw [z]; exact ⟨_, he, fun v q => nomatch q⟩
    · rw [z]; exact iterObjK hi
  keep := fun i h h' st kp => by
    obtain ⟨⟨old, he⟩, hi⟩ := st
    exact ⟨⟨old, kp e (by simp) _ he⟩, iterAtK hi fun o q => kp it (by simp) o q⟩
  item := by
    intro X hP hw hK hc i pins s σ H E I hf st hg
    subst hP hw hK
    obtain ⟨⟨old, he⟩, hit⟩ := st
    obtain ⟨xs, x, hq, hx⟩ := hg
    obtain ⟨its, rv, p, hz⟩ := srcK I hq
    obtain ⟨u, hu, ru⟩ := rv.get hx
    have b1 : i < its.toArray.size := by rw [List.size_toArray]; exact (List.getElem?_eq_some_iff.mp hu).1
    have hel : e < s.heap.objs.size := Heap.lt_size he
    have hil : it < s.heap.objs.size := by obtain ⟨_, q, _⟩ := iterObjK hit; exact Heap.lt_size q
    refine wpAny_pyNext_enum_itemD (drawsK (A := X.A.in1) (I.ok.hd hc) k it a hai its.toArray) he ⟨hit, p⟩ b1 hne (nmem e it a (Nat.lt_or_gt_of_ne hne) (Nat.lt_or_gt_of_ne hae)) fun u' h' tk hP ho hst' hT hsz hk => ?_
    obtain rfl : u' = u := by
      have q : its[i]? = some u' := by simpa using hP
      exact Option.some.inj (q.symm.trans hu)
    refine ⟨_, rfl, wpAny_letOwnedTupleGo_enum (s := { s with heap := h', toks := tk + 1 }) ho fun h'' he' sb => ?_⟩
    have hT2 : h''.get? s.heap.objs.size = some { cls := .type "tuple", data := .seq #[.int i tk, u'] } := (sb.2 _ (Nat.ne_of_gt hel)).trans hT
    have new : ObjOk X.prog X.w (upd H s.heap.objs.size (.tup [.int (i : Nat), x])) h'' s.heap.objs.size (.tup [.int (i : Nat), x]) :=
      ⟨by show 2 ≤ sizeLine; decide, [.int i tk, u'], .cons ⟨_, rfl⟩ (.cons ru .nil), ⟨_, hT2, rfl, _, rfl⟩⟩
    have I1 : Inv X pins σ (upd H s.heap.objs.size (.tup [.int (i : Nat), x])) { s with heap := h'', toks := tk + 1 } :=
      I.turnedNew (t' := tk + 1) (ch := [e, it]) (fun b ob hb q => (sb.2 b (fun z => hb (by simp [z]))).trans (hk b ob (fun z => hb (by simp [z])) (fun z => hb (by simp [z])) q)) hf (Nat.le_refl _) new
    refine ⟨.ref s.heap.objs.size, _, I1, rfl, ⟨_, x, rfl, I.hok.fresh (Nat.le_refl _), rfl, fun ys hy => by rw [srcInj I hy hq]; exact hx⟩, ⟨⟨u', ?_⟩, iterAtK hst'.1 fun o q => (sb.2 it (Ne.symm hne)).trans q⟩, fun b hb => ?_⟩
    · have e1 : ((i + 1 : Nat) : Int) = (i : Int) + 1 := by omega
      rw [e1]
      exact he'
    · have hb' : b < s.heap.objs.size := by
        have e' : b = e ∨ b = it := by simpa using hb
        rcases e' with z | z
        · rw [z]; exact hel
        · rw [z]; exact hil
      rw [upd_ne (Nat.ne_of_lt hb')]
      exact (hf b hb).1
  done := by
    intro X hP hw hK hc i pins s σ H E I hf st hg
    subst hP hw hK
    obtain ⟨⟨old, he⟩, hit⟩ := st
    obtain ⟨xs, hq, hx⟩ := hg
    obtain ⟨its, rv, p, hz⟩ := srcK I hq
    obtain ⟨f0, f1, f2, f3, f4, f5⟩ := hf it (by simp)
    have hl : i = its.toArray.size := by rw [List.size_toArray, ← rv.length]; exact hx.symm
    exact wpAny_pyNext_enum_endD (drawsK (A := X.A.in1) (I.ok.hd hc) k it a hai its.toArray) he (by rw [← hl]; exact ⟨hit, p⟩) fun h' eb => ⟨rfl, I.turned (t' := s.toks) (fun b o hb q => eb b o hb q) f0 f1 f3 f4 f5⟩
  self := fun A i s Q E st h => let ⟨⟨_, he⟩, _⟩ := st; wpAny_pyIter_enum he h
def iE (K : PySem.W.Frag) (ta : TA) : TI := fun σ H R => ta σ H fun vs H1 => ∃ (k : Sk) (a : Addr) (l : List V), vs = [.ref a] ∧ SrcIs K H1 k a l ∧ R (ItE K k a) H1
theorem pi_enumK {X : Cx} {e1 : Expr} {ta : TA} {p pos tpos : Pos} {elts : List Expr} {kk : Nat} (hg : Gl X "enumerate") (hm : X.mg "enumerate" = none) (ha : PA X [e1] ta) (hs : starEach [e1] X.env = (false, eval e1 X.env) :: starEach [] X.env) :
    PI X (.Tuple elts kk tpos) (.Call (.Name "enumerate" p) [e1] [] pos) (iE X.K ta) := by
  refine ⟨fun pins s σ H R I h => ?_⟩
  refine Call_ (ld_blt I hg hm PyProof.Rows.boot_enumerate (PyProof.Rows.callWith_type1 (thn (ha.run pos pins s σ H _ I h) fun us s1 ⟨vs, H1, I1, r1, q1⟩ => ?_) hs rfl))
  obtain ⟨k, a, l, ex, sr, q⟩ := q1
  subst ex
  obtain ⟨u1, rfl, ru1⟩ := vals1 r1
  obtain rfl : u1 = Value.ref a := ru1
  obtain ⟨t1, r1, p1, lt1⟩ := srcK I1 sr
  refine enum_begins1 (beginsK k a t1.toArray) p1 fun h' he hit hsz hk => wpAny_pyIter_enum he ?_
  have I2 : Inv X pins σ H1 { s1 with heap := h' } := I1.kept (t' := s1.toks) hk
  refine ⟨s1.heap.objs.size + 1, [s1.heap.objs.size + 1, s1.heap.objs.size], _, _, H1, rfl, I2, turn_enumK (k := k) (a := a) (e := s1.heap.objs.size + 1) (it := s1.heap.objs.size) (Nat.succ_ne_self _) (Nat.ne_of_lt lt1) (Nat.ne_of_gt (Nat.lt_succ_of_lt lt1)), ⟨⟨.none, he⟩, iterK hit⟩, fun b hb => ?_, q⟩
  have hle : s1.heap.objs.size ≤ b := by
    have e' : b = s1.heap.objs.size + 1 ∨ b = s1.heap.objs.size := by simpa using hb
    rcases e' with z | z
    · rw [z]; exact Nat.le_add_right _ _
    · rw [z]; exact Nat.le_refl _
  exact I1.fpOk hle (I1.hok.fresh hle)
theorem nth_enum : ∀ (xs : List D) (n : Int) (i : Nat), (nth (enumL n xs) i = none → xs.length ≤ i) ∧ (∀ d, nth (enumL n xs) i = some d → ∃ x, d = .tup [.int (n + i), x] ∧ nth xs i = some x) ∧ (enumL n xs).length = xs.length
  | [], n, i => ⟨fun _ => by simp, fun d h => by simp [enumL, nth] at h, rfl⟩
  | x :: xs, n, 0 => ⟨fun h => by simp [enumL, nth] at h, fun d h => by
    simp only [enumL, nth, Option.some.injEq] at h
    exact ⟨x, by rw [← h]; simp, rfl⟩, by simp only [enumL, List.length_cons]; rw [(nth_enum xs (n + 1) 0).2.2]⟩
  | x :: xs, n, i + 1 => by
    obtain ⟨h1, h2, h3⟩ := nth_enum xs (n + 1) i
    refine ⟨fun h => ?_, fun d h => ?_, by simp only [enumL, List.length_cons]; rw [h3]⟩
    · have := h1 h
      simp only [List.length_cons]
      omega
    · obtain ⟨y, e, hy⟩ := h2 d h
      refine ⟨y, ?_, hy⟩
      rw [e]
      congr 3
      omega
theorem drw_enum {o : Om} {g0 : Gh} {k : Sk} {a : Addr} {xs : List D} {l : List V} (s1 : SrcIs o.K g0.Fz k a l) (r1 : Reps o g0 xs l) : Drw o (ItE o.K k a) (RlF g0) (enumL 0 xs) := by
  intro i g H s rl c
  have rl : Le g0 g := rl
  have s1 : SrcIs o.K H k a l := SrcIs.le c.fz (SrcIs.le rl.fz s1)
  have m1 := r1.length
  obtain ⟨n1, n2, n3⟩ := nth_enum xs 0 i
  refine ⟨fun hle h => ⟨l, s1, ?_⟩, fun d h => ?_⟩
  · have := n1 h
    omega
  · obtain ⟨x, rfl, e1⟩ := n2 d h
    obtain ⟨v, hv, rv⟩ := r1.get e1
    refine ⟨⟨l, v, s1, hv⟩, fun y H' hy => ?_⟩
    obtain ⟨T, w, rfl, nT, rfl, f1⟩ := hy
    obtain rfl : w = v := Option.some.inj ((f1 _ s1).symm.trans hv)
    have hi : Rep o g (.int (0 + (i : Int))) (.int (i : Nat)) := by simp only [Rep]; congr 1; omega
    obtain ⟨ee, cc, rr⟩ := newT c nT (.cons hi (.cons (Rep.le rl rv) .nil))
    exact ⟨_, ee, cc, rr⟩
theorem x_enum {o : Om} {H0 : Hp} {W : WX} {X : Cx} {e1 : Expr} {f1 : Env → S → R D} {p pos tpos : Pos} {elts : List Expr} {kk : Nat} (hK : X.K = o.K) (hg : Gl X "enumerate") (hm : X.mg "enumerate" = none) (h1 : PE X e1 (tE o H0 W .F f1)) (n1 : isStar e1 = false) :
    PI X (.Tuple elts kk tpos) (.Call (.Name "enumerate" p) [e1] [] pos) (tIF o H0 W (iEnu f1)) := by
  refine pi_imp (pi_enumK hg hm (pa_cons h1 pa_nil (star_no n1)) (star_no n1)) fun σ H Q ⟨g, ρ, s, c, sl, p⟩ => ?_
  have p : Po o W σ g H ((f1 ρ s).bind fun x1 s => (R.of (items x1) s).bind fun y1 s => .ok (enumL 0 y1) s) fun xs _ g' H' => ∀ J, Drw o J (RlF g') xs → Q J H' := by
    have e : iEnu f1 ρ s = ((f1 ρ s).bind fun x1 s => (R.of (items x1) s).bind fun y1 s => .ok (enumL 0 y1) s) := by
      simp only [iEnu, iVal, R.assoc]
    rw [e] at p
    exact p
  refine tE_mono (one (ma := .F) c sl p) fun v1 H1 ⟨d1, g1, s1, c1, sl1, e1, hx1, q1⟩ => ?_
  obtain ⟨y1, hy1, q1⟩ := Po.of (Po.bind q1) c1
  obtain ⟨k, a, vs, rfl, sr, r⟩ := src_of c1 (show Rep o g1 d1 v1 from hx1) hy1
  refine ⟨k, a, vs, rfl, by rw [hK]; exact SrcIs.le c1.fz sr, ?_⟩
  rw [hK]
  exact Po.ok q1 c1 _ (drw_enum sr r)
end MR
set_option Elab.async false
set_option linter.all false
set_option maxRecDepth 100000
namespace MR
open PySem PySem.Spec PyProof.Rows L2
section
variable {o : Om} {H0 : Hp} {W : WX} {X : Cx}
theorem repCs_deep {g : Gh} {s : S} {H : Hp} (c : Cur o g s H) : ∀ {ys : List D} {vs : List V}, RepCs o g H ys vs → Reps o ⟨H, g.cl⟩ ys vs
  | [], _, h => by
    have h : _ = [] := h
    rw [h]
    exact .nil
  | y :: ys, _, ⟨v, r, e, a, b⟩ => by
    rw [e]
    exact .cons (RepC.deep c a) (repCs_deep c b)
theorem x_rpl {es : List Expr} {l : Env → S → R (List D)} {p lp pos : Pos} (hK : X.K = o.K) (hu : X.A.units + 64 < cLine) (hgd : X.A.guards = some []) (hg : Gl X "repr") (hm : X.mg "repr" = none) (ha : PA X es (tLb o H0 W l)) :
    PE X (.Call (.Name "repr" p) [.List es lp] [] pos) (tE o H0 W .O (vRpl txt l)) := by
  refine pe_imp (pe_callB (call_repr hu hgd) hg hm (boot_of .repr rfl) (pa_cons (pe_lst ha) pa_nil rfl) (by decide) (by decide) rfl rfl) fun σ H Q ⟨g, ρ, s, c, sl, p⟩ => ?_
  unfold vRpl at p
  refine tLb_mono (oneLb c sl p) fun vs H1 ⟨ds, g1, s1, c1, sl1, e1, hd, q⟩ => ?_
  cases hy : tops s1 ds with
  | none =>
    rw [hy] at q
    exact (show False from q).elim
  | some ys =>
    rw [hy] at q
    have q : Po o W σ g1 H1 (R.of (if ys.length ≤ lim then (txt (.lst ys)).map .str else none) s1) fun d x g' H' => ∀ (v : V), Mo o H Md.O g' H' d v → Q v H' := q
    by_cases hlim : ys.length ≤ lim
    case neg =>
      rw [if_neg hlim] at q
      exact (show False from q).elim
    rw [if_pos hlim] at q
    cases ht : txt (.lst ys) with
    | none =>
      rw [ht] at q
      exact (show False from q).elim
    | some x =>
      rw [ht] at q
      have hC := tops_C c1 hd hy
      have hl : vs.length ≤ sizeLine := by
        rw [(repCs_deep c1 hC).length, ← lim_line]
        exact hlim
      refine ⟨hl, fun a ha => ?_⟩
      obtain ⟨e2, c2⟩ := ext_new c1 (.lst vs) ha (fun ps z => by cases z)
      have hC2 := tops_C c2 (hd.ext e2) hy
      refine ⟨a, .lst ys, x, rfl, ?_, ht, ?_⟩
      · rw [hK]
        refine dp_of (cl := g1.cl) ?_ ?_
        · have ht : (if (pl (.lst ys) && decide (dep (.lst ys) ≤ 60) && PyData.showable (toPy (.lst ys)) && !(PyData.hasDict (toPy (.lst ys))) && decide ((PyData.shown (toPy (.lst ys))).length ≤ lim)) = true then some (PyData.shown (toPy (.lst ys))) else none) = some x := ht
          split at ht
          · rename_i h
            simp only [Bool.and_eq_true] at h
            exact h.1.1.1.1
          · cases ht
        · simp only [Rep]
          exact ⟨a, vs, rfl, .inl upd_same, repCs_deep c2 hC2⟩
      · exact q _ _ e2 c2 _ (by show Rep o _ _ _; simp only [Rep])
end
end MR
set_option Elab.async false
set_option linter.all false
set_option maxRecDepth 100000
namespace PyProof.Rows
open PySem PySem.Spec
section
variable {prog : Program} {w : World} {A : Around} {E : Value → Shared → Prop} {s : Shared}
theorem collect_tuple {l : Addr} {vs : List Value} {Q : List Value → Shared → Prop} (hl : IsTup s.heap l vs.toArray)
    (h : Q vs { s with heap := (s.heap.push (seqObj "list" #[] 0)).update s.heap.objs.size (Obj.mapSeq (· ++ vs.toArray)) }) (hsz : vs.length ≤ sizeLine := by size_fits) :
    wpAny (model prog w) A (collect (.ref l)) Q E s := by
  obtain ⟨o, ho, hc, n, hd⟩ := id hl
  unfold collect
  refine wpAny_bind (wpAny_runValue (codeAny_builtin entry_proto_collect' ?_))
  show wpAny _ _ (do again (.builtin "list.__iadd__" ⟨[← newList [], .ref l], []⟩)) _ _ s
  refine wpAny_bind (wpAny_newList (wpAny_pure ⟨Code.quiet_builtin _ (by decide +kernel), codeAny_builtin entry_list_iadd' ?_⟩))
  show wpAny _ _ (Builtin.List.listExtendWith (.ref s.heap.objs.size) (.ref l) (.ref s.heap.objs.size)) _ _ { s with heap := s.heap.push (seqObj "list" #[] 0) }
  unfold Builtin.List.listExtendWith
  have ho' : (s.heap.push (seqObj "list" #[] 0)).get? l = some o := Heap.get?_push_of_some _ ho
  refine wpAny_bind (wpAny_typeOf (T := "tuple") ⟨o, ho', hc⟩ ?_)
  have ht : (Value.type "tuple" == Value.type "tuple") = true := by rfl
  rw [if_pos (by rw [ht]; simp)]
  refine wpAny_bind (listItems_at ho' hd ?_)
  refine wpAny_bind (listItems_at (xs := #[]) (n := 0) (Heap.get?_push_size _ rfl) rfl ?_)
  rw [if_neg (by simp)]
  refine wpAny_bind (listUpdate_at (xs := #[]) (n := 0) (Heap.get?_push_size _ rfl) rfl ?_ (Nat.zero_le _) (by show (#[] ++ vs.toArray).size ≤ sizeLine + 1; simp only [Array.size_append, List.size_toArray, List.length_nil]; omega))
  refine wpAny_pure ?_
  show wpAny (model prog w) A (do
      let o ← load s.heap.objs.size
      match o.data with
      | .seq xs _ => pure xs.toList
      | _ => unsupported "internal:collect") Q E { s with heap := (s.heap.push (seqObj "list" #[] 0)).update s.heap.objs.size (Obj.mapSeq (· ++ vs.toArray)) }
  refine wpAny_bind (wpAny_load (get?_update_seq (Heap.get?_push_size _ rfl) _) ?_)
  show wpAny _ _ (pure ((#[] : Array Value) ++ vs.toArray).toList) Q E _
  refine wpAny_pure ?_
  simpa using h
end
end PyProof.Rows
namespace TS
open PySem PySem.Spec PyProof.Rows L2
section
variable {prog : Program} {w : World} {A : Around} {E : Value → Shared → Prop} {s : Shared}
theorem sorted_tupsT {l : Addr} {vs : List Value} {d : Nat} {B : Int} {Q : Value → Shared → Prop} (hl : IsTup s.heap l vs.toArray) (h64 : vs.length < 64) (hd : 1 ≤ d) (x : TupsOk s.heap d B vs)
    (h : ∀ out : Array Value, out.toList.Perm vs → out.toList.Pairwise (fun u v => code B (intsOf s.heap u) ≤ code B (intsOf s.heap v)) → Q (.ref (s.heap.objs.size + 1)) { s with heap := sortedAll s.heap vs out }) :
    wpAny (model prog w) A (call (.builtin "sorted") [.ref l]) Q E s := by
  refine Calls.call_function_entry kind_sorted plain_sorted entry_sorted (args_sorted1 _) ?_
  unfold Builtin.«sorted»
  refine wpAny_bind (m := checkCount "sorted" 1 1 _) (wpAny_pure ?_)
  refine wpAny_bind (collect_tuple hl ?_ (by rw [sizeLine_eq]; omega))
  refine wpAny_bind (wpAny_newList ?_ (by rw [sizeLine_eq]; omega))
  have hsz : ((s.heap.push (seqObj "list" #[] 0)).update s.heap.objs.size (Obj.mapSeq (· ++ vs.toArray))).objs.size = s.heap.objs.size + 1 := by
    rw [Heap.size_update, size_push']
  have hoL : (((s.heap.push (seqObj "list" #[] 0)).update s.heap.objs.size (Obj.mapSeq (· ++ vs.toArray))).push (seqObj "list" vs.toArray 0)).get? (s.heap.objs.size + 1) = some (seqObj "list" vs.toArray 0) := by
    rw [← hsz]; exact Heap.get?_push_size _ rfl
  have keep : ∀ b o, s.heap.get? b = some o → o.cls = .type "tuple" → (((s.heap.push (seqObj "list" #[] 0)).update s.heap.objs.size (Obj.mapSeq (· ++ vs.toArray))).push (seqObj "list" vs.toArray 0)).get? b = some o := fun b o q _ => by
    have hlt : b < s.heap.objs.size := Heap.lt_size q
    rw [Heap.get?_push_ne _ _ _ (by rw [hsz]; exact Nat.ne_of_lt (Nat.lt_succ_of_lt hlt)), Heap.get?_update_ne _ _ _ _ (Nat.ne_of_lt hlt), Heap.get?_push_ne _ _ _ (Nat.ne_of_lt hlt)]
    exact q
  show wpAny _ _ _ _ _ { s with heap := ((s.heap.push (seqObj "list" #[] 0)).update s.heap.objs.size (Obj.mapSeq (· ++ vs.toArray))).push (seqObj "list" vs.toArray 0) }
  rw [hsz]
  refine wpAny_bind (wpAny_holding (wpAny_call_entry slot_list_sort ⟨_, hoL, rfl⟩ entry_list_sort (sort_tups hoL h64 hd (x.keeps keep) (fun v => code B (intsOf s.heap v)) (fun v hv ns t => ?_) fun out a1 a2 => ⟨_, rfl, ?_⟩) (args_list_sort _)))
  · obtain ⟨ns0, t0, _⟩ := x v hv
    have e : ns = ns0 := t.ints.symm.trans (t0.keeps keep).ints
    rw [e]
    show code B (intsOf s.heap v) = code B ns0
    rw [t0.ints]
  · exact wpAny_pure ⟨_, rfl, h out a1 a2⟩
end
end TS
namespace L2
open PySem PySem.Spec PyProof.Rows
section
variable {X : Cx}
/-- sorted(xs), xs a list or a tuple of fewer than 64 tuples of d ints in [0, B) -/
def rSortX (K : PySem.W.Frag) : List V → Hp → VK → Prop := fun vs H Q => ∃ (a : Addr) (xs : List V) (d : Nat) (B : Int), vs = [V.ref a] ∧ (SqT K H a xs ∨ SqL K H a xs) ∧ 1 ≤ d ∧ xs.length < 64 ∧ (∀ x ∈ xs, ∃ ns, TupI K H x ns ∧ ns.length = d ∧ TS.Bd B ns) ∧
  ∀ (ys : List V) (p : Addr), ys.Perm xs → ys.Pairwise (fun x y => ∀ n m, TupI K H x n → TupI K H y m → TS.code B n ≤ TS.code B m) → H p = none → Q (.ref p) (upd H p (.lst ys))
theorem cr_sortX : CallR X (.builtin "sorted") (rSortX X.K) := by
  intro pins s σ H vs us Q I r h
  obtain ⟨a, xs, d, B, rfl, hs, hd, h64, hx, q⟩ := h
  rcases hs with hs | hs
  · obtain ⟨its, rv, hl, hz⟩ := I.tuple hs
    rw [Vals.ref1 r]
    obtain ⟨e1, e2⟩ := bkV_refs rv fun x m => by
      obtain ⟨ns, ⟨t, e, _⟩, _⟩ := hx x m
      exact ⟨t, e⟩
    refine TS.sorted_tupsT (d := d) (B := B) hl (by rw [← rv.length]; exact h64) hd (fun v hv => ?_) fun out h1 h2 => ?_
    · obtain ⟨t, rfl⟩ := e2 v hv
      have hm : V.ref t ∈ xs := by
        rw [e1]
        exact List.mem_map.mpr ⟨_, hv, rfl⟩
      obtain ⟨ns, ⟨t', e, ht⟩, hn, hb⟩ := hx _ hm
      cases e
      exact ⟨ns, tupI_raw I ht, hn, hb⟩
    · obtain ⟨ep, he'⟩ := PyProof.Rows.sortedAll_at s.heap its out
      have h3 : ∀ u ∈ out.toList, ∃ a, u = Value.ref a := fun u hu => e2 u (h1.mem_iff.mp hu)
      have hp : (out.toList.map bkV).Perm xs := by
        rw [e1]
        exact h1.map bkV
      have hlen : (out.toList.map bkV).length ≤ sizeLine := by
        rw [hp.length_eq, sizeLine_eq]
        omega
      refine ⟨.ref _, upd H (s.heap.objs.size + 1) (.lst (out.toList.map bkV)), I.laid (t' := s.toks) (fun _ _ => PyProof.Rows.sortedAll_old) (Nat.le_succ _) ⟨hlen, out.toList, ep, bkV_vals h3, he'⟩, rfl, q _ _ hp ?_ (I.hok.fresh (Nat.le_succ _))⟩
      rw [List.pairwise_map]
      refine List.Pairwise.imp (fun {u v} huv n m hn hm => ?_) h2
      obtain ⟨t, et, ht⟩ := hn
      obtain ⟨t', et', ht'⟩ := hm
      have eu := bkV_ref et
      have ev := bkV_ref et'
      have i1 : TS.intsOf s.heap u = n := by
        rw [eu]
        exact (tupI_raw I ht).ints
      have i2 : TS.intsOf s.heap v = m := by
        rw [ev]
        exact (tupI_raw I ht').ints
      rw [← i1, ← i2]
      exact huv
  · exact cr_sortT hd pins s σ H _ us Q I r ⟨a, xs, rfl, hs, h64, hx, q⟩
/-- len(set) -/
theorem cr_lenT : CallR X (.builtin "len") (fun vs H Q => ∃ (a : Addr) (L : List (Addr × List Int)), vs = [V.ref a] ∧ H a = some (SetTO X.prog X.w a L) ∧ (∀ p ∈ L, SqT X.K H p.1 (p.2.map V.int)) ∧ ((L.map (·.2)).Nodup → Q (.int L.length) H)) := by
  intro pins s σ H vs us Q I r h
  obtain ⟨a, L, rfl, ha, hk, q⟩ := h
  have R0 : SetT0 X.prog X.w s.heap a L := (I.hok a _ ha).1
  obtain ⟨es, ep, t, R⟩ := R0.full fun p hp => I.isT (hk p hp)
  rw [Vals.ref1 r]
  obtain ⟨o, ho, hex, hd⟩ := R.ob
  have hs := R.size
  have hf := R.few
  refine PySem.call_len_set ho hex hd R.fits (by omega) ⟨.int L.length, H, I.tok _, ⟨_, by rw [hs]⟩, q R.nd⟩
end
end L2
namespace MR
open PySem PySem.Spec PyProof.Rows L2
theorem intL_eq : ∀ {xs : List D} {l : List Int}, intL xs = some l → xs = l.map .int
  | [], l, h => by cases h; rfl
  | .int i :: r, l, h => by
    simp only [intL] at h
    cases e : intL r with
    | none => rw [e] at h; cases h
    | some l' =>
      rw [e] at h
      cases h
      rw [intL_eq e]
      rfl
  | .non :: _, _, h => by cases h
  | .bl _ :: _, _, h => by cases h
  | .str _ :: _, _, h => by cases h
  | .tup _ :: _, _, h => by cases h
  | .lst _ :: _, _, h => by cases h
  | .dic _ _ :: _, _, h => by cases h
  | .set _ :: _, _, h => by cases h
  | .exc _ _ :: _, _, h => by cases h
  | .cell _ :: _, _, h => by cases h
  | .scr _ :: _, _, h => by cases h
theorem tupI_eq {x : D} {l : List Int} (h : tupI x = some l) : x = toT l := by
  cases x with
  | tup xs => exact congrArg D.tup (intL_eq h)
  | _ => cases h
theorem tupIs_eq : ∀ {xs : List D} {ls : List (List Int)}, tupIs xs = some ls → xs = ls.map toT
  | [], ls, h => by cases h; rfl
  | x :: r, ls, h => by
    simp only [tupIs] at h
    cases e : tupI x with
    | none => rw [e] at h; cases h
    | some l =>
      cases e2 : tupIs r with
      | none => rw [e, e2] at h; cases h
      | some l2 =>
        rw [e, e2] at h
        cases h
        rw [tupI_eq e, tupIs_eq e2]
        rfl
theorem lexL_refl : ∀ l : List Int, lexL l l = true
  | [] => rfl
  | x :: l => by simp [lexL, lexL_refl l]
theorem lexL_total : ∀ a b : List Int, lexL a b = false → lexL b a = true
  | [], _, h => by cases h
  | _ :: _, [], _ => rfl
  | x :: a, y :: b, h => by
    simp only [lexL, Bool.or_eq_false_iff, decide_eq_false_iff_not, Bool.and_eq_false_iff] at h
    simp only [lexL, Bool.or_eq_true, decide_eq_true_eq, Bool.and_eq_true]
    by_cases e : x = y
    · refine .inr ⟨e.symm, lexL_total a b ?_⟩
      rcases h.2 with h2 | h2
      · exact absurd e h2
      · exact h2
    · left; omega
theorem lexL_anti : ∀ {a b : List Int}, lexL a b = true → lexL b a = true → a = b
  | [], [], _, _ => rfl
  | [], _ :: _, _, h => by cases h
  | _ :: _, [], h, _ => by cases h
  | x :: a, y :: b, h, h' => by
    simp only [lexL, Bool.or_eq_true, decide_eq_true_eq, Bool.and_eq_true] at h h'
    rcases h with h | ⟨rfl, h⟩
    · rcases h' with h' | ⟨e, _⟩ <;> omega
    · rcases h' with h' | ⟨_, h'⟩
      · omega
      · rw [lexL_anti h h']
theorem lexL_trans : ∀ {a b c : List Int}, lexL a b = true → lexL b c = true → lexL a c = true
  | [], _, _, _, _ => rfl
  | _ :: _, [], _, h, _ => by cases h
  | _ :: _, _ :: _, [], _, h => by cases h
  | x :: a, y :: b, z :: c, h, h' => by
    simp only [lexL, Bool.or_eq_true, decide_eq_true_eq, Bool.and_eq_true] at h h' ⊢
    rcases h with h | ⟨rfl, h⟩
    · rcases h' with h' | ⟨rfl, _⟩
      · left; omega
      · left; omega
    · rcases h' with h' | ⟨rfl, h'⟩
      · left; omega
      · exact .inr ⟨rfl, lexL_trans h h'⟩
theorem insL_perm (x : List Int) : ∀ l : List (List Int), (insL x l).Perm (x :: l)
  | [] => .refl _
  | y :: r => by
    simp only [insL]
    split
    · exact .refl _
    · exact (List.Perm.cons y (insL_perm x r)).trans (.swap _ _ _)
theorem isortL_perm : ∀ l : List (List Int), (isortL l).Perm l
  | [] => .refl _
  | x :: r => (insL_perm x _).trans (.cons x (isortL_perm r))
theorem insL_sorted {x : List Int} : ∀ {l : List (List Int)}, l.Pairwise (fun a b => lexL a b = true) → (insL x l).Pairwise fun a b => lexL a b = true
  | [], _ => by simp [insL]
  | y :: r, h => by
    simp only [insL]
    obtain ⟨h1, h2⟩ := List.pairwise_cons.mp h
    split
    · rename_i c
      refine .cons (fun z hz => ?_) h
      rcases List.mem_cons.mp hz with rfl | hz
      · exact c
      · exact lexL_trans c (h1 z hz)
    · rename_i c
      refine .cons (fun z hz => ?_) (insL_sorted h2)
      rcases List.mem_cons.mp ((insL_perm x r).mem_iff.mp hz) with rfl | hz
      · exact lexL_total _ _ (by simpa using c)
      · exact h1 z hz
theorem isortL_sorted : ∀ l : List (List Int), (isortL l).Pairwise fun a b => lexL a b = true
  | [] => .nil
  | x :: r => insL_sorted (isortL_sorted r)
theorem sorted_uniq : ∀ {l m : List (List Int)}, l.Pairwise (fun a b => lexL a b = true) → m.Pairwise (fun a b => lexL a b = true) → l.Perm m → l = m
  | [], m, _, _, p => p.nil_eq
  | x :: l, [], _, _, p => absurd p.length_eq (by simp)
  | x :: l, y :: m, h, h', p => by
    obtain ⟨a1, a2⟩ := List.pairwise_cons.mp h
    obtain ⟨b1, b2⟩ := List.pairwise_cons.mp h'
    have e : x = y := by
      rcases List.mem_cons.mp (p.mem_iff.mp (List.mem_cons_self)) with e | e
      · exact e
      · rcases List.mem_cons.mp (p.mem_iff.mpr (List.mem_cons_self)) with e2 | e2
        · exact e2.symm
        · exact lexL_anti (a1 y e2) (b1 x e)
    subst e
    rw [sorted_uniq a2 b2 p.cons_inv]
theorem bd_of {l : List Int} (h : l.all bdI = true) : TS.Bd 1073741824 l := by
  rw [List.all_eq_true] at h
  intro x hx
  have := h x hx
  simp only [bdI, Bool.and_eq_true, decide_eq_true_eq] at this
  have h2 := Nat.le_of_ble_eq_true this.2
  omega
theorem code_lex : ∀ {n m : List Int}, n.length = m.length → TS.Bd 1073741824 n → TS.Bd 1073741824 m → TS.code 1073741824 n ≤ TS.code 1073741824 m → lexL n m = true
  | [], _, _, _, _, _ => rfl
  | _ :: _, [], h, _, _, _ => by simp at h
  | x :: n, y :: m, h, hn, hm, hc => by
    simp only [List.length_cons, Nat.add_right_cancel_iff] at h
    simp only [lexL, Bool.or_eq_true, decide_eq_true_eq, Bool.and_eq_true]
    rcases Int.lt_trichotomy x y with c | c | c
    · exact .inl c
    · subst c
      refine .inr ⟨rfl, code_lex h hn.tail hm.tail ?_⟩
      have := TS.code_same (B := 1073741824) (d := x) (r := m) (q := n) h.symm
      omega
    · have := TS.code_lt (B := 1073741824) h.symm hm.tail hn.tail c
      omega
theorem eqI_iff : ∀ {a b : List Int}, eqI a b = true ↔ a = b
  | [], [] => by simp [eqI]
  | [], _ :: _ => by simp [eqI]
  | _ :: _, [] => by simp [eqI]
  | x :: a, y :: b => by simp [eqI, eqI_iff (a := a) (b := b)]
theorem memI_iff {x : List Int} : ∀ {l : List (List Int)}, memI x l = true ↔ x ∈ l
  | [] => by simp [memI]
  | y :: r => by simp [memI, memI_iff (l := r), eqI_iff]
theorem mem_nubI {x : List Int} : ∀ {l : List (List Int)}, x ∈ nubI l ↔ x ∈ l
  | [] => by simp [nubI]
  | y :: r => by
    simp only [nubI]
    split
    · rename_i c
      rw [memI_iff] at c
      rw [mem_nubI (l := r), List.mem_cons]
      exact ⟨.inr, fun h => h.elim (fun e => e ▸ c) id⟩
    · rw [List.mem_cons, List.mem_cons, mem_nubI (l := r)]
theorem nubI_nodup : ∀ l : List (List Int), (nubI l).Nodup
  | [] => .nil
  | y :: r => by
    simp only [nubI]
    split
    · exact nubI_nodup r
    · rename_i c
      rw [memI_iff] at c
      exact List.nodup_cons.mpr ⟨fun h => c (mem_nubI.mp h), nubI_nodup r⟩
theorem nubI_sub : ∀ l : List (List Int), (nubI l).length ≤ l.length
  | [] => Nat.le_refl _
  | y :: r => by
    have := nubI_sub r
    simp only [nubI]
    split
    · simp; omega
    · simp; omega
section
variable {o : Om} {H0 : Hp} {W : WX} {X : Cx} {g : Gh}
theorem reps_ints4 : ∀ {l : List Int} {vs : List V}, Reps o g (l.map .int) vs → vs = l.map V.int
  | [], _, h => h.of_nil
  | x :: l, _, h => by
    obtain ⟨v, r, e, a, b⟩ := h.of_cons
    rw [e, reps_ints4 b]
    have a : v = .int x := by simpa only [Rep] using a
    rw [a]
    rfl
theorem rep_toT {l : List Int} {v : V} (h : Rep o g (toT l) v) : ∃ a, v = .ref a ∧ SqT o.K g.Fz a (l.map V.int) := by
  have h : Rep o g (.tup (l.map .int)) v := h
  simp only [Rep] at h
  obtain ⟨a, vs, e, q, r⟩ := h
  rw [reps_ints4 r] at q
  exact ⟨a, e, q⟩
theorem reps_perm' {vs ys : List V} (p : vs.Perm ys) : ∀ {ls : List (List Int)}, Reps o g (ls.map toT) vs → ∃ ls' : List (List Int), ls'.Perm ls ∧ Reps o g (ls'.map toT) ys := by
  induction p with
  | nil => exact fun {ls} h => ⟨ls, .refl _, h⟩
  | cons x p ih =>
    intro ls h
    cases ls with
    | nil => exact absurd h.of_nil (by simp)
    | cons l ls =>
      obtain ⟨v, r, e, a, b⟩ := h.of_cons
      cases e
      obtain ⟨ls', p', h'⟩ := ih b
      exact ⟨l :: ls', .cons l p', .cons a h'⟩
  | swap x y l =>
    intro ls h
    cases ls with
    | nil => exact absurd h.of_nil (by simp)
    | cons l ls =>
      obtain ⟨v, r, e, a, b⟩ := h.of_cons
      cases e
      cases ls with
      | nil => exact absurd b.of_nil (by simp)
      | cons l2 ls =>
        obtain ⟨v, r, e, a', b⟩ := b.of_cons
        cases e
        exact ⟨l2 :: l :: ls, .swap _ _ _, .cons a' (.cons a b)⟩
  | trans _ _ ih1 ih2 =>
    intro ls h
    obtain ⟨l1, p1, h1⟩ := ih1 h
    obtain ⟨l2, p2, h2⟩ := ih2 h1
    exact ⟨l2, p2.trans p1, h2⟩
theorem reps_perm {ys vs : List V} (p : ys.Perm vs) {ls : List (List Int)} (h : Reps o g (ls.map toT) vs) : ∃ ls' : List (List Int), ls'.Perm ls ∧ Reps o g (ls'.map toT) ys := reps_perm' p.symm h
theorem reps_tups {s : S} {H : Hp} (c : Cur o g s H) : ∀ {ls : List (List Int)} {vs : List V}, Reps o g (ls.map toT) vs → ∀ v ∈ vs, ∃ l ∈ ls, TupI o.K H v l
  | [], _, h, v, hv => by rw [h.of_nil] at hv; cases hv
  | l :: ls, _, h, v, hv => by
    obtain ⟨v0, r, e, a, b⟩ := h.of_cons
    cases e
    rcases List.mem_cons.mp hv with rfl | hv
    · obtain ⟨a, e, q⟩ := rep_toT a
      exact ⟨l, by simp, a, e, SqT.le c.leH.fz q⟩
    · obtain ⟨l', h1, h2⟩ := reps_tups c b v hv
      exact ⟨l', by simp [h1], h2⟩
theorem reps_pw {s : S} {H : Hp} (c : Cur o g s H) {B : Int} : ∀ {ls : List (List Int)} {vs : List V}, Reps o g (ls.map toT) vs → vs.Pairwise (fun x y => ∀ n m, TupI o.K H x n → TupI o.K H y m → TS.code B n ≤ TS.code B m) → ls.Pairwise fun n m => TS.code B n ≤ TS.code B m
  | [], _, _, _ => .nil
  | l :: ls, _, h, p => by
    obtain ⟨v0, r, e, a, b⟩ := h.of_cons
    cases e
    obtain ⟨p1, p2⟩ := List.pairwise_cons.mp p
    refine .cons (fun m hm => ?_) (reps_pw c b p2)
    obtain ⟨a, e, q⟩ := rep_toT a
    have key : ∀ {ls : List (List Int)} {vs : List V}, Reps o g (ls.map toT) vs → m ∈ ls → ∃ v ∈ vs, TupI o.K H v m := by
      intro ls
      induction ls with
      | nil => intro vs _ hm; cases hm
      | cons k ls ih =>
        intro vs h hm
        obtain ⟨v0, r, e, a, b⟩ := h.of_cons
        cases e
        rcases List.mem_cons.mp hm with rfl | hm
        · obtain ⟨a, e, q⟩ := rep_toT a
          exact ⟨v0, by simp, a, e, SqT.le c.leH.fz q⟩
        · obtain ⟨v, h1, h2⟩ := ih b hm
          exact ⟨v, by simp [h1], h2⟩
    obtain ⟨v, hv, tv⟩ := key b hm
    exact p1 v hv l m ⟨a, e, SqT.le c.leH.fz q⟩ tv
theorem sortOk_all {ls : List (List Int)} (h : sortOk ls = true) : ls.length < 64 ∧ ∃ d, 1 ≤ d ∧ ∀ l ∈ ls, l.length = d ∧ TS.Bd 1073741824 l := by
  cases ls with
  | nil => exact ⟨by simp, 1, Nat.le_refl _, fun l h => by cases h⟩
  | cons l ls =>
    simp only [sortOk, Bool.and_eq_true, decide_eq_true_eq, List.all_eq_true] at h
    exact ⟨h.1.1, l.length, h.1.2, fun m hm => ⟨(h.2 m hm).1, bd_of (by rw [List.all_eq_true]; exact (h.2 m hm).2)⟩⟩
theorem sort_eq {ls ls' : List (List Int)} {d : Nat} (hd : ∀ l ∈ ls, l.length = d ∧ TS.Bd 1073741824 l) (p : ls'.Perm ls) (h : ls'.Pairwise fun n m => TS.code 1073741824 n ≤ TS.code 1073741824 m) : ls' = isortL ls := by
  refine sorted_uniq ?_ (isortL_sorted ls) (p.trans (isortL_perm ls).symm)
  refine List.Pairwise.imp_of_mem (fun {a b} ha hb hle => ?_) h
  have h1 := hd a (p.mem_iff.mp ha)
  have h2 := hd b (p.mem_iff.mp hb)
  exact code_lex (h1.1.trans h2.1.symm) h1.2 h2.2 hle
theorem x_sor {e : Expr} {f : Env → S → R D} {md : Md} {p pos : Pos} (hK : X.K = o.K) (hm : md ≠ .H) (hg : Gl X "sorted") (hmg : X.mg "sorted" = none) (he : PE X e (tE o H0 W md f)) (hs : isStar e = false) :
    PE X (.Call (.Name "sorted" p) [e] [] pos) (tE o H0 W .O (vSor f)) := by
  refine pe_imp (pe_callB cr_sortX hg hmg (by decide +kernel) (pa_cons he pa_nil (star_no hs)) (by decide) (by decide) (star_no hs) rfl) fun σ H Q ⟨g, ρ, s, c, sl, p⟩ => ?_
  have p : Po o W σ g H ((f ρ s).bind fun x s => (R.of (items x) s).bind fun xs s => R.of ((sortD xs).map .lst) s) fun d _ g' H' => ∀ v, Mo o H .O g' H' d v → Q v H' := p
  refine tE_mono (one (ma := md) c sl p) fun v H1 ⟨x, g1, s1, c1, sl1, e1, hx, q⟩ => ?_
  obtain ⟨xs, hxs, q⟩ := Po.of (Po.bind q) c1
  obtain ⟨a, vs, rfl, hq, r⟩ := items_of c1 (Mo.toT c1 hm hx).1 hxs
  obtain ⟨d, hd, q9⟩ := Po.of2 q
  cases ht : tupIs xs with
  | none => simp only [sortD, ht] at hd; cases hd
  | some ls =>
    simp only [sortD, ht] at hd
    split at hd
    · rename_i hok
      cases hd
      obtain ⟨h64, dd, hd1, hall⟩ := sortOk_all hok
      have exs := tupIs_eq ht
      subst exs
      refine ⟨a, vs, dd, 1073741824, rfl, by rw [hK]; exact hq, hd1, by rw [r.length, List.length_map]; exact h64, fun v hv => ?_, fun ys p hp hpw hn => ?_⟩
      · obtain ⟨l, hl, tl⟩ := reps_tups c1 r v hv
        exact ⟨l, by rw [hK]; exact tl, (hall l hl).1, (hall l hl).2⟩
      · rw [hK] at hpw
        obtain ⟨ls', p1, r1⟩ := reps_perm hp r
        have e := sort_eq hall p1 (reps_pw c1 r1 hpw)
        subst e
        obtain ⟨e4, c4, m⟩ := Mo.newL c1 hn (e1.new hn) r1
        exact q9 _ _ e4 c4 _ m
    · cases hd
theorem reps_ks {s : S} {H : Hp} (c : Cur o g s H) : ∀ {ls : List (List Int)} {vs : List V}, Reps o g (ls.map toT) vs → ∃ ks : List (Addr × List Int), vs = ks.map (fun p => V.ref p.1) ∧ ls = ks.map (·.2) ∧ ∀ p ∈ ks, SqT o.K g.Fz p.1 (p.2.map V.int)
  | [], _, h => ⟨[], h.of_nil, rfl, by simp⟩
  | l :: ls, _, h => by
    obtain ⟨v0, r, e, a, b⟩ := h.of_cons
    cases e
    obtain ⟨ks, e1, e2, h3⟩ := reps_ks c b
    obtain ⟨a, e, q⟩ := rep_toT a
    refine ⟨(a, l) :: ks, by rw [e, e1]; rfl, by rw [e2]; rfl, fun p hp => ?_⟩
    rcases List.mem_cons.mp hp with rfl | hp
    · exact q
    · exact h3 p hp
theorem nodup_len {l m : List (List Int)} (hl : l.Nodup) (hm : m.Nodup) (h : ∀ x, x ∈ l ↔ x ∈ m) : l.Perm m := (List.perm_ext_iff_of_nodup hl hm).mpr h
theorem set_boot : bootBuiltins ("set" : Str) = some (.type "set") := PyProof.Rows.boot_set
theorem x_lset {e : Expr} {f : Env → S → R D} {md : Md} {p p2 pos pos2 : Pos} (hK : X.K = o.K) (hc : X.calm = true) (hu : X.A.units + 64 < cLine) (hm : md ≠ .H) (hg : Gl X "len") (hmg : X.mg "len" = none) (hg2 : Gl X "set") (hmg2 : X.mg "set" = none) (he : PE X e (tE o H0 W md f)) (hs : isStar e = false) :
    PE X (.Call (.Name "len" p) [.Call (.Name "set" p2) [e] [] pos2] [] pos) (tE o H0 W .O (vLset f)) := by
  refine pe_imp (pe_callB cr_lenT hg hmg PySem.boot_len (pa_cons (pe_callTy (cr_setOfT hc hu) hg2 hmg2 set_boot (pa_cons he pa_nil (star_no hs)) (by decide) (by decide) (star_no hs) rfl) pa_nil rfl) (by decide) (by decide) rfl rfl) fun σ H Q ⟨g, ρ, s, c, sl, p⟩ => ?_
  have p : Po o W σ g H ((f ρ s).bind fun x s => (R.of (itemsL x) s).bind fun xs s => R.of (lsetD xs) s) fun d _ g' H' => ∀ v, Mo o H .O g' H' d v → Q v H' := p
  refine tE_mono (one (ma := md) c sl p) fun v H1 ⟨x, g1, s1, c1, sl1, e1, hx, q⟩ => ?_
  obtain ⟨xs, hxs, q⟩ := Po.of (Po.bind q) c1
  have hT := (Mo.toT c1 hm hx).1
  cases x with
  | lst ys =>
    cases hxs
    obtain ⟨a, vs, rfl, hq, r⟩ := hT
    obtain ⟨d, hd, q9⟩ := Po.of2 q
    cases ht : tupIs xs with
    | none => simp only [lsetD, ht] at hd; cases hd
    | some ls =>
      simp only [lsetD, ht] at hd
      split at hd
      · rename_i h64
        cases hd
        have exs := tupIs_eq ht
        subst exs
        obtain ⟨ks, e2, e3, hk⟩ := reps_ks c1 r
        refine ⟨a, ks, rfl, by rw [hK]; exact .inl (by rw [← e2]; exact hq), fun p hp => by rw [hK]; exact SqT.le c1.leH.fz (hk p hp), by rw [e3, List.length_map] at h64; exact h64, fun b L hb hL1 hL2 => ?_⟩
        obtain ⟨e4, c4⟩ := ext_new c1 (SetTO X.prog X.w b L) hb (fun ps z => by cases z)
        refine ⟨b, L, rfl, upd_same, fun p hp => by rw [hK]; exact SqT.le c4.leH.fz (SqT.le e4.le.fz (hk p (hL1 p hp))), fun hnd => ?_⟩
        have hlen : L.length = (nubI ls).length := by
          have pp : (L.map (·.2)).Perm (nubI ls) := nodup_len hnd (nubI_nodup ls) fun x => by
            rw [mem_nubI, e3]
            constructor
            · intro h
              obtain ⟨p, hp, rfl⟩ := List.mem_map.mp h
              exact List.mem_map.mpr ⟨p, hL1 p hp, rfl⟩
            · intro h
              obtain ⟨p, hp, rfl⟩ := List.mem_map.mp h
              exact hL2 p hp
          have := pp.length_eq
          rwa [List.length_map] at this
        rw [hlen]
        exact q9 _ _ e4 c4 _ Mo.int
      · cases hd
  | _ => cases hxs
theorem x_sset {e : Expr} {f : Env → S → R D} {md : Md} {p p2 pos pos2 : Pos} (hK : X.K = o.K) (hc : X.calm = true) (hu : X.A.units + 64 < cLine) (hm : md ≠ .H) (hg : Gl X "sorted") (hmg : X.mg "sorted" = none) (hg2 : Gl X "set") (hmg2 : X.mg "set" = none) (he : PE X e (tE o H0 W md f)) (hs : isStar e = false) :
    PE X (.Call (.Name "sorted" p) [.Call (.Name "set" p2) [e] [] pos2] [] pos) (tE o H0 W .O (vSset f)) := by
  refine pe_imp (pe_callB (cr_sortedT hc) hg hmg (by decide +kernel) (pa_cons (pe_callTy (cr_setOfT hc hu) hg2 hmg2 set_boot (pa_cons he pa_nil (star_no hs)) (by decide) (by decide) (star_no hs) rfl) pa_nil rfl) (by decide) (by decide) rfl rfl) fun σ H Q ⟨g, ρ, s, c, sl, p⟩ => ?_
  have p : Po o W σ g H ((f ρ s).bind fun x s => (R.of (itemsL x) s).bind fun xs s => R.of ((ssetD xs).map .lst) s) fun d _ g' H' => ∀ v, Mo o H .O g' H' d v → Q v H' := p
  refine tE_mono (one (ma := md) c sl p) fun v H1 ⟨x, g1, s1, c1, sl1, e1, hx, q⟩ => ?_
  obtain ⟨xs, hxs, q⟩ := Po.of (Po.bind q) c1
  have hT := (Mo.toT c1 hm hx).1
  cases x with
  | lst ys =>
    cases hxs
    obtain ⟨a, vs, rfl, hq, r⟩ := hT
    obtain ⟨d, hd, q9⟩ := Po.of2 q
    cases ht : tupIs xs with
    | none => simp only [ssetD, ht] at hd; cases hd
    | some ls =>
      simp only [ssetD, ht] at hd
      split at hd
      · rename_i hok
        cases hd
        have exs := tupIs_eq ht
        subst exs
        obtain ⟨h64, dd, hd1, hall⟩ := sortOk_all hok
        obtain ⟨ks, e2, e3, hk⟩ := reps_ks c1 r
        refine ⟨a, ks, rfl, by rw [hK]; exact .inl (by rw [← e2]; exact hq), fun p hp => by rw [hK]; exact SqT.le c1.leH.fz (hk p hp), by rw [e3, List.length_map] at h64; exact h64, fun b L hb hL1 hL2 => ?_⟩
        obtain ⟨e4, c4⟩ := ext_new c1 (SetTO X.prog X.w b L) hb (fun ps z => by cases z)
        refine ⟨b, L, dd, 1073741824, rfl, upd_same, fun p hp => by rw [hK]; exact SqT.le c4.leH.fz (SqT.le e4.le.fz (hk p (hL1 p hp))), hd1, fun p hp => ?_, fun L' r1 p1 hnd hfew hpw hn => ?_⟩
        · exact hall p.2 (by rw [e3]; exact List.mem_map.mpr ⟨p, hL1 p hp, rfl⟩)
        · have hmem : ∀ p ∈ L', p ∈ ks := fun p hp => hL1 p (p1.mem_iff.mp hp)
          have pp : (L'.map (·.2)).Perm (nubI ls) := nodup_len hnd (nubI_nodup ls) fun x => by
            rw [mem_nubI, e3]
            constructor
            · intro h
              obtain ⟨p, hp, rfl⟩ := List.mem_map.mp h
              exact List.mem_map.mpr ⟨p, hmem p hp, rfl⟩
            · intro h
              obtain ⟨p, hp, rfl⟩ := List.mem_map.mp h
              obtain ⟨q, hq, e⟩ := List.mem_map.mp (hL2 p hp)
              exact List.mem_map.mpr ⟨q, p1.mem_iff.mpr hq, e⟩
          have es : L'.map (·.2) = isortL (nubI ls) := sort_eq (d := dd) (fun l hl => hall l (mem_nubI.mp hl)) pp (List.pairwise_map.mpr hpw)
          have rr : ∀ M : List (Addr × List Int), (∀ p ∈ M, p ∈ ks) → Reps o g1 ((M.map (·.2)).map toT) (M.map fun q => V.ref q.1) := by
            intro M
            induction M with
            | nil => intro _; exact .nil
            | cons p M ih =>
              intro h
              refine .cons ?_ (ih fun q hq => h q (by simp [hq]))
              show Rep o g1 (.tup (p.2.map .int)) (.ref p.1)
              simp only [Rep]
              refine ⟨p.1, p.2.map V.int, rfl, hk p (h p (by simp)), ?_⟩
              have ri : ∀ l : List Int, Reps o g1 (l.map .int) (l.map V.int) := by
                intro l
                induction l with
                | nil => exact .nil
                | cons x l ih => exact .cons (by simp only [Rep]) ih
              exact ri p.2
          have rr := rr L' hmem
          rw [es] at rr
          have hn1 : H1 r1 = none := by
            by_cases z : r1 = b
            · subst z; exact hb
            · rw [← hn, upd_ne z]
          obtain ⟨e5, c5, m⟩ := Mo.newL (Hs := H) c4 hn (e1.new hn1) (rr.le e4.le)
          exact q9 _ _ (e4.trans e5) c5 _ m
      · cases hd
  | _ => cases hxs
end
end MR
set_option Elab.async false
set_option linter.all false
set_option maxRecDepth 100000
namespace MR
open PySem PySem.Spec PyProof.Rows L2
section
variable {o : Om} {H0 : Hp} {W : WX} {X : Cx}
theorem x_dz {i j : Int} {k k2 : Nat} {p p2 pos : Pos} : PE X (.Dict [some (.Constant (.int i) k p)] [.Constant (.int j) k2 p2] pos) (tE o H0 W .O fun _ s => .ok (.dic [.int i] [.int j]) s) := by
  refine pe_imp (pe_disp (pps_cons pe_int pe_int pps_nil) rfl rfl (by simp) (by simp)) fun σ H Q ⟨g, ρ, s, c, sl, pp⟩ q hq => ?_
  show _ ∧ _
  refine ⟨upd_same, [(.inl i, .int j)], rfl, by simp [sizeLine_eq], ?_⟩
  have e0 : mergeK [] [((.inl i : Key), V.int j)] = [(.inl i, .int j)] := rfl
  rw [e0, upd_upd]
  obtain ⟨e, c1, m⟩ := Mo.newD (ks := [.int i]) (xs := [.int j]) (u := .dK [(.inl i, .int j)]) (vv := [.int j]) c hq hq ⟨_, rfl, rfl, rfl⟩ (.cons (by simp only [Rep]) .nil)
  exact pp g _ e c1 _ m
end
end MR
set_option Elab.async false
set_option linter.all false
set_option maxRecDepth 100000
namespace MR
open PySem PySem.Spec PyProof.Rows L2
def tyS : Ty → String
  | .int => "int" | .bool => "bool" | .str => "str" | .tuple => "tuple" | .list => "list" | .dict => "dict"
def tyN : D → String
  | .bl _ => "bool" | .int _ => "int" | .str _ => "str" | .tup _ => "tuple" | .lst _ => "list" | .dic _ _ => "dict" | _ => "NoneType"
def nmIs (n : String) (t : Ty) : Bool := n == tyS t || (n == "bool" && tyS t == "int")
theorem kitB_all : ∀ n ∈ ["NoneType", "bool", "int", "str", "tuple", "list", "dict"], ∀ t : Ty, kitB n (tyS t) = some (nmIs n t) := by
  intro n hn t
  simp only [List.mem_cons, List.not_mem_nil, or_false] at hn
  rcases hn with rfl | rfl | rfl | rfl | rfl | rfl | rfl <;> cases t <;> decide +kernel
theorem tyN_mem (d : D) : tyN d ∈ ["NoneType", "bool", "int", "str", "tuple", "list", "dict"] := by
  cases d <;> simp [tyN]
theorem nmIs_eq {d : D} (h : isTyOk d = true) (t : Ty) : nmIs (tyN d) t = isTy d t := by
  cases d <;> cases t <;> first | (cases h; done) | (simp [nmIs, tyN, tyS, isTy]; done)
theorem boot_ty : ∀ t : Ty, bootBuiltins (tyS t : Str) = some (.type (tyS t))
  | .int => by decide +kernel
  | .bool => by decide +kernel
  | .str => by decide +kernel
  | .tuple => by decide +kernel
  | .list => by decide +kernel
  | .dict => by decide +kernel
section
variable {o : Om} {H0 : Hp} {W : WX} {X : Cx} {k : Nat}
theorem tyX_of {g : Gh} {s : S} {H : Hp} {d : D} {v : V} (hK : X.K = o.K) (c : Cur o g s H) (h : RepC o g H d v) (ok : isTyOk d = true) : TyX X.K H v (.type (tyN d)) := by
  cases d with
  | non => rw [repC_non h]; exact .base .non
  | bl b => rw [repC_bl h]; exact .base (.bl b)
  | int i => rw [repC_int h]; exact .base (.int i)
  | str x => rw [repC_str h]; exact .base (.str x)
  | tup xs =>
    obtain ⟨a, vs, rfl, q, _, _⟩ := repC_tup c h
    rcases q with (q | ⟨ob, q⟩) | ⟨ob, its, n, q, qc, _⟩
    · exact .base (.tup q)
    · exact .fTuple q
    · rw [hK]; exact .kTuple q qc
  | lst xs =>
    obtain ⟨a, vs, rfl, q, _⟩ := h
    rcases q with q | ⟨ob, q⟩
    · exact .base (.lst q)
    · exact .base (.frz q)
  | dic ks xs =>
    obtain ⟨a, rfl, u, vv, q, ⟨l, rfl, _⟩, _⟩ := h
    exact .base (.dK q)
  | _ => cases ok
theorem pe_tyName {t : Ty} {p : Pos} (hg : Gl X (tyS t)) (hm : X.mg (tyS t) = none) : PE X (.Name (tyS t) p) (tC (.ty (tyS t))) :=
  ⟨fun pins s σ H Q I h => ld_blt I hg hm (boot_ty t) ⟨.ty (tyS t), H, I, rfl, h⟩ (by cases t <;> decide) (by cases t <;> decide)⟩
theorem x_isi1 {t : Ty} {a : Expr} {f : Env → S → R D} {md : Md} {p p2 pos : Pos} (hK : X.K = o.K) (hm : md ≠ .H) (hg : Gl X "isinstance") (hmg : X.mg "isinstance" = none) (hgt : Gl X (tyS t)) (hmt : X.mg (tyS t) = none) (ha : PE X a (tE o H0 W md f)) (hs : isStar a = false) :
    PE X (.Call (.Name "isinstance" p) [a, .Name (tyS t) p2] [] pos) (tE o H0 W .O (vIsi [t] f)) := by
  refine pe_imp (pe_callB call_isi hg hmg PyProof.Rows.boot_isinstance (pa_cons ha (pa_cons (pe_tyName hgt hmt) pa_nil rfl) (star_no hs)) (by decide) (by decide) (star_no hs) rfl) fun σ H Q ⟨g, ρ, s, c, sl, p⟩ => ?_
  refine tE_mono (one (ma := md) c sl p) fun v H1 ⟨x, g1, s1, c1, sl1, e1, hx, q⟩ => ?_
  obtain ⟨d, hd, q2⟩ := Po.of2 q
  clear q
  obtain ⟨x', hx', hd⟩ := of_top1 hd
  split at hd
  · rename_i ok
    cases hd
    refine ⟨v, _, _, _, _, rfl, .ty _, tyX_of hK c1 (top_C c1 (Mo.toT c1 hm hx) hx') ok, kit_ty (kitB_all _ (tyN_mem x') t), ?_⟩
    rw [nmIs_eq ok]
    have e : ([t].any (isTy x')) = isTy x' t := by simp
    rw [e] at q2
    exact q2 _ _ (.refl _ _) c1 _ .bl
  · cases hd
/-- names of built-in types, as a tuple's items -/
def tyVs (ts : List Ty) : List V := ts.map fun t => V.ty (tyS t)
inductive TyNames : List Expr → List Ty → Prop where
  | nil : TyNames [] []
  | cons {t : Ty} {p : Pos} {es : List Expr} {ts : List Ty} (r : TyNames es ts) : TyNames (.Name (tyS t) p :: es) (t :: ts)
theorem pa_tys : ∀ {es : List Expr} {ts : List Ty}, TyNames es ts → (∀ t ∈ ts, Gl X (tyS t) ∧ X.mg (tyS t) = none) → PA X es (fun _ H Q => Q (tyVs ts) H)
  | _, _, .nil, _ => pa_nil
  | _, _, .cons r, h => pa_imp (pa_cons (pe_tyName (h _ List.mem_cons_self).1 (h _ List.mem_cons_self).2) (pa_tys r fun t m => h t (List.mem_cons_of_mem _ m)) rfl) fun _ _ _ q => q
theorem clsVs (ts : List Ty) : Paired ClsV (tyVs ts) (ts.map fun t => Value.type (tyS t)) := by
  induction ts with
  | nil => exact .nil
  | cons t ts ih => exact .cons (.ty _) ih
theorem kitAny_ty {K : PySem.W.Frag} {d : D} (ok : isTyOk d = true) : ∀ ts : List Ty, PySem.W.kitAny K (.type (tyN d)) (ts.map fun t => Value.type (tyS t)) = some (ts.any (isTy d))
  | [] => rfl
  | t :: ts => by
    have h := kit_ty (K := K) (kitB_all _ (tyN_mem d) t)
    rw [nmIs_eq ok] at h
    refine kitAny_cons h (fun e => ?_) (fun e => ?_)
    · rw [kitAny_ty ok ts, List.any_cons, e, Bool.false_or]
    · rw [List.any_cons, e, Bool.true_or]
theorem x_isiT {ts : List Ty} {a : Expr} {es : List Expr} {f : Env → S → R D} {md : Md} {p p2 pos : Pos} {kk : Nat} (hK : X.K = o.K) (hm : md ≠ .H) (hg : Gl X "isinstance") (hmg : X.mg "isinstance" = none) (hes : TyNames es ts) (hts : ∀ t ∈ ts, Gl X (tyS t) ∧ X.mg (tyS t) = none) (hl : ts.length ≤ 6) (ha : PE X a (tE o H0 W md f)) (hs : isStar a = false) :
    PE X (.Call (.Name "isinstance" p) [a, .Tuple es kk p2] [] pos) (tE o H0 W .O (vIsi ts f)) := by
  refine pe_imp (pe_callB call_isiT hg hmg PyProof.Rows.boot_isinstance (pa_cons ha (pa_cons (pe_tup (pa_tys hes hts)) pa_nil rfl) (star_no hs)) (by decide) (by decide) (star_no hs) rfl) fun σ H Q ⟨g, ρ, s, c, sl, p⟩ => ?_
  refine tE_mono (one (ma := md) c sl p) fun v H1 ⟨x, g1, s1, c1, sl1, e1, hx, q⟩ => ?_
  obtain ⟨d, hd, q2⟩ := Po.of2 q
  clear q
  obtain ⟨x', hx', hd⟩ := of_top1 hd
  split at hd
  · rename_i ok
    cases hd
    refine ⟨by rw [tyVs, List.length_map, sizeLine_eq]; omega, fun tp htp => ?_⟩
    obtain ⟨e2, c2⟩ := ext_new c1 (.tup (tyVs ts)) htp (fun ps z => by cases z)
    have rx := RepT.ext e2 (Mo.toT c1 hm hx)
    exact ⟨v, tp, tyVs ts, _, _, _, rfl, upd_same, clsVs ts, tyX_of hK c2 (top_C c2 rx hx') ok, kitAny_ty ok ts, q2 _ _ e2 c2 _ .bl⟩
  · cases hd
/-- what the own exception classes must say -/
structure XcF (o : Om) (n : Nat) : Prop where
  ins : ∀ k, ExcC o.K (o.xc k)
  kit : ∀ k c, c < n → PySem.W.kitOne o.K (.ref (o.xc k)) (.ref (o.xc c)) = some (k == c || c == 0)
  non : ∀ c, c < n → PySem.W.kitOne o.K (.type "NoneType") (.ref (o.xc c)) = some false
theorem kit_exc {pins : List (Addr × Obj)} {σ : L2.St} {H : Hp} {s : Shared} {a C : Addr} (I : Inv X pins σ H s) (F : ExcC X.K C) (h : H a = some (ExH C a)) : ∃ P : Heap → Prop, PySem.W.KitX X.K (.ref a) (.ref C) P ∧ P s.heap := by
  obtain ⟨⟨oe, vs, e, z, d⟩, _, _⟩ := I.hok a _ h
  refine ⟨_, PySem.W.handS_kitx_exc (ox := oe) F.hg F.hk F.hs F.hd F.ha F.hn F.ht F.hm, ?_⟩
  obtain ⟨oc, od, oda, osl⟩ := oe
  obtain ⟨h1, h2⟩ := z
  dsimp only at h1 h2 d
  subst h1 h2 d
  exact ⟨e, rfl, rfl, trivial⟩
def rIx1 (K : PySem.W.Frag) : List V → Hp → VK → Prop := fun xs H Q => ∃ a C D b, xs = [.ref a, .ref D] ∧ H a = some (ExH C a) ∧ ExcC K C ∧ PySem.W.kitOne K (.ref C) (.ref D) = some b ∧ Q (.bl b) H
theorem call_ix1 : CallR X (.builtin "isinstance") (rIx1 X.K) := by
  intro pins s σ H xs us Q I r h
  obtain ⟨a, C, Dd, b, rfl, ha, F, e, q⟩ := h
  obtain ⟨u1, u2, rfl, r1, r2⟩ := vals2 r
  obtain rfl : u1 = Value.ref a := r1
  obtain rfl : u2 = Value.ref Dd := r2
  obtain ⟨P, Z, p⟩ := kit_exc I F ha
  exact PySem.W.kia_one Z I.kIn p e (fun z => nomatch z) fun tk => ⟨.bl b, H, I.tok tk, rfl, q⟩
def rIxT2 (K : PySem.W.Frag) : List V → Hp → VK → Prop := fun xs H Q => ∃ (a C tp : Addr) (cs : List Addr) (b : Bool), xs = [.ref a, .ref tp] ∧ H tp = some (.tup (cs.map V.ref)) ∧ H a = some (ExH C a) ∧ ExcC K C ∧ PySem.W.kitAny K (.ref C) (cs.map Value.ref) = some b ∧ Q (.bl b) H
theorem clsRs (cs : List Addr) : Paired ClsV (cs.map V.ref) (cs.map Value.ref) := by
  induction cs with
  | nil => exact .nil
  | cons c cs ih => exact .cons (.own _) ih
theorem call_ixT : CallR X (.builtin "isinstance") (rIxT2 X.K) := by
  intro pins s σ H xs us Q I r h
  obtain ⟨a, C, tp, cs, b, rfl, hT, ha, F, e, q⟩ := h
  obtain ⟨u1, u2, rfl, r1, r2⟩ := vals2 r
  obtain rfl : u1 = Value.ref a := r1
  cases (show u2 = Value.ref tp from r2)
  obtain ⟨P, Z, p⟩ := kit_exc I F ha
  obtain ⟨_, its, rv, ob, h1, h2, n, h3⟩ := (show ObjOk X.prog X.w H s.heap tp (.tup (cs.map V.ref)) from I.hok tp _ hT)
  have e3 := ClsV.all (clsRs cs) rv
  subst e3
  obtain ⟨oc, od, dt, sl⟩ := ob
  simp only at h2 h3
  subst h2 h3
  exact PySem.W.kia_tup Z I.kIn p h1 e (fun z => nomatch z) fun tk => ⟨.bl b, H, I.tok tk, rfl, q⟩
theorem pe_clsName {x : Str} {C : Addr} {p : Pos} (hg : Gl X x) (hm : X.mg x = some (.ref C)) (hd : (x == ("__debug__" : Str)) = false) : PE X (.Name x p) (tC (.ref C)) :=
  ⟨fun pins s σ H Q I h => ld_glob I hg hm ⟨.ref C, H, I, rfl, h⟩ hd⟩
theorem callR_or {f : Value} {r r' : List V → Hp → VK → Prop} (h : CallR X f r) (h' : CallR X f r') : CallR X f (fun xs H Q => r xs H Q ∨ r' xs H Q) := by
  intro pins s σ H xs us Q I rr q
  rcases q with q | q
  · exact h pins s σ H xs us Q I rr q
  · exact h' pins s σ H xs us Q I rr q
theorem x_ise1 {c n : Nat} {x : Str} {a : Expr} {f : Env → S → R D} {p p2 pos : Pos} (hK : X.K = o.K) (F : XcF o n) (hc : c < n) (hg : Gl X "isinstance") (hmg : X.mg "isinstance" = none) (hgx : Gl X x) (hmx : X.mg x = some (.ref (o.xc c))) (hd : (x == ("__debug__" : Str)) = false) (ha : PE X a (tE o H0 W .F f)) (hs : isStar a = false) :
    PE X (.Call (.Name "isinstance" p) [a, .Name x p2] [] pos) (tE o H0 W .O (vIse [c] f)) := by
  refine pe_imp (pe_callB (callR_or call_isi call_ix1) hg hmg PyProof.Rows.boot_isinstance (pa_cons ha (pa_cons (pe_clsName hgx hmx hd) pa_nil rfl) (star_no hs)) (by decide) (by decide) (star_no hs) rfl) fun σ H Q ⟨g, ρ, s, cu, sl, p⟩ => ?_
  refine tE_mono (one (ma := .F) cu sl p) fun v H1 ⟨y, g1, s1, c1, sl1, e1, hx, q⟩ => ?_
  have hx : Rep o g1 y v := hx
  cases y with
  | exc k xs =>
    simp only [Rep] at hx
    obtain ⟨e, rfl, he⟩ := hx
    refine .inr ⟨e, _, _, _, rfl, c1.fz _ _ he, by rw [hK]; exact F.ins k, by rw [hK]; exact F.kit k c hc, ?_⟩
    have z : ([c].any fun c => k == c || c == 0) = (k == c || c == 0) := by simp
    dsimp only at q
    rw [z] at q
    exact q _ _ (.refl _ _) c1 _ .bl
  | non =>
    simp only [Rep] at hx
    subst hx
    exact .inl ⟨.non, _, _, _, false, rfl, .own _, .base .non, by rw [hK]; exact F.non c hc, q _ _ (.refl _ _) c1 _ .bl⟩
  | _ => exact q.elim
inductive ClsNames (o : Om) (X : Cx) (n : Nat) : List Expr → List Nat → Prop where
  | nil : ClsNames o X n [] []
  | cons {c : Nat} {x : Str} {p : Pos} {es : List Expr} {cs : List Nat} (hc : c < n) (hg : Gl X x) (hm : X.mg x = some (.ref (o.xc c))) (hd : (x == ("__debug__" : Str)) = false) (r : ClsNames o X n es cs) : ClsNames o X n (.Name x p :: es) (c :: cs)
theorem pa_cls {n : Nat} : ∀ {es : List Expr} {cs : List Nat}, ClsNames o X n es cs → PA X es (fun _ H Q => Q ((cs.map o.xc).map V.ref) H)
  | _, _, .nil => pa_nil
  | _, _, .cons hc hg hm hd r => pa_imp (pa_cons (pe_clsName hg hm hd) (pa_cls r) rfl) fun _ _ _ q => q
theorem cls_lt {n : Nat} : ∀ {es : List Expr} {cs : List Nat}, ClsNames o X n es cs → ∀ c ∈ cs, c < n
  | _, _, .nil, _, m => by cases m
  | _, _, .cons hc hg hm hd r, c, m => by
    rcases List.mem_cons.mp m with rfl | m
    · exact hc
    · exact cls_lt r c m
theorem kitAny_exc {n : Nat} (F : XcF o n) (k : Nat) : ∀ cs : List Nat, (∀ c ∈ cs, c < n) → PySem.W.kitAny o.K (.ref (o.xc k)) ((cs.map o.xc).map Value.ref) = some (cs.any fun c => k == c || c == 0)
  | [], _ => rfl
  | c :: cs, h => by
    refine kitAny_cons (F.kit k c (h c List.mem_cons_self)) (fun e => ?_) (fun e => ?_)
    · rw [kitAny_exc F k cs fun c m => h c (List.mem_cons_of_mem _ m), List.any_cons, e, Bool.false_or]
    · rw [List.any_cons, e, Bool.true_or]
theorem kitAny_non {n : Nat} (F : XcF o n) : ∀ cs : List Nat, (∀ c ∈ cs, c < n) → PySem.W.kitAny o.K (.type "NoneType") ((cs.map o.xc).map Value.ref) = some false
  | [], _ => rfl
  | c :: cs, h => kitAny_cons (F.non c (h c List.mem_cons_self)) (fun _ => kitAny_non F cs fun c m => h c (List.mem_cons_of_mem _ m)) (fun e => by cases e)
theorem x_iseT {cs : List Nat} {n : Nat} {a : Expr} {es : List Expr} {f : Env → S → R D} {p p2 pos : Pos} {kk : Nat} (hK : X.K = o.K) (F : XcF o n) (hg : Gl X "isinstance") (hmg : X.mg "isinstance" = none) (hes : ClsNames o X n es cs) (hl : cs.length ≤ 6) (ha : PE X a (tE o H0 W .F f)) (hs : isStar a = false) :
    PE X (.Call (.Name "isinstance" p) [a, .Tuple es kk p2] [] pos) (tE o H0 W .O (vIse cs f)) := by
  refine pe_imp (pe_callB (callR_or call_isiT call_ixT) hg hmg PyProof.Rows.boot_isinstance (pa_cons ha (pa_cons (pe_tup (pa_cls hes)) pa_nil rfl) (star_no hs)) (by decide) (by decide) (star_no hs) rfl) fun σ H Q ⟨g, ρ, s, cu, sl, p⟩ => ?_
  refine tE_mono (one (ma := .F) cu sl p) fun v H1 ⟨y, g1, s1, c1, sl1, e1, hx, q⟩ => ?_
  have hx : Rep o g1 y v := hx
  refine ⟨by rw [List.length_map, List.length_map, sizeLine_eq]; omega, fun tp htp => ?_⟩
  obtain ⟨e2, c2⟩ := ext_new c1 (.tup ((cs.map o.xc).map V.ref)) htp (fun ps z => by cases z)
  cases y with
  | exc k xs =>
    simp only [Rep] at hx
    obtain ⟨e, rfl, he⟩ := hx
    exact .inr ⟨e, _, tp, cs.map o.xc, _, rfl, upd_same, c2.fz _ _ (e2.le.fz _ _ he), by rw [hK]; exact F.ins k, by rw [hK]; exact kitAny_exc F k cs (cls_lt hes), q _ _ e2 c2 _ .bl⟩
  | non =>
    simp only [Rep] at hx
    subst hx
    exact .inl ⟨.non, tp, _, _, _, false, rfl, upd_same, clsRs _, .base .non, by rw [hK]; exact kitAny_non F cs (cls_lt hes), q _ _ e2 c2 _ .bl⟩
  | _ => exact q.elim
end
end MR
set_option Elab.async false
set_option linter.all false
set_option maxRecDepth 100000
namespace MR
open PySem PySem.Spec PyProof.Rows L2 LamX
section
variable {o : Om} {H0 : Hp} {gE : GE} {W : WX} {X : Cx} {k : Nat}
theorem Slots.und {g : Gh} {ρ : Env} {σ σ' : L2.St} {H : Hp} (x : Slots o H0 g ρ σ H) (i : Nat) (hl : σ'.length = σ.length) (hσ : ∀ j, j ≠ i → σ'[j]? = σ[j]?) : Slots o H0 g (wr ρ i .un) σ' H := by
  have f : ∀ j, rd (wr ρ i .un) j = if i = j then .un else rd ρ j := fun j => by
    rw [rd_wr]
    by_cases hi : i < ρ.length
    · by_cases e : i = j
      · rw [if_pos ⟨e, hi⟩, if_pos e]
      · rw [if_neg (fun z => e z.1), if_neg e]
    · rw [if_neg (fun z => hi z.2)]
      by_cases e : i = j
      · rw [if_pos e, ← e]
        have : ∀ (ρ : Env) (i : Nat), ¬ i < ρ.length → rd ρ i = .un := by
          intro ρ
          induction ρ with
          | nil => intro i _; rfl
          | cons y r ih =>
            intro i h
            cases i with
            | zero => exact absurd (Nat.succ_pos _) h
            | succ i => exact ih i (fun z => h (Nat.succ_lt_succ z))
        exact this ρ i hi
      · rw [if_neg e]
  refine ⟨by rw [wr_len, hl]; exact x.len, fun j d' h => ?_, fun j d' h => ?_, fun j l d1 d2 a n h1 h2 e1 => ?_⟩
  · rw [f j] at h
    by_cases e : i = j
    · rw [if_pos e] at h; cases h
    · rw [if_neg e] at h
      rw [hσ j (Ne.symm e)]
      exact x.fz j d' h
  · rw [f j] at h
    by_cases e : i = j
    · rw [if_pos e] at h; cases h
    · rw [if_neg e] at h
      rw [hσ j (Ne.symm e)]
      exact x.ow j d' h
  · rw [f j] at h1
    rw [f l] at h2
    by_cases e : i = j
    · rw [if_pos e] at h1; cases h1
    · by_cases e' : i = l
      · rw [if_pos e'] at h2; cases h2
      · rw [if_neg e] at h1
        rw [if_neg e'] at h2
        rw [hσ j (Ne.symm e)] at e1
        rw [hσ l (Ne.symm e')]
        exact x.ap j l d1 d2 a n h1 h2 e1
theorem wr_wr : ∀ (ρ : Env) (i : Nat) (y z : Sl), wr (wr ρ i y) i z = wr ρ i z
  | [], _, _, _ => rfl
  | _ :: _, 0, _, _ => rfl
  | x :: r, i + 1, y, z => by simp only [wr]; rw [wr_wr r i y z]
/-- what is told by a predicate stays -/
theorem ext_stays {g g1 : Gh} {s : S} {H H1 : Hp} (c : Cur o g s H) (e : Ext g H g1 H1) {b : Addr} {P : Heap → Prop} (h : H b = some (.ext P)) : H1 b = some (.ext P) := by
  refine e.old b _ h (fun ps z => by cases z) fun m => ?_
  by_cases q : b ∈ g.cl
  · obtain ⟨k, hk⟩ := nth_mem q
    obtain ⟨d, _, w, _⟩ := c.cel k b hk
    cases d with
    | lst xs =>
      obtain ⟨vs, z, _⟩ := w
      rw [h] at z
      cases z
    | dic ks xs =>
      obtain ⟨u, vv, z, dk, _⟩ := w
      rw [h] at z
      cases z
      exact dk.ne _ rfl
    | _ => exact w
  · rw [e.ncl b m q] at h
    cases h
def Stb (J : Addr → Hp → Prop) : Prop := ∀ a H H', J a H → (∀ b P, H b = some (.ext P) → H' b = some (.ext P)) → J a H'
def tLamJ (T : List (Addr × Str)) (J : Addr → Hp → Prop) : TE := fun _ H Q => Tabs T H ∧ ∀ H1 f, ExtN H H1 → (∀ b, H b ≠ none → H1 b ≠ none) → Tabs T H1 → H f = none → J f H1 → Q (.ref f) H1
def tCallJ (o : Om) (H0 : Hp) (K : PySem.W.Frag) (CS : Addr) (w : Nat) (J : Addr → Hp → Prop) (md : Md) (f : Env → S → R D) : TE := fun σ H Q => ∃ fa, σ[w]? = some (some (.ref fa)) ∧ J fa H ∧ TTc K CS (fun E H' Q' => tE o H0 (wE E) md f σ H' Q') H Q
/-- fa is a function whose call, kept, means f -/
def CallP (o : Om) (H0 : Hp) (X : Cx) (CS : Addr) (w : Nat) (ce : Expr) (f : Env → S → R D) (fa : Addr) (H : Hp) : Prop :=
  ∃ J md, Stb J ∧ J fa H ∧ PE X ce (tCallJ o H0 X.K CS w J md f)
/-- lambdas, told -/
inductive LamPs (o : Om) (H0 : Hp) (X : Cx) (CS : Addr) (w : Nat) (ce : Expr) : List Expr → List (Env → S → R D) → Prop where
  | nil : LamPs o H0 X CS w ce [] []
  | cons {l : Expr} {ls : List Expr} {f : Env → S → R D} {fs : List (Env → S → R D)} (J : Addr → Hp → Prop) (md : Md) (hJ : Stb J) (hl : PE X l (tLamJ o.tb J)) (hs : isStar l = false) (hc : PE X ce (tCallJ o H0 X.K CS w J md f)) (r : LamPs o H0 X CS w ce ls fs) : LamPs o H0 X CS w ce (l :: ls) (f :: fs)
/-- the functions that stand for fs -/
def AllCP (o : Om) (H0 : Hp) (X : Cx) (CS : Addr) (w : Nat) (ce : Expr) : List (Env → S → R D) → List Addr → Hp → Prop
  | [], [], _ => True
  | f :: fs, a :: as, H => CallP o H0 X CS w ce f a H ∧ AllCP o H0 X CS w ce fs as H
  | _, _, _ => False
variable {CS : Addr} {w : Nat} {ce : Expr}
theorem CallP.stay {f : Env → S → R D} {fa : Addr} {H H' : Hp} (h : CallP o H0 X CS w ce f fa H) (e : ∀ b P, H b = some (.ext P) → H' b = some (.ext P)) : CallP o H0 X CS w ce f fa H' := by
  obtain ⟨J, md, st, j, p⟩ := h
  exact ⟨J, md, st, st _ _ _ j e, p⟩
theorem AllCP.stay : ∀ {fs : List (Env → S → R D)} {as : List Addr} {H H' : Hp}, AllCP o H0 X CS w ce fs as H → (∀ b P, H b = some (.ext P) → H' b = some (.ext P)) → AllCP o H0 X CS w ce fs as H'
  | [], [], _, _, _, _ => trivial
  | [], _ :: _, _, _, h, _ => h.elim
  | _ :: _, [], _, _, h, _ => h.elim
  | f :: fs, a :: as, H, H', h, e => ⟨h.1.stay e, AllCP.stay h.2 e⟩
theorem AllCP.get : ∀ {fs : List (Env → S → R D)} {as : List Addr} {H : Hp} {i : Nat} {f : Env → S → R D}, AllCP o H0 X CS w ce fs as H → nth fs i = some f → ∃ a, as[i]? = some a ∧ CallP o H0 X CS w ce f a H
  | [], _, _, i, _, _, e => by cases i <;> cases e
  | _ :: _, [], _, _, _, h, _ => h.elim
  | f :: fs, a :: as, H, 0, g, h, e => by
    cases e
    exact ⟨a, rfl, h.1⟩
  | f :: fs, a :: as, H, i + 1, g, h, e => by
    obtain ⟨b, h1, h2⟩ := AllCP.get (i := i) h.2 e
    exact ⟨b, by simpa using h1, h2⟩
theorem AllCP.len : ∀ {fs : List (Env → S → R D)} {as : List Addr} {H : Hp}, AllCP o H0 X CS w ce fs as H → as.length = fs.length
  | [], [], _, _ => rfl
  | [], _ :: _, _, h => h.elim
  | _ :: _, [], _, h => h.elim
  | f :: fs, a :: as, H, h => by rw [List.length_cons, List.length_cons, AllCP.len h.2]
theorem extN_ext {H H1 : Hp} (e : ExtN H H1) : ∀ b P, H b = some (.ext P) → H1 b = some (.ext P) := fun b P h => e b _ h fun ps z => by cases z
theorem pa_lams : ∀ {ls : List Expr} {fs : List (Env → S → R D)}, LamPs o H0 X CS w ce ls fs →
    PA X ls (fun _ H Q => Tabs o.tb H ∧ ∀ H1 as, ExtN H H1 → (∀ b, H b ≠ none → H1 b ≠ none) → Tabs o.tb H1 → AllCP o H0 X CS w ce fs as H1 → Q (as.map V.ref) H1)
  | _, _, .nil => pa_imp pa_nil fun σ H Q ⟨hT, h⟩ => h H [] (.refl H) (fun _ z => z) hT trivial
  | _, _, .cons J md hJ hl hs hc r => by
    refine pa_imp (pa_cons hl (pa_lams r) (star_no hs)) fun σ H Q ⟨hT, h⟩ => ?_
    refine ⟨hT, fun H1 f e1 st1 T1 hf hj => ⟨T1, fun H2 as e2 st2 T2 hA => ?_⟩⟩
    exact h H2 (f :: as) (e1.trans e2) (fun b n => st2 b (st1 b n)) T2 ⟨⟨J, md, hJ, hJ _ _ _ hj (extN_ext e2), hc⟩, hA⟩
/-- a lambda, asked by the def that keeps what it raises -/
def lamK (ρ : Env) (x : D) (s : S) : R Fl := match x with
  | .bl true => .ok (.nx ρ) s
  | .bl false => .ok (.rt (.bl false)) s
  | _ => .no
/-- the loop's turn -/
def tTurn (o : Om) (H0 : Hp) (gE : GE) (W : WX) (X : Cx) (CS : Addr) (w : Nat) (ce : Expr) (c : Nat) : TS := fun D σ H => ∃ (f : Env → S → R MR.D) (fa : Addr) (g : Gh) (ρ : Env) (s : S),
  CallP o H0 X CS w ce f fa H ∧ σ[w]? = some (some (.ref fa)) ∧ Cur o g s H ∧ Slots o H0 g ρ σ H ∧ Ext gE H0 g H ∧ Po o W σ g H (vIse [c] (vCgt f) ρ s) fun x s1 g1 H1 => ∃ b, x = .bl b ∧ if b = true then D.nx σ H1 else D.rt (.bl false) H1
theorem ps_turn {c n : Nat} {x : Str} {j : Nat} {q1 q2 q3 q4 q5 q6 q7 : Pos} (hK : X.K = o.K) (F : XcF o n) (hc : c < n) (hg : Gl X "isinstance") (hmg : X.mg "isinstance" = none) (hgx : Gl X x) (hmx : X.mg x = some (.ref (o.xc c))) (hd : (x == ("__debug__" : Str)) = false) (hs : isStar ce = false)
    (hx : ∀ c, PySem.W.exmOne o.K (.ref (o.xc c)) (.ref CS) = some true) :
    PSs X [.If (.UnaryOp .Not (.Call (.Name "isinstance" q1) [ce, .Name x q2] [] q3) q4) [.Return (some (.Constant (.bool false) j q5)) q6] [] q7] (tTurn o H0 gE W X CS w ce c) := by
  refine ⟨fun pins s σ H D I h => ?_⟩
  obtain ⟨f, fa, g, ρ, s0, ⟨J, md, hJ, hj, pe⟩, hσ, cu, sl, e, p⟩ := h
  have hI := pe_callB (callR_or call_isi call_ix1) hg hmg PyProof.Rows.boot_isinstance (p := q1) (pos := q3) (pa_cons pe (pa_cons (pe_clsName (p := q2) hgx hmx hd) pa_nil rfl) (star_no hs)) (by decide) (by decide) (star_no hs) rfl
  have hS := pss_one (ps_if (pos := q7) (L2.pt_not (pos := q4) (pt_val hI)) (pss_one (ps_ret (pos := q6) (pe_bl (b := false) (j := j) (pos := q5)))) pss_nil)
  refine hS.run pins s σ H D I ?_
  refine ⟨fa, hσ, hj, ?_⟩
  rw [hK]
  refine (cgt_sem (o := o) (H0 := H0) (W := W) (md := md) (fun c _ _ _ _ _ => hx c) (tE_mono (one (ma := .F) cu sl p) fun v H1 ⟨y, g1, s1, c1, sl1, e1, hx, q⟩ => ?_)).2 H (ExtN.refl H) (fun _ n => n) cu.tab
  have hx : Rep o g1 y v := hx
  cases y with
  | exc k xs =>
    simp only [Rep] at hx
    obtain ⟨e, rfl, he⟩ := hx
    have z : ([c].any fun c => k == c || c == 0) = (k == c || c == 0) := by simp
    dsimp only at q
    rw [z] at q
    obtain ⟨b, hb, q⟩ := Po.ok q c1
    cases hb
    refine .inr ⟨e, _, _, _, rfl, c1.fz _ _ he, F.ins k, F.kit k c hc, ⟨_, rfl, ?_⟩⟩
    generalize (k == c || c == 0) = b at q
    cases b with
    | true => exact q
    | false => exact q
  | non =>
    simp only [Rep] at hx
    subst hx
    obtain ⟨b, hb, q⟩ := Po.ok q c1
    cases hb
    exact .inl ⟨.non, _, _, _, false, rfl, .own _, .base .non, F.non c hc, ⟨_, rfl, q⟩⟩
  | _ => exact q.elim
theorem x_lams {c n : Nat} {x wn : Str} {ls : List Expr} {fs : List (Env → S → R D)} {j : Nat} {tp lp pos q1 q2 q3 q4 q5 q6 q7 : Pos} (hrm : gE.rm = .F ∨ gE.rm = .O) (hp : PassesOwn (model X.prog X.w) X.A X.env X.xe) (hc : X.calm = true) (hK : X.K = o.K) (F : XcF o n) (hcn : c < n) (hg : Gl X "isinstance") (hmg : X.mg "isinstance" = none) (hgx : Gl X x) (hmx : X.mg x = some (.ref (o.xc c))) (hd : (x == ("__debug__" : Str)) = false) (hs : isStar ce = false)
    (hx : ∀ c, PySem.W.exmOne o.K (.ref (o.xc c)) (.ref CS) = some true) (hN : X.N.Nodup) (hi : X.N[w]? = some wn) (hloc : L2.Loc X.env.scope wn) (hfn : X.fn wn = true ∨ X.env.scope.names.lookup wn = some .local) (hL : LamPs o H0 X CS w ce ls fs) (hll : fs.length ≤ sizeLine) :
    PS X (.For (.Name wn tp) (.List ls lp) [.If (.UnaryOp .Not (.Call (.Name "isinstance" q1) [ce, .Name x q2] [] q3) q4) [.Return (some (.Constant (.bool false) j q5)) q6] [] q7] [] pos) (tX o H0 gE W (sLams w fs [c])) := by
  have P := ps_for (pos := pos) hp hc (pi_seqA (pe_lst (pos := lp) (pa_lams hL))) (pg_name (pos := tp) hN hi hloc hfn) (ps_turn (H0 := H0) (w := w) (gE := gE) (W := W) (j := j) (q1 := q1) (q2 := q2) (q3 := q3) (q4 := q4) (q5 := q5) (q6 := q6) (q7 := q7) hK F hcn hg hmg hgx hmx hd hs hx) (fun _ => rfl)
  refine ⟨fun pins sh σ H D I h => P.run pins sh σ H D I ?_⟩
  obtain ⟨g, ρ, s, cu, sl, e, p⟩ := h
  have hw : w < σ.length := by
    rw [I.len]
    by_cases q : w < X.N.length
    · exact q
    · rw [List.getElem?_eq_none (by omega)] at hi; cases hi
  clear I P
  refine ⟨cu.tab, fun H1 as eN st T1 hA => ?_⟩
  obtain ⟨c1, e1⟩ := cur_lam cu eN st T1
  have sl1 := sl.ext e1
  refine ⟨by rw [List.length_map, hA.len]; exact hll, fun a ha => ?_⟩
  obtain ⟨e2, c2⟩ := ext_new c1 (.lst (as.map V.ref)) ha (fun ps z => by cases z)
  have hac : a ∉ g.cl := fun q => by
    obtain ⟨k, hk⟩ := nth_mem q
    obtain ⟨d, _, w, _⟩ := c1.cel k a hk
    exact Own.there w ha
  have hA2 : AllCP o H0 X CS w ce fs as (upd H1 a (.lst (as.map V.ref))) := hA.stay fun b P hb => by
    rw [upd_ne (fun z => by rw [z, ha] at hb; cases hb)]
    exact hb
  refine ⟨a, rfl, .inl ⟨⟨as.map V.ref, .inl (.inl upd_same)⟩, ?_⟩⟩
  have p : PoX o W gE H0 g (sLams' [c] fs (wr ρ w .un) s) D := p
  refine ⟨fun i m σ H => ∃ g ρ s, (m = fs.length - i ∧ i ≤ fs.length) ∧ w < σ.length ∧ H a = some (.lst (as.map V.ref)) ∧ a ∉ g.cl ∧ AllCP o H0 X CS w ce fs as H ∧ Cur o g s H ∧ Slots o H0 g ρ σ H ∧ Ext gE H0 g H ∧ PoX o W gE H0 g (sLams' [c] (fs.drop i) (wr ρ w .un) s) D,
    ⟨fs.length, g, ρ, s, ⟨by simp, Nat.zero_le _⟩, hw, upd_same, hac, hA2, c2, sl1.ext e2, (e.trans e1).trans e2, p⟩, ?_⟩
  clear p c2 hA2 hac e2 ha sl1 e1 c1 hA T1 st eN hw sl e cu
  rintro i m σ2 H2 ⟨g2, ρ2, s2, ⟨rfl, hle⟩, hw2, ha2, hac2, hA, cu2, sl2, e2, q2⟩
  cases hn : nth fs i with
  | none =>
    rw [drop_nth.1 hn] at q2
    have hl := nth_none hn
    refine .inl ⟨⟨_, .inl (.inl ha2), by rw [List.length_map, hA.len]; exact hl⟩, ?_⟩
    exact q2 g2 σ2 H2 (.refl _) cu2 (sl2.und w rfl fun _ _ => rfl) e2
  | some f =>
    obtain ⟨fa, hfa, hcp⟩ := hA.get hn
    have hlt := nth_lt hn
    rw [drop_nth.2 f hn] at q2
    have hvi : (as.map V.ref)[i]? = some (.ref fa) := by rw [List.getElem?_map, hfa]; rfl
    refine .inr ⟨⟨_, _, .inl (.inl ha2), hvi⟩, fun σ H => ∃ g ρ s, w < σ.length ∧ H a = some (.lst (as.map V.ref)) ∧ a ∉ g.cl ∧ AllCP o H0 X CS w ce fs as H ∧ Cur o g s H ∧ Slots o H0 g ρ σ H ∧ Ext gE H0 g H ∧ PoX o W gE H0 g (sLams' [c] (fs.drop (i + 1)) (wr ρ w .un) s) D,
      fun σ' H' ⟨g3, ρ3, s3, h1, h2, h3, h4, h5, h6, h7, h8⟩ => ⟨fs.length - (i + 1), by omega, g3, ρ3, s3, ⟨rfl, hlt⟩, h1, h2, h3, h4, h5, h6, h7, h8⟩, fun v H3 hy => ?_⟩
    obtain ⟨rfl, hy⟩ := hy
    have hv := hy _ (.inl (.inl ha2))
    rw [hvi] at hv
    cases hv
    have sl3 : Slots o H0 g2 (wr ρ2 w .un) (σ2.set w (some (.ref fa))) H3 := sl2.und w (by rw [List.length_set]) fun j hj => by rw [List.getElem?_set_ne (Ne.symm hj)]
    refine ⟨f, fa, g2, wr ρ2 w .un, s2, hcp, by rw [List.getElem?_set_self hw2], cu2, sl3, e2, ?_⟩
    have q3 : PoX o W gE H0 g2 ((vIse [c] (vCgt f) (wr ρ2 w .un) s2).bind fun x s => match x with
      | .bl true => sLams' [c] (fs.drop (i + 1)) (wr ρ2 w .un) s
      | .bl false => .ok (.rt (.bl false)) s
      | _ => .no) D := q2
    refine (PoX.bind (.refl g2) e2 q3).mono fun x s3 g3 H4 e3 c3 q4 => ?_
    cases x with
    | bl b =>
      refine ⟨b, rfl, ?_⟩
      cases b with
      | true =>
        have hac3 : a ∉ g3.cl := fun z => by
          rw [e3.ncl a z hac2] at ha2
          cases ha2
        refine ⟨g3, wr ρ2 w .un, s3, by rw [List.length_set]; exact hw2, e3.old a _ ha2 (fun ps z => by cases z) hac3, hac3, hA.stay (fun b P hb => ext_stays cu2 e3 hb), c3, sl3.ext e3, e2.trans e3, ?_⟩
        rw [wr_wr]
        exact q4
      | false => exact q4 g3 H4 (.bl false) (.refl _) c3 (e2.trans e3) (mo_plain hrm rfl (by simp only [Rep]))
    | _ => exact q4.elim
theorem lamIs_stb {params : Arguments} {body : Expr} {scope : Scope} : Stb (LamIs X params body scope) := fun a H H' ⟨pm, ctv, c', h1, h2⟩ e => ⟨pm, ctv, c', e _ _ h1, e _ _ h2⟩
end
end MR
set_option Elab.async false
set_option linter.all false
set_option maxRecDepth 100000
namespace MR
open PySem PySem.Spec PyProof.Rows L2

/-- the text: its defs with the number of parameters, its exception classes, its constants -/
structure Tx where
  fn : List (Str × Nat)
  xs : List Str
  gc : List (Str × Int)
  gf : Bool
  kw : List (List (Nat × List Str × List Nat)) := []
  ow : List Bool := []
def klOf (tx : Tx) (i : Nat) : List (Nat × List Str × List Nat) := (nth tx.kw i).getD []
/-- does this def tell a new container -/
def owOf (tx : Tx) (i : Nat) : Md := if (nth tx.ow i).getD false = true then .O else .F
theorem owOf_ne {tx : Tx} {i : Nat} : owOf tx i ≠ .H := by
  unfold owOf
  split <;> decide
/-- where a piece of text stands: the frame's names, the scope, names that may be stored though captured, may a lambda stand here, may a loop -/
structure Sc where
  N : List Str
  sc : Scope
  cf : List Str
  lam : Bool
  st : Bool
  own : Bool := false
def glb (c : Sc) (x : Str) : Bool := decide (c.sc.names.lookup x = some .globalImplicit)
def vis (c : Sc) (x : Str) : Bool := decide (c.sc.names.lookup x = some .local) || decide (c.sc.names.lookup x = some .cell) || decide (c.sc.names.lookup x = some .free)
def ndb (x : Str) : Bool := !(x == ("__debug__" : Str)) && !(x == ("__classdict__" : Str))
/-- a name that may be stored -/
def sto (c : Sc) (x : Str) : Bool := decide (c.sc.names.lookup x = some .local) || (decide (c.sc.names.lookup x = some .cell) && decide (x ∈ c.cf))
def blN : List Str := ["len", "abs", "int", "min", "max", "all", "any", "repr", "range", "zip", "enumerate", "list", "tuple", "isinstance", "bool", "str", "dict", "sorted", "set"]

/-- what a piece of the form accepts -/
structure Ck where
  m : Md := .O
  v : Sc → Expr → Bool := fun _ _ => false
  t : Sc → Expr → Bool := fun _ _ => false
  w : Sc → Expr → Bool := fun _ _ => false
  e : Sc → Expr → Bool := fun _ _ => false
  l : Sc → List Expr → Bool := fun _ _ => false
  lb : Sc → List Expr → Bool := fun _ _ => false
  ko : Sc → List Keyword → Bool := fun _ _ => false
  lk : Sc → List Expr → List Keyword → Bool := fun _ _ _ => false
  o : Sc → Option Expr → Bool := fun _ _ => false
  i : Sc → Expr → Expr → Bool := fun _ _ _ => false
  j : Sc → Expr → Expr → Bool := fun _ _ _ => false
  s1 : Sc → Expr → Bool := fun _ _ => false
  r : Sc → List Expr → Bool := fun _ _ => false
  z : Sc → List Expr → Bool := fun _ _ => false
  li : Sc → Expr → Bool := fun _ _ => false
  ti : Sc → Expr → Bool := fun _ _ => false
  c : Sc → List Expr → Bool := fun _ _ => false
  g : Sc → Expr → Bool := fun _ _ => false
  gs : Sc → List Expr → Bool := fun _ _ => false
  s : Sc → Nat → Stmt → Bool := fun _ _ _ => false
  x : Sc → Stmt → Bool := fun _ _ => false
  b : Sc → List Stmt → Bool := fun _ _ => false
  ll : Sc → List Expr → Bool := fun _ _ => false
def mFO : Md → Bool
  | .F | .O => true
  | _ => false
/-- a piece that is tested by its value -/
def plainT : Expr → Bool
  | .Name _ _ | .Constant _ _ _ | .BinOp _ _ _ _ | .Call _ _ _ _ | .Subscript _ _ _ | .List _ _ | .Tuple _ _ _ | .ListComp _ _ _ _ => true
  | _ => false
theorem plainT_of {a : Expr} {env : PySem.Env} (h : plainT a = true) : ∀ whole, isTrue a env whole = (do let v ← whole; standAt a.pos; holding [v] (PySem.truthy v)) := by
  intro w
  cases a <;> first | rfl | cases h

def setB (f : Sc → Expr → Bool) (c : Sc) (i : Nat) : Stmt → Bool
  | .Assign [.Name y _] a _ => decide (c.N[i]? = some y) && sto c y && notComp a && f c a
  | _ => false
def setC (f : Sc → Expr → Bool) (c : Sc) (i : Nat) : Stmt → Bool
  | .Assign [.Name y _] a _ => decide (c.N[i]? = some y) && sto c y && f c a
  | _ => false
/-- from the acceptance as a value -/
def mkC (m : Md) (v : Sc → Expr → Bool) : Ck where
  m := m
  v := v
  t := fun c a => plainT a && v c a
  e := fun c a => mFO m && !isStar a && v c a
  o := fun c a => match a with
    | some a => v c a
    | none => false
  s := setB v
def scopeOf : Expr → Option Scope
  | .ListComp _ _ s _ => some s
  | _ => none
/-- does the store take the swapped road -/
def swB (c : Sc) (y : Str) (py : Pos) (a : Expr) : Bool := match scopeOf a with
  | some s => decide (c.sc.names.lookup y = some .local) && (py.line == a.pos.line) && !(s.names.any fun (n, k) => n == y && (k == .local || k == .cell))
  | none => false
def ownOf (N : List Str) (vs : List Nat) : List (Str × Nat) := vs.map fun i => ((N[i]?).getD default, i)
/-- the scope of a comprehension's block -/
def Sc.blk (c : Sc) (scope : Scope) : Sc := { N := c.N, sc := relS scope c.sc, cf := (scope.names.filter fun y => decide (scope.names.lookup y.1 = some .cell)).map (·.1), lam := false, st := false }
def Sc.lm (c : Sc) (scope : Scope) : Sc := { N := c.N, sc := scope, cf := [], lam := false, st := false }
def isNl : E → Bool
  | .nl => true
  | _ => false
def isTrueE : E → Bool
  | .cb true => true
  | _ => false
def notSet : Expr → Bool
  | .Set _ _ _ => false
  | _ => true
def isSubs : Expr → Bool
  | .Subscript _ _ _ => true
  | _ => false
/-- names of built-in types, of classes -/
def tysB (c : Sc) : List Expr → List Ty → Bool
  | [], [] => true
  | .Name x _ :: es, t :: ts => decide (x = (tyS t : Str)) && glb c x && tysB c es ts
  | _, _ => false
def clsB (tx : Tx) (c : Sc) : List Expr → List Nat → Bool
  | [], [] => true
  | .Name x _ :: es, k :: ks => decide (nth tx.xs k = some x) && glb c x && ndb x && clsB tx c es ks
  | _, _ => false
/-- the keys of a display -/
def keysB : List (Option Expr) → List Str → Bool
  | [], [] => true
  | some (.Constant (.str x) _ _) :: ks, y :: ys => decide (x = y) && keysB ks ys
  | _, _ => false
def tests (ct : Sc → Expr → Bool) (ce : E) (c : Sc) (ifs : List Expr) : Bool := match ifs with
  | [] => isTrueE ce
  | [a] => ct c a
  | _ => false
def blkB (h : E) (x : Sc → Stmt → Bool) (b : Sc → List Stmt → Bool) (c : Sc) (es : List Stmt) : Bool := match h with
  | .frz _ => b c es
  | _ => match es with
    | a :: r => x c a && b c r
    | [] => false
/-- the caught def's name -/
def cgName : Str := "_law_caught"
def noArgs (p : Arguments) : Bool := p.posonlyargs.isEmpty && p.args.isEmpty && p.vararg.isNone && p.kwonlyargs.isEmpty && p.kw_defaults.isEmpty && p.kwarg.isNone && p.defaults.isEmpty

def oneC (tx : Tx) (c : Sc) (x : Str) : List Nat → Bool
  | [k] => decide (nth tx.xs k = some x) && glb c x && ndb x
  | _ => false

/-- two names, not both of them plain, and a pair -/
def notBoth (c : Sc) (xs : List Expr) (a : Expr) : Bool := match xs, a with
  | [.Name x _, .Name y _], .Tuple [_, _] _ _ => !decide (c.sc.names.lookup x = some .local) || !decide (c.sc.names.lookup y = some .local)
  | _, _ => false
def chk (tx : Tx) : E → Ck
  | .nl => { l := fun _ es => es.isEmpty, lb := fun _ es => es.isEmpty, ko := fun _ ks => ks.isEmpty, lk := fun _ es ks => es.isEmpty && ks.isEmpty, o := fun _ a => a.isNone, z := fun _ es => es.isEmpty, gs := fun _ es => es.isEmpty, b := fun _ es => es.isEmpty, ll := fun _ es => es.isEmpty }
  | .cn h t => {
      l := fun c es => match es with
        | a :: r => (chk tx h).e c a && (chk tx t).l c r
        | [] => false
      lb := fun c es => match es with
        | a :: r => !isStar a && (chk tx h).v c a && (chk tx t).lb c r
        | [] => false
      ko := fun c ks => match ks with
        | k :: r => !isStar k.value && (chk tx h).e c k.value && (chk tx t).ko c r
        | [] => false
      lk := fun c es ks => match es with
        | a :: r => !isStar a && (chk tx h).e c a && (chk tx t).lk c r ks
        | [] => match ks with
          | k :: r => !isStar k.value && (chk tx h).e c k.value && (chk tx t).ko c r
          | [] => false
      s1 := fun c a => isNl t && !isStar a && (chk tx h).v c a
      r := fun c es => match es with
        | [a] => isNl t && !isStar a && (chk tx h).v c a
        | [a, b] => !isStar a && (chk tx h).v c a && (chk tx t).s1 c b
        | _ => false
      z := fun c es => match es with
        | a :: r => !isStar a && mFO (chk tx h).m && (chk tx h).v c a && (chk tx t).z c r
        | [] => false
      gs := fun c es => match es with
        | a :: r => !isStar a && (chk tx h).g c a && (chk tx t).gs c r
        | [] => false
      b := blkB h (chk tx h).x (chk tx t).b
      ll := fun c es => match es with
        | .Lambda params body scope _ :: r => noArgs params && LamX.lamSB c.sc scope && (chk tx h).v (c.lm scope) body && (chk tx t).ll c r
        | _ => false }
  | .st e => { e := fun c a => match a with
      | .Starred a _ => (chk tx e).v c a
      | _ => false }
  | .vr i => mkC .F fun c a => match a with
      | .Name x _ => decide (c.N[i]? = some x) && vis c x && ndb x
      | _ => false
  | .br i => mkC .T fun c a => match a with
      | .Name x _ => decide (c.N[i]? = some x) && vis c x && ndb x
      | _ => false
  | .ci i => mkC .F fun _ a => match a with
      | .Constant (.int j) _ _ => decide (i = j)
      | _ => false
  | .cb b => mkC .F fun _ a => match a with
      | .Constant (.bool j) _ _ => decide (b = j)
      | _ => false
  | .cnn => mkC .F fun _ a => match a with
      | .Constant .none _ _ => true
      | _ => false
  | .cs s => mkC .F fun _ a => match a with
      | .Constant (.str x) _ _ => decide (s = x)
      | _ => false
  | .tp es => mkC .O fun c a => match a with
      | .Tuple xs _ _ => (chk tx es).l c xs
      | _ => false
  | .ls es => mkC .O fun c a => match a with
      | .List xs _ => (chk tx es).l c xs
      | _ => false
  | .bin op a b => mkC .O fun c e => match e with
      | .BinOp x o y _ => decide (o = bopO op) && (chk tx a).v c x && (chk tx b).v c y
      | _ => false
  | .neg a => mkC .O fun c e => match e with
      | .UnaryOp .USub x _ => (chk tx a).v c x
      | _ => false
  | .nt a => { mkC .O (fun c e => match e with
      | .UnaryOp .Not x _ => (chk tx a).v c x
      | _ => false) with t := fun c e => match e with
      | .UnaryOp .Not x _ => (chk tx a).t c x
      | _ => false }
  | .cmp op a b => let v := fun c e => match e with
      | .Compare x [o] [y] _ => decide (o = copO op) && !behindInMarks (copO op) y && (chk tx a).v c x && (chk tx b).v c y
      | _ => false
    { mkC .O v with t := v }
  | .cm2 op op2 a b d => let v := fun c e => match e with
      | .Compare x [o, o2] [y, z] _ => decide (o = copO op) && decide (o2 = copO op2) && !lastMarks [copO op, copO op2] [y, z] && (chk tx a).v c x && (chk tx b).v c y && (chk tx d).v c z
      | _ => false
    { mkC .O v with t := v }
  | .an a b => let w := fun c e => match e with
      | .BoolOp .And (x :: y :: r) p => (chk tx a).t c x && (match r with
        | [] => (chk tx b).t c y
        | _ => (chk tx b).w c (.BoolOp .And (y :: r) p))
      | _ => false
    { mkC .F (fun c e => match e with
      | .BoolOp .And (x :: y :: r) p => (chk tx a).v c x && mFO (chk tx b).m && (match r with
        | [] => (chk tx b).v c y
        | _ => (chk tx b).v c (.BoolOp .And (y :: r) p))
      | _ => false) with t := w, w := w }
  | .or a b => let w := fun c e => match e with
      | .BoolOp .Or (x :: y :: r) p => (chk tx a).t c x && (match r with
        | [] => (chk tx b).t c y
        | _ => (chk tx b).w c (.BoolOp .Or (y :: r) p))
      | _ => false
    { mkC .F (fun c e => match e with
      | .BoolOp .Or (x :: y :: r) p => (chk tx a).v c x && mFO (chk tx b).m && (match r with
        | [] => (chk tx b).v c y
        | _ => (chk tx b).v c (.BoolOp .Or (y :: r) p))
      | _ => false) with t := w, w := w }
  | .ife d a b => mkC .F fun c e => match e with
      | .IfExp z x y _ => mFO (chk tx a).m && mFO (chk tx b).m && (chk tx d).t c z && (chk tx a).v c x && (chk tx b).v c y
      | _ => false
  | .call f es => mkC (owOf tx f) fun c e => match e with
      | .Call (.Name x _) xs [] _ => decide (nth tx.fn f = some (x, xs.length)) && glb c x && ndb x && xs.all (fun e => !isStar e) && (!xs.isEmpty || isNl es) && (chk tx es).l c xs
      | _ => false
  | .calk f es p => mkC (owOf tx f) fun c e => match e with
      | .Call (.Name x _) xs kws _ => match kwn kws with
        | some ns => decide (nth tx.fn f = some (x, p.length)) && decide ((xs.length, ns, p) ∈ klOf tx f) && glb c x && ndb x && xs.all (fun e => !isStar e) && (chk tx es).lk c xs kws && (!xs.isEmpty || (chk tx es).ko c kws)
        | none => false
      | _ => false
  | .gc x i => mkC .F fun c e => match e with
      | .Name y _ => decide (y = (x : Str)) && decide ((y, i) ∈ tx.gc) && glb c y && ndb y
      | _ => false
  | .dsp ks vs => mkC .O fun c e => match e with
      | .Dict keys values _ => keysB keys (keysOf ks) && decide (keys.length = values.length) && decide (keys.length ≤ 15) && (!values.isEmpty || isNl vs) && values.all (fun e => !isStar e) && (chk tx vs).l c values
      | _ => false
  | .blt b es => mkC .O fun c e => match e with
      | .Call (.Name x _) (a :: r) [] _ => decide (x = (bltS b : Str)) && glb c x && bltOk b && !(b == .repr && !tx.gf) && (a :: r).all (fun e => !isStar e) && (chk tx es).lb c (a :: r)
      | _ => false
  | .rpl es => mkC .O fun c e => match e with
      | .Call (.Name x _) [.List ys _] [] _ => decide (x = ("repr" : Str)) && glb c x && tx.gf && (chk tx es).lb c ys
      | _ => false
  | .sor a => mkC .O fun c e => match e with
      | .Call (.Name x _) [y] [] _ => decide (x = ("sorted" : Str)) && glb c x && !isStar y && (chk tx a).v c y
      | _ => false
  | .dz i j => mkC .O fun c e => match e with
      | .Dict [some (.Constant (.int a) _ _)] [.Constant (.int b) _ _] _ => decide (a = i) && decide (b = j)
      | _ => false
  | .lset a => mkC .O fun c e => match e with
      | .Call (.Name x _) [.Call (.Name x2 _) [y] [] _] [] _ => decide (x = ("len" : Str)) && glb c x && decide (x2 = ("set" : Str)) && glb c x2 && !isStar y && (chk tx a).v c y
      | _ => false
  | .sset a => mkC .O fun c e => match e with
      | .Call (.Name x _) [.Call (.Name x2 _) [y] [] _] [] _ => decide (x = ("sorted" : Str)) && glb c x && decide (x2 = ("set" : Str)) && glb c x2 && !isStar y && (chk tx a).v c y
      | _ => false
  | .isi a ts => mkC .O fun c e => match e with
      | .Call (.Name x _) [y, .Name n q] [] _ => decide (x = ("isinstance" : Str)) && glb c x && !isStar y && (chk tx a).v c y && tysB c [.Name n q] ts
      | .Call (.Name x _) [y, .Tuple es _ _] [] _ => decide (x = ("isinstance" : Str)) && glb c x && !isStar y && (chk tx a).v c y && tysB c es ts && decide (ts.length ≤ 6)
      | _ => false
  | .ise a cs => mkC .O fun c e => match e with
      | .Call (.Name x _) [y, .Name n q] [] _ => decide (x = ("isinstance" : Str)) && glb c x && !isStar y && mFO (chk tx a).m && (chk tx a).v c y && clsB tx c [.Name n q] cs
      | .Call (.Name x _) [y, .Tuple es _ _] [] _ => decide (x = ("isinstance" : Str)) && glb c x && !isStar y && mFO (chk tx a).m && (chk tx a).v c y && clsB tx c es cs && decide (cs.length ≤ 6)
      | _ => false
  | .sub a i => mkC .F fun c e => match e with
      | .Subscript x y _ => !isSlice y && (chk tx a).v c x && (chk tx i).v c y
      | _ => false
  | .slc a lo hi => mkC .O fun c e => match e with
      | .Subscript x (.Slice l h none _) _ => (chk tx a).v c x && (chk tx lo).o c l && (chk tx hi).o c h
      | _ => false
  | .lc tg it cond elt vs => let v := fun c e => match e with
      | .ListComp y [⟨t, i, ifs, 0⟩] scope _ => blkC c.N c.sc scope (ownOf c.N vs) && decide (∀ k ∈ tgs tg, k ∈ vs) && notSet i && (chk tx it).i c t i && (chk tx tg).g (c.blk scope) t && tests (chk tx cond).t cond (c.blk scope) ifs && mFO (chk tx elt).m && (chk tx elt).v (c.blk scope) y
      | _ => false
    { mkC .O v with s := setC v }
  | .lc2 tg it cond tg2 it2 cond2 elt vs vs2 => let v := fun c e => match e with
      | .ListComp y [⟨t, i, ifs, 0⟩, ⟨t2, i2, ifs2, 0⟩] scope _ => blkC c.N c.sc scope (ownOf c.N vs) && decide (∀ k ∈ tgs tg, k ∈ vs) && decide (∀ k ∈ vs2, k ∈ vs) && decide (∀ k ∈ tgs tg2, k ∈ vs2) && notSet i && notSet i2 && (chk tx it).i c t i && (chk tx tg).g (c.blk scope) t && tests (chk tx cond).t cond (c.blk scope) ifs &&
          (chk tx it2).j (c.blk scope) t2 i2 && (chk tx tg2).g (c.blk scope) t2 && tests (chk tx cond2).t cond2 (c.blk scope) ifs2 && mFO (chk tx elt).m && (chk tx elt).v (c.blk scope) y
      | _ => false
    { mkC .O v with s := setC v }
  | .li it => mkC .O fun c e => match e with
      | .Call (.Name x _) [y] [] _ => decide (x = ("list" : Str)) && glb c x && !isStar y && (chk tx it).li c y
      | _ => false
  | .ti it => mkC .O fun c e => match e with
      | .Call (.Name x _) [y] [] _ => decide (x = ("tuple" : Str)) && glb c x && !isStar y && (chk tx it).ti c y
      | _ => false
  | .newc e => { mkC .F (fun c a => decide ((chk tx e).m = .O) && (chk tx e).v c a) with s := fun c i st => decide ((chk tx e).m = .O) && (chk tx e).s c i st }
  | .popc b _ => mkC .F fun c e => match e with
      | .Call (.Attribute x n ap) [.Constant (.int 0) _ _] [] cp => decide (n = ("pop" : Str)) && isSubs x && (ap.endLine == cp.line) && mFO (chk tx b).m && (chk tx b).v c x
      | _ => false
  | .cgt e => mkC .F fun c a => match a with
      | .Call (.Name x _) [.Lambda params body scope _] [] _ => c.lam && decide (x = cgName) && glb c x && noArgs params && LamX.lamSB c.sc scope && (chk tx e).v (c.lm scope) body
      | _ => false
  | .tg i => { g := fun c a => match a with
      | .Name x _ => decide (c.N[i]? = some x) && sto c x
      | _ => false }
  | .tt es => { g := fun c a => match a with
      | .Tuple xs _ _ => isL es && decide (xs.length = elen es) && xs.all (fun e => !isStar e) && (chk tx es).gs c xs
      | _ => false }
  | .itv e => {
      i := fun c _ a => (chk tx e).v c a
      j := fun c _ a => mFO (chk tx e).m && (chk tx e).v c a
      li := fun c a => (chk tx e).v c a
      ti := fun c a => (chk tx e).v c a }
  | .itr es => let f := fun (c : Sc) (a : Expr) => match a with
      | .Call (.Name x _) xs [] _ => decide (x = ("range" : Str)) && glb c x && (chk tx es).r c xs
      | _ => false
    { i := fun c _ a => f c a, j := fun c _ a => f c a, li := fun c a => match a with
      | .Call (.Name x _) [y] [] _ => decide (x = ("range" : Str)) && glb c x && (chk tx es).s1 c y
      | _ => false }
  | .itz es => let f := fun (c : Sc) (t a : Expr) => match t, a with
      | .Tuple _ _ _, .Call (.Name x _) xs [] _ => decide (x = ("zip" : Str)) && glb c x && (decide (xs.length = 2) || decide (xs.length = 3)) && (chk tx es).z c xs
      | _, _ => false
    { i := f, j := f }
  | .ite e => let f := fun (c : Sc) (t a : Expr) => match t, a with
      | .Tuple _ _ _, .Call (.Name x _) [y] [] _ => decide (x = ("enumerate" : Str)) && glb c x && !isStar y && mFO (chk tx e).m && (chk tx e).v c y
      | _, _ => false
    { i := f, j := f }
  | .asg t e => { x := fun c st => c.st && (match t with
      | .tg i => mFO (chk tx e).m && (chk tx e).s c i st
      | _ => match st with
        | .Assign [.Tuple xs k p] a _ => (!isTupE a || notBoth c xs a) && mFO (chk tx e).m && (chk tx t).g c (.Tuple xs k p) && (chk tx e).v c a
        | _ => false) }
  | .asgo i e => { x := fun c st => c.st && decide ((chk tx e).m = .O) && (chk tx e).s c i st }
  | .par i j a b oi oj => { x := fun c st => match st with
      | .Assign [.Tuple [.Name x px, .Name y py] _ _] (.Tuple [u, w] _ _) _ => c.st && decide (c.N[i]? = some x) && decide (c.N[j]? = some y) && decide (i ≠ j) &&
          ((decide (c.sc.names.lookup x = some .local) && decide (c.sc.names.lookup y = some .local) && !(x == y) && (py.line == px.line) && !(foldedForSure 8 u && foldedForSure 8 w) && !(constantsAlone 8 u && constantsAlone 8 w)) ||
            (sto c x && sto c y && (!decide (c.sc.names.lookup x = some .local) || !decide (c.sc.names.lookup y = some .local)))) &&
          !isStar u && !isStar w && (if oi then decide ((chk tx a).m = .O) else mFO (chk tx a).m) && (if oj then decide ((chk tx b).m = .O) else mFO (chk tx b).m) && (chk tx a).v c u && (chk tx b).v c w
      | _ => false }
  | .app i e => { x := fun c st => match st with
      | .Expr (.Call (.Attribute (.Name x _) n ap) [a] [] cp) _ => c.st && decide (n = ("append" : Str)) && decide (c.N[i]? = some x) && vis c x && ndb x && !isStar a && (ap.endLine == cp.line) && mFO (chk tx e).m && (chk tx e).v c a
      | _ => false }
  | .clr i => { x := fun c st => match st with
      | .Expr (.Call (.Attribute (.Name x _) n ap) [] [] cp) _ => c.st && decide (n = ("clear" : Str)) && decide (c.N[i]? = some x) && vis c x && ndb x && (ap.endLine == cp.line)
      | _ => false }
  | .popt i j e => { x := fun c st => match st with
      | .Assign [.Name y _] (.Call (.Attribute (.Name x _) n ap) [a] [] cp) _ => c.st && decide (n = ("pop" : Str)) && decide (c.N[i]? = some y) && sto c y && decide (c.N[j]? = some x) && vis c x && ndb x && !isStar a && (ap.endLine == cp.line) && (chk tx e).v c a
      | _ => false }
  | .apop i j e => { x := fun c st => match st with
      | .Expr (.Call (.Attribute (.Name y _) n2 ap2) [.Call (.Attribute (.Name x _) n ap) [a] [] cp] [] cp2) _ => c.st && decide (n2 = ("append" : Str)) && decide (n = ("pop" : Str)) && decide (c.N[i]? = some y) && vis c y && ndb y && decide (c.N[j]? = some x) && vis c x && ndb x && !isStar a && (ap.endLine == cp.line) && (ap2.endLine == cp2.line) && (chk tx e).v c a
      | _ => false }
  | .cset b k e => { x := fun c st => match st with
      | .Assign [.Subscript x y _] a _ => c.st && mFO (chk tx b).m && mFO (chk tx e).m && (chk tx b).v c x && (chk tx k).v c y && (chk tx e).v c a
      | _ => false }
  | .exs e => { x := fun c st => match st with
      | .Expr a _ => c.st && notComp a && (chk tx e).v c a
      | _ => false }
  | .ret e => { x := fun c st => match st with
      | .Return (some a) _ => c.st && (if c.own then decide ((chk tx e).m = .O) else mFO (chk tx e).m) && (chk tx e).v c a
      | _ => false }
  | .rmv i => { x := fun c st => match st with
      | .Return (some (.Name x _)) _ => c.st && decide (c.N[i]? = some x) && vis c x && ndb x
      | _ => false }
  | .retn => { x := fun c st => match st with
      | .Return none _ => c.st
      | _ => false }
  | .iff d a b => { x := fun c st => match st with
      | .If z x y _ => c.st && (chk tx d).t c z && (chk tx a).b c x && (chk tx b).b c y
      | _ => false }
  | .wh d b => { x := fun c st => match st with
      | .While z x [] _ => c.st && (chk tx d).t c z && (chk tx b).b c x
      | _ => false }
  | .for_ t it b => { x := fun c st => match st with
      | .For y i x [] _ => c.st && notSet i && (chk tx it).j c y i && (chk tx t).g c y && (chk tx b).b c x
      | _ => false }
  | .rs k m => { x := fun c st => match st with
      | .Raise (some (.Call (.Name x _) [.Constant (.str _) _ _] [] _)) none _ => c.st && decide (nth tx.xs k = some x) && glb c x && ndb x
      | _ => false }
  | .ps => { x := fun c st => match st with
      | .Pass _ => c.st
      | _ => false }
  | .brk => { x := fun c st => match st with
      | .Break _ => c.st
      | _ => false }
  | .lams w es cs => { x := fun c st => match st with
      | .For (.Name wn _) (.List ls _) [.If (.UnaryOp .Not (.Call (.Name isi _) [.Call (.Name cg _) [.Name w2 _] [] _, .Name cls _] [] _) _) [.Return (some (.Constant (.bool false) _ _)) _] [] _] [] _ =>
        c.st && c.lam && decide (c.N[w]? = some wn) && decide (w2 = wn) && sto c wn && vis c wn && ndb wn && decide (isi = ("isinstance" : Str)) && glb c isi && decide (cg = cgName) && glb c cg && oneC tx c cls cs && (chk tx es).ll c ls && decide (ls.length ≤ 60)
      | _ => false }
  | .cnt => { x := fun c st => match st with
      | .Continue _ => c.st
      | _ => false }
  | _ => {}
end MR
set_option Elab.async false
set_option linter.all false
set_option maxRecDepth 100000
namespace MR
open PySem PySem.Spec PyProof.Rows L2

/-- lambdas as values, handed to the def that keeps what they raise -/
structure CgL (gf : Bool) (o : Om) (X : Cx) (CS : Addr) : Prop where
  lam : ∀ (params : Arguments) (body : Expr) (scope : Scope) (lpos : Pos), noArgs params = true → LamX.LamS X.env.scope scope → PE X (.Lambda params body scope lpos) (tLamV o.tb X params body scope)
  call : ∀ (k : Nat) (params : Arguments) (body : Expr) (scope : Scope) (t : XK → TE) (w : Nat) (wn : Str) (p wp pos : Pos), Gl X cgName → noArgs params = true → LamX.LamS X.env.scope scope → Room (k + 2) X.A → GdOk gf X.A → X.N[w]? = some wn → Vis X.env.scope wn → ndb wn = true →
      (∀ (A : Around) (outer : List PySem.Env) (s : Shared) (H : Hp) (E : XK) (f c' : Addr), Room k (A.deeper (LamX.lamEnv X scope s.heap.objs.size f c')) → GdOk gf A → PE (LamX.lamCx X A outer s H E scope f c') body (t E)) →
      PE X (.Call (.Name cgName p) [.Name wn wp] [] pos) (fun σ H Q => ∃ f, σ[w]? = some (some (.ref f)) ∧ LamIs X params body scope f H ∧ TTc X.K CS (fun E H' Q' => t E σ H' Q') H Q)
/-- the def that keeps what a lambda raises, as it stands; the table of a code object -/
structure Cg (gf : Bool) (o : Om) (X : Cx) : Prop where
  ok : ∃ (CS : Addr), (∀ c, PySem.W.exmOne o.K (.ref (o.xc c)) (.ref CS) = some true) ∧
    (∀ (k : Nat) (params : Arguments) (body : Expr) (scope : Scope) (t : XK → TE) (p lpos pos : Pos), Gl X cgName → noArgs params = true → LamX.LamS X.env.scope scope → Room (k + 2) X.A → GdOk gf X.A →
      (∀ (A : Around) (outer : List PySem.Env) (s : Shared) (H : Hp) (E : XK) (f c' : Addr), Room k (A.deeper (LamX.lamEnv X scope s.heap.objs.size f c')) → GdOk gf A → PE (LamX.lamCx X A outer s H E scope f c') body (t E)) →
      PE X (.Call (.Name cgName p) [.Lambda params body scope lpos] [] pos) (tLamG o.tb (TTc X.K CS) t)) ∧ CgL gf o X CS
/-- where a piece stands, in full -/
structure Sok (o : Om) (tx : Tx) (Φ : Nat → List D → S → R D) (kf : Nat) (gE : GE) (W : WX) (X : Cx) (c : Sc) : Prop where
  K : X.K = o.K
  calm : X.calm = true
  nd : X.N.Nodup
  tk : Takes X W
  gd : GdOk tx.gf X.A
  N : X.N = c.N
  sc : X.env.scope = c.sc
  kind : X.env.scope.kind = .function
  cf : ∀ x ∈ c.cf, X.fn x = true
  room : ∃ r, Room r X.A ∧ kf ≤ r ∧ (c.lam = true → kf + 2 ≤ r)
  fn : ∀ i x np, nth tx.fn i = some (x, np) → Fd tx.gf o X.prog X.w X.K X.mg X.base kf x np (klOf tx i) (owOf tx i) (Φ i)
  bl : ∀ x ∈ blN, X.mg x = none
  xc : ∀ i x, nth tx.xs i = some x → Xc o X.K X.mg i x
  xf : XcF o tx.xs.length
  gc : ∀ x i, (x, i) ∈ tx.gc → ∃ t, X.mg x = some (.int i t)
  po : c.st = true → PassesOwn (model X.prog X.w) X.A X.env X.xe
  cg : c.lam = true → Cg tx.gf o X
  rt : c.st = true → gE.rm = if c.own = true then .O else .F
section
variable {o : Om} {tx : Tx} {Φ : Nat → List D → S → R D} {kf : Nat} {gE : GE} {W : WX} {X : Cx} {c : Sc}
theorem Sok.hu (s : Sok o tx Φ kf gE W X c) : X.A.units + 64 < cLine := by
  obtain ⟨r, h, _⟩ := s.room
  have := h.un
  omega
theorem Sok.rm (s : Sok o tx Φ kf gE W X c) : Room kf X.A := by
  obtain ⟨r, h, l, _⟩ := s.room
  exact h.mono l
theorem Sok.gl (s : Sok o tx Φ kf gE W X c) {x : Str} (h : glb c x = true) : Gl X x := by
  show X.env.scope.names.lookup x = _
  rw [s.sc]
  exact of_decide_eq_true h
theorem Sok.vis (s : Sok o tx Φ kf gE W X c) {x : Str} (h : vis c x = true) : Vis X.env.scope x := by
  unfold Vis
  rw [s.sc]
  unfold MR.vis at h
  simp only [Bool.or_eq_true, decide_eq_true_eq] at h
  rcases h with (h | h) | h
  · exact .inl h
  · exact .inr (.inl h)
  · exact .inr (.inr h)
theorem ndb_of {x : Str} (h : ndb x = true) : (x == ("__debug__" : Str)) = false ∧ (x == ("__classdict__" : Str)) = false := by
  unfold ndb at h
  simp only [Bool.and_eq_true, Bool.not_eq_true'] at h
  exact h
theorem Sok.sto (s : Sok o tx Φ kf gE W X c) {x : Str} (h : sto c x = true) : L2.Loc X.env.scope x ∧ (X.fn x = true ∨ X.env.scope.names.lookup x = some .local) := by
  unfold L2.Loc
  rw [s.sc]
  unfold MR.sto at h
  simp only [Bool.or_eq_true, Bool.and_eq_true, decide_eq_true_eq] at h
  rcases h with h | ⟨h, m⟩
  · exact ⟨.inl h, .inr h⟩
  · exact ⟨.inr h, .inl (s.cf x m)⟩
theorem Sok.rtm (s : Sok o tx Φ kf gE W X c) (h : c.st = true) : gE.rm = .F ∨ gE.rm = .O := by
  rw [s.rt h]
  cases c.own
  · exact .inl rfl
  · exact .inr rfl
theorem Sok.nn (s : Sok o tx Φ kf gE W X c) {i : Nat} {x : Str} (h : c.N[i]? = some x) : X.N[i]? = some x := by
  rw [s.N]
  exact h
/-- a comprehension's block -/
theorem Sok.blk (s : Sok o tx Φ kf gE W X c) {scope : Scope} (hk : scope.kind = .function) (s0 : Shared) (H : Hp) (C : Addr) (cl : List (Str × Addr)) (fp : List Addr) : Sok o tx Φ kf gE Wn (X.blk s0 H scope (compEnvC scope cl C X.env) fp) (c.blk scope) where
  K := s.K
  calm := s.calm
  nd := s.nd
  tk := takes0
  gd := s.gd
  N := s.N
  sc := by
    show relS scope X.env.scope = relS scope c.sc
    rw [s.sc]
  kind := hk
  cf := fun x hx => by
    show (scope.names.lookup x == some NameKind.cell) = true
    obtain ⟨y, hy, rfl⟩ := List.mem_map.mp hx
    have := (List.mem_filter.mp hy).2
    rw [decide_eq_true_eq] at this
    rw [this]
    rfl
  room := by
    obtain ⟨r, h, l, _⟩ := s.room
    exact ⟨r, h, l, fun z => by cases z⟩
  fn := s.fn
  bl := s.bl
  xc := s.xc
  xf := s.xf
  gc := s.gc
  po := fun z => by cases z
  cg := fun z => by cases z
  rt := fun z => by cases z
/-- a lambda's body -/
theorem Sok.lm (s : Sok o tx Φ kf gE W X c) {scope : Scope} (hk : scope.kind = .function) {A : Around} {outer : List PySem.Env} {s0 : Shared} {H : Hp} {E : XK} {f c' : Addr} (hr : Room kf (A.deeper (LamX.lamEnv X scope s0.heap.objs.size f c'))) (hg : GdOk tx.gf A) :
    Sok o tx Φ kf gE (wE E) (LamX.lamCx X A outer s0 H E scope f c') (c.lm scope) where
  K := s.K
  calm := rfl
  nd := s.nd
  tk := takes_of rfl rfl rfl rfl
  gd := hg
  N := s.N
  sc := rfl
  kind := hk
  cf := fun x hx => by cases hx
  room := ⟨kf, hr, Nat.le_refl _, fun z => by cases z⟩
  fn := s.fn
  bl := s.bl
  xc := s.xc
  xf := s.xf
  gc := s.gc
  po := fun z => by cases z
  cg := fun z => by cases z
  rt := fun z => by cases z
end
/-- arguments of zip -/
inductive ZArgs (o : Om) (H0 : Hp) (W : WX) (X : Cx) : List Expr → (Env → S → R (List (List D))) → Prop where
  | nil : ZArgs o H0 W X [] ilNil
  | cons {a : Expr} {es : List Expr} {f : Env → S → R D} {il : Env → S → R (List (List D))} (h : PE X a (tE o H0 W .F f)) (hs : isStar a = false) (r : ZArgs o H0 W X es il) : ZArgs o H0 W X (a :: es) (ilCons f il)
/-- the checker is right about a piece -/
structure Snd (o : Om) (tx : Tx) (Φ : Nat → List D → S → R D) (kf : Nat) (H0 : Hp) (gE : GE) (D : Den) (C : Ck) : Prop where
  m : C.m ≠ .H
  v : ∀ W X c a, Sok o tx Φ kf gE W X c → C.v c a = true → PE X a (tE o H0 W C.m D.v)
  ev : ∀ c a, C.v c a = true → D.e = evl1 D.v
  t : ∀ W X c a, Sok o tx Φ kf gE W X c → C.t c a = true → PT X a (tT o H0 W D.t)
  w : ∀ W X c a, Sok o tx Φ kf gE W X c → C.w c a = true → PW X a (tT o H0 W D.t)
  e : ∀ W X c a, Sok o tx Φ kf gE W X c → C.e c a = true → ∀ es l, PA X es (tL o H0 W l) → PA X (a :: es) (tL o H0 W (lCons D.e l))
  e1 : ∀ c a, C.e c a = true → isStar a = false → ∀ ρ s ds s', D.e ρ s = .ok ds s' → ds.length = 1
  ep : ∀ W X c a, Sok o tx Φ kf gE W X c → C.e c a = true → isStar a = false → ∃ f, PE X a (tE o H0 W .F f) ∧ D.e = evl1 f
  l : ∀ W X c es, Sok o tx Φ kf gE W X c → C.l c es = true → PA X es (tL o H0 W D.l)
  ln : ∀ c es, C.l c es = true → (es.all fun a => !isStar a) = true → ∀ ρ s ds s', D.l ρ s = .ok ds s' → ds.length = es.length
  lp : ∀ W X c es, Sok o tx Φ kf gE W X c → C.l c es = true → (es.all fun a => !isStar a) = true → ∀ pos keys ks, keysB keys ks = true → keys.length = es.length → PpR o H0 W X pos keys es ks D.l
  ko : ∀ W X c ks, Sok o tx Φ kf gE W X c → C.ko c ks = true → KOnly o H0 W X ks D.l
  lk : ∀ W X c es ks, Sok o tx Φ kf gE W X c → C.lk c es ks = true → KSplit o H0 W X es ks D.l
  lb : ∀ W X c es, Sok o tx Φ kf gE W X c → C.lb c es = true → PA X es (tLb o H0 W D.lb)
  oo : ∀ W X c a, Sok o tx Φ kf gE W X c → C.o c a = true → PO X a (tOpt o H0 W D.o)
  i : ∀ W X c t a, Sok o tx Φ kf gE W X c → C.i c t a = true → PI X t a (tIE o H0 W D.i)
  j : ∀ W X c t a, Sok o tx Φ kf gE W X c → C.j c t a = true → PI X t a (tIF o H0 W D.i)
  s1 : ∀ W X c a, Sok o tx Φ kf gE W X c → C.s1 c a = true → ∃ f md, PE X a (tE o H0 W md f) ∧ isStar a = false ∧ D.l = lCons (evl1 f) lNil
  r : ∀ W X c es, Sok o tx Φ kf gE W X c → C.r c es = true → Gl X "range" → ∀ t p pos, PI X t (.Call (.Name "range" p) es [] pos) (tIF o H0 W (iRng D.l))
  z : ∀ W X c es, Sok o tx Φ kf gE W X c → C.z c es = true → ZArgs o H0 W X es D.il
  li : ∀ W X c a, Sok o tx Φ kf gE W X c → C.li c a = true → isStar a = false → Gl X "list" → ∀ p pos, PE X (.Call (.Name "list" p) [a] [] pos) (tE o H0 W .O (vLi D.i))
  ti : ∀ W X c a, Sok o tx Φ kf gE W X c → C.ti c a = true → isStar a = false → Gl X "tuple" → ∀ p pos, PE X (.Call (.Name "tuple" p) [a] [] pos) (tE o H0 W .O (vTi D.i))
  s : ∀ W X c i st, Sok o tx Φ kf gE W X c → C.s c i st = true → SetR o H0 W X st i C.m D.v
  x : ∀ W X c st, Sok o tx Φ kf gE W X c → C.x c st = true → PS X st (tX o H0 gE W D.x)
  b : ∀ W X c b, Sok o tx Φ kf gE W X c → C.b c b = true → PSs X b (tX o H0 gE W D.x)
  ll : ∀ W X c ls CS w wn p wp pos, Sok o tx Φ kf gE W X c → C.ll c ls = true → c.lam = true → CgL tx.gf o X CS → Gl X cgName → X.N[w]? = some wn → Vis X.env.scope wn → ndb wn = true → LamPs o H0 X CS w (.Call (.Name cgName p) [.Name wn wp] [] pos) ls D.ll ∧ D.ll.length = ls.length
section
variable {o : Om} {tx : Tx} {Φ : Nat → List D → S → R D} {kf : Nat} {H0 : Hp} {gE : GE}
/-- a piece that is no value, no test, .. -/
theorem Snd.none (D : Den) : Snd o tx Φ kf H0 gE D {} where
  m := by decide
  v := fun _ _ _ _ _ h => by cases h
  ev := fun _ _ h => by cases h
  t := fun _ _ _ _ _ h => by cases h
  w := fun _ _ _ _ _ h => by cases h
  e := fun _ _ _ _ _ h => by cases h
  e1 := fun _ _ h => by cases h
  ep := fun _ _ _ _ _ h => by cases h
  l := fun _ _ _ _ _ h => by cases h
  ln := fun _ _ h => by cases h
  lp := fun _ _ _ _ _ h => by cases h
  ko := fun _ _ _ _ _ h => by cases h
  lk := fun _ _ _ _ _ _ h => by cases h
  lb := fun _ _ _ _ _ h => by cases h
  oo := fun _ _ _ _ _ h => by cases h
  i := fun _ _ _ _ _ _ h => by cases h
  j := fun _ _ _ _ _ _ h => by cases h
  s1 := fun _ _ _ _ _ h => by cases h
  r := fun _ _ _ _ _ h => by cases h
  z := fun _ _ _ _ _ h => by cases h
  li := fun _ _ _ _ _ h => by cases h
  ti := fun _ _ _ _ _ h => by cases h
  s := fun _ _ _ _ _ _ h => by cases h
  x := fun _ _ _ _ _ h => by cases h
  b := fun _ _ _ _ _ h => by cases h
  ll := fun _ _ _ _ _ _ _ _ _ _ _ h => by cases h
theorem mFO_of {m : Md} (h : mFO m = true) : m = .F ∨ m = .O := by
  cases m <;> first | exact .inl rfl | exact .inr rfl | cases h
/-- a value -/
theorem Snd.val {m : Md} {f : Sc → Expr → Bool} {v : Env → S → R MR.D} (hm : m ≠ .H) (hv : ∀ W X c a, Sok o tx Φ kf gE W X c → f c a = true → PE X a (tE o H0 W m v)) : Snd o tx Φ kf H0 gE (mkV v) (mkC m f) :=
  { Snd.none (mkV v) with
    m := hm
    v := hv
    ev := fun _ _ _ => rfl
    t := fun W X c a s h => by
      have h : (plainT a && f c a) = true := h
      simp only [Bool.and_eq_true] at h
      exact x_truth s.K hm (hv W X c a s h.2) (plainT_of h.1)
    e := fun W X c a s h es l hl => by
      have h : (mFO m && !isStar a && f c a) = true := h
      simp only [Bool.and_eq_true, Bool.not_eq_true'] at h
      exact x_acons (pe_F (mFO_of h.1.1) (hv W X c a s h.2)) hl h.1.2
    e1 := fun c a _ _ ρ s ds s' h => by
      have h : evl1 v ρ s = .ok ds s' := h
      unfold evl1 at h
      obtain ⟨x, s1, _, h⟩ := R.bind_ok h
      cases h
      rfl
    ep := fun W X c a s h _ => by
      have h : (mFO m && !isStar a && f c a) = true := h
      simp only [Bool.and_eq_true, Bool.not_eq_true'] at h
      exact ⟨v, pe_F (mFO_of h.1.1) (hv W X c a s h.2), rfl⟩
    oo := fun W X c a s h => by
      cases a with
      | none => cases h
      | some a => exact x_osome (hv W X c a s h)
    s := fun W X c i st s h => by
      have h : setB f c i st = true := h
      unfold setB at h
      split at h
      · simp only [Bool.and_eq_true, decide_eq_true_eq] at h
        obtain ⟨⟨⟨h1, h2⟩, h3⟩, h4⟩ := h
        exact set_of s.nd (s.nn h1) (s.sto h2).1 (hv W X c _ s h4) (swaps_no h3) (s.sto h2).2
      · cases h }
end
end MR
set_option Elab.async false
set_option linter.all false
set_option maxRecDepth 100000
namespace MR
open PySem PySem.Spec PyProof.Rows L2
section
variable {o : Om} {tx : Tx} {Φ : Nat → List D → S → R D} {kf : Nat} {H0 : Hp} {gE : GE} {fuel : Nat}
abbrev Gg (Φ : Nat → List D → S → R D) (fuel : Nat) : G := ⟨Φ, txt, fuel⟩
abbrev SndE (o : Om) (tx : Tx) (Φ : Nat → List D → S → R D) (kf : Nat) (H0 : Hp) (gE : GE) (fuel : Nat) (e : E) : Prop := Snd o tx Φ kf H0 gE (den (Gg Φ fuel) e) (chk tx e)
theorem dc {p : Prop} [Decidable p] (h : decide p = true) : p := of_decide_eq_true h
theorem n_vr (i : Nat) : SndE o tx Φ kf H0 gE fuel (.vr i) := .val (by decide) fun W X c a s h => by
  split at h
  · simp only [Bool.and_eq_true] at h
    obtain ⟨⟨h1, h2⟩, h3⟩ := h
    exact x_vr (s.nn (dc h1)) (s.vis h2) (ndb_of h3).1 (ndb_of h3).2
  · cases h
theorem n_br (i : Nat) : SndE o tx Φ kf H0 gE fuel (.br i) := .val (by decide) fun W X c a s h => by
  split at h
  · simp only [Bool.and_eq_true] at h
    obtain ⟨⟨h1, h2⟩, h3⟩ := h
    exact x_br (s.nn (dc h1)) (s.vis h2) (ndb_of h3).1 (ndb_of h3).2
  · cases h
theorem n_ci (i : Int) : SndE o tx Φ kf H0 gE fuel (.ci i) := .val (by decide) fun W X c a s h => by
  split at h
  · obtain rfl := dc h
    exact x_ci
  · cases h
theorem n_cb (i : Bool) : SndE o tx Φ kf H0 gE fuel (.cb i) := .val (by decide) fun W X c a s h => by
  split at h
  · obtain rfl := dc h
    exact x_cb
  · cases h
theorem n_cnn : SndE o tx Φ kf H0 gE fuel .cnn := .val (by decide) fun W X c a s h => by
  split at h
  · exact x_cnn
  · cases h
theorem n_cs (i : Str) : SndE o tx Φ kf H0 gE fuel (.cs i) := .val (by decide) fun W X c a s h => by
  split at h
  · obtain rfl := dc h
    exact x_cs
  · cases h
theorem n_tp {es : E} (h1 : SndE o tx Φ kf H0 gE fuel es) : SndE o tx Φ kf H0 gE fuel (.tp es) := .val (by decide) fun W X c a s h => by
  split at h
  · exact x_tup (h1.l W X c _ s h)
  · cases h
theorem n_ls {es : E} (h1 : SndE o tx Φ kf H0 gE fuel es) : SndE o tx Φ kf H0 gE fuel (.ls es) := .val (by decide) fun W X c a s h => by
  split at h
  · exact x_lst (h1.l W X c _ s h)
  · cases h
theorem binR_of {X : Cx} (hK : X.K = o.K) : ∀ op : BOp, ∃ r, BinR o X op r
  | .add => ⟨_, bin_add hK⟩
  | .sub => ⟨_, bin_sub⟩
  | .mul => ⟨_, bin_mul hK⟩
  | .fdiv => ⟨_, bin_fdiv⟩
  | .mod => ⟨_, bin_mod⟩
  | .pow => ⟨_, bin_pow⟩
theorem n_bin {op : BOp} {a b : E} (h1 : SndE o tx Φ kf H0 gE fuel a) (h2 : SndE o tx Φ kf H0 gE fuel b) : SndE o tx Φ kf H0 gE fuel (.bin op a b) := .val (by decide) fun W X c e s h => by
  split at h
  · simp only [Bool.and_eq_true] at h
    obtain ⟨⟨e1, e2⟩, e3⟩ := h
    obtain rfl := dc e1
    obtain ⟨r, hr⟩ := binR_of (o := o) (X := X) s.K op
    exact x_bin h1.m h2.m (h1.v W X c _ s e2) (h2.v W X c _ s e3) hr
  · cases h
theorem n_neg {a : E} (h1 : SndE o tx Φ kf H0 gE fuel a) : SndE o tx Φ kf H0 gE fuel (.neg a) := .val (by decide) fun W X c e s h => by
  split at h
  · exact x_neg (h1.v W X c _ s h)
  · cases h
theorem n_nt {a : E} (h1 : SndE o tx Φ kf H0 gE fuel a) : SndE o tx Φ kf H0 gE fuel (.nt a) := by
  have key : ∀ W X c e, Sok o tx Φ kf gE W X c → (chk tx (.nt a)).v c e = true → PE X e (tE o H0 W .O (vNotB (den (Gg Φ fuel) a).v)) := fun W X c e s h => by
    dsimp only [chk, mkC] at h
    split at h
    · exact x_not (h1.v W X c _ s h)
    · cases h
  exact { Snd.val (o := o) (tx := tx) (Φ := Φ) (kf := kf) (H0 := H0) (gE := gE) (m := .O) (v := vNotB (den (Gg Φ fuel) a).v) (f := (chk tx (.nt a)).v) (by decide) key with
    t := fun W X c e s h => by
      dsimp only [chk] at h
      split at h
      · exact x_notT (h1.t W X c _ s h)
      · cases h
    w := fun W X c e s h => by cases h }
theorem n_cmp {op : COp} {a b : E} (h1 : SndE o tx Φ kf H0 gE fuel a) (h2 : SndE o tx Φ kf H0 gE fuel b) : SndE o tx Φ kf H0 gE fuel (.cmp op a b) := by
  have key : ∀ W X c e, Sok o tx Φ kf gE W X c → (chk tx (.cmp op a b)).v c e = true → PE X e (tE o H0 W .O (vCmp op (den (Gg Φ fuel) a).v (den (Gg Φ fuel) b).v)) ∧ PT X e (tT o H0 W (tv (vCmp op (den (Gg Φ fuel) a).v (den (Gg Φ fuel) b).v))) := fun W X c e s h => by
    dsimp only [chk, mkC] at h
    split at h
    · simp only [Bool.and_eq_true, Bool.not_eq_true'] at h
      obtain ⟨⟨⟨e1, e2⟩, e3⟩, e4⟩ := h
      obtain rfl := dc e1
      obtain ⟨r, hr⟩ := cmpR (o := o) s.K s.hu op
      exact ⟨x_cmp h1.m h2.m (h1.v W X c _ s e3) (h2.v W X c _ s e4) hr e2, x_cmpT h1.m h2.m (h1.v W X c _ s e3) (h2.v W X c _ s e4) hr e2⟩
    · cases h
  exact { Snd.val (o := o) (tx := tx) (Φ := Φ) (kf := kf) (H0 := H0) (gE := gE) (m := .O) (v := vCmp op (den (Gg Φ fuel) a).v (den (Gg Φ fuel) b).v) (f := (chk tx (.cmp op a b)).v) (by decide) fun W X c e s h => (key W X c e s h).1 with
    t := fun W X c e s h => (key W X c e s h).2 }
theorem n_cm2 {op op2 : COp} {a b d : E} (h1 : SndE o tx Φ kf H0 gE fuel a) (h2 : SndE o tx Φ kf H0 gE fuel b) (h3 : SndE o tx Φ kf H0 gE fuel d) : SndE o tx Φ kf H0 gE fuel (.cm2 op op2 a b d) := by
  have key : ∀ W X c e, Sok o tx Φ kf gE W X c → (chk tx (.cm2 op op2 a b d)).v c e = true → PE X e (tE o H0 W .O (vCm2 op op2 (den (Gg Φ fuel) a).v (den (Gg Φ fuel) b).v (den (Gg Φ fuel) d).v)) ∧ PT X e (tT o H0 W (tv (vCm2 op op2 (den (Gg Φ fuel) a).v (den (Gg Φ fuel) b).v (den (Gg Φ fuel) d).v))) := fun W X c e s h => by
    dsimp only [chk, mkC] at h
    split at h
    · simp only [Bool.and_eq_true, Bool.not_eq_true'] at h
      obtain ⟨⟨⟨⟨⟨e1, e1'⟩, e2⟩, e3⟩, e4⟩, e5⟩ := h
      obtain rfl := dc e1
      obtain rfl := dc e1'
      obtain ⟨r, hr⟩ := cmpR (o := o) s.K s.hu op
      obtain ⟨r2, hr2⟩ := cmpR (o := o) s.K s.hu op2
      exact ⟨x_chain h1.m h2.m h3.m (h1.v W X c _ s e3) (h2.v W X c _ s e4) (h3.v W X c _ s e5) hr hr2 e2, x_chainT h1.m h2.m h3.m (h1.v W X c _ s e3) (h2.v W X c _ s e4) (h3.v W X c _ s e5) hr hr2 e2⟩
    · cases h
  exact { Snd.val (o := o) (tx := tx) (Φ := Φ) (kf := kf) (H0 := H0) (gE := gE) (m := .O) (v := vCm2 op op2 (den (Gg Φ fuel) a).v (den (Gg Φ fuel) b).v (den (Gg Φ fuel) d).v) (f := (chk tx (.cm2 op op2 a b d)).v) (by decide) fun W X c e s h => (key W X c e s h).1 with
    t := fun W X c e s h => (key W X c e s h).2 }
theorem n_an {a b : E} (h1 : SndE o tx Φ kf H0 gE fuel a) (h2 : SndE o tx Φ kf H0 gE fuel b) : SndE o tx Φ kf H0 gE fuel (.an a b) := by
  have key : ∀ W X c e, Sok o tx Φ kf gE W X c → (chk tx (.an a b)).v c e = true → PE X e (tE o H0 W .F (vAnd (den (Gg Φ fuel) a).v (den (Gg Φ fuel) b).v)) := fun W X c e s h => by
    dsimp only [chk, mkC] at h
    split at h
    · simp only [Bool.and_eq_true] at h
      obtain ⟨⟨e1, e2⟩, e3⟩ := h
      split at e3
      · exact x_and (h1.v W X c _ s e1) (pe_one (pe_F (mFO_of e2) (h2.v W X c _ s e3)))
      · exact x_and (h1.v W X c _ s e1) (pe_F (mFO_of e2) (h2.v W X c _ s e3))
    · cases h
  have kw : ∀ W X c e, Sok o tx Φ kf gE W X c → (chk tx (.an a b)).w c e = true → PW X e (tT o H0 W (tAnd (den (Gg Φ fuel) a).t (den (Gg Φ fuel) b).t)) := fun W X c e s h => by
    dsimp only [chk, mkC] at h
    split at h
    · simp only [Bool.and_eq_true] at h
      obtain ⟨e1, e3⟩ := h
      split at e3
      · exact x_andT (h1.t W X c _ s e1) (pw_and1 (h2.t W X c _ s e3))
      · exact x_andT (h1.t W X c _ s e1) (h2.w W X c _ s e3)
    · cases h
  exact { Snd.val (o := o) (tx := tx) (Φ := Φ) (kf := kf) (H0 := H0) (gE := gE) (m := .F) (v := vAnd (den (Gg Φ fuel) a).v (den (Gg Φ fuel) b).v) (f := (chk tx (.an a b)).v) (by decide) key with
    t := fun W X c e s h => (kw W X c e s h).pt
    w := kw }
theorem n_or {a b : E} (h1 : SndE o tx Φ kf H0 gE fuel a) (h2 : SndE o tx Φ kf H0 gE fuel b) : SndE o tx Φ kf H0 gE fuel (.or a b) := by
  have key : ∀ W X c e, Sok o tx Φ kf gE W X c → (chk tx (.or a b)).v c e = true → PE X e (tE o H0 W .F (vOr (den (Gg Φ fuel) a).v (den (Gg Φ fuel) b).v)) := fun W X c e s h => by
    dsimp only [chk, mkC] at h
    split at h
    · simp only [Bool.and_eq_true] at h
      obtain ⟨⟨e1, e2⟩, e3⟩ := h
      split at e3
      · exact x_or (h1.v W X c _ s e1) (pe_one (pe_F (mFO_of e2) (h2.v W X c _ s e3)))
      · exact x_or (h1.v W X c _ s e1) (pe_F (mFO_of e2) (h2.v W X c _ s e3))
    · cases h
  have kw : ∀ W X c e, Sok o tx Φ kf gE W X c → (chk tx (.or a b)).w c e = true → PW X e (tT o H0 W (tOr (den (Gg Φ fuel) a).t (den (Gg Φ fuel) b).t)) := fun W X c e s h => by
    dsimp only [chk, mkC] at h
    split at h
    · simp only [Bool.and_eq_true] at h
      obtain ⟨e1, e3⟩ := h
      split at e3
      · exact x_orT (h1.t W X c _ s e1) (pw_or1 (h2.t W X c _ s e3))
      · exact x_orT (h1.t W X c _ s e1) (h2.w W X c _ s e3)
    · cases h
  exact { Snd.val (o := o) (tx := tx) (Φ := Φ) (kf := kf) (H0 := H0) (gE := gE) (m := .F) (v := vOr (den (Gg Φ fuel) a).v (den (Gg Φ fuel) b).v) (f := (chk tx (.or a b)).v) (by decide) key with
    t := fun W X c e s h => (kw W X c e s h).pt
    w := kw }
theorem n_ife {d a b : E} (h3 : SndE o tx Φ kf H0 gE fuel d) (h1 : SndE o tx Φ kf H0 gE fuel a) (h2 : SndE o tx Φ kf H0 gE fuel b) : SndE o tx Φ kf H0 gE fuel (.ife d a b) := .val (by decide) fun W X c e s h => by
  split at h
  · simp only [Bool.and_eq_true] at h
    obtain ⟨⟨⟨⟨e1, e2⟩, e3⟩, e4⟩, e5⟩ := h
    exact x_if (h3.t W X c _ s e3) (pe_F (mFO_of e1) (h1.v W X c _ s e4)) (pe_F (mFO_of e2) (h2.v W X c _ s e5))
  · cases h
theorem isNl_of {e : E} (h : isNl e = true) : e = .nl := by
  cases e <;> first | rfl | cases h
theorem n_call {f : Nat} {es : E} (h1 : SndE o tx Φ kf H0 gE fuel es) : SndE o tx Φ kf H0 gE fuel (.call f es) := .val owOf_ne fun W X c e s h => by
  split at h
  · rename_i x p xs pos
    simp only [Bool.and_eq_true] at h
    obtain ⟨⟨⟨⟨⟨e1, e2⟩, e3⟩, e4⟩, e5⟩, e6⟩ := h
    have F := s.fn f x xs.length (dc e1)
    cases xs with
    | nil =>
      have e : es = .nl := isNl_of (by simpa using e5)
      subst e
      exact x_call0 F s.rm s.gd (s.gl e2) s.tk (ndb_of e3).1
    | cons a r => exact x_call F s.rm s.gd (s.gl e2) s.tk (h1.l W X c _ s e6) rfl (h1.ln c _ e6 e4) (ndb_of e3).1 e4
  · cases h
theorem n_calk {f : Nat} {es : E} {pm : List Nat} (h1 : SndE o tx Φ kf H0 gE fuel es) : SndE o tx Φ kf H0 gE fuel (.calk f es pm) := .val owOf_ne fun W X c e s h => by
  split at h
  · rename_i x p xs kws pos
    split at h
    · rename_i ns hns
      simp only [Bool.and_eq_true] at h
      obtain ⟨⟨⟨⟨⟨⟨e1, e2⟩, e3⟩, e4⟩, e5⟩, e6⟩, e7⟩ := h
      have F := s.fn f x pm.length (dc e1)
      exact x_calk F s.rm s.gd (s.gl e3) s.tk (h1.lk W X c _ _ s e6) (fun z => h1.ko W X c _ s (by subst z; simpa using e7)) (dc e2) hns rfl (ndb_of e4).1 e5
    · cases h
  · cases h
theorem n_gc {x : String} {i : Int} : SndE o tx Φ kf H0 gE fuel (.gc x i) := .val (by decide) fun W X c e s h => by
  split at h
  · simp only [Bool.and_eq_true] at h
    obtain ⟨⟨⟨e1, e2⟩, e3⟩, e4⟩ := h
    obtain ⟨t, ht⟩ := s.gc _ _ (dc e2)
    exact ⟨fun pins s1 σ H Q I ⟨g, ρ, s2, cc, sl, p⟩ => ld_glob I (s.gl e3) ht ⟨.int i, H, I, ⟨t, rfl⟩, Po.ok p cc _ .int⟩ (ndb_of e4).1⟩
  · cases h
theorem s_bl {W : WX} {X : Cx} {c : Sc} (s : Sok o tx Φ kf gE W X c) (x : Str) (h : decide (x ∈ blN) = true) : X.mg x = none := s.bl x (dc h)
theorem n_blt {b : Bl} {es : E} (h1 : SndE o tx Φ kf H0 gE fuel es) : SndE o tx Φ kf H0 gE fuel (.blt b es) := .val (by decide) fun W X c e s h => by
  split at h
  · simp only [Bool.and_eq_true] at h
    obtain ⟨⟨⟨⟨⟨e1, e2⟩, e3⟩, e6⟩, e4⟩, e5⟩ := h
    obtain rfl := dc e1
    obtain ⟨r, hr⟩ := bltR (o := o) s.K s.calm s.hu s.gd b e3 (by simpa only [Bool.not_eq_true'] using e6)
    exact x_blt e3 hr (s.gl e2) (s_bl s _ (by cases b <;> first | (cases e3; done) | decide +kernel)) (h1.lb W X c _ s e5) e4
  · cases h
theorem n_sub {a i : E} (h1 : SndE o tx Φ kf H0 gE fuel a) (h2 : SndE o tx Φ kf H0 gE fuel i) : SndE o tx Φ kf H0 gE fuel (.sub a i) := .val (by decide) fun W X c e s h => by
  split at h
  · simp only [Bool.and_eq_true, Bool.not_eq_true'] at h
    obtain ⟨⟨e1, e2⟩, e3⟩ := h
    exact x_sub s.K (by have := s.hu; omega) h1.m (h1.v W X c _ s e2) (h2.v W X c _ s e3) e1
  · cases h
theorem n_slc {a lo hi : E} (h1 : SndE o tx Φ kf H0 gE fuel a) (h2 : SndE o tx Φ kf H0 gE fuel lo) (h3 : SndE o tx Φ kf H0 gE fuel hi) : SndE o tx Φ kf H0 gE fuel (.slc a lo hi) := .val (by decide) fun W X c e s h => by
  split at h
  · simp only [Bool.and_eq_true] at h
    obtain ⟨⟨e1, e2⟩, e3⟩ := h
    exact x_slc s.K h1.m (h1.v W X c _ s e1) (h2.oo W X c _ s e2) (h3.oo W X c _ s e3)
  · cases h
theorem tys_of {W : WX} {X : Cx} {c : Sc} (s : Sok o tx Φ kf gE W X c) : ∀ {es : List Expr} {ts : List Ty}, tysB c es ts = true → TyNames es ts ∧ ∀ t ∈ ts, Gl X (tyS t) ∧ X.mg (tyS t) = none
  | [], [], _ => ⟨.nil, fun t m => by cases m⟩
  | .Name x p :: es, t :: ts, h => by
    simp only [tysB, Bool.and_eq_true] at h
    obtain ⟨⟨e1, e2⟩, e3⟩ := h
    obtain rfl := dc e1
    obtain ⟨r1, r2⟩ := tys_of s e3
    refine ⟨.cons r1, fun u m => ?_⟩
    rcases List.mem_cons.mp m with rfl | m
    · exact ⟨s.gl e2, s_bl s _ (by cases u <;> decide +kernel)⟩
    · exact r2 u m
theorem cls_of {W : WX} {X : Cx} {c : Sc} (s : Sok o tx Φ kf gE W X c) : ∀ {es : List Expr} {cs : List Nat}, clsB tx c es cs = true → ClsNames o X tx.xs.length es cs
  | [], [], _ => .nil
  | .Name x p :: es, k :: cs, h => by
    simp only [clsB, Bool.and_eq_true] at h
    obtain ⟨⟨⟨e1, e2⟩, e3⟩, e4⟩ := h
    exact .cons (nth_lt (dc e1)) (s.gl e2) (s.xc _ _ (dc e1)).gC (ndb_of e3).1 (cls_of s e4)
theorem n_isi {a : E} {ts : List Ty} (h1 : SndE o tx Φ kf H0 gE fuel a) : SndE o tx Φ kf H0 gE fuel (.isi a ts) := .val (by decide) fun W X c e s h => by
  split at h
  · simp only [Bool.and_eq_true, Bool.not_eq_true'] at h
    obtain ⟨⟨⟨⟨e1, e2⟩, e3⟩, e4⟩, e5⟩ := h
    obtain rfl := dc e1
    obtain ⟨r1, r2⟩ := tys_of s e5
    cases r1 with
    | cons r =>
      cases r
      exact x_isi1 s.K h1.m (s.gl e2) (s_bl s _ (by decide +kernel)) (r2 _ List.mem_cons_self).1 (r2 _ List.mem_cons_self).2 (h1.v W X c _ s e4) e3
  · simp only [Bool.and_eq_true, Bool.not_eq_true'] at h
    obtain ⟨⟨⟨⟨⟨e1, e2⟩, e3⟩, e4⟩, e5⟩, e6⟩ := h
    obtain rfl := dc e1
    obtain ⟨r1, r2⟩ := tys_of s e5
    exact x_isiT s.K h1.m (s.gl e2) (s_bl s _ (by decide +kernel)) r1 r2 (dc e6) (h1.v W X c _ s e4) e3
  · cases h
theorem n_ise {a : E} {cs : List Nat} (h1 : SndE o tx Φ kf H0 gE fuel a) : SndE o tx Φ kf H0 gE fuel (.ise a cs) := .val (by decide) fun W X c e s h => by
  split at h
  · simp only [Bool.and_eq_true, Bool.not_eq_true'] at h
    obtain ⟨⟨⟨⟨⟨e1, e2⟩, e3⟩, e4⟩, e5⟩, e6⟩ := h
    obtain rfl := dc e1
    have r := cls_of s e6
    cases r with
    | cons hc hg hm hd r =>
      cases r
      exact x_ise1 s.K s.xf hc (s.gl e2) (s_bl s _ (by decide +kernel)) hg hm hd (pe_F (mFO_of e4) (h1.v W X c _ s e5)) e3
  · simp only [Bool.and_eq_true, Bool.not_eq_true'] at h
    obtain ⟨⟨⟨⟨⟨⟨e1, e2⟩, e3⟩, e4⟩, e5⟩, e6⟩, e7⟩ := h
    obtain rfl := dc e1
    exact x_iseT s.K s.xf (s.gl e2) (s_bl s _ (by decide +kernel)) (cls_of s e6) (dc e7) (pe_F (mFO_of e4) (h1.v W X c _ s e5)) e3
  · cases h
theorem n_li {it : E} (h1 : SndE o tx Φ kf H0 gE fuel it) : SndE o tx Φ kf H0 gE fuel (.li it) := .val (by decide) fun W X c e s h => by
  split at h
  · simp only [Bool.and_eq_true, Bool.not_eq_true'] at h
    obtain ⟨⟨⟨e1, e2⟩, e3⟩, e4⟩ := h
    obtain rfl := dc e1
    exact h1.li W X c _ s e4 e3 (s.gl e2) _ _
  · cases h
theorem n_ti {it : E} (h1 : SndE o tx Φ kf H0 gE fuel it) : SndE o tx Φ kf H0 gE fuel (.ti it) := .val (by decide) fun W X c e s h => by
  split at h
  · simp only [Bool.and_eq_true, Bool.not_eq_true'] at h
    obtain ⟨⟨⟨e1, e2⟩, e3⟩, e4⟩ := h
    obtain rfl := dc e1
    exact h1.ti W X c _ s e4 e3 (s.gl e2) _ _
  · cases h
theorem base_subs {x : Expr} {n : Str} {env : PySem.Env} (h : isSubs x = true) : attributeBase x n env (eval x env) = eval x env := by
  cases x <;> first | (cases h; done) | rfl
theorem n_popc {b i : E} (h1 : SndE o tx Φ kf H0 gE fuel b) : SndE o tx Φ kf H0 gE fuel (.popc b i) := .val (by decide) fun W X c e s h => by
  split at h
  · simp only [Bool.and_eq_true] at h
    obtain ⟨⟨⟨⟨e1, e2⟩, e3⟩, e4⟩, e5⟩ := h
    obtain rfl := dc e1
    exact x_popc (pe_F (mFO_of e4) (h1.v W X c _ s e5)) (base_subs e2) e3
  · cases h
theorem n_newc {a : E} (h1 : SndE o tx Φ kf H0 gE fuel a) : SndE o tx Φ kf H0 gE fuel (.newc a) :=
  { Snd.val (o := o) (tx := tx) (Φ := Φ) (kf := kf) (H0 := H0) (gE := gE) (m := .F) (v := vNew (den (Gg Φ fuel) a).v) (f := (chk tx (.newc a)).v) (by decide) fun W X c e s h => by
      dsimp only [chk, mkC] at h
      simp only [Bool.and_eq_true] at h
      have := h1.v W X c _ s h.2
      rw [dc h.1] at this
      exact x_newc this with
    s := fun W X c i st s h => by
      dsimp only [chk] at h
      simp only [Bool.and_eq_true] at h
      have := h1.s W X c i _ s h.2
      rw [dc h.1] at this
      exact set_newc this }
theorem n_rpl {es : E} (h1 : SndE o tx Φ kf H0 gE fuel es) : SndE o tx Φ kf H0 gE fuel (.rpl es) := .val (by decide) fun W X c e s h => by
  split at h
  · simp only [Bool.and_eq_true] at h
    obtain ⟨⟨⟨e1, e2⟩, e3⟩, e4⟩ := h
    obtain rfl := dc e1
    exact x_rpl s.K s.hu (s.gd e3) (s.gl e2) (s.bl _ (by simp [blN])) (h1.lb W X c _ s e4)
  · cases h
theorem n_sor {a : E} (h1 : SndE o tx Φ kf H0 gE fuel a) : SndE o tx Φ kf H0 gE fuel (.sor a) := .val (by decide) fun W X c e s h => by
  split at h
  · simp only [Bool.and_eq_true, Bool.not_eq_true'] at h
    obtain ⟨⟨⟨e1, e2⟩, e3⟩, e4⟩ := h
    obtain rfl := dc e1
    exact x_sor s.K h1.m (s.gl e2) (s_bl s _ (by decide +kernel)) (h1.v W X c _ s e4) e3
  · cases h
theorem n_dz {i j : Int} : SndE o tx Φ kf H0 gE fuel (.dz i j) := .val (by decide) fun W X c e s h => by
  split at h
  · simp only [Bool.and_eq_true] at h
    obtain ⟨e1, e2⟩ := h
    obtain rfl := dc e1
    obtain rfl := dc e2
    exact x_dz
  · cases h
theorem n_lset {a : E} (h1 : SndE o tx Φ kf H0 gE fuel a) : SndE o tx Φ kf H0 gE fuel (.lset a) := .val (by decide) fun W X c e s h => by
  split at h
  · simp only [Bool.and_eq_true, Bool.not_eq_true'] at h
    obtain ⟨⟨⟨⟨⟨e1, e2⟩, e3⟩, e4⟩, e5⟩, e6⟩ := h
    obtain rfl := dc e1
    obtain rfl := dc e3
    exact x_lset s.K s.calm s.hu h1.m (s.gl e2) (s_bl s _ (by decide +kernel)) (s.gl e4) (s_bl s _ (by decide +kernel)) (h1.v W X c _ s e6) e5
  · cases h
theorem n_sset {a : E} (h1 : SndE o tx Φ kf H0 gE fuel a) : SndE o tx Φ kf H0 gE fuel (.sset a) := .val (by decide) fun W X c e s h => by
  split at h
  · simp only [Bool.and_eq_true, Bool.not_eq_true'] at h
    obtain ⟨⟨⟨⟨⟨e1, e2⟩, e3⟩, e4⟩, e5⟩, e6⟩ := h
    obtain rfl := dc e1
    obtain rfl := dc e3
    exact x_sset s.K s.calm s.hu h1.m (s.gl e2) (s_bl s _ (by decide +kernel)) (s.gl e4) (s_bl s _ (by decide +kernel)) (h1.v W X c _ s e6) e5
  · cases h
theorem n_cgt {a : E} (h1 : SndE o tx Φ kf H0 gE fuel a) : SndE o tx Φ kf H0 gE fuel (.cgt a) := .val (by decide) fun W X c e s h => by
  split at h
  · simp only [Bool.and_eq_true] at h
    obtain ⟨⟨⟨⟨⟨e1, e2⟩, e3⟩, e4⟩, e5⟩, e6⟩ := h
    obtain rfl := dc e2
    obtain ⟨CS, hx, hc, _⟩ := (s.cg e1).ok
    obtain ⟨r, hr, _, hl⟩ := s.room
    have L := LamX.lamS_by e5
    rw [← s.sc] at L
    refine pe_imp (hc kf _ _ _ (fun E => tE o H0 (wE E) (chk tx a).m (den (Gg Φ fuel) a).v) _ _ _ (s.gl e3) e4 L (hr.mono (hl e1)) s.gd fun A outer s0 H E f c' hr2 hg2 => h1.v _ _ _ _ (s.lm L.kind hr2 hg2) e6) fun σ H Q q => ?_
    rw [s.K]
    exact cgt_sem (fun c _ _ _ _ _ => hx c) q
  · cases h
end
end MR
set_option Elab.async false
set_option linter.all false
set_option maxRecDepth 100000
namespace MR
open PySem PySem.Spec PyProof.Rows L2
section
variable {o : Om} {tx : Tx} {Φ : Nat → List D → S → R D} {kf : Nat} {H0 : Hp} {gE : GE} {fuel : Nat}
theorem n_nl : SndE o tx Φ kf H0 gE fuel .nl :=
  { Snd.none (o := o) (tx := tx) (Φ := Φ) (kf := kf) (H0 := H0) (gE := gE) (den (Gg Φ fuel) .nl) with
    ll := fun W X c es CS w wn p wp pos s h _ _ _ _ _ _ => by
      cases es with
      | nil => exact ⟨.nil, rfl⟩
      | cons => cases h
    l := fun W X c es s h => by
      cases es with
      | nil => exact x_anil
      | cons => cases h
    ln := fun c es h _ ρ s ds s' e => by
      cases es with
      | nil => cases e; rfl
      | cons => cases h
    lp := fun W X c es s h _ pos keys ks hk hl => by
      cases es with
      | nil =>
        cases keys with
        | nil =>
          cases ks with
          | nil => exact pp_nil
          | cons => cases hk
        | cons => simp at hl
      | cons => cases h
    ko := fun W X c ks s h => by
      cases ks with
      | nil => exact ko_nil
      | cons => cases h
    lk := fun W X c es ks s h => by
      cases es with
      | nil =>
        cases ks with
        | nil => exact ks_nil ko_nil
        | cons => cases h
      | cons => cases h
    lb := fun W X c es s h => by
      cases es with
      | nil => exact x_bnil
      | cons => cases h
    oo := fun W X c a s h => by
      cases a with
      | none => exact x_onone
      | some => cases h
    z := fun W X c es s h => by
      cases es with
      | nil => exact .nil
      | cons => cases h
    b := fun W X c es s h => by
      cases es with
      | nil => exact x_snil
      | cons => cases h }
theorem R.bind_len {r1 r2 : Env → S → R (List D)} {n1 n2 : Nat} {ρ : Env} {s : S} {ds : List D} {s' : S} (h1 : ∀ ρ s ds s', r1 ρ s = .ok ds s' → ds.length = n1) (h2 : ∀ ρ s ds s', r2 ρ s = .ok ds s' → ds.length = n2) (h : lCons r1 r2 ρ s = .ok ds s') : ds.length = n1 + n2 := by
  obtain ⟨xs, s1, e1, h⟩ := R.bind_ok h
  obtain ⟨ys, s2, e2, h⟩ := R.bind_ok h
  cases h
  rw [List.length_append, h1 _ _ _ _ e1, h2 _ _ _ _ e2]
theorem frz_or (h : E) : (∃ i, h = .frz i) ∨ ∀ i, h ≠ .frz i := by
  cases h <;> first | exact .inl ⟨_, rfl⟩ | exact .inr fun _ z => by cases z
theorem blkB_of {h : E} {x : Sc → Stmt → Bool} {b : Sc → List Stmt → Bool} {c : Sc} {es : List Stmt} (q : blkB h x b c es = true) : (∃ i, h = .frz i ∧ b c es = true) ∨ ∃ a r, es = a :: r ∧ x c a = true ∧ b c r = true := by
  unfold blkB at q
  split at q
  · exact .inl ⟨_, rfl, q⟩
  · split at q
    · simp only [Bool.and_eq_true] at q
      exact .inr ⟨_, _, rfl, q.1, q.2⟩
    · cases q
theorem keysB_all : ∀ {keys : List (Option Expr)} {ks : List Str}, keysB keys ks = true → keys.all (·.isSome) = true
  | [], [], _ => rfl
  | some (.Constant (.str x) _ _) :: keys, y :: ks, h => by
    simp only [keysB, Bool.and_eq_true] at h
    simp only [List.all_cons, Option.isSome_some, Bool.true_and]
    exact keysB_all h.2
theorem keysB_cons {k1 : Option Expr} {kr : List (Option Expr)} {ks : List Str} (h : keysB (k1 :: kr) ks = true) : ∃ x j p ys, k1 = some (.Constant (.str x) j p) ∧ ks = x :: ys ∧ keysB kr ys = true := by
  unfold keysB at h
  split at h
  · rename_i e; cases e
  · rename_i x j p kr' y ys e1
    simp only [Bool.and_eq_true, decide_eq_true_eq] at h
    obtain ⟨rfl, h⟩ := h
    cases e1
    exact ⟨x, _, _, ys, rfl, rfl, h⟩
  · cases h
theorem n_cn {h t : E} (h1 : SndE o tx Φ kf H0 gE fuel h) (h2 : SndE o tx Φ kf H0 gE fuel t) : SndE o tx Φ kf H0 gE fuel (.cn h t) :=
  { Snd.none (o := o) (tx := tx) (Φ := Φ) (kf := kf) (H0 := H0) (gE := gE) (den (Gg Φ fuel) (.cn h t)) with
    ll := fun W X c es CS w wn p wp pos s q hlam hC hg hN hv hnd => by
      dsimp only [chk] at q
      split at q
      · rename_i params body scope lpos r
        simp only [Bool.and_eq_true] at q
        obtain ⟨⟨⟨e1, e2⟩, e3⟩, e4⟩ := q
        have L := LamX.lamS_by e2
        rw [← s.sc] at L
        obtain ⟨rm, hr, _, hl⟩ := s.room
        obtain ⟨q1, q2⟩ := h2.ll W X c r CS w wn p wp pos s e4 hlam hC hg hN hv hnd
        refine ⟨.cons (LamIs X params body scope) (chk tx h).m lamIs_stb (hC.lam params body scope lpos e1 L) rfl ?_ q1, ?_⟩
        · exact hC.call kf params body scope (fun E => tE o H0 (wE E) (chk tx h).m (den (Gg Φ fuel) h).v) w wn p wp pos hg e1 L (hr.mono (hl hlam)) s.gd hN hv hnd fun A outer s0 H E f c' hr2 hg2 => h1.v _ _ _ _ (s.lm L.kind hr2 hg2) e3
        · show (den (Gg Φ fuel) t).ll.length + 1 = r.length + 1
          rw [q2]
      · cases q
    l := fun W X c es s q => by
      cases es with
      | nil => cases q
      | cons a r =>
        dsimp only [chk] at q
        simp only [Bool.and_eq_true] at q
        exact h1.e W X c a s q.1 r _ (h2.l W X c r s q.2)
    ln := fun c es q hs ρ s ds s' e => by
      cases es with
      | nil => cases q
      | cons a r =>
        dsimp only [chk] at q
        simp only [Bool.and_eq_true] at q
        simp only [List.all_cons, Bool.and_eq_true, Bool.not_eq_true'] at hs
        have := R.bind_len (h1.e1 c a q.1 hs.1) (h2.ln c r q.2 hs.2) e
        rw [this, List.length_cons, Nat.add_comm]
    lp := fun W X c es s q hs pos keys ks hk hl => by
      cases es with
      | nil => cases q
      | cons a r =>
        dsimp only [chk] at q
        simp only [Bool.and_eq_true] at q
        simp only [List.all_cons, Bool.and_eq_true, Bool.not_eq_true'] at hs
        cases keys with
        | nil => simp at hl
        | cons k1 kr =>
          obtain ⟨x, jj, pp, ys, rfl, rfl, hk2⟩ := keysB_cons hk
          obtain ⟨f, hf, he⟩ := h1.ep W X c a s q.1 hs.1
          have hr := h2.lp W X c r s q.2 hs.2 pos kr ys hk2 (by simpa using hl)
          show PpR o H0 W X pos _ _ _ (lCons (den (Gg Φ fuel) h).e (den (Gg Φ fuel) t).l)
          rw [he]
          exact pp_cons hf hr
    ko := fun W X c ks s q => by
      cases ks with
      | nil => cases q
      | cons k r =>
        obtain ⟨nm, a, kp⟩ := k
        dsimp only [chk] at q
        simp only [Bool.and_eq_true, Bool.not_eq_true'] at q
        obtain ⟨f, hf, he⟩ := h1.ep W X c a s q.1.2 q.1.1
        have hr := h2.ko W X c r s q.2
        show KOnly o H0 W X _ (lCons (den (Gg Φ fuel) h).e (den (Gg Φ fuel) t).l)
        rw [he]
        exact ko_cons hf hr
    lk := fun W X c es ks s q => by
      cases es with
      | nil =>
        cases ks with
        | nil => cases q
        | cons k r =>
          obtain ⟨nm, a, kp⟩ := k
          dsimp only [chk] at q
          simp only [Bool.and_eq_true, Bool.not_eq_true'] at q
          obtain ⟨f, hf, he⟩ := h1.ep W X c a s q.1.2 q.1.1
          have hr := h2.ko W X c r s q.2
          show KSplit o H0 W X _ _ (lCons (den (Gg Φ fuel) h).e (den (Gg Φ fuel) t).l)
          rw [he]
          exact ks_nil (ko_cons hf hr)
      | cons a r =>
        dsimp only [chk] at q
        simp only [Bool.and_eq_true, Bool.not_eq_true'] at q
        obtain ⟨f, hf, he⟩ := h1.ep W X c a s q.1.2 q.1.1
        have hr := h2.lk W X c r ks s q.2
        show KSplit o H0 W X _ _ (lCons (den (Gg Φ fuel) h).e (den (Gg Φ fuel) t).l)
        rw [he]
        exact ks_cons hf q.1.1 hr
    lb := fun W X c es s q => by
      cases es with
      | nil => cases q
      | cons a r =>
        dsimp only [chk] at q
        simp only [Bool.and_eq_true, Bool.not_eq_true'] at q
        exact x_bcons h1.m (h1.v W X c a s q.1.2) (h2.lb W X c r s q.2) q.1.1
    s1 := fun W X c a s q => by
      dsimp only [chk] at q
      simp only [Bool.and_eq_true, Bool.not_eq_true'] at q
      obtain ⟨⟨e1, e2⟩, e3⟩ := q
      obtain rfl := isNl_of e1
      refine ⟨_, _, h1.v W X c a s e3, e2, ?_⟩
      show lCons (den (Gg Φ fuel) h).e lNil = _
      rw [h1.ev c a e3]
    r := fun W X c es s q hr t' p pos => by
      dsimp only [chk] at q
      split at q
      · simp only [Bool.and_eq_true, Bool.not_eq_true'] at q
        obtain ⟨⟨e1, e2⟩, e3⟩ := q
        obtain rfl := isNl_of e1
        show PI X _ _ (tIF o H0 W (iRng (lCons (den (Gg Φ fuel) h).e lNil)))
        rw [h1.ev c _ e3]
        exact x_range1 hr (s_bl s _ (by decide +kernel)) (h1.v W X c _ s e3) e2
      · simp only [Bool.and_eq_true, Bool.not_eq_true'] at q
        obtain ⟨⟨e1, e2⟩, e3⟩ := q
        obtain ⟨f, md, hf, hs, hl⟩ := h2.s1 W X c _ s e3
        show PI X _ _ (tIF o H0 W (iRng (lCons (den (Gg Φ fuel) h).e (den (Gg Φ fuel) t).l)))
        rw [h1.ev c _ e2, hl]
        exact x_range2 hr (s_bl s _ (by decide +kernel)) (h1.v W X c _ s e2) hf e1 hs
      · cases q
    z := fun W X c es s q => by
      cases es with
      | nil => cases q
      | cons a r =>
        dsimp only [chk] at q
        simp only [Bool.and_eq_true, Bool.not_eq_true'] at q
        obtain ⟨⟨⟨e1, e2⟩, e3⟩, e4⟩ := q
        exact .cons (pe_F (mFO_of e2) (h1.v W X c a s e3)) e1 (h2.z W X c r s e4)
    b := fun W X c es s q => by
      rcases blkB_of (show blkB h (chk tx h).x (chk tx t).b c es = true from q) with ⟨i, rfl, q⟩ | ⟨a, r, rfl, q1, q2⟩
      · exact x_frz (h2.b W X c es s q)
      · exact x_scons (h1.x W X c a s q1) (h2.b W X c r s q2) }
theorem n_st {e : E} (h1 : SndE o tx Φ kf H0 gE fuel e) : SndE o tx Φ kf H0 gE fuel (.st e) :=
  { Snd.none (o := o) (tx := tx) (Φ := Φ) (kf := kf) (H0 := H0) (gE := gE) (den (Gg Φ fuel) (.st e)) with
    e := fun W X c a s q es l hl => by
      dsimp only [chk] at q
      split at q
      · exact x_astar s.K h1.m (h1.v W X c _ s q) hl
      · cases q
    e1 := fun c a q hs => by
      dsimp only [chk] at q
      split at q
      · cases hs
      · cases q
    ep := fun W X c a _ q hs => by
      dsimp only [chk] at q
      split at q
      · cases hs
      · cases q }
theorem n_dsp {ks vs : E} (h1 : SndE o tx Φ kf H0 gE fuel vs) : SndE o tx Φ kf H0 gE fuel (.dsp ks vs) := .val (by decide) fun W X c e s h => by
  split at h
  · rename_i keys values pos
    simp only [Bool.and_eq_true] at h
    obtain ⟨⟨⟨⟨⟨e1, e2⟩, e3⟩, e6⟩, e4⟩, e5⟩ := h
    have pp := h1.lp W X c values s e5 e4 pos keys _ e1 (dc e2)
    cases keys with
    | nil =>
      cases values with
      | nil =>
        have e : vs = .nl := isNl_of (by simpa using e6)
        subst e
        cases hk : keysOf ks with
        | nil =>
          exact x_dnew rfl
        | cons => rw [hk] at e1; cases e1
      | cons => simp at e2
    | cons k1 kr => exact x_dsp pp (keysB_all e1) (dc e2) (by simp) (dc e3)
  · cases h
theorem ownOf_snd (N : List Str) (vs : List Nat) : (ownOf N vs).map (·.2) = vs := by
  unfold ownOf
  rw [List.map_map]
  exact List.map_id vs
theorem notSet_of {i : Expr} {env : PySem.Env} (h : notSet i = true) : ∀ x, foldedSetIterable i env x = pure x := by
  intro x
  cases i <;> first | rfl | cases h
theorem tests_of {cond : E} (h1 : SndE o tx Φ kf H0 gE fuel cond) {W : WX} {X : Cx} {c : Sc} {ifs : List Expr} (s : Sok o tx Φ kf gE W X c) (h : tests (chk tx cond).t cond c ifs = true) : PTs X ifs (tT o H0 W (den (Gg Φ fuel) cond).t) := by
  unfold tests at h
  split at h
  · have : cond = .cb true := by
      cases cond <;> first | (cases h; done) | (rename_i b; cases b <;> first | rfl | cases h)
    subst this
    refine ⟨fun pins s1 σ H Q I ⟨g, ρ, s2, cu, sl, p⟩ => pts_nil.run pins s1 σ H Q I ?_⟩
    exact Po.ok (a := true) p cu
  · exact pts_one (h1.t W X c _ s h)
  · cases h
theorem sw_lc {c : Sc} {W : WX} {X : Cx} (s : Sok o tx Φ kf gE W X c) {elt : Expr} {gs : List Comprehension} {scope : Scope} {pos py : Pos} {y : Str} {l : Nat} :
    swapsWith (.ListComp elt gs scope pos) (some (.Name y py)) l X.env = pure (swB c y py (.ListComp elt gs scope pos)) := by
  have hb : X.env.blockKind = .function := by unfold Env.blockKind; rw [s.kind]; rfl
  have hk : X.env.kindOf y = c.sc.names.lookup y := by
    show X.env.scope.names.lookup y = _
    rw [s.sc]
  unfold swapsWith swB scopeOf
  simp only [hb, hk, Expr.pos]
  have e : (c.sc.names.lookup y == some NameKind.local) = decide (c.sc.names.lookup y = some NameKind.local) := by
    by_cases q : c.sc.names.lookup y = some NameKind.local
    · rw [q]; rfl
    · rw [decide_eq_false q]
      exact beq_eq_false_iff_ne.mpr q
  rw [e]
  rfl
theorem n_lc {tg it cond elt : E} {vs : List Nat} (h2 : SndE o tx Φ kf H0 gE fuel it) (h3 : SndE o tx Φ kf H0 gE fuel cond) (h4 : SndE o tx Φ kf H0 gE fuel elt)
    (hg : ∀ W X c a, Sok o tx Φ kf gE W X c → (chk tx tg).g c a = true → PG X a (gT o H0 tg)) : SndE o tx Φ kf H0 gE fuel (.lc tg it cond elt vs) := by
  have key : ∀ W X c e, Sok o tx Φ kf gE W X c → (chk tx (.lc tg it cond elt vs)).v c e = true → PE X e (tE o H0 W .O (vLc tg (den (Gg Φ fuel) it).i (den (Gg Φ fuel) cond).t (den (Gg Φ fuel) elt).v vs)) ∧
      (∀ y py spos i, c.N[i]? = some y → sto c y = true → SetR o H0 W X (.Assign [.Name y py] e spos) i .O (vLc tg (den (Gg Φ fuel) it).i (den (Gg Φ fuel) cond).t (den (Gg Φ fuel) elt).v vs)) := fun W X c e s h => by
    dsimp only [chk, mkC] at h
    split at h
    · rename_i y t i ifs scope pos
      simp only [Bool.and_eq_true] at h
      obtain ⟨⟨⟨⟨⟨⟨⟨e1, e2⟩, e3⟩, e4⟩, e5⟩, e6⟩, e7⟩, e8⟩ := h
      have ok : BlkOk X.N X.env.scope scope (ownOf c.N vs) := by rw [s.N, s.sc]; exact blkOk_by e1
      have e2 := dc e2
      have hv : ∀ k ∈ tgs tg, k ∈ (ownOf c.N vs).map (·.2) := by rw [ownOf_snd]; exact e2
      have sb := fun s0 H C cl fp => s.blk (scope := scope) ok.kind s0 H C cl fp
      have pe := x_lc (W := W) s.calm s.nd (h2.i W X c t i s e4) ok hv (fun s0 H C cl fp => hg _ _ _ _ (sb s0 H C cl fp) e5) (fun s0 H C cl fp => tests_of h3 (sb s0 H C cl fp) e6) (fun s0 H C cl fp => pe_F (mFO_of e7) (h4.v _ _ _ _ (sb s0 H C cl fp) e8)) (notSet_of e3) (elt := y) (pos := pos)
      rw [ownOf_snd] at pe
      refine ⟨pe, fun n py spos j hn hst => ?_⟩
      cases hsw : swB c n py (.ListComp y [⟨t, i, ifs, 0⟩] scope pos) with
      | false => exact set_of s.nd (s.nn hn) (s.sto hst).1 pe (by rw [sw_lc s, hsw]) (s.sto hst).2
      | true =>
        have hl : X.env.scope.names.lookup n = some .local := by
          rw [s.sc]
          unfold swB scopeOf at hsw
          simp only [Bool.and_eq_true] at hsw
          exact dc hsw.1.1
        have pe := set_lc (W := W) s.calm s.nd (s.nn hn) hl (by rw [sw_lc s, hsw]) (h2.i W X c t i s e4) ok hv (fun s0 H C cl fp => hg _ _ _ _ (sb s0 H C cl fp) e5) (fun s0 H C cl fp => tests_of h3 (sb s0 H C cl fp) e6) (fun s0 H C cl fp => pe_F (mFO_of e7) (h4.v _ _ _ _ (sb s0 H C cl fp) e8)) (notSet_of e3) (elt := y) (pos := pos) (py := py) (spos := spos)
        rw [ownOf_snd] at pe
        exact pe
    · cases h
  exact { Snd.val (o := o) (tx := tx) (Φ := Φ) (kf := kf) (H0 := H0) (gE := gE) (m := .O) (v := vLc tg (den (Gg Φ fuel) it).i (den (Gg Φ fuel) cond).t (den (Gg Φ fuel) elt).v vs) (f := (chk tx (.lc tg it cond elt vs)).v) (by decide) fun W X c e s h => (key W X c e s h).1 with
    s := fun W X c i st s h => by
      have h : setC (chk tx (.lc tg it cond elt vs)).v c i st = true := h
      unfold setC at h
      split at h
      · simp only [Bool.and_eq_true] at h
        exact (key W X c _ s h.2).2 _ _ _ _ (dc h.1.1) h.1.2
      · cases h }
/-- targets -/
theorem tg_all (e : E) : (∀ W X c a, Sok o tx Φ kf gE W X c → (chk tx e).g c a = true → PG X a (gT o H0 e)) ∧ (∀ W X c es, Sok o tx Φ kf gE W X c → (chk tx e).gs c es = true → PGs X es (gTs o H0 e)) := by
  induction e with
  | nl =>
    refine ⟨(fun W X c a s h => by cases h), fun W X c es s h => ?_⟩
    cases es with
    | nil => exact x_tnil
    | cons => cases h
  | cn h t ih1 ih2 =>
    refine ⟨(fun W X c a s h => by cases h), fun W X c es s q => ?_⟩
    cases es with
    | nil => cases q
    | cons a r =>
      dsimp only [chk] at q
      simp only [Bool.and_eq_true, Bool.not_eq_true'] at q
      obtain ⟨⟨e1, e2⟩, e3⟩ := q
      exact x_tcons (ih1.1 W X c a s e2) (ih2.2 W X c r s e3) e1
  | tg i =>
    refine ⟨fun W X c a s q => ?_, fun W X c es s h => by cases h⟩
    dsimp only [chk] at q
    split at q
    · simp only [Bool.and_eq_true] at q
      exact x_tg s.nd (s.nn (dc q.1)) (s.sto q.2).1 (s.sto q.2).2
    · cases q
  | tt es ih =>
    refine ⟨fun W X c a s q => ?_, fun W X c es s h => by cases h⟩
    dsimp only [chk] at q
    split at q
    · simp only [Bool.and_eq_true] at q
      obtain ⟨⟨⟨e1, e2⟩, e3⟩, e4⟩ := q
      exact x_tt s.K s.calm (ih.2 W X c _ s e4) e1 (dc e2) e3
    · cases q
  | _ => exact ⟨(fun W X c a s h => by cases h), fun W X c es s h => by cases h⟩
theorem n_lc2 {tg it cond tg2 it2 cond2 elt : E} {vs vs2 : List Nat} (h2 : SndE o tx Φ kf H0 gE fuel it) (h3 : SndE o tx Φ kf H0 gE fuel cond) (h5 : SndE o tx Φ kf H0 gE fuel it2) (h6 : SndE o tx Φ kf H0 gE fuel cond2) (h4 : SndE o tx Φ kf H0 gE fuel elt) : SndE o tx Φ kf H0 gE fuel (.lc2 tg it cond tg2 it2 cond2 elt vs vs2) := by
  have hg := (tg_all (gE := gE) (o := o) (tx := tx) (Φ := Φ) (kf := kf) (H0 := H0) tg).1
  have hg2 := (tg_all (gE := gE) (o := o) (tx := tx) (Φ := Φ) (kf := kf) (H0 := H0) tg2).1
  have key : ∀ W X c e, Sok o tx Φ kf gE W X c → (chk tx (.lc2 tg it cond tg2 it2 cond2 elt vs vs2)).v c e = true → PE X e (tE o H0 W .O (vLc2 tg (den (Gg Φ fuel) it).i (den (Gg Φ fuel) cond).t tg2 (den (Gg Φ fuel) it2).i (den (Gg Φ fuel) cond2).t (den (Gg Φ fuel) elt).v vs vs2)) ∧
      (∀ y py spos i, c.N[i]? = some y → sto c y = true → SetR o H0 W X (.Assign [.Name y py] e spos) i .O (vLc2 tg (den (Gg Φ fuel) it).i (den (Gg Φ fuel) cond).t tg2 (den (Gg Φ fuel) it2).i (den (Gg Φ fuel) cond2).t (den (Gg Φ fuel) elt).v vs vs2)) := fun W X c e s h => by
    dsimp only [chk, mkC] at h
    split at h
    · rename_i y t i ifs t2 i2 ifs2 scope pos
      simp only [Bool.and_eq_true] at h
      obtain ⟨⟨⟨⟨⟨⟨⟨⟨⟨⟨⟨⟨⟨e1, e2⟩, a1⟩, a2⟩, e3⟩, a3⟩, e4⟩, e5⟩, e6⟩, a4⟩, a5⟩, a6⟩, e7⟩, e8⟩ := h
      have ok : BlkOk X.N X.env.scope scope (ownOf c.N vs) := by rw [s.N, s.sc]; exact blkOk_by e1
      have e2 := dc e2
      have a1 := dc a1
      have a2 := dc a2
      have hv : ∀ k ∈ tgs tg, k ∈ (ownOf c.N vs).map (·.2) := by rw [ownOf_snd]; exact e2
      have hv1 : ∀ k ∈ vs2, k ∈ (ownOf c.N vs).map (·.2) := by rw [ownOf_snd]; exact a1
      have sb := fun s0 H C cl fp => s.blk (scope := scope) ok.kind s0 H C cl fp
      have pe := x_lc2 (W := W) s.calm s.nd (h2.i W X c t i s e4) ok hv1 hv a2 (fun s0 H C cl fp => hg _ _ _ _ (sb s0 H C cl fp) e5) (fun s0 H C cl fp => tests_of h3 (sb s0 H C cl fp) e6) (fun s0 H C cl fp => h5.j _ _ _ _ _ (sb s0 H C cl fp) a4) (fun s0 H C cl fp => hg2 _ _ _ _ (sb s0 H C cl fp) a5) (fun s0 H C cl fp => tests_of h6 (sb s0 H C cl fp) a6) (fun s0 H C cl fp => pe_F (mFO_of e7) (h4.v _ _ _ _ (sb s0 H C cl fp) e8)) (notSet_of e3) (fun env => notSet_of a3) (elt := y) (pos := pos)
      rw [ownOf_snd] at pe
      refine ⟨pe, fun n py spos j hn hst => ?_⟩
      cases hsw : swB c n py (.ListComp y [⟨t, i, ifs, 0⟩, ⟨t2, i2, ifs2, 0⟩] scope pos) with
      | false => exact set_of s.nd (s.nn hn) (s.sto hst).1 pe (by rw [sw_lc s, hsw]) (s.sto hst).2
      | true =>
        have hl : X.env.scope.names.lookup n = some .local := by
          rw [s.sc]
          unfold swB scopeOf at hsw
          simp only [Bool.and_eq_true] at hsw
          exact dc hsw.1.1
        have pe := set_lc2 (W := W) s.calm s.nd (s.nn hn) hl (by rw [sw_lc s, hsw]) (h2.i W X c t i s e4) ok hv1 hv a2 (fun s0 H C cl fp => hg _ _ _ _ (sb s0 H C cl fp) e5) (fun s0 H C cl fp => tests_of h3 (sb s0 H C cl fp) e6) (fun s0 H C cl fp => h5.j _ _ _ _ _ (sb s0 H C cl fp) a4) (fun s0 H C cl fp => hg2 _ _ _ _ (sb s0 H C cl fp) a5) (fun s0 H C cl fp => tests_of h6 (sb s0 H C cl fp) a6) (fun s0 H C cl fp => pe_F (mFO_of e7) (h4.v _ _ _ _ (sb s0 H C cl fp) e8)) (notSet_of e3) (fun env => notSet_of a3) (elt := y) (pos := pos) (py := py) (spos := spos)
        rw [ownOf_snd] at pe
        exact pe
    · cases h
  exact { Snd.val (o := o) (tx := tx) (Φ := Φ) (kf := kf) (H0 := H0) (gE := gE) (m := .O) (v := vLc2 tg (den (Gg Φ fuel) it).i (den (Gg Φ fuel) cond).t tg2 (den (Gg Φ fuel) it2).i (den (Gg Φ fuel) cond2).t (den (Gg Φ fuel) elt).v vs vs2) (f := (chk tx (.lc2 tg it cond tg2 it2 cond2 elt vs vs2)).v) (by decide) fun W X c e s h => (key W X c e s h).1 with
    s := fun W X c i st s h => by
      have h : setC (chk tx (.lc2 tg it cond tg2 it2 cond2 elt vs vs2)).v c i st = true := h
      unfold setC at h
      split at h
      · simp only [Bool.and_eq_true] at h
        exact (key W X c _ s h.2).2 _ _ _ _ (dc h.1.1) h.1.2
      · cases h }
theorem n_itv {e : E} (h1 : SndE o tx Φ kf H0 gE fuel e) : SndE o tx Φ kf H0 gE fuel (.itv e) :=
  { Snd.none (o := o) (tx := tx) (Φ := Φ) (kf := kf) (H0 := H0) (gE := gE) (den (Gg Φ fuel) (.itv e)) with
    i := fun W X c t a s q => x_iE h1.m s.K (h1.v W X c a s q)
    j := fun W X c t a s q => by
      dsimp only [chk] at q
      simp only [Bool.and_eq_true] at q
      exact x_iF s.K (pe_F (mFO_of q.1) (h1.v W X c a s q.2))
    li := fun W X c a s q hs hg p pos => x_liV s.K h1.m hg (s_bl s _ (by decide +kernel)) (h1.v W X c a s q) hs
    ti := fun W X c a s q hs hg p pos => x_tiV s.K h1.m hg (s_bl s _ (by decide +kernel)) (h1.v W X c a s q) hs }
theorem n_itr {es : E} (h1 : SndE o tx Φ kf H0 gE fuel es) : SndE o tx Φ kf H0 gE fuel (.itr es) := by
  have key : ∀ W X c t a, Sok o tx Φ kf gE W X c → (chk tx (.itr es)).j c t a = true → PI X t a (tIF o H0 W (iRng (den (Gg Φ fuel) es).l)) := fun W X c t a s q => by
    dsimp only [chk] at q
    split at q
    · simp only [Bool.and_eq_true] at q
      obtain ⟨⟨e1, e2⟩, e3⟩ := q
      obtain rfl := dc e1
      exact h1.r W X c _ s e3 (s.gl e2) _ _ _
    · cases q
  exact { Snd.none (o := o) (tx := tx) (Φ := Φ) (kf := kf) (H0 := H0) (gE := gE) (den (Gg Φ fuel) (.itr es)) with
    i := fun W X c t a s q => iFE (key W X c t a s q)
    j := key
    li := fun W X c a s q hs hg p pos => by
      dsimp only [chk] at q
      split at q
      · simp only [Bool.and_eq_true] at q
        obtain ⟨⟨e1, e2⟩, e3⟩ := q
        obtain rfl := dc e1
        obtain ⟨f, md, hf, hs2, hl⟩ := h1.s1 W X c _ s e3
        show PE X _ (tE o H0 W .O (vLi (iRng (den (Gg Φ fuel) es).l)))
        rw [hl]
        exact x_liR1 s.calm hg (s_bl s _ (by decide +kernel)) (s.gl e2) (s_bl s _ (by decide +kernel)) hf hs2
      · cases q }
theorem n_itz {es : E} (h1 : SndE o tx Φ kf H0 gE fuel es) : SndE o tx Φ kf H0 gE fuel (.itz es) := by
  have key : ∀ W X c t a, Sok o tx Φ kf gE W X c → (chk tx (.itz es)).j c t a = true → PI X t a (tIF o H0 W (iZip (den (Gg Φ fuel) es).il)) := fun W X c t a s q => by
    dsimp only [chk] at q
    split at q
    · rename_i x p xs pos
      simp only [Bool.and_eq_true, Bool.or_eq_true] at q
      obtain ⟨⟨⟨e1, e2⟩, e3⟩, e4⟩ := q
      obtain rfl := dc e1
      have z := h1.z W X c _ s e4
      generalize (den (Gg Φ fuel) es).il = il at z ⊢
      have hm := s_bl s "zip" (by decide +kernel)
      cases z with
      | nil => simp at e3
      | cons ha na r =>
        cases r with
        | nil => simp at e3
        | cons hb nb r =>
          cases r with
          | nil => exact x_z2 s.K (s.gl e2) hm ha hb na nb
          | cons hc nc r =>
            cases r with
            | nil => exact x_z3 s.K (s.gl e2) hm ha hb hc na nb nc
            | cons => simp at e3
    · cases q
  exact { Snd.none (o := o) (tx := tx) (Φ := Φ) (kf := kf) (H0 := H0) (gE := gE) (den (Gg Φ fuel) (.itz es)) with
    i := fun W X c t a s q => iFE (key W X c t a s q)
    j := key }
theorem n_ite {e : E} (h1 : SndE o tx Φ kf H0 gE fuel e) : SndE o tx Φ kf H0 gE fuel (.ite e) := by
  have key : ∀ W X c t a, Sok o tx Φ kf gE W X c → (chk tx (.ite e)).j c t a = true → PI X t a (tIF o H0 W (iEnu (den (Gg Φ fuel) e).v)) := fun W X c t a s q => by
    dsimp only [chk] at q
    split at q
    · simp only [Bool.and_eq_true, Bool.not_eq_true'] at q
      obtain ⟨⟨⟨⟨e1, e2⟩, e3⟩, e4⟩, e5⟩ := q
      obtain rfl := dc e1
      exact x_enum s.K (s.gl e2) (s.bl _ (by simp [blN])) (pe_F (mFO_of e4) (h1.v W X c _ s e5)) e3
    · cases q
  exact { Snd.none (o := o) (tx := tx) (Φ := Φ) (kf := kf) (H0 := H0) (gE := gE) (den (Gg Φ fuel) (.ite e)) with
    i := fun W X c t a s q => iFE (key W X c t a s q)
    j := key }
end
end MR
set_option Elab.async false
set_option linter.all false
set_option maxRecDepth 100000
namespace MR
open PySem PySem.Spec PyProof.Rows L2
section
variable {o : Om} {tx : Tx} {Φ : Nat → List D → S → R D} {kf : Nat} {H0 : Hp} {gE : GE} {fuel : Nat}
/-- a statement -/
theorem Snd.stm {D : Den} {f : Sc → Stmt → Bool} (h : ∀ W X c st, Sok o tx Φ kf gE W X c → f c st = true → PS X st (tX o H0 gE W D.x)) : Snd o tx Φ kf H0 gE D { x := f } :=
  { Snd.none (o := o) (tx := tx) (Φ := Φ) (kf := kf) (H0 := H0) (gE := gE) D with x := h }
theorem tg_or (t : E) : (∃ i, t = .tg i) ∨ ∀ i, t ≠ .tg i := by
  cases t <;> first | exact .inl ⟨_, rfl⟩ | exact .inr fun _ z => by cases z
theorem n_asg {t e : E} (h1 : SndE o tx Φ kf H0 gE fuel e) : SndE o tx Φ kf H0 gE fuel (.asg t e) := .stm fun W X c st s q => by
  have hg := (tg_all (gE := gE) (o := o) (tx := tx) (Φ := Φ) (kf := kf) (H0 := H0) t).1
  simp only [Bool.and_eq_true] at q
  obtain ⟨_, q⟩ := q
  split at q
  · simp only [Bool.and_eq_true] at q
    exact x_asg (mFO_of q.1) (h1.s W X c _ _ s q.2)
  · split at q
    · rename_i xs kt pt a ps
      simp only [Bool.and_eq_true] at q
      obtain ⟨⟨⟨e1, e2⟩, e3⟩, e4⟩ := q
      refine x_asgT2 (pe_F (mFO_of e2) (h1.v W X c _ s e4)) (hg W X c _ s e3) (by cases a <;> rfl) ?_ rfl
      rw [Bool.or_eq_true] at e1
      rcases e1 with e1 | e1
      · exact swapped_no (.inl (by simpa using e1)) rfl
      · unfold notBoth at e1
        split at e1
        · refine swapped_no2 ?_
          rw [s.sc]
          simpa using e1
        · cases e1
    · cases q
theorem n_asgo {i : Nat} {e : E} (h1 : SndE o tx Φ kf H0 gE fuel e) : SndE o tx Φ kf H0 gE fuel (.asgo i e) := .stm fun W X c st s q => by
  simp only [Bool.and_eq_true] at q
  obtain ⟨⟨_, e1⟩, e2⟩ := q
  have := h1.s W X c _ _ s e2
  rw [dc e1] at this
  exact x_asgo this
theorem md_of {b : Bool} {m : Md} {W : WX} {X : Cx} {a : Expr} {f : Env → S → R D} (h : (if b = true then decide (m = .O) else mFO m) = true) (p : PE X a (tE o H0 W m f)) : PE X a (tE o H0 W (mdOf b) f) := by
  cases b with
  | true =>
    have := dc h
    subst this
    exact p
  | false => exact pe_F (mFO_of h) p
theorem n_par {i j : Nat} {a b : E} {oi oj : Bool} (h1 : SndE o tx Φ kf H0 gE fuel a) (h2 : SndE o tx Φ kf H0 gE fuel b) : SndE o tx Φ kf H0 gE fuel (.par i j a b oi oj) := .stm fun W X c st s q => by
  split at q
  · simp only [Bool.and_eq_true, Bool.or_eq_true, Bool.not_eq_true'] at q
    obtain ⟨⟨⟨⟨⟨⟨⟨⟨⟨⟨e0, e1⟩, e2⟩, e3⟩, ee⟩, e7⟩, e8⟩, a3⟩, a4⟩, a5⟩, a6⟩ := q
    rcases ee with ⟨⟨⟨⟨⟨e4, e5⟩, e6⟩, f1⟩, f2⟩, f3⟩ | ⟨⟨e4, e5⟩, e6⟩
    · exact x_par s.calm s.nd (s.nn (dc e1)) (s.nn (dc e2)) (dc e3) s.kind (by rw [s.sc]; exact dc e4) (by rw [s.sc]; exact dc e5) (md_of a3 (h1.v W X c _ s a5)) (md_of a4 (h2.v W X c _ s a6)) f1 e7 e8 f2 f3 e6
    · refine x_par2 s.calm s.nd (s.nn (dc e1)) (s.nn (dc e2)) (dc e3) (s.sto e4).1 (s.sto e4).2 (s.sto e5).1 (s.sto e5).2 ?_ (md_of a3 (h1.v W X c _ s a5)) (md_of a4 (h2.v W X c _ s a6)) e7 e8
      rw [s.sc]
      rcases e6 with e6 | e6
      · exact .inl (of_decide_eq_false e6)
      · exact .inr (of_decide_eq_false e6)
  · cases q
theorem n_app {i : Nat} {e : E} (h1 : SndE o tx Φ kf H0 gE fuel e) : SndE o tx Φ kf H0 gE fuel (.app i e) := .stm fun W X c st s q => by
  split at q
  · simp only [Bool.and_eq_true, Bool.not_eq_true'] at q
    obtain ⟨⟨⟨⟨⟨⟨⟨⟨e0, e1⟩, e2⟩, e3⟩, e4⟩, e5⟩, e6⟩, e7⟩, e8⟩ := q
    obtain rfl := dc e1
    exact x_app (s.nn (dc e2)) (s.vis e3) (ndb_of e4).1 (ndb_of e4).2 (pe_F (mFO_of e7) (h1.v W X c _ s e8)) e5 e6
  · cases q
theorem n_clr {i : Nat} : SndE o tx Φ kf H0 gE fuel (.clr i) := .stm fun W X c st s q => by
  split at q
  · simp only [Bool.and_eq_true] at q
    obtain ⟨⟨⟨⟨⟨e0, e1⟩, e2⟩, e3⟩, e4⟩, e5⟩ := q
    obtain rfl := dc e1
    exact x_clr (s.nn (dc e2)) (s.vis e3) (ndb_of e4).1 (ndb_of e4).2 e5
  · cases q
theorem n_popt {i j : Nat} {e : E} (h1 : SndE o tx Φ kf H0 gE fuel e) : SndE o tx Φ kf H0 gE fuel (.popt i j e) := .stm fun W X c st s q => by
  split at q
  · simp only [Bool.and_eq_true, Bool.not_eq_true'] at q
    obtain ⟨⟨⟨⟨⟨⟨⟨⟨⟨e0, e1⟩, e2⟩, e3⟩, e4⟩, e5⟩, e6⟩, e7⟩, e8⟩, e9⟩ := q
    obtain rfl := dc e1
    exact x_popt s.nd (s.nn (dc e2)) (s.sto e3).1 (s.sto e3).2 (s.nn (dc e4)) (s.vis e5) (ndb_of e6).1 (ndb_of e6).2 (h1.v W X c _ s e9) e7 e8
  · cases q
theorem n_apop {i j : Nat} {e : E} (h1 : SndE o tx Φ kf H0 gE fuel e) : SndE o tx Φ kf H0 gE fuel (.apop i j e) := .stm fun W X c st s q => by
  split at q
  · simp only [Bool.and_eq_true, Bool.not_eq_true'] at q
    obtain ⟨⟨⟨⟨⟨⟨⟨⟨⟨⟨⟨⟨e0, e1⟩, e1'⟩, e2⟩, e3⟩, e4⟩, e5⟩, e6⟩, e7⟩, e8⟩, e9⟩, a1⟩, a2⟩ := q
    obtain rfl := dc e1
    obtain rfl := dc e1'
    exact x_apop (s.nn (dc e2)) (s.vis e3) (ndb_of e4).1 (ndb_of e4).2 (s.nn (dc e5)) (s.vis e6) (ndb_of e7).1 (ndb_of e7).2 (h1.v W X c _ s a2) e8 e9 a1
  · cases q
theorem n_cset {b k e : E} (h1 : SndE o tx Φ kf H0 gE fuel b) (h2 : SndE o tx Φ kf H0 gE fuel k) (h3 : SndE o tx Φ kf H0 gE fuel e) : SndE o tx Φ kf H0 gE fuel (.cset b k e) := .stm fun W X c st s q => by
  split at q
  · simp only [Bool.and_eq_true] at q
    obtain ⟨⟨⟨⟨⟨e0, e1⟩, e2⟩, e3⟩, e4⟩, e5⟩ := q
    exact x_cset (by have := s.hu; omega) (pe_F (mFO_of e1) (h1.v W X c _ s e3)) (h2.v W X c _ s e4) (pe_F (mFO_of e2) (h3.v W X c _ s e5))
  · cases q
theorem n_exs {e : E} (h1 : SndE o tx Φ kf H0 gE fuel e) : SndE o tx Φ kf H0 gE fuel (.exs e) := .stm fun W X c st s q => by
  split at q
  · simp only [Bool.and_eq_true] at q
    exact x_exs (h1.v W X c _ s q.2) q.1.2
  · cases q
theorem n_ret {e : E} (h1 : SndE o tx Φ kf H0 gE fuel e) : SndE o tx Φ kf H0 gE fuel (.ret e) := .stm fun W X c st s q => by
  split at q
  · simp only [Bool.and_eq_true] at q
    obtain ⟨⟨e0, e1⟩, e2⟩ := q
    have hr := s.rt e0
    cases ho : c.own with
    | true =>
      rw [ho] at hr e1
      have hm := dc e1
      exact x_ret hr (by rw [← hm]; exact h1.v W X c _ s e2)
    | false =>
      rw [ho] at hr e1
      exact x_ret hr (pe_F (mFO_of e1) (h1.v W X c _ s e2))
  · cases q
theorem n_rmv {i : Nat} : SndE o tx Φ kf H0 gE fuel (.rmv i) := .stm fun W X c st s q => by
  split at q
  · simp only [Bool.and_eq_true] at q
    obtain ⟨⟨⟨e0, e1⟩, e2⟩, e3⟩ := q
    exact x_rmv (s.rtm e0) (s.nn (dc e1)) (s.vis e2) (ndb_of e3).1 (ndb_of e3).2
  · cases q
theorem n_retn : SndE o tx Φ kf H0 gE fuel .retn := .stm fun W X c st s q => by
  split at q
  · exact x_retn (s.rtm q)
  · cases q
theorem n_iff {d a b : E} (h3 : SndE o tx Φ kf H0 gE fuel d) (h1 : SndE o tx Φ kf H0 gE fuel a) (h2 : SndE o tx Φ kf H0 gE fuel b) : SndE o tx Φ kf H0 gE fuel (.iff d a b) := .stm fun W X c st s q => by
  split at q
  · simp only [Bool.and_eq_true] at q
    obtain ⟨⟨⟨e0, e1⟩, e2⟩, e3⟩ := q
    exact x_sif (h3.t W X c _ s e1) (h1.b W X c _ s e2) (h2.b W X c _ s e3)
  · cases q
theorem n_wh {d b : E} (h3 : SndE o tx Φ kf H0 gE fuel d) (h1 : SndE o tx Φ kf H0 gE fuel b) : SndE o tx Φ kf H0 gE fuel (.wh d b) := .stm fun W X c st s q => by
  split at q
  · simp only [Bool.and_eq_true] at q
    obtain ⟨⟨e0, e1⟩, e2⟩ := q
    exact x_while (s.po e0) (h3.t W X c _ s e1) (h1.b W X c _ s e2)
  · cases q
theorem n_for {t it b : E} (h3 : SndE o tx Φ kf H0 gE fuel it) (h1 : SndE o tx Φ kf H0 gE fuel b) : SndE o tx Φ kf H0 gE fuel (.for_ t it b) := .stm fun W X c st s q => by
  have hg := (tg_all (gE := gE) (o := o) (tx := tx) (Φ := Φ) (kf := kf) (H0 := H0) t).1
  split at q
  · simp only [Bool.and_eq_true] at q
    obtain ⟨⟨⟨⟨e0, e1⟩, e2⟩, e3⟩, e4⟩ := q
    exact x_for (s.po e0) s.calm (h3.j W X c _ _ s e2) (hg W X c _ s e3) (h1.b W X c _ s e4) (notSet_of e1)
  · cases q
theorem n_lams {w : Nat} {es : E} {cs : List Nat} (h1 : SndE o tx Φ kf H0 gE fuel es) : SndE o tx Φ kf H0 gE fuel (.lams w es cs) := .stm fun W X c st s q => by
  split at q
  · rename_i wn tp ls lp isi q1 cg p w2 wp pos cls q2 q3 q4 j q5 q6 q7 fpos
    simp only [Bool.and_eq_true] at q
    obtain ⟨⟨⟨⟨⟨⟨⟨⟨⟨⟨⟨⟨⟨e0, e1⟩, e2⟩, e3⟩, e4⟩, e5⟩, e6⟩, e7⟩, e8⟩, e9⟩, f0⟩, f1⟩, f2⟩, f3⟩ := q
    obtain rfl := dc e3
    obtain rfl := dc e7
    obtain rfl := dc e9
    obtain ⟨CS, hx, _, hC⟩ := (s.cg e1).ok
    have hN := s.nn (dc e2)
    obtain ⟨L, hlen⟩ := h1.ll W X c ls CS w _ p wp pos s f2 e1 hC (s.gl f0) hN (s.vis e5) e6
    obtain ⟨k, rfl⟩ : ∃ k, cs = [k] := by
      unfold oneC at f1
      split at f1
      · exact ⟨_, rfl⟩
      · cases f1
    unfold oneC at f1
    simp only [Bool.and_eq_true] at f1
    obtain ⟨⟨g1, g2⟩, g3⟩ := f1
    have hX := s.xc _ _ (dc g1)
    have hst := s.sto e4
    exact x_lams (s.rtm e0) (s.po e0) s.calm s.K s.xf (nth_lt (dc g1)) (s.gl e8) (s.bl _ (by simp [blN])) (s.gl g2) hX.gC (ndb_of g3).1 rfl hx s.nd hN hst.1 hst.2 L (by rw [hlen, sizeLine_eq]; have := dc f3; omega)
  · cases q
theorem n_rs {k : Nat} {m : Str} : SndE o tx Φ kf H0 gE fuel (.rs k m) := .stm fun W X c st s q => by
  split at q
  · simp only [Bool.and_eq_true] at q
    obtain ⟨⟨⟨e0, e1⟩, e2⟩, e3⟩ := q
    exact x_raise s.calm s.tk (s.xc _ _ (dc e1)) (s.gl e2) (ndb_of e3).1
  · cases q
theorem n_ps : SndE o tx Φ kf H0 gE fuel .ps := .stm fun W X c st s q => by
  split at q
  · exact x_pass
  · cases q
theorem n_brk : SndE o tx Φ kf H0 gE fuel .brk := .stm fun W X c st s q => by
  split at q
  · exact x_brk
  · cases q
theorem n_cnt : SndE o tx Φ kf H0 gE fuel .cnt := .stm fun W X c st s q => by
  split at q
  · exact x_cnt
  · cases q
/-- the checker is right -/
theorem snd_all (e : E) : SndE o tx Φ kf H0 gE fuel e := by
  induction e with
  | nl => exact n_nl
  | cn h t a b => exact n_cn a b
  | st e a => exact n_st a
  | vr i => exact n_vr i
  | br i => exact n_br i
  | ci i => exact n_ci i
  | cb i => exact n_cb i
  | cnn => exact n_cnn
  | cs i => exact n_cs i
  | tp es a => exact n_tp a
  | ls es a => exact n_ls a
  | bin op a b x y => exact n_bin x y
  | neg a x => exact n_neg x
  | nt a x => exact n_nt x
  | cmp op a b x y => exact n_cmp x y
  | cm2 op op2 a b c x y z => exact n_cm2 x y z
  | an a b x y => exact n_an x y
  | or a b x y => exact n_or x y
  | ife c a b x y z => exact n_ife x y z
  | call f es x => exact n_call x
  | calk f es p x => exact n_calk x
  | gc x i => exact n_gc
  | dsp ks vs _ x => exact n_dsp x
  | blt b es x => exact n_blt x
  | rpl es x => exact n_rpl x
  | sor e x => exact n_sor x
  | dz i j => exact n_dz
  | lset e x => exact n_lset x
  | sset e x => exact n_sset x
  | isi e ts x => exact n_isi x
  | ise e cs x => exact n_ise x
  | sub a i x y => exact n_sub x y
  | slc a l h x y z => exact n_slc x y z
  | lc tg it cond elt vs _ a b d => exact n_lc a b d fun W X c t s q => (tg_all (gE := gE) tg).1 W X c t s q
  | lc2 tg it cond tg2 it2 cond2 elt vs vs2 _ a b _ d e f => exact n_lc2 a b d e f
  | li it x => exact n_li x
  | ti it x => exact n_ti x
  | newc e x => exact n_newc x
  | popc b i x _ => exact n_popc x
  | cgt e x => exact n_cgt x
  | itv e x => exact n_itv x
  | itr es x => exact n_itr x
  | itz es x => exact n_itz x
  | ite e x => exact n_ite x
  | asg t e _ x => exact n_asg x
  | asgo i e x => exact n_asgo x
  | par i j a b oi oj x y => exact n_par x y
  | app i e x => exact n_app x
  | clr i => exact n_clr
  | popt i j e x => exact n_popt x
  | apop i j e x => exact n_apop x
  | cset b k e x y z => exact n_cset x y z
  | exs e x => exact n_exs x
  | lams w es cs x => exact n_lams x
  | ret e x => exact n_ret x
  | rmv i => exact n_rmv
  | retn => exact n_retn
  | iff c a b x y z => exact n_iff x y z
  | wh c b x y => exact n_wh x y
  | for_ tg it b _ x y => exact n_for x y
  | rs c s => exact n_rs
  | ps => exact n_ps
  | brk => exact n_brk
  | cnt => exact n_cnt
  | tg i => exact { Snd.none (o := o) (tx := tx) (Φ := Φ) (kf := kf) (H0 := H0) (gE := gE) (den (Gg Φ fuel) (.tg i)) with }
  | tt es => exact { Snd.none (o := o) (tx := tx) (Φ := Φ) (kf := kf) (H0 := H0) (gE := gE) (den (Gg Φ fuel) (.tt es)) with }
  | _ => exact Snd.none _
end
end MR
set_option Elab.async false
set_option linter.all false
set_option maxRecDepth 100000
namespace MR
open PySem PySem.Spec PyProof.Rows L2

/-- a def, told -/
structure Df where
  nm : Str
  np : Nat
  N : List Str
  st : Stmt
  body : E
  lam : Bool
  kl : List (Nat × List Str × List Nat) := []
  own : Bool := false
def Df.rm (d : Df) : Md := if d.own = true then .O else .F
def lamName (nm : Str) : Str := nm ++ ".<locals>." ++ "<lambda>"
def cellNames (sc : Scope) : List Str := (sc.names.filter fun y => decide (sc.names.lookup y.1 = some .cell)).map (·.1)
def scOf (d : Df) : Sc := { N := d.N, sc := defScope d.st, cf := cellNames (defScope d.st), lam := d.lam, st := true, own := d.own }
def fdOf (d : Df) : FD := ⟨d.np, d.N.length, d.body⟩
/-- a def of the text stands, and its form is right -/
structure DfOk (o : Om) (tx : Tx) (K : PySem.W.Frag) (mg : Str → Option Value) (base : Heap) (d : Df) : Prop where
  ex : ∃ (f : Addr) (oc kV doc pm cdv ct : Value) (od an : Option Addr) (osl : Array (Option Value)), K.lookup f = some ⟨oc, od, .func (PySem.W.fnOf d.nm d.nm (defArgs d.st) (defBody d.st) (defScope d.st) .none kV doc pm an cdv ct), osl⟩ ∧
    PySem.W.codeIn K cdv d.nm = true ∧ PySem.W.keepIn K (.ref f) = true ∧ mg d.nm = some (.ref f) ∧
    (d.lam = true → ∃ c Pt, cdv = .ref c ∧ LamX.TabB base mg c Pt ∧ (Pt, lamName d.nm) ∈ o.tb ∧ ∀ p ∈ o.tb, p.1 = Pt → p.2 = lamName d.nm)
  sc : FnScope d.N (d.N.take d.np) (defScope d.st)
  np : (d.N.take d.np).length = d.np
  bd : ∀ (kV doc pm : Value) (an : Option Addr) (cdv ct : Value) (us : List Value), us.length = (d.N.take d.np).length → bindArgs (PySem.W.fnOf d.nm d.nm (defArgs d.st) (defBody d.st) (defScope d.st) .none kV doc pm an cdv ct) ⟨us, []⟩ = pure ((d.N.take d.np).zip us)
  kb : ∀ (kV doc pm : Value) (an : Option Addr) (cdv ct : Value), ∀ e ∈ d.kl, KwB (PySem.W.fnOf d.nm d.nm (defArgs d.st) (defBody d.st) (defScope d.st) .none kV doc pm an cdv ct) (d.N.take d.np) e
  ck : (chk tx d.body).b (scOf d) (defBody d.st) = true
/-- the def that keeps what a lambda raises -/
structure CgOk (o : Om) (K : PySem.W.Frag) (mg : Str → Option Value) (CS : Addr) : Prop where
  ex : ∃ (g : Addr) (oc kV doc pm cdv ct : Value) (od an : Option Addr) (osl : Array (Option Value)) (pg : Arguments) (sg : Scope) (a e y n : Str) (j0 : Nat) (p1 p2 p3 p4 p5 p6 p7 p8 p9 p10 p11 p12 p13 p14 : Pos),
    K.lookup g = some ⟨oc, od, .func (PySem.W.fnOf cgName cgName pg [.Assign [.Name y p1] (.Constant .none j0 p2) p3,
      .Try [.Expr (.Call (.Name a p4) [] [] p5) p6] [.ExceptHandler (some (.Name e p7)) (some n) [.Assign [.Name y p8] (.Name n p9) p10] p11] [] [] p12,
      .Return (some (.Name y p13)) p14] sg .none kV doc pm an cdv ct), osl⟩ ∧ PySem.W.codeIn K cdv cgName = true ∧ PySem.W.keepIn K (.ref g) = true ∧ mg cgName = some (.ref g) ∧
    (∀ us : List Value, us.length = 1 → bindArgs (PySem.W.fnOf cgName cgName pg [.Assign [.Name y p1] (.Constant .none j0 p2) p3,
      .Try [.Expr (.Call (.Name a p4) [] [] p5) p6] [.ExceptHandler (some (.Name e p7)) (some n) [.Assign [.Name y p8] (.Name n p9) p10] p11] [] [] p12,
      .Return (some (.Name y p13)) p14] sg .none kV doc pm an cdv ct) ⟨us, []⟩ = pure ([a].zip us)) ∧
    FnScope [a, y, n] [a] sg ∧ sg.names.lookup a = some .local ∧ sg.names.lookup y = some .local ∧ sg.names.lookup n = some .local ∧ sg.names.lookup e = some .globalImplicit ∧ mg e = some (.ref CS) ∧ ndb e = true ∧ ndb n = true ∧ ndb y = true ∧ ndb a = true
  ex2 : ∀ c, PySem.W.exmOne o.K (.ref (o.xc c)) (.ref CS) = some true
/-- what the top of the text must say -/
structure Top (o : Om) (tx : Tx) (ds : List Df) (K : PySem.W.Frag) (mg : Str → Option Value) (base : Heap) : Prop where
  hK : K = o.K
  df : ∀ i d, nth ds i = some d → DfOk o tx K mg base d
  fn : tx.fn = ds.map fun d => (d.nm, d.np)
  kw : tx.kw = ds.map fun d => d.kl
  ow : tx.ow = ds.map fun d => d.own
  bl : ∀ x ∈ blN, mg x = none
  xc : ∀ i x, nth tx.xs i = some x → Xc o K mg i x
  xf : XcF o tx.xs.length
  gc : ∀ x i, (x, i) ∈ tx.gc → ∃ t, mg x = some (.int i t)
  cg : ∀ i d, nth ds i = some d → d.lam = true → ∃ CS, CgOk o K mg CS
theorem nth_map {α β : Type} (f : α → β) : ∀ {l : List α} {i : Nat}, nth (l.map f) i = (nth l i).map f
  | [], i => by cases i <;> rfl
  | x :: r, 0 => rfl
  | x :: r, i + 1 => nth_map f (l := r) (i := i)
theorem noArgs_eq {p : Arguments} (h : noArgs p = true) : p = { posonlyargs := [], args := [], vararg := none, kwonlyargs := [], kw_defaults := [], kwarg := none, defaults := [] } := by
  obtain ⟨a, b, c, d, e, f, g⟩ := p
  unfold noArgs at h
  simp only [Bool.and_eq_true, List.isEmpty_iff, Option.isNone_iff_eq_none] at h
  obtain ⟨⟨⟨⟨⟨⟨h1, h2⟩, h3⟩, h4⟩, h5⟩, h6⟩, h7⟩ := h
  subst h1 h2 h3 h4 h5 h6 h7
  rfl
section
variable {o : Om} {tx : Tx} {ds : List Df} {P : Program} {w : World} {K : PySem.W.Frag} {mg : Str → Option Value} {base : Heap} {fuel : Nat}
theorem rd_start_fz : ∀ (ds : List D) (k i : Nat), rd (ds.map Sl.fz ++ List.replicate k .un) i = (match nth ds i with | some d => .fz d | none => .un)
  | [], 0, i => by cases i <;> rfl
  | [], k + 1, 0 => rfl
  | [], k + 1, i + 1 => by
    have := rd_start_fz [] k i
    simp only [List.map_nil, List.nil_append] at this ⊢
    rw [List.replicate_succ]
    show rd (List.replicate k .un) i = _
    rw [this]
    cases i <;> rfl
  | d :: ds, k, 0 => rfl
  | d :: ds, k, i + 1 => rd_start_fz ds k i
theorem slots_start {g : Gh} {s : S} {H : Hp} {ds : List D} {vs : List V} {N : List Str} (r : Reps o g ds vs) (hl : ds.length ≤ N.length) : Slots o H g (start N.length ds) (L2.start N vs) H := by
  have l := r.length
  have key : ∀ i, rd (start N.length ds) i = (match nth ds i with | some d => .fz d | none => .un) := fun i => rd_start_fz ds _ i
  refine ⟨?_, fun i d h => ?_, fun i d h => ?_, fun i j d d' a _ h => ?_⟩
  · unfold start L2.start
    simp only [List.length_append, List.length_map, List.length_replicate]
    omega
  · rw [key] at h
    cases e : nth ds i with
    | none => rw [e] at h; cases h
    | some d' =>
      rw [e] at h
      cases h
      obtain ⟨v, hv, rv⟩ := r.get e
      refine ⟨v, ?_, rv⟩
      unfold L2.start
      have hi : i < vs.length := (List.getElem?_eq_some_iff.mp hv).1
      rw [List.getElem?_append_left (by simpa using hi), List.getElem?_map, hv]
      rfl
  · rw [key] at h
    cases e : nth ds i with
    | none => rw [e] at h; cases h
    | some d' => rw [e] at h; cases h
  · rw [key] at h
    cases e : nth ds i with
    | none => rw [e] at h; cases h
    | some d' => rw [e] at h; cases h
theorem cgl_of {gf : Bool} {CS : Addr} (T : CgOk o K mg CS) {N : List Str} {d : Df} {f : Addr} {cdv : Value} {A : Around} {outer : List PySem.Env} {s : Shared} {H : Hp} {E : XK}
    (hl : ∃ c Pt, cdv = .ref c ∧ LamX.TabB base mg c Pt ∧ (Pt, lamName d.nm) ∈ o.tb ∧ ∀ p ∈ o.tb, p.1 = Pt → p.2 = lamName d.nm) :
    CgL gf o (cxOf (L2.CX P w) P w K mg base N d.nm (defScope d.st) f cdv A outer s H E) CS := by
  obtain ⟨g, oc, kV, doc, pm, cd, ct, od, an, osl, pg, sg, a, e, y, n, j0, p1, p2, p3, p4, p5, p6, p7, p8, p9, p10, p11, p12, p13, p14, lk, hcg, hk, hm, hb, Sg, ha, hy, hn, he, hme, de, dn, dy, da⟩ := T.ex
  obtain ⟨c, Pt, hc, TB, hT, hu⟩ := hl
  generalize hX : cxOf (L2.CX P w) P w K mg base N d.nm (defScope d.st) f cdv A outer s H E = X
  have xK : X.K = K := by rw [← hX]; rfl
  have xm : X.mg = mg := by rw [← hX]; rfl
  have xb : X.base = base := by rw [← hX]; rfl
  have xq : X.env.qual ++ "<lambda>" = lamName d.nm := by rw [← hX]; rfl
  have xc : X.env.code = cdv := by rw [← hX]; rfl
  refine ⟨fun params body scope lpos hp L => ?_, fun k params body scope t w wn p wp pos hg hp L hr hgd hN hv hnd hbody => ?_⟩
  · have hp := noArgs_eq hp
    subst hp
    exact pe_lamV (c := c) (P := Pt) (by rw [xb, xm]; exact TB) (by rw [xc]; exact hc) (by rw [xq]; exact hT) (by rw [xq]; exact hu) rfl L
  · have hp := noArgs_eq hp
    subst hp
    have hG := caught_givesJ (X := X) (x := cgName) (g := g) (cdg := cd) (j0 := j0) (p1 := p1) (p2 := p2) (p3 := p3) (p4 := p4) (p5 := p5) (p6 := p6) (p7 := p7) (p8 := p8) (p9 := p9) (p10 := p10) (p11 := p11) (p12 := p12) (p13 := p13) (p14 := p14) ha hy hn Sg.nd he (by rw [xm]; exact hme) (ndb_of de).1 (ndb_of dn).1 (ndb_of dn).2 (ndb_of dy).1 (ndb_of dy).2
    exact pe_lamvar hg (by rw [xm]; exact hm) (by rw [xK]; exact hk) (by rw [xK]; exact lk) (by rw [xK]; exact hcg) (.all fun us hl => hb us hl) Sg rfl (.inl ha) hG hN hv (ndb_of hnd).1 (ndb_of hnd).2 hr hgd L (fun _ _ _ _ _ => rfl) hbody (by decide +kernel) (ndb_of da).1 (ndb_of da).2
theorem cg_of {gf : Bool} {CS : Addr} (T : CgOk o K mg CS) {N : List Str} {d : Df} {f : Addr} {cdv : Value} {A : Around} {outer : List PySem.Env} {s : Shared} {H : Hp} {E : XK}
    (hl : ∃ c Pt, cdv = .ref c ∧ LamX.TabB base mg c Pt ∧ (Pt, lamName d.nm) ∈ o.tb ∧ ∀ p ∈ o.tb, p.1 = Pt → p.2 = lamName d.nm) :
    Cg gf o (cxOf (L2.CX P w) P w K mg base N d.nm (defScope d.st) f cdv A outer s H E) := by
  refine ⟨CS, T.ex2, fun k params body scope t p lpos pos hg hp L hr hgd hbody => ?_, ?_⟩
  case refine_2 => exact cgl_of T hl
  obtain ⟨g, oc, kV, doc, pm, cd, ct, od, an, osl, pg, sg, a, e, y, n, j0, p1, p2, p3, p4, p5, p6, p7, p8, p9, p10, p11, p12, p13, p14, lk, hcg, hk, hm, hb, Sg, ha, hy, hn, he, hme, de, dn, dy, da⟩ := T.ex
  obtain ⟨c, Pt, hc, TB, hT, hu⟩ := hl
  have hp := noArgs_eq hp
  subst hp
  generalize hX : cxOf (L2.CX P w) P w K mg base N d.nm (defScope d.st) f cdv A outer s H E = X at hg L hr hgd hbody ⊢
  have xK : X.K = K := by rw [← hX]; rfl
  have xm : X.mg = mg := by rw [← hX]; rfl
  have xb : X.base = base := by rw [← hX]; rfl
  have xq : X.env.qual ++ "<lambda>" = lamName d.nm := by rw [← hX]; rfl
  have xc : X.env.code = cdv := by rw [← hX]; rfl
  have hG := caught_gives (X := X) (x := cgName) (g := g) (cdg := cd) (q := X.env.qual ++ "<lambda>") (j0 := j0) (p1 := p1) (p2 := p2) (p3 := p3) (p4 := p4) (p5 := p5) (p6 := p6) (p7 := p7) (p8 := p8) (p9 := p9) (p10 := p10) (p11 := p11) (p12 := p12) (p13 := p13) (p14 := p14) ha hy hn Sg.nd he (by rw [xm]; exact hme) (ndb_of de).1 (ndb_of dn).1 (ndb_of dn).2 (ndb_of dy).1 (ndb_of dy).2
  exact pe_lamcallG hg (by rw [xm]; exact hm) (by rw [xK]; exact hk) (by rw [xK]; exact lk) (by rw [xK]; exact hcg) (.all fun us hl => hb us hl) Sg rfl (.inl ha) hG (c := c) (P := Pt) (by rw [xb, xm]; exact TB) (by rw [xc]; exact hc) (by rw [xq]; exact hT) (by rw [xq]; exact hu) hr hgd L rfl (fun _ _ _ _ _ => rfl) hbody (by decide +kernel) (ndb_of da).1 (ndb_of da).2
/-- one def, its object told -/
theorem def_ok (T : Top o tx ds K mg base) {n i : Nat} {d : Df} (hd : nth ds i = some d) (ih : ∀ (i : Nat) (d : Df), nth ds i = some d → Fd tx.gf o P w K mg base (3 * n) d.nm d.np d.kl d.rm (callN (ds.map fdOf) txt fuel n i))
    {f : Addr} {oc kV doc pm cdv ct : Value} {od an : Option Addr} {osl : Array (Option Value)} (hm : mg d.nm = some (.ref f)) (lk : K.lookup f = some ⟨oc, od, .func (PySem.W.fnOf d.nm d.nm (defArgs d.st) (defBody d.st) (defScope d.st) .none kV doc pm an cdv ct), osl⟩) :
    FnG tx.gf P w K mg base (L2.CX P w) (3 * n + 2 + 1) f (PySem.W.fnOf d.nm d.nm (defArgs d.st) (defBody d.st) (defScope d.st) .none kV doc pm an cdv ct) (d.N.take d.np) (spF o d.np d.rm (callN (ds.map fdOf) txt fuel (n + 1) i)) := by
  have D := T.df i d hd
  obtain ⟨f', oc', kV', doc', pm', cdv', ct', od', an', osl', lk', hc, hk, hm', hl⟩ := D.ex
  rw [hm] at hm'
  cases hm'
  rw [lk] at lk'
  have e1 := congrArg Obj.data (Option.some.inj lk')
  have e2 := Data.func.inj e1
  have e3 : cdv = cdv' := congrArg FuncData.code e2
  subst e3
  have hl' := hl
  refine fn_ofC (k := 3 * n + 2) lk hc D.sc (fun vs H Q E h => by rw [D.np]; exact h.1) fun A outer s H vs Q E hr hgd h => ?_
  obtain ⟨hlen, g, s0, xs, cu, rp, p⟩ := h
  have hlx : xs.length = d.np := by rw [← rp.length, hlen]
  have sok : Sok o tx (callN (ds.map fdOf) txt fuel n) (3 * n) ⟨g, d.rm⟩ (wE E) (cxOf (L2.CX P w) P w K mg base d.N d.nm (defScope d.st) f cdv A outer s H E) (scOf d) :=
    { K := T.hK
      calm := rfl
      nd := D.sc.nd
      tk := takes_of rfl rfl rfl rfl
      gd := hgd
      N := rfl
      sc := rfl
      kind := D.sc.kind
      cf := fun x hx => rfl
      room := ⟨3 * n + 2, hr, by omega, fun _ => Nat.le_refl _⟩
      fn := fun j x np hj => by
        rw [T.fn, nth_map] at hj
        cases e : nth ds j with
        | none => rw [e] at hj; cases hj
        | some d' =>
          rw [e] at hj
          cases hj
          have hkl : klOf tx j = d'.kl := by
            unfold klOf
            rw [T.kw, nth_map, e]
            rfl
          have how : owOf tx j = d'.rm := by
            unfold owOf
            rw [T.ow, nth_map, e]
            rfl
          rw [hkl, how]
          exact ih j d' e
      bl := T.bl
      xc := T.xc
      xf := T.xf
      gc := T.gc
      po := fun _ => passes_of rfl
      cg := fun z => by
        obtain ⟨CS, hCS⟩ := T.cg i d hd z
        exact cg_of hCS (hl' z)
      rt := fun _ => rfl }
  have body := (snd_all (o := o) (tx := tx) (Φ := callN (ds.map fdOf) txt fuel n) (kf := 3 * n) (H0 := H) (gE := ⟨g, d.rm⟩) (fuel := fuel) d.body).b _ _ _ _ sok D.ck
  refine ⟨_, body, g, start d.N.length xs, s0, cu, ?_, .refl _ _, ?_⟩
  · have hN : d.np ≤ d.N.length := by
      have := D.np
      rw [List.length_take] at this
      omega
    exact slots_start (s := s0) rp (by omega)
  · have hF : nth (ds.map fdOf) i = some (fdOf d) := by rw [nth_map, hd]; rfl
    have e : callN (ds.map fdOf) txt fuel (n + 1) i xs s0 = ((den ⟨callN (ds.map fdOf) txt fuel n, txt, fuel⟩ d.body).x (start d.N.length xs) s0).bind fun f s => match f with
        | .rt d => .ok d s
        | .nx _ => .ok .non s
        | _ => .no := by
      show (match nth (ds.map fdOf) i with | none => R.no | some fd => if xs.length = fd.np then _ else .no) = _
      rw [hF]
      show (if xs.length = d.np then _ else _) = _
      rw [if_pos hlx]
      rfl
    rw [e] at p
    show PoX o (wE E) ⟨g, d.rm⟩ H g ((den ⟨callN (ds.map fdOf) txt fuel n, txt, fuel⟩ d.body).x (start d.N.length xs) s0) _
    cases hr2 : (den ⟨callN (ds.map fdOf) txt fuel n, txt, fuel⟩ d.body).x (start d.N.length xs) s0 with
    | no => rw [hr2] at p; exact p.elim
    | ex cc ys s2 => rw [hr2] at p; exact fun g' σ H' _ c' e' => p g' H' e' c'
    | ok fl s2 =>
      rw [hr2] at p
      cases fl with
      | nx ρ => exact fun g' σ H' _ c' _ e' => p g' H' e' c' .non (mo_plain (by unfold Df.rm; split; exact .inr rfl; exact .inl rfl) rfl (by simp only [Rep]))
      | rt dd => exact fun g' H' v _ c' e' r => p g' H' e' c' v r
      | bk ρ => exact p.elim
      | ct ρ => exact p.elim
/-- THE THEOREM: every def of the text, at every depth, does what its form means -/
theorem all_ok (T : Top o tx ds K mg base) : ∀ (n i : Nat) (d : Df), nth ds i = some d → Fd tx.gf o P w K mg base (3 * n) d.nm d.np d.kl d.rm (callN (ds.map fdOf) txt fuel n i)
  | 0, i, d, hd => by
    have D := T.df i d hd
    obtain ⟨f, oc, kV, doc, pm, cdv, ct, od, an, osl, lk, hc, hk, hm, hl⟩ := D.ex
    refine ⟨f, _, d.N.take d.np, ⟨fun vs H Q E h => by rw [D.np]; exact h.1, fun A outer s H args us vs Q E _ _ _ _ _ h => ?_⟩, hm, hk, .all fun us hl => D.bd kV doc pm an cdv ct us hl, D.kb kV doc pm an cdv ct⟩
    obtain ⟨_, _, _, _, _, _, z⟩ := h
    exact z.elim
  | n + 1, i, d, hd => by
    have D := T.df i d hd
    obtain ⟨f, oc, kV, doc, pm, cdv, ct, od, an, osl, lk, hc, hk, hm, hl⟩ := D.ex
    exact ⟨f, _, d.N.take d.np, def_ok T hd (all_ok T n) hm lk, hm, hk, .all fun us hl => D.bd kV doc pm an cdv ct us hl, D.kb kV doc pm an cdv ct⟩
end
end MR
set_option Elab.async false
set_option linter.all false
set_option maxRecDepth 100000
namespace MR
open PySem PySem.Spec PyProof.Rows L2 LamX
section
variable {K : PySem.W.Frag} {tb : List Addr} {a : Addr} {L : Obj} {ns : List Int}
/-- what is followed at a law's call: the empty tables; the script, if it is not of the written part -/
def entryH (K : PySem.W.Frag) (tb : List Addr) (a : Addr) (L : Obj) (ns : List Int) : Hp := fun b =>
  if b ∈ tb then some (.tbl #[]) else if b = a ∧ K.lookup a = none then some (.frz L (.lst (ns.map V.int))) else none
theorem entryH_cases {b : Addr} {u : HO} (h : entryH K tb a L ns b = some u) : (b ∈ tb ∧ u = .tbl #[]) ∨ (b ∉ tb ∧ b = a ∧ K.lookup a = none ∧ u = .frz L (.lst (ns.map V.int))) := by
  unfold entryH at h
  split at h
  · rename_i m
    exact .inl ⟨m, (Option.some.inj h).symm⟩
  · rename_i m
    split at h
    · rename_i q
      exact .inr ⟨m, q.1, q.2, (Option.some.inj h).symm⟩
    · cases h
theorem entryH_tab {b : Addr} (m : b ∈ tb) : entryH K tb a L ns b = some (.tbl #[]) := if_pos m
theorem entryH_scr (m : a ∉ tb) (k : K.lookup a = none) : entryH K tb a L ns a = some (.frz L (.lst (ns.map V.int))) := by
  unfold entryH
  rw [if_neg m, if_pos ⟨rfl, k⟩]
end
theorem law_callG {gf : Bool} {P : Program} {w : World} {K : PySem.W.Frag} {mg mb : Str → Option Value} {k : Nat} {fa a : Addr} {cs : List (Addr × Addr)} {fd : FuncData} {x : Str} {sp : Sp} {s₁ : Shared} {vs : List Value} {ns : List Int}
    (KX : K.In s₁.heap) (hns : s₁.heap.Ns mainGlobals mg) (hb : s₁.heap.Ns builtinsNs mb) (hbb : ∀ x : Str, x ≠ "__name__" → mb x = bootBuiltins x) (hlim : s₁.heap.NoLimit) (hg : s₁.gens = #[])
    (hT : ∀ p ∈ cs, s₁.heap.get? p.2 = some { cls := .none, data := .fields #[] }) (nT : ∀ p ∈ cs, K.lookup p.2 = none) (C : ∀ p ∈ cs, PySem.W.CodeHd s₁.heap p.1 p.2)
    (hbm : ∃ (bm : Addr) (ob : Obj), mg "__builtins__" = some (.ref bm) ∧ bm ≠ builtinsNs ∧ s₁.heap.get? bm = some ob ∧ ob.cls = .type "module" ∧ ob.dict = some builtinsNs ∧ ob.data = .plain)
    (ha : s₁.heap.get? a = some { cls := .type "list", data := .seq vs.toArray }) (hi : IntsAre vs ns) (hl : ns.length ≤ sizeLine) (hr : Room k callerA)
    (F : ∀ base : Heap, K.In base → base.Ns mainGlobals mg → (∀ p ∈ cs, TabB base mg p.1 p.2) → FnG gf P w K mg base (L2.CX P w) k fa fd [x] sp) (hbind : ∀ (s : Shared) (u : Value), BindsTo s fd ⟨[u], []⟩ [(x, u)])
    (hsp : ∀ H : Hp, (∀ p ∈ cs, H p.2 = some (.tbl #[])) → (∀ b, H b = none ∨ (∃ ps, H b = some (.tbl ps)) ∨ ∃ o xs, H b = some (.frz o (.lst xs))) → SqL K H a (ns.map V.int) → sp [.ref a] H (fun v _ => v = .bl true) fun _ _ _ => False) :
    codeAny (model P w) callerA (.call (.ref fa) ⟨[.ref a], []⟩) (fun r s' => r = .ok (.ret (.bool true)) ∧ OldK s₁.heap s'.heap ∧ s'.os = s₁.os ∧ AllBare s'.gens) s₁ := by
  have rv := vals_ints hi
  have lenV := hi.length
  have tabs : ∀ b ∈ cs.map (·.2), s₁.heap.get? b = some { cls := .none, data := .fields #[] } ∧ K.lookup b = none := fun b hb => by
    obtain ⟨p, hp, rfl⟩ := List.mem_map.mp hb
    exact ⟨hT p hp, nT p hp⟩
  have aT : a ∉ cs.map (·.2) := fun z => by
    have q := (tabs a z).1
    rw [ha] at q
    cases q
  obtain ⟨H, hH⟩ : ∃ H, H = entryH K (cs.map (·.2)) a { cls := .type "list", data := .seq vs.toArray } ns := ⟨_, rfl⟩
  have cH : ∀ {b u}, H b = some u → _ := fun {b u} e => entryH_cases (by rw [← hH]; exact e)
  have tH : ∀ p ∈ cs, H p.2 = some (.tbl #[]) := fun p hp => by
    rw [hH]
    exact entryH_tab (List.mem_map.mpr ⟨p, hp, rfl⟩)
  -- an object that is neither a list's nor an empty table's is not followed
  have free : ∀ {b o}, s₁.heap.get? b = some o → (∀ xs n, o.data ≠ .seq xs n) → o.data ≠ .fields #[] → H b = none := fun {b o} e h1 h2 => by
    cases q : H b with
    | none => rfl
    | some u =>
      rcases cH q with ⟨m, _⟩ | ⟨_, rfl, _, _⟩
      · rw [(tabs b m).1] at e
        cases e
        exact absurd rfl h2
      · rw [ha] at e
        cases e
        exact absurd rfl (h1 _ _)
  have freeK : ∀ {b o}, K.lookup b = some o → H b = none := fun {b o} e => by
    cases q : H b with
    | none => rfl
    | some u =>
      rcases cH q with ⟨m, _⟩ | ⟨_, rfl, k, _⟩
      · rw [(tabs b m).2] at e; cases e
      · rw [k] at e; cases e
  have hok : HOk P w H s₁.heap := fun b u e => by
    rcases cH e with ⟨m, rfl⟩ | ⟨_, rfl, _, rfl⟩
    · exact (tabs b m).1
    · exact ⟨ha, by rw [List.length_map]; exact hl, vs, _, rv, ha⟩
  have hS : SqL K H a (ns.map V.int) := by
    cases hk : K.lookup a with
    | none => exact .inl (.inr ⟨_, by rw [hH]; exact entryH_scr aT hk⟩)
    | some o =>
      have e := KX a o hk
      rw [ha] at e
      cases e
      exact .inr ⟨_, vs.toArray, _, hk, rfl, rfl, rfl, by rw [List.size_toArray, lenV]; exact hl, by simpa using rv⟩
  have ns_ : ∀ {b m}, s₁.heap.Ns b m → (hidT s₁.heap H).Ns b m := fun {b m} ⟨o, es, ep, e, d, r⟩ => ⟨o, es, ep, hidT_get e (free e (fun xs n z => by rw [d] at z; cases z) fun z => by rw [d] at z; cases z), d, r⟩
  have hKb : K.In (hidT s₁.heap H) := fun b o e => hidT_get (KX b o e) (freeK e)
  have TB : ∀ p ∈ cs, TabB (hidT s₁.heap H) mg p.1 p.2 := fun p hp => by
    refine ⟨?_, ?_, fun z => ?_⟩
    · obtain ⟨o, us, file, tf, flags, tg, inF, text, tt, e1, r1, r2, r3, rest⟩ := C p hp
      refine ⟨o, us, file, tf, flags, tg, inF, text, tt, hidT_get e1 (free e1 (fun xs n z => by rw [r2] at z; cases z) fun z => ?_), r1, r2, r3, rest⟩
      rw [r2] at z
      cases z
      simp at r3
    · obtain ⟨bm, ob, b1, b2, b3, b4, b5, b6⟩ := hbm
      refine ⟨bm, ob, b1, b2, fun q => ?_, fun q => ?_, hidT_get b3 (free b3 (fun xs n z => by rw [b6] at z; cases z) fun z => by rw [b6] at z; cases z), b4, b5, b6⟩
      · obtain ⟨o, es, ep, e, hd, _⟩ := hns
        rw [q, e] at b3
        cases b3
        rw [hd] at b6
        cases b6
      · rw [q, hT p hp] at b3
        cases b3
        cases b6
    · obtain ⟨o, es, ep, e, hd, _⟩ := hns
      rw [z, hT p hp] at e
      cases e
      cases hd
  have e0 : Env0 P w K mg (hidT s₁.heap H) callerA [] s₁ H := ⟨rfl, ⟨hKb, ns_ hns, ⟨mb, ns_ hb, hbb⟩, let ⟨mc, h1, h2⟩ := hlim; ⟨mc, ns_ h1, h2⟩⟩, fun b o e => of_hidT e, Nat.le_of_eq (hidT_size _ _), trivial, fun b hb => absurd (show b ∈ ([] : List Addr) from hb) (by simp), hok, .of_eq hg⟩
  have only : ∀ b, H b = none ∨ (∃ ps, H b = some (.tbl ps)) ∨ ∃ o xs, H b = some (.frz o (.lst xs)) := fun b => by
    cases q : H b with
    | none => exact .inl rfl
    | some u =>
      rcases cH q with ⟨_, rfl⟩ | ⟨_, _, _, rfl⟩
      · exact .inr (.inl ⟨_, rfl⟩)
      · exact .inr (.inr ⟨_, _, rfl⟩)
  refine codeAny_mono ((F _ hKb (ns_ hns) TB).run callerA [] s₁ H ⟨[.ref a], []⟩ [.ref a] [.ref a] _ _ hr (fun _ => rfl) e0 (hbind s₁ (.ref a)) (.cons rfl .nil) (hsp H tH only hS)) fun r s' h => ?_
  cases r with
  | error e =>
    obtain ⟨_, _, _, _, _, _, _, _, _, _, _, _, z⟩ := h
    exact z.elim
  | ok fl =>
    cases fl with
    | next => exact False.elim h
    | brk => exact False.elim h
    | cont => exact False.elim h
    | ret u =>
      obtain ⟨v, H', os, bare, un, hok', r', rfl⟩ := h
      obtain rfl : u = Value.bool true := r'
      have kept : ∀ b o, b ∉ cs.map (·.2) → s₁.heap.get? b = some o → s'.heap.get? b = some o := fun b o nb e => by
        cases q : H b with
        | none => exact un.keep b o e q (fun z => absurd (show b ∈ ([] : List Addr) from z) (by simp)) (by simp)
        | some u =>
          rcases cH q with ⟨m, _⟩ | ⟨_, _, _, rfl⟩
          · exact absurd m nb
          · have e1 := (hok b _ q).1
            have e2 := (hok' b _ (un.frzs b _ _ q)).1
            rw [e] at e1
            cases e1
            exact e2
      refine ⟨rfl, ⟨fun b o e => ?_, fun b o e => ?_⟩, os, bare⟩ <;> by_cases hb : b ∈ cs.map (·.2)
      · obtain ⟨p, hp, rfl⟩ := List.mem_map.mp hb
        obtain ⟨more, z⟩ := un.tbls p.2 #[] (tH p hp)
        rw [hT p hp] at e
        cases e
        exact .inr (.inl ⟨((C p hp).tab (hT p hp)).isCodeTable, rfl, #[], _, rfl, hok' p.2 _ z⟩)
      · exact .inl (kept b o hb e)
      · obtain ⟨p, hp, rfl⟩ := List.mem_map.mp hb
        obtain ⟨more, z⟩ := un.tbls p.2 #[] (tH p hp)
        exact ⟨_, hok' p.2 _ z⟩
      · exact ⟨o, kept b o hb e⟩
/-- the tables of the defs are empty when the law is called -/
def TabsAll (q : Program) (K : PySem.W.Frag) (mg : Str → Option Value) (h : Heap) : Prop := ∀ nm, ((recsOf q).any fun e => e.name == nm) = true → ∀ (fa c Pt : Addr) (ob : Obj) (fd : FuncData) (e : Value) (dd : Option Addr) (vs : Array Value) (sl : Array (Option Value)),
  mg nm = some (.ref fa) → K.lookup fa = some ob → ob.data = .func fd → fd.code = .ref c → K.lookup c = some ⟨e, dd, .fields vs, sl⟩ → vs[11]? = some (.ref Pt) → h.get? Pt = some { cls := .none, data := .fields #[] } ∧ PySem.W.CodeHd h c Pt
/-- the values of a script -/
def scrD (ns : List Int) : D := .scr (ns.map D.int)
theorem reps_ints {o : Om} {g : Gh} : ∀ ns : List Int, Reps o g (ns.map D.int) (ns.map V.int)
  | [] => .nil
  | n :: ns => .cons (by simp only [Rep]) (reps_ints ns)
/-- the law's promise at its call -/
theorem entry_ok {o : Om} {md : Md} (hm : md = .F ∨ md = .O) {φ : List D → S → R D} {H : Hp} {a : Addr} {ns : List Int} {s' : S} (only : ∀ b, H b = none ∨ (∃ ps, H b = some (.tbl ps)) ∨ ∃ ob xs, H b = some (.frz ob (.lst xs))) (hS : SqL o.K H a (ns.map V.int)) (hT : ∀ p ∈ o.tb, H p.1 = some (.tbl #[])) (hφ : φ [scrD ns] [] = .ok (.bl true) s') :
    spF o 1 md φ [.ref a] H (fun v _ => v = .bl true) fun _ _ _ => False := by
  refine ⟨rfl, ⟨fun b => match H b with | some (.tbl _) => none | u => u, []⟩, [], [scrD ns], ?_, ?_, ?_⟩
  · refine ⟨fun b u e => ?_, fun b ps e => ?_, fun k b e => by simp [nth] at e, rfl, .nil, fun p hp => LamX.TabS.nil (hT p hp)⟩
    · have e : (match H b with | some (.tbl _) => none | u => u) = some u := e
      rcases only b with q | ⟨ps, q⟩ | ⟨ob, xs, q⟩ <;> rw [q] at e ⊢
      · cases e
      · cases e
      · exact e
    · have e : (match H b with | some (.tbl _) => none | u => u) = some (.tbl ps) := e
      rcases only b with q | ⟨ps, q⟩ | ⟨ob, xs, q⟩ <;> rw [q] at e <;> cases e
  · refine .cons ?_ .nil
    show Rep o _ (.scr _) _
    simp only [Rep]
    refine ⟨a, _, rfl, ?_, reps_ints ns⟩
    rcases hS with (q | ⟨ob, q⟩) | q
    · exact .inl (.inl (by show (match H a with | some (.tbl _) => none | u => u) = _; rw [q]))
    · exact .inl (.inr ⟨ob, by show (match H a with | some (.tbl _) => none | u => u) = _; rw [q]⟩)
    · exact .inr q
  · rw [hφ]
    exact fun g' H' _ _ v r => by
      have r : Rep o g' (.bl true) v := by
        rcases hm with rfl | rfl
        · exact r
        · unfold Mo at r
          dsimp only at r
          rw [if_neg (by decide)] at r
          exact r
      simpa only [Rep] using r
/-- how the law's def binds -/
structure DfBd (d : Df) : Prop where
  np : (d.N.take d.np).length = d.np
  bd : ∀ (kV doc pm : Value) (an : Option Addr) (cdv ct : Value) (us : List Value), us.length = (d.N.take d.np).length → bindArgs (PySem.W.fnOf d.nm d.nm (defArgs d.st) (defBody d.st) (defScope d.st) .none kV doc pm an cdv ct) ⟨us, []⟩ = pure ((d.N.take d.np).zip us)
/-- THE END: a law holds, if what its text means answers True to every script -/
theorem walk_mr {l : PySem.W.OpenLaw} {n m i : Nat} {q : Program} {loose : List Str} {XP : (Str → Option Value) → Heap → Prop} {YP : World → Heap → Prop} {d : DefRec} {K : Params → PySem.W.Frag} {tx : Tx} {ds : List Df} {dl : Df} {fuel : Nat}
    (hn : l.most = some n) (hn2 : n ≤ sizeLine) (hdf : d.params.defaults = []) (hr : Room (3 * m + 3) callerA) (hd : nth ds i = some dl) (hnp : dl.np = 1) (hnm : dl.nm = d.name) (hY : ∀ (w : World) (h : Heap), YP w h → (K w.params).In h)
    (T : ∀ (w : World) (mg : Str → Option Value) (fa : Addr) (h : Heap), YP w h → (K w.params).In h → h.Ns mainGlobals mg → mg d.name = some (.ref fa) → TabsAll q (K w.params) mg h →
      ∃ (o : Om) (cs : List (Addr × Addr)) (oc kV doc pm cdv ct : Value) (od an : Option Addr) (osl : Array (Option Value)), (K w.params).lookup fa = some ⟨oc, od, .func (PySem.W.fnOf dl.nm dl.nm (defArgs dl.st) (defBody dl.st) (defScope dl.st) .none kV doc pm an cdv ct), osl⟩ ∧ DfBd dl ∧ (∀ p ∈ cs, h.get? p.2 = some { cls := .none, data := .fields #[] }) ∧ (∀ p ∈ cs, (K w.params).lookup p.2 = none) ∧ (∀ p ∈ cs, PySem.W.CodeHd h p.1 p.2) ∧ o.K = K w.params ∧ (∀ p ∈ o.tb, ∃ c, (c, p.1) ∈ cs) ∧
        ∀ base : Heap, (K w.params).In base → base.Ns mainGlobals mg → (∀ p ∈ cs, LamX.TabB base mg p.1 p.2) → Top o tx ds (K w.params) mg base)
    (M : ∀ ns : List Int, ns.length ≤ n → (∀ z ∈ ns, Builtin.Int.intBits z ≤ 1048576) → ∃ s', callN (ds.map fdOf) txt fuel (m + 1) i [scrD ns] [] = .ok (.bl true) s') :
    PySem.W.WalkO q loose XP YP l.row.toRowW d [] (fun f vs => PySem.call f vs) := by
  refine Att.attach_callB hn hdf fun w s₀ s₁ mg mb fa o pm cd doc a vs ns G Y ho hd' hcd hmg hobj hints hlen hbits hg => ?_
  have KX := hY w _ Y
  have tabs : TabsAll q (K w.params) mg s₁.heap := fun nm hnm fa c Pt ob fd e dd vs sl k0 k1 k2 k3 k4 k5 => by
    obtain ⟨dL, hm, hn1⟩ := List.any_eq_true.mp hnm
    have hn2 : dL.name = nm := beq_iff_eq.mp hn1
    obtain ⟨a', o', fd', c', P', h1, h2, h3, h4, h5, h6⟩ := G.T.tab dL hm
    rw [hn2, k0] at h1
    cases h1
    rw [KX _ _ k1] at h2
    cases h2
    rw [k2] at h3
    cases h3
    rw [k3] at h4
    cases h4
    have hh := PySem.W.CodeHd.of h5 h6
    obtain ⟨⟨oc, vc, e1, _, e3, e4⟩, hP⟩ := h6
    rw [KX _ _ k4] at e1
    cases e1
    cases e3
    rw [k5] at e4
    cases e4
    exact ⟨hP, hh⟩
  obtain ⟨om, cs, oc, kV, doc', pm', cdv, ct, od, an, osl, lk, hbd, hT, nT, C, hK, hin, hTop⟩ := T w mg fa _ Y KX G.T.g hmg tabs
  have hmg' : mg dl.nm = some (.ref fa) := by rw [hnm]; exact hmg
  have hps : ∃ x, dl.N.take dl.np = [x] := by
    have := hbd.np
    rw [hnp] at this ⊢
    match e : dl.N.take 1, this with
    | [x], _ => exact ⟨x, rfl⟩
  obtain ⟨x, hx⟩ := hps
  refine law_callG (gf := tx.gf) (fd := PySem.W.fnOf dl.nm dl.nm (defArgs dl.st) (defBody dl.st) (defScope dl.st) .none kV doc' pm' an cdv ct) (k := 3 * m + 3) (x := x) (sp := spF om 1 dl.rm (callN (ds.map fdOf) txt fuel (m + 1) i)) KX G.T.g G.T.b G.T.builtins G.T.nolimit hg hT nT C G.T.bmain hobj hints (Nat.le_trans hlen hn2) hr (fun base h1 h2 h3 => ?_) (fun s u => ?_) fun H hH only hS => ?_
  · have F := def_ok (P := l.prog) (w := w) (fuel := fuel) (n := m) (hTop base h1 h2 h3) hd (all_ok (hTop base h1 h2 h3) m) hmg' lk
    rw [hx, hnp] at F
    exact F
  · have := hbd.bd kV doc' pm' an cdv ct [u] (by rw [hx]; rfl)
    rw [hx] at this
    exact .of_eq this
  · obtain ⟨s', hs⟩ := M ns hlen hbits
    refine entry_ok (by unfold Df.rm; split; exact .inr rfl; exact .inl rfl) only (by rw [hK]; exact hS) (fun p hp => ?_) hs
    obtain ⟨c, hc⟩ := hin p hp
    exact hH _ hc
end MR
set_option Elab.async false
set_option linter.all false
set_option maxRecDepth 100000
namespace MR
open PySem PySem.Spec PyProof.Rows L2
/-- a def's object in the fragment -/
structure DfF (K : PySem.W.Frag) (d : Df) (f : Addr) (cdv : Value) : Prop where
  ex : ∃ (oc kV doc pm ct : Value) (od an : Option Addr) (osl : Array (Option Value)), K.lookup f = some ⟨oc, od, .func (PySem.W.fnOf d.nm d.nm (defArgs d.st) (defBody d.st) (defScope d.st) .none kV doc pm an cdv ct), osl⟩
  a : PySem.W.nsIn K mainGlobals d.nm = some (some (.ref f))
  c : PySem.W.codeIn K cdv d.nm = true
  k : PySem.W.keepIn K (.ref f) = true
theorem dff_mk {K : PySem.W.Frag} {d : Df} {f : Addr} {oc kV doc pm cdv ct : Value} {od an : Option Addr} {osl : Array (Option Value)} (a : PySem.W.nsIn K mainGlobals d.nm = some (some (.ref f)))
    (l : K.lookup f = some ⟨oc, od, .func (PySem.W.fnOf d.nm d.nm (defArgs d.st) (defBody d.st) (defScope d.st) .none kV doc pm an cdv ct), osl⟩) (c : PySem.W.codeIn K cdv d.nm = true) (k : PySem.W.keepIn K (.ref f) = true) : DfF K d f cdv :=
  ⟨⟨_, _, _, _, _, _, _, _, l⟩, a, c, k⟩
/-- the same with the parts written out: k_is sees no def of ours -/
theorem dff_of {K : PySem.W.Frag} {d : Df} {f : Addr} {nm : Str} {ar : Arguments} {bd : List Stmt} {sc : Scope} {oc kV doc pm cdv ct : Value} {od an : Option Addr} {osl : Array (Option Value)} (a : PySem.W.nsIn K mainGlobals nm = some (some (.ref f)))
    (l : K.lookup f = some ⟨oc, od, .func (PySem.W.fnOf nm nm ar bd sc .none kV doc pm an cdv ct), osl⟩) (c : PySem.W.codeIn K cdv nm = true) (k : PySem.W.keepIn K (.ref f) = true)
    (h1 : d.nm = nm) (h2 : defArgs d.st = ar) (h3 : defBody d.st = bd) (h4 : defScope d.st = sc) : DfF K d f cdv := by
  subst h1 h2 h3 h4
  exact dff_mk a l c k
/-- for a law's proof: one def's facts, then on -/
theorem use_dff {goal : Prop} {h : Heap} {K : PySem.W.Frag} (_X : K.In h) {d : Df} {f : Addr} {nm : Str} {ar : Arguments} {bd : List Stmt} {sc : Scope} {oc kV doc pm cdv ct : Value} {od an : Option Addr} {osl : Array (Option Value)} (a : PySem.W.nsIn K mainGlobals nm = some (some (.ref f)))
    (l : K.lookup f = some ⟨oc, od, .func (PySem.W.fnOf nm nm ar bd sc .none kV doc pm an cdv ct), osl⟩) (c : PySem.W.codeIn K cdv nm = true) (k : PySem.W.keepIn K (.ref f) = true)
    (h1 : d.nm = nm) (h2 : defArgs d.st = ar) (h3 : defBody d.st = bd) (h4 : defScope d.st = sc) (cont : DfF K d f cdv → goal) : goal := cont (dff_of a l c k h1 h2 h3 h4)
/-- the own parts of a def, told once for all worlds -/
structure DfT (tx : Tx) (d : Df) : Prop where
  sc : FnScope d.N (d.N.take d.np) (defScope d.st)
  bb : DfBd d
  kb : ∀ (kV doc pm : Value) (an : Option Addr) (cdv ct : Value), ∀ e ∈ d.kl, KwB (PySem.W.fnOf d.nm d.nm (defArgs d.st) (defBody d.st) (defScope d.st) .none kV doc pm an cdv ct) (d.N.take d.np) e
  ck : (chk tx d.body).b (scOf d) (defBody d.st) = true
theorem DfF.ok {K : PySem.W.Frag} {d : Df} {f : Addr} {cdv : Value} {o : Om} {tx : Tx} {base : Heap} {mg : Str → Option Value} (F : DfF K d f cdv) (T : DfT tx d) (X : K.In base) (G : base.Ns mainGlobals mg)
    (hl : d.lam = true → ∃ c Pt, cdv = .ref c ∧ LamX.TabB base mg c Pt ∧ (Pt, lamName d.nm) ∈ o.tb ∧ ∀ p ∈ o.tb, p.1 = Pt → p.2 = lamName d.nm) : DfOk o tx K mg base d := by
  obtain ⟨oc, kV, doc, pm, ct, od, an, osl, l⟩ := F.ex
  exact ⟨⟨f, oc, kV, doc, pm, cdv, ct, od, an, osl, l, F.c, F.k, PySem.W.mg_of X G F.a, hl⟩, T.sc, T.bb.np, T.bb.bd, T.kb, T.ck⟩
/-- an exception class over ValueError -/
structure XcV (K : PySem.W.Frag) (x : Str) (C : Addr) : Prop where
  a : PySem.W.nsIn K mainGlobals x = some (some (.ref C))
  q : PySem.W.excIn K C [.type "ValueError", .type "Exception", .type "BaseException", .type "object"] "ValueError.__new__" = true
  k : PySem.W.keepIn K (.ref C) = true
  sub : PySem.W.subIn K (.ref C) (.type "BaseException") = some true
  ty : PySem.W.typeIn K (.ref C) = some (.type "type")
  E : ExcC K C
  non : PySem.W.kitOne K (.type "NoneType") (.ref C) = some false
theorem XcV.xc {o : Om} {K : PySem.W.Frag} {base : Heap} {mg : Str → Option Value} {x : Str} {i : Nat} (F : XcV K x (o.xc i)) (X : K.In base) (G : base.Ns mainGlobals mg) : Xc o K mg i x :=
  ⟨⟨_, _, _, _, PySem.F.excBase_ValueError, F.q⟩, PySem.W.mg_of X G F.a, F.k, F.sub, F.ty⟩
theorem use_xcv {goal : Prop} {h : Heap} {K : PySem.W.Frag} (_X : K.In h) {x : Str} {C : Addr} (a : PySem.W.nsIn K mainGlobals x = some (some (.ref C)))
    (q : PySem.W.excIn K C [.type "ValueError", .type "Exception", .type "BaseException", .type "object"] "ValueError.__new__" = true) (k : PySem.W.keepIn K (.ref C) = true) (sub : PySem.W.subIn K (.ref C) (.type "BaseException") = some true) (ty : PySem.W.typeIn K (.ref C) = some (.type "type"))
    (e1 : PySem.W.findIn K (.ref C) "__getattribute__" = some (some (.builtin "BaseException.__getattribute__"))) (e2 : PySem.W.findIn K (.ref C) "__getattr__" = some none) (e4 : PySem.W.hasDictIn K C = true)
    (e5 : PySem.W.findIn K (.ref C) "__class__" = some (some (.builtin "object.__class__"))) (e6 : PySem.W.specialIn K (.builtin "object.__class__") "__get__" = some (some (.builtin "getset_descriptor.__get__"))) (e7 : PySem.W.takesIn K (.builtin "object.__class__") = some true) (e8 : PySem.W.mroIn K C (.type "object") = some true)
    (nn : PySem.W.kitOne K (.type "NoneType") (.ref C) = some false) (cont : XcV K x C → goal) : goal :=
  cont ⟨a, q, k, sub, ty, ⟨e1, e2, sub, e4, e5, e6, e7, e8⟩, nn⟩
/-- the facts of all defs, all exception classes, all constants -/
def AllD (K : PySem.W.Frag) : List Df → List (Addr × Value) → Prop
  | [], [] => True
  | d :: ds, p :: ps => DfF K d p.1 p.2 ∧ AllD K ds ps
  | _, _ => False
def AllX (K : PySem.W.Frag) : List Str → List Addr → Prop
  | [], [] => True
  | x :: xs, c :: cs => XcV K x c ∧ AllX K xs cs
  | _, _ => False
def AllT (tx : Tx) : List Df → Prop
  | [] => True
  | d :: ds => DfT tx d ∧ AllT tx ds
def AllC (K : PySem.W.Frag) : List (Str × Int) → Prop
  | [] => True
  | p :: r => (∃ t, PySem.W.nsIn K mainGlobals p.1 = some (some (.int p.2 t))) ∧ AllC K r
theorem ad_nil {K : PySem.W.Frag} : AllD K [] [] := trivial
theorem ad_cons {K : PySem.W.Frag} {d : Df} {f : Addr} {c : Value} {ds : List Df} {fs : List (Addr × Value)} (F : DfF K d f c) (r : AllD K ds fs) : AllD K (d :: ds) ((f, c) :: fs) := ⟨F, r⟩
theorem ax_nil {K : PySem.W.Frag} : AllX K [] [] := trivial
theorem ax_cons {K : PySem.W.Frag} {x : Str} {c : Addr} {xs : List Str} {cs : List Addr} (F : XcV K x c) (r : AllX K xs cs) : AllX K (x :: xs) (c :: cs) := ⟨F, r⟩
theorem use_con {goal : Prop} {h : Heap} {K : PySem.W.Frag} (_X : K.In h) {x : Str} {i : Int} {t : Tok} (a : PySem.W.nsIn K mainGlobals x = some (some (.int i t))) (cont : (∃ t, PySem.W.nsIn K mainGlobals x = some (some (.int i t))) → goal) : goal := cont ⟨t, a⟩
/-- a def with a lambda: its code object and the table -/
structure LamF (K : PySem.W.Frag) (h : Heap) (c Pt : Addr) : Prop where
  e : h.get? Pt = some { cls := .none, data := .fields #[] }
  n : K.lookup Pt = none
  c : PySem.W.CodeHd h c Pt
theorem use_lam {goal : Prop} {h : Heap} {K : PySem.W.Frag} {q : Program} {mg : Str → Option Value} (X : K.In h) (G : h.Ns mainGlobals mg) (tabs : TabsAll q K mg h) {d : Df} {f c Pt : Addr} {cdv : Value} {e : Value} {dd : Option Addr} {vs : Array Value} {sl : Array (Option Value)}
    (F : DfF K d f cdv) (h0 : ((recsOf q).any fun e => e.name == d.nm) = true) (h1 : cdv = .ref c) (h2 : K.lookup c = some ⟨e, dd, .fields vs, sl⟩) (h3 : vs[11]? = some (.ref Pt)) (h4 : K.lookup Pt = none) (cont : LamF K h c Pt → goal) : goal := by
  obtain ⟨oc, kV, doc, pm, ct, od, an, osl, l⟩ := F.ex
  obtain ⟨a, b⟩ := tabs d.nm h0 f c Pt _ _ e dd vs sl (PySem.W.mg_of X G F.a) l rfl h1 h2 h3
  exact cont ⟨a, h4, b⟩
/-- a table's row: code object, table, the lambda's name -/
def AllL (K : PySem.W.Frag) (h : Heap) : List (Addr × Addr × Str) → Prop
  | [] => True
  | p :: r => LamF K h p.1 p.2.1 ∧ AllL K h r
def lamB (lt : List (Addr × Addr × Str)) : List Df → List (Addr × Value) → Bool
  | d :: ds, p :: ps => (!d.lam || lt.any fun q => decide (p.2 = .ref q.1) && decide (q.2.2 = lamName d.nm) && lt.all fun r => !decide (r.2.1 = q.2.1) || decide (r.2.2 = lamName d.nm)) && lamB lt ds ps
  | _, _ => true
def kitB (K : PySem.W.Frag) (cs : List Addr) : Bool := (List.range cs.length).all fun i => (List.range cs.length).all fun j => match nth cs i, nth cs j with
  | some a, some b => PySem.W.kitOne K (.ref a) (.ref b) == some (i == j || j == 0)
  | _, _ => false
def nonB (K : PySem.W.Frag) (cs : List Addr) : Bool := cs.all fun a => PySem.W.kitOne K (.type "NoneType") (.ref a) == some false
def exmB (K : PySem.W.Frag) (cs : List Addr) (C : Addr) : Bool := cs.all fun a => PySem.W.exmOne K (.ref a) (.ref C) == some true
def bltB (K : PySem.W.Frag) : Bool := blN.all fun x => match PySem.W.nsIn K mainGlobals x with
  | some none => true
  | _ => false
theorem use_kit {goal : Prop} {h : Heap} {K : PySem.W.Frag} (_X : K.In h) {a b : Value} {r : Option Bool} (e : PySem.W.kitOne K a b = r) (cont : PySem.W.kitOne K a b = r → goal) : goal := cont e
theorem use_exm {goal : Prop} {h : Heap} {K : PySem.W.Frag} (_X : K.In h) {a b : Value} {r : Option Bool} (e : PySem.W.exmOne K a b = r) (cont : PySem.W.exmOne K a b = r → goal) : goal := cont e
/-- the number of an exception class, as its object -/
def xcOf (c0 : Addr) (cs : List Addr) (i : Nat) : Addr := (nth cs i).getD c0
/-- the keeping def, told -/
structure CgF (K : PySem.W.Frag) (C : Addr) : Prop where
  ex : ∃ (g : Addr) (oc kV doc pm cdv ct : Value) (od an : Option Addr) (osl : Array (Option Value)) (pg : Arguments) (sg : Scope) (a e y n : Str) (j0 : Nat) (p1 p2 p3 p4 p5 p6 p7 p8 p9 p10 p11 p12 p13 p14 : Pos),
    K.lookup g = some ⟨oc, od, .func (PySem.W.fnOf cgName cgName pg [.Assign [.Name y p1] (.Constant .none j0 p2) p3,
      .Try [.Expr (.Call (.Name a p4) [] [] p5) p6] [.ExceptHandler (some (.Name e p7)) (some n) [.Assign [.Name y p8] (.Name n p9) p10] p11] [] [] p12,
      .Return (some (.Name y p13)) p14] sg .none kV doc pm an cdv ct), osl⟩ ∧ PySem.W.codeIn K cdv cgName = true ∧ PySem.W.keepIn K (.ref g) = true ∧ PySem.W.nsIn K mainGlobals cgName = some (some (.ref g)) ∧
    (∀ us : List Value, us.length = 1 → bindArgs (PySem.W.fnOf cgName cgName pg [.Assign [.Name y p1] (.Constant .none j0 p2) p3,
      .Try [.Expr (.Call (.Name a p4) [] [] p5) p6] [.ExceptHandler (some (.Name e p7)) (some n) [.Assign [.Name y p8] (.Name n p9) p10] p11] [] [] p12,
      .Return (some (.Name y p13)) p14] sg .none kV doc pm an cdv ct) ⟨us, []⟩ = pure ([a].zip us)) ∧
    FnScope [a, y, n] [a] sg ∧ sg.names.lookup a = some .local ∧ sg.names.lookup y = some .local ∧ sg.names.lookup n = some .local ∧ sg.names.lookup e = some .globalImplicit ∧ PySem.W.nsIn K mainGlobals e = some (some (.ref C)) ∧ ndb e = true ∧ ndb n = true ∧ ndb y = true ∧ ndb a = true
theorem use_cg {goal : Prop} {h : Heap} {K : PySem.W.Frag} (_X : K.In h) {C g : Addr} {oc kV doc pm cdv ct : Value} {od an : Option Addr} {osl : Array (Option Value)} {pg : Arguments} {sg : Scope} {a e y n : Str} {j0 : Nat} {p1 p2 p3 p4 p5 p6 p7 p8 p9 p10 p11 p12 p13 p14 : Pos}
    (h1 : PySem.W.nsIn K mainGlobals "_law_caught" = some (some (.ref g))) (h2 : K.lookup g = some ⟨oc, od, .func (PySem.W.fnOf "_law_caught" "_law_caught" pg [.Assign [.Name y p1] (.Constant .none j0 p2) p3,
      .Try [.Expr (.Call (.Name a p4) [] [] p5) p6] [.ExceptHandler (some (.Name e p7)) (some n) [.Assign [.Name y p8] (.Name n p9) p10] p11] [] [] p12,
      .Return (some (.Name y p13)) p14] sg .none kV doc pm an cdv ct), osl⟩) (h3 : PySem.W.codeIn K cdv "_law_caught" = true) (h4 : PySem.W.keepIn K (.ref g) = true)
    (h5 : ∀ us : List Value, us.length = 1 → bindArgs (PySem.W.fnOf "_law_caught" "_law_caught" pg [.Assign [.Name y p1] (.Constant .none j0 p2) p3,
      .Try [.Expr (.Call (.Name a p4) [] [] p5) p6] [.ExceptHandler (some (.Name e p7)) (some n) [.Assign [.Name y p8] (.Name n p9) p10] p11] [] [] p12,
      .Return (some (.Name y p13)) p14] sg .none kV doc pm an cdv ct) ⟨us, []⟩ = pure ([a].zip us))
    (h6 : FnScope [a, y, n] [a] sg) (h7 : sg.names.lookup a = some .local) (h8 : sg.names.lookup y = some .local) (h9 : sg.names.lookup n = some .local) (h10 : sg.names.lookup e = some .globalImplicit) (h11 : PySem.W.nsIn K mainGlobals e = some (some (.ref C))) (h12 : (ndb e && ndb n && ndb y && ndb a) = true)
    (cont : CgF K C → goal) : goal := by
  simp only [Bool.and_eq_true] at h12
  exact cont ⟨g, oc, kV, doc, pm, cdv, ct, od, an, osl, pg, sg, a, e, y, n, j0, p1, p2, p3, p4, p5, p6, p7, p8, p9, p10, p11, p12, p13, p14, h2, h3, h4, h1, h5, h6, h7, h8, h9, h10, h11, h12.1.1.1, h12.1.1.2, h12.1.2, h12.2⟩
theorem AllD.get {K : PySem.W.Frag} : ∀ {ds : List Df} {fs : List (Addr × Value)}, AllD K ds fs → ∀ {i d}, nth ds i = some d → ∃ p, nth fs i = some p ∧ DfF K d p.1 p.2
  | [], _, _, i, d, h => by cases i <;> cases h
  | e :: ds, [], a, _, _, _ => a.elim
  | e :: ds, p :: fs, a, 0, d, h => by
    cases h
    exact ⟨p, rfl, a.1⟩
  | e :: ds, p :: fs, a, i + 1, d, h => AllD.get a.2 (i := i) h
theorem AllX.get {K : PySem.W.Frag} : ∀ {xs : List Str} {cs : List Addr}, AllX K xs cs → ∀ {i x}, nth xs i = some x → ∃ c, nth cs i = some c ∧ XcV K x c
  | [], _, _, i, d, h => by cases i <;> cases h
  | e :: ds, [], a, _, _, _ => a.elim
  | e :: ds, p :: fs, a, 0, d, h => by
    cases h
    exact ⟨p, rfl, a.1⟩
  | e :: ds, p :: fs, a, i + 1, d, h => AllX.get a.2 (i := i) h
theorem AllX.get' {K : PySem.W.Frag} : ∀ {xs : List Str} {cs : List Addr}, AllX K xs cs → ∀ {c}, c ∈ cs → ∃ x, XcV K x c
  | [], [], _, c, h => by cases h
  | [], _ :: _, a, _, _ => a.elim
  | e :: ds, [], a, _, _ => a.elim
  | e :: ds, p :: fs, a, c, h => by
    rcases List.mem_cons.mp h with rfl | h
    · exact ⟨e, a.1⟩
    · exact AllX.get' a.2 h
theorem AllX.len {K : PySem.W.Frag} : ∀ {xs : List Str} {cs : List Addr}, AllX K xs cs → xs.length = cs.length
  | [], [], _ => rfl
  | [], _ :: _, a => a.elim
  | e :: ds, [], a => a.elim
  | e :: ds, p :: fs, a => by rw [List.length_cons, List.length_cons, AllX.len a.2]
theorem AllT.get {tx : Tx} : ∀ {ds : List Df}, AllT tx ds → ∀ {i d}, nth ds i = some d → DfT tx d
  | [], _, i, d, h => by cases i <;> cases h
  | e :: ds, a, 0, d, h => by
    cases h
    exact a.1
  | e :: ds, a, i + 1, d, h => AllT.get a.2 (i := i) h
theorem AllC.get {K : PySem.W.Frag} : ∀ {l : List (Str × Int)}, AllC K l → ∀ {p}, p ∈ l → ∃ t, PySem.W.nsIn K mainGlobals p.1 = some (some (.int p.2 t))
  | [], _, p, h => by cases h
  | q :: r, a, p, h => by
    rcases List.mem_cons.mp h with rfl | h
    · exact a.1
    · exact AllC.get a.2 h
theorem AllL.get {K : PySem.W.Frag} {h : Heap} : ∀ {l : List (Addr × Addr × Str)}, AllL K h l → ∀ {p}, p ∈ l → LamF K h p.1 p.2.1
  | [], _, p, h => by cases h
  | q :: r, a, p, h => by
    rcases List.mem_cons.mp h with rfl | h
    · exact a.1
    · exact AllL.get a.2 h
theorem lamB_get {lt : List (Addr × Addr × Str)} : ∀ {ds : List Df} {fs : List (Addr × Value)}, lamB lt ds fs = true → ∀ {i d p}, nth ds i = some d → nth fs i = some p → d.lam = true →
    ∃ c Pt, p.2 = .ref c ∧ (c, Pt, lamName d.nm) ∈ lt ∧ ∀ r ∈ lt, r.2.1 = Pt → r.2.2 = lamName d.nm
  | [], _, _, i, d, p, h, _, _ => by cases i <;> cases h
  | e :: ds, [], a, i, _, _, _, h, _ => by cases i <;> cases h
  | e :: ds, q :: fs, a, 0, d, p, h, h', hl => by
    cases h
    cases h'
    unfold lamB at a
    simp only [hl, Bool.not_true, Bool.false_or, Bool.and_eq_true] at a
    obtain ⟨⟨c, Pt, nm⟩, hm, ha⟩ := List.any_eq_true.mp a.1
    simp only [Bool.and_eq_true, decide_eq_true_eq] at ha
    obtain ⟨⟨h1, h2⟩, h3⟩ := ha
    subst h2
    refine ⟨c, Pt, h1, hm, fun r hr e => ?_⟩
    have := List.all_eq_true.mp h3 r hr
    simpa [e] using this
  | e :: ds, q :: fs, a, i + 1, d, p, h, h', hl => by
    unfold lamB at a
    rw [Bool.and_eq_true] at a
    exact lamB_get a.2 (i := i) h h' hl
theorem nth_mem' {α : Type} : ∀ {l : List α} {i : Nat} {x : α}, nth l i = some x → x ∈ l
  | [], i, _, h => by cases i <;> cases h
  | _ :: _, 0, _, h => by cases h; simp
  | _ :: r, i + 1, x, h => List.mem_cons_of_mem _ (nth_mem' (l := r) (i := i) h)
theorem nth_some {α : Type} : ∀ {l : List α} {i : Nat}, i < l.length → ∃ x, nth l i = some x
  | [], i, h => by simp at h
  | x :: _, 0, _ => ⟨x, rfl⟩
  | _ :: r, i + 1, h => nth_some (l := r) (i := i) (by simpa using h)
/-- the top of a law, all told: what walk_mr asks for -/
theorem top_end {K : PySem.W.Frag} {h : Heap} {mg : Str → Option Value} {fa : Addr} {tx : Tx} {ds : List Df} {dl : Df} {fs : List (Addr × Value)} {c0 : Addr} {cs : List Addr} {lt : List (Addr × Addr × Str)} {nm : Str} {i : Nat}
    (X : K.In h) (G : h.Ns mainGlobals mg) (hmg : mg nm = some (.ref fa)) (AD : AllD K ds fs) (AT : AllT tx ds) (AX : AllX K tx.xs (c0 :: cs)) (AC : AllC K tx.gc) (AL : AllL K h lt)
    (hL : lamB lt ds fs = true) (hk : kitB K (c0 :: cs) = true) (hn : nonB K (c0 :: cs) = true) (hb : bltB K = true) (hcg : (ds.any fun d => d.lam) = false ∨ CgF K c0) (he : exmB K (c0 :: cs) c0 = true)
    (fn : tx.fn = ds.map fun d => (d.nm, d.np)) (kw : tx.kw = ds.map fun d => d.kl) (ow : tx.ow = ds.map fun d => d.own) (hd : nth ds i = some dl) (hnm : dl.nm = nm) :
    ∃ (o : Om) (cs : List (Addr × Addr)) (oc kV doc pm cdv ct : Value) (od an : Option Addr) (osl : Array (Option Value)), K.lookup fa = some ⟨oc, od, .func (PySem.W.fnOf dl.nm dl.nm (defArgs dl.st) (defBody dl.st) (defScope dl.st) .none kV doc pm an cdv ct), osl⟩ ∧ DfBd dl ∧ (∀ p ∈ cs, h.get? p.2 = some { cls := .none, data := .fields #[] }) ∧ (∀ p ∈ cs, K.lookup p.2 = none) ∧ (∀ p ∈ cs, PySem.W.CodeHd h p.1 p.2) ∧ o.K = K ∧ (∀ p ∈ o.tb, ∃ c, (c, p.1) ∈ cs) ∧
        ∀ base : Heap, K.In base → base.Ns mainGlobals mg → (∀ p ∈ cs, LamX.TabB base mg p.1 p.2) → Top o tx ds K mg base := by
  subst hnm
  obtain ⟨⟨f0, cd0⟩, hf0, F0⟩ := AD.get hd
  obtain ⟨oc, kV, doc, pm, ct, od, an, osl, l⟩ := F0.ex
  have hm0 := PySem.W.mg_of X G F0.a
  rw [hmg] at hm0
  cases hm0
  have xcs : ∀ k, ∃ x, XcV K x (xcOf c0 (c0 :: cs) k) ∧ xcOf c0 (c0 :: cs) k ∈ c0 :: cs := fun k => by
    unfold xcOf
    cases e : nth (c0 :: cs) k with
    | none =>
      obtain ⟨x, hx⟩ := AX.get' (c := c0) (by simp)
      exact ⟨x, hx, by simp⟩
    | some c =>
      obtain ⟨x, hx⟩ := AX.get' (nth_mem' e)
      exact ⟨x, hx, nth_mem' e⟩
  have kit : ∀ i j a b, nth (c0 :: cs) i = some a → nth (c0 :: cs) j = some b → PySem.W.kitOne K (.ref a) (.ref b) = some (i == j || j == 0) := fun i j a b ha hb => by
    unfold kitB at hk
    have h1 := List.all_eq_true.mp hk i (List.mem_range.mpr (nth_lt ha))
    have h2 := List.all_eq_true.mp h1 j (List.mem_range.mpr (nth_lt hb))
    rw [ha, hb] at h2
    exact eq_of_beq h2
  refine ⟨⟨K, xcOf c0 (c0 :: cs), lt.map fun p => (p.2.1, p.2.2)⟩, lt.map fun p => (p.1, p.2.1), oc, kV, doc, pm, cd0, ct, od, an, osl, l, (AT.get hd).bb, fun p hp => ?_, fun p hp => ?_, fun p hp => ?_, rfl, fun p hp => ?_, fun base XB GB TB => ?_⟩
  · obtain ⟨q, hq, rfl⟩ := List.mem_map.mp hp
    exact (AL.get hq).e
  · obtain ⟨q, hq, rfl⟩ := List.mem_map.mp hp
    exact (AL.get hq).n
  · obtain ⟨q, hq, rfl⟩ := List.mem_map.mp hp
    exact (AL.get hq).c
  · obtain ⟨q, hq, rfl⟩ := List.mem_map.mp hp
    exact ⟨q.1, List.mem_map.mpr ⟨q, hq, rfl⟩⟩
  · refine ⟨rfl, fun i d hd => ?_, fn, kw, ow, fun x hx => ?_, fun i x hx => ?_, ⟨fun k => ?_, fun k c hc => ?_, fun c hc => ?_⟩, fun x i hi => ?_, fun i d hd hl => ?_⟩
    · obtain ⟨⟨f, cdv⟩, hf, F⟩ := AD.get hd
      refine F.ok (AT.get hd) XB GB fun hlam => ?_
      obtain ⟨c, Pt, e1, e2, e3⟩ := lamB_get hL hd hf hlam
      refine ⟨c, Pt, e1, TB _ (List.mem_map.mpr ⟨_, e2, rfl⟩), List.mem_map.mpr ⟨_, e2, rfl⟩, fun p hp hpt => ?_⟩
      obtain ⟨q, hq, rfl⟩ := List.mem_map.mp hp
      exact e3 q hq hpt
    · unfold bltB at hb
      have := List.all_eq_true.mp hb x hx
      split at this
      · rename_i e
        exact PySem.W.mg_none_of XB GB e
      · cases this
    · obtain ⟨c, hc, F⟩ := AX.get hx
      have e : xcOf c0 (c0 :: cs) i = c := by
        unfold xcOf
        rw [hc]
        rfl
      exact XcV.xc (o := ⟨K, xcOf c0 (c0 :: cs), _⟩) (by show XcV K x (xcOf c0 (c0 :: cs) i); rw [e]; exact F) XB GB
    · obtain ⟨x, hx, _⟩ := xcs k
      exact hx.E
    · rw [AX.len] at hc
      obtain ⟨b, hb⟩ := nth_some hc
      have e : xcOf c0 (c0 :: cs) c = b := by
        unfold xcOf
        rw [hb]
        rfl
      show PySem.W.kitOne K (.ref (xcOf c0 (c0 :: cs) k)) (.ref (xcOf c0 (c0 :: cs) c)) = _
      rw [e]
      cases e2 : nth (c0 :: cs) k with
      | some a =>
        have e3 : xcOf c0 (c0 :: cs) k = a := by
          unfold xcOf
          rw [e2]
          rfl
        rw [e3]
        exact kit k c a b e2 hb
      | none =>
        have e3 : xcOf c0 (c0 :: cs) k = c0 := by
          unfold xcOf
          rw [e2]
          rfl
        rw [e3, kit 0 c c0 b rfl hb]
        have := nth_none e2
        have h2 : (k == c) = false := by
          rw [beq_eq_false_iff_ne]
          omega
        rw [h2, Bool.false_or]
        cases c with
        | zero => rfl
        | succ c => rfl
    · obtain ⟨x, hx, hm⟩ := xcs c
      unfold nonB at hn
      exact eq_of_beq (List.all_eq_true.mp hn _ hm)
    · obtain ⟨t, ht⟩ := AC.get hi
      exact ⟨t, PySem.W.mg_of XB GB ht⟩
    · rcases hcg with z | ⟨g, oc, kV, doc, pm, cdv, ct, od, an, osl, pg, sg, a, e, y, n, j0, p1, p2, p3, p4, p5, p6, p7, p8, p9, p10, p11, p12, p13, p14, q1, q2, q3, q4, q5, q6, q7, q8, q9, q10, q11, q12, q13, q14, q15⟩
      · rw [List.any_eq_false] at z
        exact absurd hl (z d (nth_mem' hd))
      · refine ⟨c0, ⟨g, oc, kV, doc, pm, cdv, ct, od, an, osl, pg, sg, a, e, y, n, j0, p1, p2, p3, p4, p5, p6, p7, p8, p9, p10, p11, p12, p13, p14, q1, q2, q3, PySem.W.mg_of XB GB q4, q5, q6, q7, q8, q9, q10, PySem.W.mg_of XB GB q11, q12, q13, q14, q15⟩, fun c => ?_⟩
        obtain ⟨x, hx, hm⟩ := xcs c
        unfold exmB at he
        exact eq_of_beq (List.all_eq_true.mp he _ hm)
end MR
set_option Elab.async false
set_option linter.all false
set_option maxRecDepth 100000
namespace MR.MS
open PySem
section
variable (g : G)
@[simp] theorem den_cn_l (h : E) (t : E) : (den g (.cn h t)).l = lCons (den g h).e (den g t).l := rfl
@[simp] theorem den_cn_lb (h : E) (t : E) : (den g (.cn h t)).lb = lbCons (den g h).v (den g t).lb := rfl
@[simp] theorem den_cn_il (h : E) (t : E) : (den g (.cn h t)).il = ilCons (den g h).v (den g t).il := rfl
@[simp] theorem den_cn_x (h : E) (t : E) : (den g (.cn h t)).x = sSeq (den g h).x (den g t).x := rfl
@[simp] theorem den_st_e (e : E) : (den g (.st e)).e = iVal (den g e).v := rfl
@[simp] theorem den_vr_v (i : Nat) : (den g (.vr i)).v = vVar i := rfl
@[simp] theorem den_vr_t (i : Nat) : (den g (.vr i)).t = tv (vVar i) := rfl
@[simp] theorem den_vr_e (i : Nat) : (den g (.vr i)).e = evl1 (vVar i) := rfl
@[simp] theorem den_vr_o (i : Nat) : (den g (.vr i)).o = oInt (vVar i) := rfl
@[simp] theorem den_br_v (i : Nat) : (den g (.br i)).v = vBor i := rfl
@[simp] theorem den_br_t (i : Nat) : (den g (.br i)).t = tv (vBor i) := rfl
@[simp] theorem den_br_e (i : Nat) : (den g (.br i)).e = evl1 (vBor i) := rfl
@[simp] theorem den_br_o (i : Nat) : (den g (.br i)).o = oInt (vBor i) := rfl
@[simp] theorem den_ci_v (i : Int) : (den g (.ci i)).v = (fun _ s => .ok (.int i) s) := rfl
@[simp] theorem den_ci_t (i : Int) : (den g (.ci i)).t = tv ((fun _ s => .ok (.int i) s)) := rfl
@[simp] theorem den_ci_e (i : Int) : (den g (.ci i)).e = evl1 ((fun _ s => .ok (.int i) s)) := rfl
@[simp] theorem den_ci_o (i : Int) : (den g (.ci i)).o = oInt ((fun _ s => .ok (.int i) s)) := rfl
@[simp] theorem den_cb_v (b : Bool) : (den g (.cb b)).v = (fun _ s => .ok (.bl b) s) := rfl
@[simp] theorem den_cb_t (b : Bool) : (den g (.cb b)).t = tv ((fun _ s => .ok (.bl b) s)) := rfl
@[simp] theorem den_cb_e (b : Bool) : (den g (.cb b)).e = evl1 ((fun _ s => .ok (.bl b) s)) := rfl
@[simp] theorem den_cb_o (b : Bool) : (den g (.cb b)).o = oInt ((fun _ s => .ok (.bl b) s)) := rfl
@[simp] theorem den_cnn_v  : (den g .cnn).v = (fun _ s => .ok .non s) := rfl
@[simp] theorem den_cnn_t  : (den g .cnn).t = tv ((fun _ s => .ok .non s)) := rfl
@[simp] theorem den_cnn_e  : (den g .cnn).e = evl1 ((fun _ s => .ok .non s)) := rfl
@[simp] theorem den_cnn_o  : (den g .cnn).o = oInt ((fun _ s => .ok .non s)) := rfl
@[simp] theorem den_cs_v (x : Str) : (den g (.cs x)).v = (fun _ s => .ok (.str x) s) := rfl
@[simp] theorem den_cs_t (x : Str) : (den g (.cs x)).t = tv ((fun _ s => .ok (.str x) s)) := rfl
@[simp] theorem den_cs_e (x : Str) : (den g (.cs x)).e = evl1 ((fun _ s => .ok (.str x) s)) := rfl
@[simp] theorem den_cs_o (x : Str) : (den g (.cs x)).o = oInt ((fun _ s => .ok (.str x) s)) := rfl
@[simp] theorem den_tp_v (es : E) : (den g (.tp es)).v = vTup (den g es).l := rfl
@[simp] theorem den_tp_t (es : E) : (den g (.tp es)).t = tv (vTup (den g es).l) := rfl
@[simp] theorem den_tp_e (es : E) : (den g (.tp es)).e = evl1 (vTup (den g es).l) := rfl
@[simp] theorem den_tp_o (es : E) : (den g (.tp es)).o = oInt (vTup (den g es).l) := rfl
@[simp] theorem den_ls_v (es : E) : (den g (.ls es)).v = vLst (den g es).l := rfl
@[simp] theorem den_ls_t (es : E) : (den g (.ls es)).t = tv (vLst (den g es).l) := rfl
@[simp] theorem den_ls_e (es : E) : (den g (.ls es)).e = evl1 (vLst (den g es).l) := rfl
@[simp] theorem den_ls_o (es : E) : (den g (.ls es)).o = oInt (vLst (den g es).l) := rfl
@[simp] theorem den_bin_v (op : BOp) (a : E) (b : E) : (den g (.bin op a b)).v = vBin op (den g a).v (den g b).v := rfl
@[simp] theorem den_bin_t (op : BOp) (a : E) (b : E) : (den g (.bin op a b)).t = tv (vBin op (den g a).v (den g b).v) := rfl
@[simp] theorem den_bin_e (op : BOp) (a : E) (b : E) : (den g (.bin op a b)).e = evl1 (vBin op (den g a).v (den g b).v) := rfl
@[simp] theorem den_bin_o (op : BOp) (a : E) (b : E) : (den g (.bin op a b)).o = oInt (vBin op (den g a).v (den g b).v) := rfl
@[simp] theorem den_neg_v (a : E) : (den g (.neg a)).v = vNeg (den g a).v := rfl
@[simp] theorem den_neg_t (a : E) : (den g (.neg a)).t = tv (vNeg (den g a).v) := rfl
@[simp] theorem den_neg_e (a : E) : (den g (.neg a)).e = evl1 (vNeg (den g a).v) := rfl
@[simp] theorem den_neg_o (a : E) : (den g (.neg a)).o = oInt (vNeg (den g a).v) := rfl
@[simp] theorem den_cmp_v (op : COp) (a : E) (b : E) : (den g (.cmp op a b)).v = vCmp op (den g a).v (den g b).v := rfl
@[simp] theorem den_cmp_t (op : COp) (a : E) (b : E) : (den g (.cmp op a b)).t = tv (vCmp op (den g a).v (den g b).v) := rfl
@[simp] theorem den_cmp_e (op : COp) (a : E) (b : E) : (den g (.cmp op a b)).e = evl1 (vCmp op (den g a).v (den g b).v) := rfl
@[simp] theorem den_cmp_o (op : COp) (a : E) (b : E) : (den g (.cmp op a b)).o = oInt (vCmp op (den g a).v (den g b).v) := rfl
@[simp] theorem den_cm2_v (op : COp) (op2 : COp) (a : E) (b : E) (c : E) : (den g (.cm2 op op2 a b c)).v = vCm2 op op2 (den g a).v (den g b).v (den g c).v := rfl
@[simp] theorem den_cm2_t (op : COp) (op2 : COp) (a : E) (b : E) (c : E) : (den g (.cm2 op op2 a b c)).t = tv (vCm2 op op2 (den g a).v (den g b).v (den g c).v) := rfl
@[simp] theorem den_cm2_e (op : COp) (op2 : COp) (a : E) (b : E) (c : E) : (den g (.cm2 op op2 a b c)).e = evl1 (vCm2 op op2 (den g a).v (den g b).v (den g c).v) := rfl
@[simp] theorem den_cm2_o (op : COp) (op2 : COp) (a : E) (b : E) (c : E) : (den g (.cm2 op op2 a b c)).o = oInt (vCm2 op op2 (den g a).v (den g b).v (den g c).v) := rfl
@[simp] theorem den_ife_v (c : E) (a : E) (b : E) : (den g (.ife c a b)).v = vIf (den g c).t (den g a).v (den g b).v := rfl
@[simp] theorem den_ife_t (c : E) (a : E) (b : E) : (den g (.ife c a b)).t = tv (vIf (den g c).t (den g a).v (den g b).v) := rfl
@[simp] theorem den_ife_e (c : E) (a : E) (b : E) : (den g (.ife c a b)).e = evl1 (vIf (den g c).t (den g a).v (den g b).v) := rfl
@[simp] theorem den_ife_o (c : E) (a : E) (b : E) : (den g (.ife c a b)).o = oInt (vIf (den g c).t (den g a).v (den g b).v) := rfl
@[simp] theorem den_call_v (f : Nat) (es : E) : (den g (.call f es)).v = vCall g.Φ f (den g es).l := rfl
@[simp] theorem den_call_t (f : Nat) (es : E) : (den g (.call f es)).t = tv (vCall g.Φ f (den g es).l) := rfl
@[simp] theorem den_call_e (f : Nat) (es : E) : (den g (.call f es)).e = evl1 (vCall g.Φ f (den g es).l) := rfl
@[simp] theorem den_call_o (f : Nat) (es : E) : (den g (.call f es)).o = oInt (vCall g.Φ f (den g es).l) := rfl
@[simp] theorem den_calk_v (f : Nat) (es : E) (p : List Nat) : (den g (.calk f es p)).v = vCalk g.Φ f (den g es).l p := rfl
@[simp] theorem den_calk_t (f : Nat) (es : E) (p : List Nat) : (den g (.calk f es p)).t = tv (vCalk g.Φ f (den g es).l p) := rfl
@[simp] theorem den_calk_e (f : Nat) (es : E) (p : List Nat) : (den g (.calk f es p)).e = evl1 (vCalk g.Φ f (den g es).l p) := rfl
@[simp] theorem den_calk_o (f : Nat) (es : E) (p : List Nat) : (den g (.calk f es p)).o = oInt (vCalk g.Φ f (den g es).l p) := rfl
@[simp] theorem den_gc_v (x : String) (i : Int) : (den g (.gc x i)).v = (fun _ s => .ok (.int i) s) := rfl
@[simp] theorem den_gc_t (x : String) (i : Int) : (den g (.gc x i)).t = tv ((fun _ s => .ok (.int i) s)) := rfl
@[simp] theorem den_gc_e (x : String) (i : Int) : (den g (.gc x i)).e = evl1 ((fun _ s => .ok (.int i) s)) := rfl
@[simp] theorem den_gc_o (x : String) (i : Int) : (den g (.gc x i)).o = oInt ((fun _ s => .ok (.int i) s)) := rfl
@[simp] theorem den_dsp_v (ks : E) (vs : E) : (den g (.dsp ks vs)).v = vDsp (keysOf ks) (den g vs).l := rfl
@[simp] theorem den_dsp_t (ks : E) (vs : E) : (den g (.dsp ks vs)).t = tv (vDsp (keysOf ks) (den g vs).l) := rfl
@[simp] theorem den_dsp_e (ks : E) (vs : E) : (den g (.dsp ks vs)).e = evl1 (vDsp (keysOf ks) (den g vs).l) := rfl
@[simp] theorem den_dsp_o (ks : E) (vs : E) : (den g (.dsp ks vs)).o = oInt (vDsp (keysOf ks) (den g vs).l) := rfl
@[simp] theorem den_blt_v (b : Bl) (es : E) : (den g (.blt b es)).v = vBlt g.T b (den g es).lb := rfl
@[simp] theorem den_blt_t (b : Bl) (es : E) : (den g (.blt b es)).t = tv (vBlt g.T b (den g es).lb) := rfl
@[simp] theorem den_blt_e (b : Bl) (es : E) : (den g (.blt b es)).e = evl1 (vBlt g.T b (den g es).lb) := rfl
@[simp] theorem den_blt_o (b : Bl) (es : E) : (den g (.blt b es)).o = oInt (vBlt g.T b (den g es).lb) := rfl
@[simp] theorem den_isi_v (e : E) (ts : List Ty) : (den g (.isi e ts)).v = vIsi ts (den g e).v := rfl
@[simp] theorem den_isi_t (e : E) (ts : List Ty) : (den g (.isi e ts)).t = tv (vIsi ts (den g e).v) := rfl
@[simp] theorem den_isi_e (e : E) (ts : List Ty) : (den g (.isi e ts)).e = evl1 (vIsi ts (den g e).v) := rfl
@[simp] theorem den_isi_o (e : E) (ts : List Ty) : (den g (.isi e ts)).o = oInt (vIsi ts (den g e).v) := rfl
@[simp] theorem den_ise_v (e : E) (cs : List Nat) : (den g (.ise e cs)).v = vIse cs (den g e).v := rfl
@[simp] theorem den_ise_t (e : E) (cs : List Nat) : (den g (.ise e cs)).t = tv (vIse cs (den g e).v) := rfl
@[simp] theorem den_ise_e (e : E) (cs : List Nat) : (den g (.ise e cs)).e = evl1 (vIse cs (den g e).v) := rfl
@[simp] theorem den_ise_o (e : E) (cs : List Nat) : (den g (.ise e cs)).o = oInt (vIse cs (den g e).v) := rfl
@[simp] theorem den_sub_v (a : E) (i : E) : (den g (.sub a i)).v = vSub (den g a).v (den g i).v := rfl
@[simp] theorem den_sub_t (a : E) (i : E) : (den g (.sub a i)).t = tv (vSub (den g a).v (den g i).v) := rfl
@[simp] theorem den_sub_e (a : E) (i : E) : (den g (.sub a i)).e = evl1 (vSub (den g a).v (den g i).v) := rfl
@[simp] theorem den_sub_o (a : E) (i : E) : (den g (.sub a i)).o = oInt (vSub (den g a).v (den g i).v) := rfl
@[simp] theorem den_slc_v (a : E) (lo : E) (hi : E) : (den g (.slc a lo hi)).v = vSlc (den g a).v (den g lo).o (den g hi).o := rfl
@[simp] theorem den_slc_t (a : E) (lo : E) (hi : E) : (den g (.slc a lo hi)).t = tv (vSlc (den g a).v (den g lo).o (den g hi).o) := rfl
@[simp] theorem den_slc_e (a : E) (lo : E) (hi : E) : (den g (.slc a lo hi)).e = evl1 (vSlc (den g a).v (den g lo).o (den g hi).o) := rfl
@[simp] theorem den_slc_o (a : E) (lo : E) (hi : E) : (den g (.slc a lo hi)).o = oInt (vSlc (den g a).v (den g lo).o (den g hi).o) := rfl
@[simp] theorem den_lc_v (tg : E) (it : E) (cond : E) (elt : E) (vs : List Nat) : (den g (.lc tg it cond elt vs)).v = vLc tg (den g it).i (den g cond).t (den g elt).v vs := rfl
@[simp] theorem den_lc_t (tg : E) (it : E) (cond : E) (elt : E) (vs : List Nat) : (den g (.lc tg it cond elt vs)).t = tv (vLc tg (den g it).i (den g cond).t (den g elt).v vs) := rfl
@[simp] theorem den_lc_e (tg : E) (it : E) (cond : E) (elt : E) (vs : List Nat) : (den g (.lc tg it cond elt vs)).e = evl1 (vLc tg (den g it).i (den g cond).t (den g elt).v vs) := rfl
@[simp] theorem den_lc_o (tg : E) (it : E) (cond : E) (elt : E) (vs : List Nat) : (den g (.lc tg it cond elt vs)).o = oInt (vLc tg (den g it).i (den g cond).t (den g elt).v vs) := rfl
@[simp] theorem den_lc2_v (tg : E) (it : E) (cond : E) (tg2 : E) (it2 : E) (cond2 : E) (elt : E) (vs : List Nat) (vs2 : List Nat) : (den g (.lc2 tg it cond tg2 it2 cond2 elt vs vs2)).v = vLc2 tg (den g it).i (den g cond).t tg2 (den g it2).i (den g cond2).t (den g elt).v vs vs2 := rfl
@[simp] theorem den_lc2_t (tg : E) (it : E) (cond : E) (tg2 : E) (it2 : E) (cond2 : E) (elt : E) (vs : List Nat) (vs2 : List Nat) : (den g (.lc2 tg it cond tg2 it2 cond2 elt vs vs2)).t = tv (vLc2 tg (den g it).i (den g cond).t tg2 (den g it2).i (den g cond2).t (den g elt).v vs vs2) := rfl
@[simp] theorem den_lc2_e (tg : E) (it : E) (cond : E) (tg2 : E) (it2 : E) (cond2 : E) (elt : E) (vs : List Nat) (vs2 : List Nat) : (den g (.lc2 tg it cond tg2 it2 cond2 elt vs vs2)).e = evl1 (vLc2 tg (den g it).i (den g cond).t tg2 (den g it2).i (den g cond2).t (den g elt).v vs vs2) := rfl
@[simp] theorem den_lc2_o (tg : E) (it : E) (cond : E) (tg2 : E) (it2 : E) (cond2 : E) (elt : E) (vs : List Nat) (vs2 : List Nat) : (den g (.lc2 tg it cond tg2 it2 cond2 elt vs vs2)).o = oInt (vLc2 tg (den g it).i (den g cond).t tg2 (den g it2).i (den g cond2).t (den g elt).v vs vs2) := rfl
@[simp] theorem den_li_v (it : E) : (den g (.li it)).v = vLi (den g it).i := rfl
@[simp] theorem den_li_t (it : E) : (den g (.li it)).t = tv (vLi (den g it).i) := rfl
@[simp] theorem den_li_e (it : E) : (den g (.li it)).e = evl1 (vLi (den g it).i) := rfl
@[simp] theorem den_li_o (it : E) : (den g (.li it)).o = oInt (vLi (den g it).i) := rfl
@[simp] theorem den_ti_v (it : E) : (den g (.ti it)).v = vTi (den g it).i := rfl
@[simp] theorem den_ti_t (it : E) : (den g (.ti it)).t = tv (vTi (den g it).i) := rfl
@[simp] theorem den_ti_e (it : E) : (den g (.ti it)).e = evl1 (vTi (den g it).i) := rfl
@[simp] theorem den_ti_o (it : E) : (den g (.ti it)).o = oInt (vTi (den g it).i) := rfl
@[simp] theorem den_newc_v (e : E) : (den g (.newc e)).v = vNew (den g e).v := rfl
@[simp] theorem den_newc_t (e : E) : (den g (.newc e)).t = tv (vNew (den g e).v) := rfl
@[simp] theorem den_newc_e (e : E) : (den g (.newc e)).e = evl1 (vNew (den g e).v) := rfl
@[simp] theorem den_newc_o (e : E) : (den g (.newc e)).o = oInt (vNew (den g e).v) := rfl
@[simp] theorem den_popc_v (b : E) (i : E) : (den g (.popc b i)).v = vPopc (den g b).v := rfl
@[simp] theorem den_popc_t (b : E) (i : E) : (den g (.popc b i)).t = tv (vPopc (den g b).v) := rfl
@[simp] theorem den_popc_e (b : E) (i : E) : (den g (.popc b i)).e = evl1 (vPopc (den g b).v) := rfl
@[simp] theorem den_popc_o (b : E) (i : E) : (den g (.popc b i)).o = oInt (vPopc (den g b).v) := rfl
@[simp] theorem den_cgt_v (e : E) : (den g (.cgt e)).v = vCgt (den g e).v := rfl
@[simp] theorem den_cgt_t (e : E) : (den g (.cgt e)).t = tv (vCgt (den g e).v) := rfl
@[simp] theorem den_cgt_e (e : E) : (den g (.cgt e)).e = evl1 (vCgt (den g e).v) := rfl
@[simp] theorem den_cgt_o (e : E) : (den g (.cgt e)).o = oInt (vCgt (den g e).v) := rfl
@[simp] theorem den_nt_v (a : E) : (den g (.nt a)).v = vNotB (den g a).v := rfl
@[simp] theorem den_nt_t (a : E) : (den g (.nt a)).t = tNot (den g a).t := rfl
@[simp] theorem den_nt_e (a : E) : (den g (.nt a)).e = evl1 (vNotB (den g a).v) := rfl
@[simp] theorem den_an_v (a : E) (b : E) : (den g (.an a b)).v = vAnd (den g a).v (den g b).v := rfl
@[simp] theorem den_an_t (a : E) (b : E) : (den g (.an a b)).t = tAnd (den g a).t (den g b).t := rfl
@[simp] theorem den_an_e (a : E) (b : E) : (den g (.an a b)).e = evl1 (vAnd (den g a).v (den g b).v) := rfl
@[simp] theorem den_or_v (a : E) (b : E) : (den g (.or a b)).v = vOr (den g a).v (den g b).v := rfl
@[simp] theorem den_or_t (a : E) (b : E) : (den g (.or a b)).t = tOr (den g a).t (den g b).t := rfl
@[simp] theorem den_or_e (a : E) (b : E) : (den g (.or a b)).e = evl1 (vOr (den g a).v (den g b).v) := rfl
@[simp] theorem den_itv_i (e : E) : (den g (.itv e)).i = iVal (den g e).v := rfl
@[simp] theorem den_itr_i (es : E) : (den g (.itr es)).i = iRng (den g es).l := rfl
@[simp] theorem den_itz_i (es : E) : (den g (.itz es)).i = iZip (den g es).il := rfl
@[simp] theorem den_ite_i (e : E) : (den g (.ite e)).i = iEnu (den g e).v := rfl
@[simp] theorem den_asg_x (tg : E) (e : E) : (den g (.asg tg e)).x = sAsg tg (den g e).v := rfl
@[simp] theorem den_asgo_x (i : Nat) (e : E) : (den g (.asgo i e)).x = sAsgo i (den g e).v := rfl
@[simp] theorem den_par_x (i : Nat) (j : Nat) (a : E) (b : E) (oi : Bool) (oj : Bool) : (den g (.par i j a b oi oj)).x = sPar i j (den g a).v (den g b).v oi oj := rfl
@[simp] theorem den_app_x (i : Nat) (e : E) : (den g (.app i e)).x = sApp i (den g e).v := rfl
@[simp] theorem den_clr_x (i : Nat) : (den g (.clr i)).x = sClr i := rfl
@[simp] theorem den_popt_x (i : Nat) (j : Nat) (e : E) : (den g (.popt i j e)).x = sPopt i j (den g e).v := rfl
@[simp] theorem den_apop_x (i : Nat) (j : Nat) (e : E) : (den g (.apop i j e)).x = sApop i j (den g e).v := rfl
@[simp] theorem den_cset_x (b : E) (k : E) (e : E) : (den g (.cset b k e)).x = sCset (den g b).v (den g k).v (den g e).v := rfl
@[simp] theorem den_exs_x (e : E) : (den g (.exs e)).x = sExs (den g e).v := rfl
@[simp] theorem den_ret_x (e : E) : (den g (.ret e)).x = sRet (den g e).v := rfl
@[simp] theorem den_rmv_x (i : Nat) : (den g (.rmv i)).x = sRmv i := rfl
@[simp] theorem den_retn_x  : (den g .retn).x = (fun _ s => .ok (.rt .non) s) := rfl
@[simp] theorem den_iff_x (c : E) (a : E) (b : E) : (den g (.iff c a b)).x = sIf (den g c).t (den g a).x (den g b).x := rfl
@[simp] theorem den_wh_x (c : E) (b : E) : (den g (.wh c b)).x = (fun ρ s => whLoop (den g c).t (den g b).x g.fuel ρ s) := rfl
@[simp] theorem den_for__x (tg : E) (it : E) (b : E) : (den g (.for_ tg it b)).x = sFor tg (den g it).i (den g b).x := rfl
@[simp] theorem den_rs_x (c : Nat) (z : Str) : (den g (.rs c z)).x = (fun _ s => .ex c [] s) := rfl
@[simp] theorem den_ps_x  : (den g .ps).x = (fun ρ s => .ok (.nx ρ) s) := rfl
@[simp] theorem den_brk_x  : (den g .brk).x = (fun ρ s => .ok (.bk ρ) s) := rfl
@[simp] theorem den_cnt_x  : (den g .cnt).x = (fun ρ s => .ok (.ct ρ) s) := rfl
@[simp] theorem den_frz_x (i : Nat) : (den g (.frz i)).x = sFrz i := rfl
@[simp] theorem den_rpl_v (es : E) : (den g (.rpl es)).v = vRpl g.T (den g es).lb := rfl
@[simp] theorem den_rpl_t (es : E) : (den g (.rpl es)).t = tv (vRpl g.T (den g es).lb) := rfl
@[simp] theorem den_rpl_e (es : E) : (den g (.rpl es)).e = evl1 (vRpl g.T (den g es).lb) := rfl
@[simp] theorem den_lams_x (w : Nat) (es : E) (cs : List Nat) : (den g (.lams w es cs)).x = sLams w (den g es).ll cs := rfl
@[simp] theorem den_cn_ll (h t : E) : (den g (.cn h t)).ll = (den g h).v :: (den g t).ll := rfl
@[simp] theorem den_nl_ll : (den g .nl).ll = [] := rfl
@[simp] theorem den_nl_l : (den g .nl).l = fun _ s => .ok [] s := rfl
@[simp] theorem den_nl_lb : (den g .nl).lb = fun _ s => .ok [] s := rfl
@[simp] theorem den_nl_il : (den g .nl).il = fun _ s => .ok [] s := rfl
@[simp] theorem den_nl_o : (den g .nl).o = fun _ s => .ok none s := rfl
@[simp] theorem den_nl_x : (den g .nl).x = fun ρ s => .ok (.nx ρ) s := rfl
end
section
variable {α β : Type}
/-- ends without exception, and then .. -/
def Wp (r : R α) (Q : α → S → Prop) : Prop := match r with
  | .ok a s => Q a s
  | _ => False
/-- f, then g -/
def bindK {γ : Type} (f : α → S → R β) (g : β → S → R γ) (a : α) (s : S) : R γ := (f a s).bind g
@[simp] theorem eq_bindK {γ : Type} {f : α → S → R β} {g : β → S → R γ} {a : α} {s : S} : bindK f g a s = (f a s).bind g := rfl
@[simp] theorem bind_ok {a : α} {s : S} {f : α → S → R β} : (R.ok a s).bind f = f a s := rfl
@[simp] theorem bind_ex {c : Nat} {xs : List D} {s : S} {f : α → S → R β} : (R.ex c xs s : R α).bind f = .ex c xs s := rfl
@[simp] theorem bind_no {f : α → S → R β} : (R.no : R α).bind f = .no := rfl
@[simp] theorem calm_ok {a : α} {s : S} : (R.ok a s).calm = .ok a s := rfl
@[simp] theorem of_some {a : α} {s : S} : R.of (some a) s = .ok a s := rfl
@[simp] theorem wp_ok {a : α} {s : S} {Q : α → S → Prop} : Wp (.ok a s) Q = Q a s := rfl
@[simp] theorem wp_no {Q : α → S → Prop} : Wp .no Q = False := rfl
@[simp] theorem wp_exc {c xs s} {Q : α → S → Prop} : Wp (.ex c xs s) Q = False := rfl
/-- what is left to be shown, behind f -/
def wpK (f : α → S → R β) (Q : β → S → Prop) (a : α) (s : S) : Prop := Wp (f a s) Q
@[simp] theorem eq_wpK {f : α → S → R β} {Q : β → S → Prop} {a : α} {s : S} : wpK f Q a s = Wp (f a s) Q := rfl
@[simp] theorem wp_bind {r : R α} {f : α → S → R β} {Q : β → S → Prop} : Wp (r.bind f) Q = Wp r (wpK f Q) := by
  cases r <;> rfl
@[simp] theorem bind_bind {γ : Type} {r : R α} {f : α → S → R β} {g : β → S → R γ} : (r.bind f).bind g = r.bind (bindK f g) := by
  cases r <;> rfl
@[simp] theorem wp_calm {r : R α} {Q : α → S → Prop} : Wp r.calm Q = Wp r Q := by
  cases r <;> rfl
theorem wp_of {o : Option α} {s : S} {Q : α → S → Prop} : Wp (R.of o s) Q ↔ ∃ a, o = some a ∧ Q a s := by
  cases o with
  | none => exact ⟨fun h => h.elim, fun ⟨_, h, _⟩ => by cases h⟩
  | some a => exact ⟨fun h => ⟨a, rfl, h⟩, fun ⟨_, h, q⟩ => by cases h; exact q⟩
@[simp] theorem wp_of_none {s : S} {Q : α → S → Prop} : Wp (R.of none s) Q = False := rfl
@[simp] theorem wp_of_ite {c : Prop} [Decidable c] {o : Option α} {s : S} {Q : α → S → Prop} : Wp (R.of (if c then o else none) s) Q ↔ c ∧ Wp (R.of o s) Q := by
  split <;> rename_i h
  · exact ⟨fun q => ⟨h, q⟩, fun q => q.2⟩
  · exact ⟨fun q => q.elim, fun q => absurd q.1 h⟩
@[simp] theorem wp_ite_no {c : Prop} [Decidable c] {r : R α} {Q : α → S → Prop} : Wp (if c then r else .no) Q ↔ c ∧ Wp r Q := by
  split <;> rename_i h
  · exact ⟨fun q => ⟨h, q⟩, fun q => q.2⟩
  · exact ⟨fun q => q.elim, fun q => absurd q.1 h⟩
@[simp] theorem wp_ite_no' {c : Prop} [Decidable c] {r : R α} {Q : α → S → Prop} : Wp (if c then .no else r) Q ↔ ¬ c ∧ Wp r Q := by
  split <;> rename_i h
  · exact ⟨fun q => q.elim, fun q => absurd h q.1⟩
  · exact ⟨fun q => ⟨h, q⟩, fun q => q.2⟩
theorem wp_mono {r : R α} {P Q : α → S → Prop} (h : Wp r P) (m : ∀ a s, P a s → Q a s) : Wp r Q := by
  cases r with
  | ok a s => exact m a s h
  | ex c xs s => exact h
  | no => exact h
theorem wp_eq {r : R α} {v : α} {s : S} (h : Wp r fun a s' => a = v ∧ s' = s) : r = .ok v s := by
  cases r with
  | ok a s' => obtain ⟨rfl, rfl⟩ := h; rfl
  | ex c xs s => exact h.elim
  | no => exact h.elim
theorem wp_of_eq {r : R α} {a : α} {s : S} {Q : α → S → Prop} (e : r = .ok a s) (h : Q a s) : Wp r Q := by
  rw [e]; exact h
theorem wp_elim {r : R α} {Q : α → S → Prop} (h : Wp r Q) : ∃ a s, r = .ok a s ∧ Q a s := by
  cases r with
  | ok a s => exact ⟨a, s, rfl, h⟩
  | ex c xs s => exact h.elim
  | no => exact h.elim
end
section
variable {ρ : Env} {s : S}
@[simp] theorem rd_z {x : Sl} {r : Env} : rd (x :: r) 0 = x := rfl
@[simp] theorem rd_s {x : Sl} {r : Env} {i : Nat} : rd (x :: r) (i + 1) = rd r i := rfl
@[simp] theorem wr_z {x y : Sl} {r : Env} : wr (x :: r) 0 y = y :: r := rfl
@[simp] theorem wr_s {x y : Sl} {r : Env} {i : Nat} : wr (x :: r) (i + 1) y = x :: wr r i y := rfl
@[simp] theorem nth_z {α : Type} {x : α} {r : List α} : nth (x :: r) 0 = some x := rfl
@[simp] theorem nth_s {α : Type} {x : α} {r : List α} {i : Nat} : nth (x :: r) (i + 1) = nth r i := rfl
@[simp] theorem setN_z {α : Type} {x y : α} {r : List α} : setN (x :: r) 0 y = y :: r := rfl
@[simp] theorem setN_s {α : Type} {x y : α} {r : List α} {i : Nat} : setN (x :: r) (i + 1) y = x :: setN r i y := rfl
@[simp] theorem wipe_nil : wipe ρ [] = ρ := rfl
@[simp] theorem wipe_cons {i : Nat} {is : List Nat} : wipe ρ (i :: is) = wr (wipe ρ is) i .un := rfl
@[simp] theorem vVar_eq {i : Nat} : vVar i ρ s = (match rd ρ i with | .fz d => .ok d s | _ => .no) := rfl
@[simp] theorem vBor_eq {i : Nat} : vBor i ρ s = (match rd ρ i with | .fz d => .ok d s | .ow d => .ok d s | .un => .no) := rfl
@[simp] theorem top_non : top s .non = some .non := rfl
@[simp] theorem top_bl {b : Bool} : top s (.bl b) = some (.bl b) := rfl
@[simp] theorem top_int {i : Int} : top s (.int i) = some (.int i) := rfl
@[simp] theorem top_str {x : Str} : top s (.str x) = some (.str x) := rfl
@[simp] theorem top_tup {xs : List D} : top s (.tup xs) = some (.tup xs) := rfl
@[simp] theorem top_lst {xs : List D} : top s (.lst xs) = some (.lst xs) := rfl
@[simp] theorem top_dic {ks xs : List D} : top s (.dic ks xs) = some (.dic ks xs) := rfl
@[simp] theorem top_scr {xs : List D} : top s (.scr xs) = some (.scr xs) := rfl
@[simp] theorem top_cell {k : Nat} : top s (.cell k) = nth s k := rfl
@[simp] theorem tops_nil : tops s [] = some [] := rfl
@[simp] theorem tops_cons {x : D} {r : List D} : tops s (x :: r) = (match top s x, tops s r with | some y, some ys => some (y :: ys) | _, _ => none) := rfl
@[simp] theorem top1_eq {α : Type} {x : D} {f : D → Option α} : top1 s x f = (match top s x with | some x => f x | none => none) := rfl
@[simp] theorem top2_eq {α : Type} {x y : D} {f : D → D → Option α} : top2 s x y f = (match top s x, top s y with | some x, some y => f x y | _, _ => none) := rfl
@[simp] theorem bind1_tg {i : Nat} {d : D} : bind1 (.tg i) d ρ = some (wr ρ i (.fz d)) := by unfold bind1; rfl
@[simp] theorem bind1_tt {es : E} {xs : List D} : bind1 (.tt es) (.tup xs) ρ = bind1 es (.tup xs) ρ := by conv => lhs; unfold bind1
@[simp] theorem bind1_cn {h t : E} {x : D} {xs : List D} : bind1 (.cn h t) (.tup (x :: xs)) ρ = (match bind1 h x ρ with | some ρ' => bind1 t (.tup xs) ρ' | none => none) := by
  conv => lhs; unfold bind1
  try (cases bind1 h x ρ <;> rfl)
@[simp] theorem bind1_nl : bind1 .nl (.tup []) ρ = some ρ := by unfold bind1; rfl
@[simp] theorem items_tup {xs : List D} : items (.tup xs) = some xs := rfl
@[simp] theorem items_lst {xs : List D} : items (.lst xs) = some xs := rfl
@[simp] theorem items_scr {xs : List D} : items (.scr xs) = some xs := rfl
end

/-- by a bool -/
def boolK {α : Type} (x : D) (a b : R α) : R α := match x with
  | .bl true => a
  | .bl false => b
  | _ => .no
@[simp] theorem boolK_bl {α : Type} {c : Bool} {a b : R α} : boolK (.bl c) a b = if c = true then a else b := by cases c <;> rfl
def boolO {α : Type} (x : Option D) (a b : R α) : R α := match x with
  | some (.bl true) => a
  | some (.bl false) => b
  | _ => .no
@[simp] theorem boolO_some {α : Type} {c : Bool} {a b : R α} : boolO (some (.bl c)) a b = if c = true then a else b := by cases c <;> rfl
@[simp] theorem boolO_none {α : Type} {a b : R α} : boolO none a b = .no := rfl
@[simp] theorem boolO_ite {α : Type} {p : Prop} [Decidable p] {o : Option D} {a b : R α} : boolO (if p then o else none) a b = if p then boolO o a b else .no := by split <;> rfl
def kTv  (x : D) (s : S) : R Bool := R.of (top1 s x truthy) s
@[simp] theorem eq_kTv  (x : D) (s : S) : kTv x s = (R.of (top1 s x truthy) s) := rfl
@[simp] theorem eq_tv (v : Env → S → R D) (ρ : Env) (s : S) : tv v ρ s = ((v ρ s).bind kTv) := by
  unfold tv
  rfl
def kOne  (x : D) (s : S) : R (List D) := .ok [x] s
@[simp] theorem eq_kOne  (x : D) (s : S) : kOne x s = (.ok [x] s) := rfl
@[simp] theorem eq_evl1 (v : Env → S → R D) (ρ : Env) (s : S) : evl1 v ρ s = ((v ρ s).bind kOne) := by
  unfold evl1
  rfl
def kOInt  (x : D) (s : S) : R (Option Int) := match x with | .int i => .ok (some i) s | _ => .no
@[simp] theorem eq_kOInt  (x : D) (s : S) : kOInt x s = (match x with | .int i => .ok (some i) s | _ => .no) := rfl
@[simp] theorem eq_oInt (v : Env → S → R D) (ρ : Env) (s : S) : oInt v ρ s = ((v ρ s).bind kOInt) := by
  unfold oInt
  rfl
def kTup  (xs : List D) (s : S) : R D := if xs.length ≤ lim then .ok (.tup xs) s else .no
@[simp] theorem eq_kTup  (xs : List D) (s : S) : kTup xs s = (if xs.length ≤ lim then .ok (.tup xs) s else .no) := rfl
@[simp] theorem eq_vTup (l : Env → S → R (List D)) (ρ : Env) (s : S) : vTup l ρ s = ((l ρ s).bind kTup) := by
  unfold vTup
  rfl
def kLst  (xs : List D) (s : S) : R D := if xs.length ≤ lim then .ok (.lst xs) s else .no
@[simp] theorem eq_kLst  (xs : List D) (s : S) : kLst xs s = (if xs.length ≤ lim then .ok (.lst xs) s else .no) := rfl
@[simp] theorem eq_vLst (l : Env → S → R (List D)) (ρ : Env) (s : S) : vLst l ρ s = ((l ρ s).bind kLst) := by
  unfold vLst
  rfl
def kBin2 (op : BOp) (x : D) (y : D) (s : S) : R D := R.of (top2 s x y (bin op)) s
@[simp] theorem eq_kBin2 (op : BOp) (x : D) (y : D) (s : S) : kBin2 op x y s = (R.of (top2 s x y (bin op)) s) := rfl
def kBin1 (op : BOp) (b : Env → S → R D) (ρ : Env) (x : D) (s : S) : R D := (b ρ s).bind (kBin2 op x)
@[simp] theorem eq_kBin1 (op : BOp) (b : Env → S → R D) (ρ : Env) (x : D) (s : S) : kBin1 op b ρ x s = ((b ρ s).bind (kBin2 op x)) := rfl
@[simp] theorem eq_vBin (op : BOp) (a b : Env → S → R D) (ρ : Env) (s : S) : vBin op a b ρ s = ((a ρ s).bind (kBin1 op b ρ)) := by
  unfold vBin
  rfl
def kNeg  (x : D) (s : S) : R D := match x with | .int i => .ok (.int (-i)) s | _ => .no
@[simp] theorem eq_kNeg  (x : D) (s : S) : kNeg x s = (match x with | .int i => .ok (.int (-i)) s | _ => .no) := rfl
@[simp] theorem eq_vNeg (a : Env → S → R D) (ρ : Env) (s : S) : vNeg a ρ s = ((a ρ s).bind kNeg) := by
  unfold vNeg
  rfl
def kCmp2 (op : COp) (x : D) (y : D) (s : S) : R D := R.of (top2 s x y (cmp op)) s
@[simp] theorem eq_kCmp2 (op : COp) (x : D) (y : D) (s : S) : kCmp2 op x y s = (R.of (top2 s x y (cmp op)) s) := rfl
def kCmp1 (op : COp) (b : Env → S → R D) (ρ : Env) (x : D) (s : S) : R D := (b ρ s).bind (kCmp2 op x)
@[simp] theorem eq_kCmp1 (op : COp) (b : Env → S → R D) (ρ : Env) (x : D) (s : S) : kCmp1 op b ρ x s = ((b ρ s).bind (kCmp2 op x)) := rfl
@[simp] theorem eq_vCmp (op : COp) (a b : Env → S → R D) (ρ : Env) (s : S) : vCmp op a b ρ s = ((a ρ s).bind (kCmp1 op b ρ)) := by
  unfold vCmp
  rfl
def kCmb2 (op op2 : COp) (c : Env → S → R D) (ρ : Env) (x : D) (y : D) (s : S) : R D := boolO (top2 s x y (cmp op)) ((c ρ s).bind (kCmp2 op2 y)) (.ok (.bl false) s)
@[simp] theorem eq_kCmb2 (op op2 : COp) (c : Env → S → R D) (ρ : Env) (x : D) (y : D) (s : S) : kCmb2 op op2 c ρ x y s = (boolO (top2 s x y (cmp op)) ((c ρ s).bind (kCmp2 op2 y)) (.ok (.bl false) s)) := rfl
def kCmb1 (op op2 : COp) (b c : Env → S → R D) (ρ : Env) (x : D) (s : S) : R D := (b ρ s).bind (kCmb2 op op2 c ρ x)
@[simp] theorem eq_kCmb1 (op op2 : COp) (b c : Env → S → R D) (ρ : Env) (x : D) (s : S) : kCmb1 op op2 b c ρ x s = ((b ρ s).bind (kCmb2 op op2 c ρ x)) := rfl
@[simp] theorem eq_vCm2 (op op2 : COp) (a b c : Env → S → R D) (ρ : Env) (s : S) : vCm2 op op2 a b c ρ s = (a ρ s).bind (kCmb1 op op2 b c ρ) := by
  unfold vCm2 kCmb1 kCmb2 boolO
  rfl
def kAnd (b : Env → S → R D) (ρ : Env) (x : D) (s : S) : R D := boolK x (b ρ s) (.ok (.bl false) s)
@[simp] theorem eq_kAnd (b : Env → S → R D) (ρ : Env) (x : D) (s : S) : kAnd b ρ x s = (boolK x (b ρ s) (.ok (.bl false) s)) := rfl
def kOr (b : Env → S → R D) (ρ : Env) (x : D) (s : S) : R D := boolK x (.ok (.bl true) s) (b ρ s)
@[simp] theorem eq_kOr (b : Env → S → R D) (ρ : Env) (x : D) (s : S) : kOr b ρ x s = (boolK x (.ok (.bl true) s) (b ρ s)) := rfl
@[simp] theorem eq_vAnd (a b : Env → S → R D) (ρ : Env) (s : S) : vAnd a b ρ s = (a ρ s).bind (kAnd b ρ) := by
  unfold vAnd
  cases a ρ s with
  | ok x s => cases x <;> first | rfl | (rename_i c; cases c <;> rfl)
  | ex c xs s => rfl
  | no => rfl
@[simp] theorem eq_vOr (a b : Env → S → R D) (ρ : Env) (s : S) : vOr a b ρ s = (a ρ s).bind (kOr b ρ) := by
  unfold vOr
  cases a ρ s with
  | ok x s => cases x <;> first | rfl | (rename_i c; cases c <;> rfl)
  | ex c xs s => rfl
  | no => rfl
def kTAnd (b : Env → S → R Bool) (ρ : Env) (x : Bool) (s : S) : R Bool := if x = true then b ρ s else .ok false s
@[simp] theorem eq_kTAnd (b : Env → S → R Bool) (ρ : Env) (x : Bool) (s : S) : kTAnd b ρ x s = (if x = true then b ρ s else .ok false s) := rfl
@[simp] theorem eq_tAnd (a b : Env → S → R Bool) (ρ : Env) (s : S) : tAnd a b ρ s = ((a ρ s).bind (kTAnd b ρ)) := by
  unfold tAnd
  rfl
def kTOr (b : Env → S → R Bool) (ρ : Env) (x : Bool) (s : S) : R Bool := if x = true then .ok true s else b ρ s
@[simp] theorem eq_kTOr (b : Env → S → R Bool) (ρ : Env) (x : Bool) (s : S) : kTOr b ρ x s = (if x = true then .ok true s else b ρ s) := rfl
@[simp] theorem eq_tOr (a b : Env → S → R Bool) (ρ : Env) (s : S) : tOr a b ρ s = ((a ρ s).bind (kTOr b ρ)) := by
  unfold tOr
  rfl
def kTNot  (b : Bool) (s : S) : R Bool := .ok (!b) s
@[simp] theorem eq_kTNot  (b : Bool) (s : S) : kTNot b s = (.ok (!b) s) := rfl
@[simp] theorem eq_tNot (a : Env → S → R Bool) (ρ : Env) (s : S) : tNot a ρ s = ((a ρ s).bind kTNot) := by
  unfold tNot
  rfl
def kNotB  (x : D) (s : S) : R D := match x with | .bl b => .ok (.bl (!b)) s | _ => .no
@[simp] theorem eq_kNotB  (x : D) (s : S) : kNotB x s = (match x with | .bl b => .ok (.bl (!b)) s | _ => .no) := rfl
@[simp] theorem eq_vNotB (a : Env → S → R D) (ρ : Env) (s : S) : vNotB a ρ s = ((a ρ s).bind kNotB) := by
  unfold vNotB
  rfl
def kIf (a b : Env → S → R D) (ρ : Env) (k : Bool) (s : S) : R D := if k = true then a ρ s else b ρ s
@[simp] theorem eq_kIf (a b : Env → S → R D) (ρ : Env) (k : Bool) (s : S) : kIf a b ρ k s = (if k = true then a ρ s else b ρ s) := rfl
@[simp] theorem eq_vIf (c : Env → S → R Bool) (a b : Env → S → R D) (ρ : Env) (s : S) : vIf c a b ρ s = ((c ρ s).bind (kIf a b ρ)) := by
  unfold vIf
  rfl
def kCall (Φ : Nat → List D → S → R D) (f : Nat) (xs : List D) (s : S) : R D := Φ f xs s
@[simp] theorem eq_kCall (Φ : Nat → List D → S → R D) (f : Nat) (xs : List D) (s : S) : kCall Φ f xs s = (Φ f xs s) := rfl
@[simp] theorem eq_vCall (Φ : Nat → List D → S → R D) (f : Nat) (l : Env → S → R (List D)) (ρ : Env) (s : S) : vCall Φ f l ρ s = ((l ρ s).bind (kCall Φ f)) := by
  unfold vCall
  rfl
def kCalk (Φ : Nat → List D → S → R D) (f : Nat) (p : List Nat) (xs : List D) (s : S) : R D := match perm xs p with | some ys => Φ f ys s | none => .no
@[simp] theorem eq_kCalk (Φ : Nat → List D → S → R D) (f : Nat) (p : List Nat) (xs : List D) (s : S) : kCalk Φ f p xs s = (match perm xs p with | some ys => Φ f ys s | none => .no) := rfl
@[simp] theorem eq_vCalk (Φ : Nat → List D → S → R D) (f : Nat) (l : Env → S → R (List D)) (p : List Nat) (ρ : Env) (s : S) : vCalk Φ f l p ρ s = ((l ρ s).bind (kCalk Φ f p)) := by
  unfold vCalk
  rfl
def kDsp (ks : List Str) (xs : List D) (s : S) : R D := if xs.length = ks.length ∧ ks.length ≤ 15 ∧ distK ks = true then .ok (.dic (ks.map .str) xs) s else .no
@[simp] theorem eq_kDsp (ks : List Str) (xs : List D) (s : S) : kDsp ks xs s = (if xs.length = ks.length ∧ ks.length ≤ 15 ∧ distK ks = true then .ok (.dic (ks.map .str) xs) s else .no) := rfl
@[simp] theorem eq_vDsp (ks : List Str) (l : Env → S → R (List D)) (ρ : Env) (s : S) : vDsp ks l ρ s = ((l ρ s).bind (kDsp ks)) := by
  unfold vDsp
  rfl
def kBlt (T : D → Option Str) (b : Bl) (xs : List D) (s : S) : R D := R.of (match tops s xs with | some ys => blt T b ys | none => none) s
@[simp] theorem eq_kBlt (T : D → Option Str) (b : Bl) (xs : List D) (s : S) : kBlt T b xs s = (R.of (match tops s xs with | some ys => blt T b ys | none => none) s) := rfl
@[simp] theorem eq_vBlt (T : D → Option Str) (b : Bl) (l : Env → S → R (List D)) (ρ : Env) (s : S) : vBlt T b l ρ s = ((l ρ s).bind (kBlt T b)) := by
  unfold vBlt
  rfl
def kRpl (T : D → Option Str) (xs : List D) (s : S) : R D := R.of (match tops s xs with | some ys => if ys.length ≤ lim then (T (.lst ys)).map .str else none | none => none) s
@[simp] theorem eq_kRpl (T : D → Option Str) (xs : List D) (s : S) : kRpl T xs s = (R.of (match tops s xs with | some ys => if ys.length ≤ lim then (T (.lst ys)).map .str else none | none => none) s) := rfl
@[simp] theorem eq_vRpl (T : D → Option Str) (l : Env → S → R (List D)) (ρ : Env) (s : S) : vRpl T l ρ s = ((l ρ s).bind (kRpl T)) := by
  unfold vRpl
  rfl
def kIsi2 (ts : List Ty) (x : D) : Option D := if isTyOk x then some (.bl (ts.any (isTy x))) else none
@[simp] theorem eq_kIsi2 (ts : List Ty) (x : D) : kIsi2 ts x = (if isTyOk x then some (.bl (ts.any (isTy x))) else none) := rfl
def kIsi (ts : List Ty) (x : D) (s : S) : R D := R.of (top1 s x (kIsi2 ts)) s
@[simp] theorem eq_kIsi (ts : List Ty) (x : D) (s : S) : kIsi ts x s = (R.of (top1 s x (kIsi2 ts)) s) := rfl
@[simp] theorem eq_vIsi (ts : List Ty) (a : Env → S → R D) (ρ : Env) (s : S) : vIsi ts a ρ s = ((a ρ s).bind (kIsi ts)) := by
  unfold vIsi
  rfl
def kIse (cs : List Nat) (x : D) (s : S) : R D := match x with | .exc k _ => .ok (.bl (cs.any fun c => k == c || c == 0)) s | .non => .ok (.bl false) s | _ => .no
@[simp] theorem eq_kIse (cs : List Nat) (x : D) (s : S) : kIse cs x s = (match x with | .exc k _ => .ok (.bl (cs.any fun c => k == c || c == 0)) s | .non => .ok (.bl false) s | _ => .no) := rfl
@[simp] theorem eq_vIse (cs : List Nat) (a : Env → S → R D) (ρ : Env) (s : S) : vIse cs a ρ s = ((a ρ s).bind (kIse cs)) := by
  unfold vIse
  rfl
def kSub3 (y : D) (x : D) : Option D := sub x y
@[simp] theorem eq_kSub3 (y : D) (x : D) : kSub3 y x = (sub x y) := rfl
def kSub2 (x : D) (y : D) (s : S) : R D := R.of (top1 s x (kSub3 y)) s
@[simp] theorem eq_kSub2 (x : D) (y : D) (s : S) : kSub2 x y s = (R.of (top1 s x (kSub3 y)) s) := rfl
def kSub1 (i : Env → S → R D) (ρ : Env) (x : D) (s : S) : R D := (i ρ s).bind (kSub2 x)
@[simp] theorem eq_kSub1 (i : Env → S → R D) (ρ : Env) (x : D) (s : S) : kSub1 i ρ x s = ((i ρ s).bind (kSub2 x)) := rfl
@[simp] theorem eq_vSub (a i : Env → S → R D) (ρ : Env) (s : S) : vSub a i ρ s = ((a ρ s).bind (kSub1 i ρ)) := by
  unfold vSub
  rfl
def kSlc4 (l h : Option Int) (x : D) : Option D := cutD x l h
@[simp] theorem eq_kSlc4 (l h : Option Int) (x : D) : kSlc4 l h x = (cutD x l h) := rfl
def kSlc3 (x : D) (l : Option Int) (h : Option Int) (s : S) : R D := R.of (top1 s x (kSlc4 l h)) s
@[simp] theorem eq_kSlc3 (x : D) (l : Option Int) (h : Option Int) (s : S) : kSlc3 x l h s = (R.of (top1 s x (kSlc4 l h)) s) := rfl
def kSlc2 (hi : Env → S → R (Option Int)) (ρ : Env) (x : D) (l : Option Int) (s : S) : R D := (hi ρ s).bind (kSlc3 x l)
@[simp] theorem eq_kSlc2 (hi : Env → S → R (Option Int)) (ρ : Env) (x : D) (l : Option Int) (s : S) : kSlc2 hi ρ x l s = ((hi ρ s).bind (kSlc3 x l)) := rfl
def kSlc1 (lo hi : Env → S → R (Option Int)) (ρ : Env) (x : D) (s : S) : R D := (lo ρ s).bind (kSlc2 hi ρ x)
@[simp] theorem eq_kSlc1 (lo hi : Env → S → R (Option Int)) (ρ : Env) (x : D) (s : S) : kSlc1 lo hi ρ x s = ((lo ρ s).bind (kSlc2 hi ρ x)) := rfl
@[simp] theorem eq_vSlc (a : Env → S → R D) (lo hi : Env → S → R (Option Int)) (ρ : Env) (s : S) : vSlc a lo hi ρ s = ((a ρ s).bind (kSlc1 lo hi ρ)) := by
  unfold vSlc
  rfl
def kLs0  (ys : List D) (s : S) : R D := .ok (.lst ys) s
@[simp] theorem eq_kLs0  (ys : List D) (s : S) : kLs0 ys s = (.ok (.lst ys) s) := rfl
def kLc (st : D → List D → S → R (List D)) (xs : List D) (s : S) : R D := (lcLoop st xs [] s).bind kLs0
@[simp] theorem eq_kLc (st : D → List D → S → R (List D)) (xs : List D) (s : S) : kLc st xs s = ((lcLoop st xs [] s).bind kLs0) := rfl
@[simp] theorem eq_vLc (tg : E) (it : Env → S → R (List D)) (cond : Env → S → R Bool) (elt : Env → S → R D) (vs : List Nat) (ρ : Env) (s : S) : vLc tg it cond elt vs ρ s = ((it ρ s).bind (kLc (lcStep tg (wipe ρ vs) cond (lcAdd elt)))) := by
  unfold vLc
  rfl
@[simp] theorem eq_vLc2 (tg : E) (it : Env → S → R (List D)) (cond : Env → S → R Bool) (tg2 : E) (it2 : Env → S → R (List D)) (cond2 : Env → S → R Bool) (elt : Env → S → R D) (vs vs2 : List Nat) (ρ : Env) (s : S) : vLc2 tg it cond tg2 it2 cond2 elt vs vs2 ρ s = ((it ρ s).bind (kLc (lcStep tg (wipe ρ vs) cond (lcIn tg2 it2 cond2 elt vs2)))) := by
  unfold vLc2
  rfl
@[simp] theorem eq_vLi (i : Env → S → R (List D)) (ρ : Env) (s : S) : vLi i ρ s = ((i ρ s).bind kLst) := by
  unfold vLi
  rfl
@[simp] theorem eq_vTi (i : Env → S → R (List D)) (ρ : Env) (s : S) : vTi i ρ s = ((i ρ s).bind kTup) := by
  unfold vTi
  rfl
def kNew  (x : D) (s : S) : R D := if isBox x = true then .ok (.cell s.length) (s ++ [x]) else .no
@[simp] theorem eq_kNew  (x : D) (s : S) : kNew x s = (if isBox x = true then .ok (.cell s.length) (s ++ [x]) else .no) := rfl
@[simp] theorem eq_vNew (a : Env → S → R D) (ρ : Env) (s : S) : vNew a ρ s = ((a ρ s).bind kNew) := by
  unfold vNew
  rfl
def kPopc  (x : D) (s : S) : R D := match x with | .cell k => (match nth s k with | some (.lst (y :: r)) => .ok y (setN s k (.lst r)) | _ => .no) | _ => .no
@[simp] theorem eq_kPopc  (x : D) (s : S) : kPopc x s = (match x with | .cell k => (match nth s k with | some (.lst (y :: r)) => .ok y (setN s k (.lst r)) | _ => .no) | _ => .no) := rfl
@[simp] theorem eq_vPopc (a : Env → S → R D) (ρ : Env) (s : S) : vPopc a ρ s = ((a ρ s).bind kPopc) := by
  unfold vPopc
  rfl
def kItems  (x : D) (s : S) : R (List D) := R.of (items x) s
@[simp] theorem eq_kItems  (x : D) (s : S) : kItems x s = (R.of (items x) s) := rfl
@[simp] theorem eq_iVal (a : Env → S → R D) (ρ : Env) (s : S) : iVal a ρ s = ((a ρ s).bind kItems) := by
  unfold iVal
  rfl
def kRng  (xs : List D) (s : S) : R (List D) := R.of (rngOf xs) s
@[simp] theorem eq_kRng  (xs : List D) (s : S) : kRng xs s = (R.of (rngOf xs) s) := rfl
@[simp] theorem eq_iRng (l : Env → S → R (List D)) (ρ : Env) (s : S) : iRng l ρ s = ((l ρ s).bind kRng) := by
  unfold iRng
  rfl
def kZip  (xss : List (List D)) (s : S) : R (List D) := R.of (zipOf xss) s
@[simp] theorem eq_kZip  (xss : List (List D)) (s : S) : kZip xss s = (R.of (zipOf xss) s) := rfl
@[simp] theorem eq_iZip (l : Env → S → R (List (List D))) (ρ : Env) (s : S) : iZip l ρ s = ((l ρ s).bind kZip) := by
  unfold iZip
  rfl
def kEnu  (xs : List D) (s : S) : R (List D) := .ok (enumL 0 xs) s
@[simp] theorem eq_kEnu  (xs : List D) (s : S) : kEnu xs s = (.ok (enumL 0 xs) s) := rfl
@[simp] theorem eq_iEnu (a : Env → S → R D) (ρ : Env) (s : S) : iEnu a ρ s = ((iVal a ρ s).bind kEnu) := by
  unfold iEnu
  rfl
def kApp2 (xs : List D) (ys : List D) (s : S) : R (List D) := .ok (xs ++ ys) s
@[simp] theorem eq_kApp2 (xs : List D) (ys : List D) (s : S) : kApp2 xs ys s = (.ok (xs ++ ys) s) := rfl
def kApp1 (t : Env → S → R (List D)) (ρ : Env) (xs : List D) (s : S) : R (List D) := (t ρ s).bind (kApp2 xs)
@[simp] theorem eq_kApp1 (t : Env → S → R (List D)) (ρ : Env) (xs : List D) (s : S) : kApp1 t ρ xs s = ((t ρ s).bind (kApp2 xs)) := rfl
@[simp] theorem eq_lCons (h t : Env → S → R (List D)) (ρ : Env) (s : S) : lCons h t ρ s = ((h ρ s).bind (kApp1 t ρ)) := by
  unfold lCons
  rfl
def kCons2 (x : D) (ys : List D) (s : S) : R (List D) := .ok (x :: ys) s
@[simp] theorem eq_kCons2 (x : D) (ys : List D) (s : S) : kCons2 x ys s = (.ok (x :: ys) s) := rfl
def kCons1 (t : Env → S → R (List D)) (ρ : Env) (x : D) (s : S) : R (List D) := (t ρ s).bind (kCons2 x)
@[simp] theorem eq_kCons1 (t : Env → S → R (List D)) (ρ : Env) (x : D) (s : S) : kCons1 t ρ x s = ((t ρ s).bind (kCons2 x)) := rfl
@[simp] theorem eq_lbCons (h : Env → S → R D) (t : Env → S → R (List D)) (ρ : Env) (s : S) : lbCons h t ρ s = ((h ρ s).bind (kCons1 t ρ)) := by
  unfold lbCons
  rfl
def kConsI2 (x : List D) (ys : List (List D)) (s : S) : R (List (List D)) := .ok (x :: ys) s
@[simp] theorem eq_kConsI2 (x : List D) (ys : List (List D)) (s : S) : kConsI2 x ys s = (.ok (x :: ys) s) := rfl
def kConsI1 (t : Env → S → R (List (List D))) (ρ : Env) (x : List D) (s : S) : R (List (List D)) := (t ρ s).bind (kConsI2 x)
@[simp] theorem eq_kConsI1 (t : Env → S → R (List (List D))) (ρ : Env) (x : List D) (s : S) : kConsI1 t ρ x s = ((t ρ s).bind (kConsI2 x)) := rfl
@[simp] theorem eq_ilCons (h : Env → S → R D) (t : Env → S → R (List (List D))) (ρ : Env) (s : S) : ilCons h t ρ s = ((iVal h ρ s).bind (kConsI1 t ρ)) := by
  unfold ilCons
  rfl
def kSeq (b : Env → S → R Fl) (f : Fl) (s : S) : R Fl := match f with | .nx ρ => b ρ s | f => .ok f s
@[simp] theorem kSeq_nx (b : Env → S → R Fl) (ρ : Env) (s : S) : kSeq b (.nx ρ) s = b ρ s := rfl
@[simp] theorem kSeq_rt (b : Env → S → R Fl) (d : D) (s : S) : kSeq b (.rt d) s = .ok (.rt d) s := rfl
@[simp] theorem kSeq_bk (b : Env → S → R Fl) (ρ : Env) (s : S) : kSeq b (.bk ρ) s = .ok (.bk ρ) s := rfl
@[simp] theorem kSeq_ct (b : Env → S → R Fl) (ρ : Env) (s : S) : kSeq b (.ct ρ) s = .ok (.ct ρ) s := rfl
@[simp] theorem eq_sSeq (a b : Env → S → R Fl) (ρ : Env) (s : S) : sSeq a b ρ s = ((a ρ s).bind (kSeq b)) := by
  unfold sSeq
  rfl
def kAsg (tg : E) (ρ : Env) (x : D) (s : S) : R Fl := match bind1 tg x ρ with | some ρ => .ok (.nx ρ) s | none => .no
@[simp] theorem eq_kAsg (tg : E) (ρ : Env) (x : D) (s : S) : kAsg tg ρ x s = (match bind1 tg x ρ with | some ρ => .ok (.nx ρ) s | none => .no) := rfl
@[simp] theorem eq_sAsg (tg : E) (a : Env → S → R D) (ρ : Env) (s : S) : sAsg tg a ρ s = ((a ρ s).bind (kAsg tg ρ)) := by
  unfold sAsg
  rfl
def kAsgo (i : Nat) (ρ : Env) (x : D) (s : S) : R Fl := if isBox x = true then .ok (.nx (wr ρ i (.ow x))) s else .no
@[simp] theorem eq_kAsgo (i : Nat) (ρ : Env) (x : D) (s : S) : kAsgo i ρ x s = (if isBox x = true then .ok (.nx (wr ρ i (.ow x))) s else .no) := rfl
@[simp] theorem eq_sAsgo (i : Nat) (a : Env → S → R D) (ρ : Env) (s : S) : sAsgo i a ρ s = ((a ρ s).bind (kAsgo i ρ)) := by
  unfold sAsgo
  rfl
def kPar2 (i j : Nat) (oi oj : Bool) (ρ : Env) (x : D) (y : D) (s : S) : R Fl := if ((oi && !isBox x) || (oj && !isBox y)) = true then .no else .ok (.nx (wr (wr ρ i (if oi = true then .ow x else .fz x)) j (if oj = true then .ow y else .fz y))) s
@[simp] theorem eq_kPar2 (i j : Nat) (oi oj : Bool) (ρ : Env) (x : D) (y : D) (s : S) : kPar2 i j oi oj ρ x y s = (if ((oi && !isBox x) || (oj && !isBox y)) = true then .no else .ok (.nx (wr (wr ρ i (if oi = true then .ow x else .fz x)) j (if oj = true then .ow y else .fz y))) s) := rfl
def kPar1 (i j : Nat) (b : Env → S → R D) (oi oj : Bool) (ρ : Env) (x : D) (s : S) : R Fl := (b ρ s).bind (kPar2 i j oi oj ρ x)
@[simp] theorem eq_kPar1 (i j : Nat) (b : Env → S → R D) (oi oj : Bool) (ρ : Env) (x : D) (s : S) : kPar1 i j b oi oj ρ x s = ((b ρ s).bind (kPar2 i j oi oj ρ x)) := rfl
@[simp] theorem eq_sPar (i j : Nat) (a b : Env → S → R D) (oi oj : Bool) (ρ : Env) (s : S) : sPar i j a b oi oj ρ s = ((a ρ s).bind (kPar1 i j b oi oj ρ)) := by
  unfold sPar
  rfl
def kAppd (i : Nat) (ρ : Env) (xs : List D) (x : D) (s : S) : R Fl := if xs.length < lim then .ok (.nx (wr ρ i (.ow (.lst (xs ++ [x]))))) s else .no
@[simp] theorem eq_kAppd (i : Nat) (ρ : Env) (xs : List D) (x : D) (s : S) : kAppd i ρ xs x s = (if xs.length < lim then .ok (.nx (wr ρ i (.ow (.lst (xs ++ [x]))))) s else .no) := rfl
@[simp] theorem eq_sApp (i : Nat) (a : Env → S → R D) (ρ : Env) (s : S) : sApp i a ρ s = (match rd ρ i with | .ow (.lst xs) => (a ρ s).bind (kAppd i ρ xs) | _ => .no) := by
  unfold sApp
  rfl
@[simp] theorem eq_sClr (i : Nat) (ρ : Env) (s : S) : sClr i ρ s = (match rd ρ i with | .ow (.lst _) => .ok (.nx (wr ρ i (.ow (.lst [])))) s | _ => .no) := by
  unfold sClr
  rfl
def kPopt (i j : Nat) (ρ : Env) (xs : List D) (x : D) (s : S) : R Fl := match x with | .int k => (match popAt xs k with | some (y, r) => .ok (.nx (wr (wr ρ j (.ow (.lst r))) i (.fz y))) s | none => .no) | _ => .no
@[simp] theorem eq_kPopt (i j : Nat) (ρ : Env) (xs : List D) (x : D) (s : S) : kPopt i j ρ xs x s = (match x with | .int k => (match popAt xs k with | some (y, r) => .ok (.nx (wr (wr ρ j (.ow (.lst r))) i (.fz y))) s | none => .no) | _ => .no) := rfl
@[simp] theorem eq_sPopt (i j : Nat) (a : Env → S → R D) (ρ : Env) (s : S) : sPopt i j a ρ s = (match rd ρ j with | .ow (.lst xs) => (a ρ s).bind (kPopt i j ρ xs) | _ => .no) := by
  unfold sPopt
  rfl
def kApop (i j : Nat) (ρ : Env) (ys xs : List D) (x : D) (s : S) : R Fl := match x with | .int k => (match popAt xs k with | some (y, r) => if ys.length < lim then .ok (.nx (wr (wr ρ j (.ow (.lst r))) i (.ow (.lst (ys ++ [y]))))) s else .no | none => .no) | _ => .no
@[simp] theorem eq_kApop (i j : Nat) (ρ : Env) (ys xs : List D) (x : D) (s : S) : kApop i j ρ ys xs x s = (match x with | .int k => (match popAt xs k with | some (y, r) => if ys.length < lim then .ok (.nx (wr (wr ρ j (.ow (.lst r))) i (.ow (.lst (ys ++ [y]))))) s else .no | none => .no) | _ => .no) := rfl
@[simp] theorem eq_sApop (i j : Nat) (a : Env → S → R D) (ρ : Env) (s : S) : sApop i j a ρ s = (if i = j then .no else match rd ρ i, rd ρ j with | .ow (.lst ys), .ow (.lst xs) => (a ρ s).bind (kApop i j ρ ys xs) | _, _ => .no) := by
  unfold sApop
  rfl
def kCset3 (ρ : Env) (y x : D) (j : D) (s : S) : R Fl := match x with | .cell n => (match nth s n with | some (.dic ks vs) => if (isStrD j && decide (ks.length < lim)) = true then .ok (.nx ρ) (setN s n (.dic (dput ks vs j y).1 (dput ks vs j y).2)) else .no | _ => .no) | _ => .no
@[simp] theorem eq_kCset3 (ρ : Env) (y x : D) (j : D) (s : S) : kCset3 ρ y x j s = (match x with | .cell n => (match nth s n with | some (.dic ks vs) => if (isStrD j && decide (ks.length < lim)) = true then .ok (.nx ρ) (setN s n (.dic (dput ks vs j y).1 (dput ks vs j y).2)) else .no | _ => .no) | _ => .no) := rfl
def kCset2 (k : Env → S → R D) (ρ : Env) (y : D) (x : D) (s : S) : R Fl := (k ρ s).bind (kCset3 ρ y x)
@[simp] theorem eq_kCset2 (k : Env → S → R D) (ρ : Env) (y : D) (x : D) (s : S) : kCset2 k ρ y x s = ((k ρ s).bind (kCset3 ρ y x)) := rfl
def kCset1 (b k : Env → S → R D) (ρ : Env) (y : D) (s : S) : R Fl := (b ρ s).bind (kCset2 k ρ y)
@[simp] theorem eq_kCset1 (b k : Env → S → R D) (ρ : Env) (y : D) (s : S) : kCset1 b k ρ y s = ((b ρ s).bind (kCset2 k ρ y)) := rfl
@[simp] theorem eq_sCset (b k a : Env → S → R D) (ρ : Env) (s : S) : sCset b k a ρ s = ((a ρ s).bind (kCset1 b k ρ)) := by
  unfold sCset
  rfl
def kExs (ρ : Env) (x : D) (s : S) : R Fl := .ok (.nx ρ) s
@[simp] theorem eq_kExs (ρ : Env) (x : D) (s : S) : kExs ρ x s = (.ok (.nx ρ) s) := rfl
@[simp] theorem eq_sExs (a : Env → S → R D) (ρ : Env) (s : S) : sExs a ρ s = ((a ρ s).bind (kExs ρ)) := by
  unfold sExs
  rfl
def kRet  (x : D) (s : S) : R Fl := .ok (.rt x) s
@[simp] theorem eq_kRet  (x : D) (s : S) : kRet x s = (.ok (.rt x) s) := rfl
@[simp] theorem eq_sRet (a : Env → S → R D) (ρ : Env) (s : S) : sRet a ρ s = ((a ρ s).bind kRet) := by
  unfold sRet
  rfl
@[simp] theorem eq_sRmv (i : Nat) (ρ : Env) (s : S) : sRmv i ρ s = (match rd ρ i with | .ow d => .ok (.rt d) s | _ => .no) := by
  unfold sRmv
  rfl
def kIfS (a b : Env → S → R Fl) (ρ : Env) (k : Bool) (s : S) : R Fl := if k = true then a ρ s else b ρ s
@[simp] theorem eq_kIfS (a b : Env → S → R Fl) (ρ : Env) (k : Bool) (s : S) : kIfS a b ρ k s = (if k = true then a ρ s else b ρ s) := rfl
@[simp] theorem eq_sIf (c : Env → S → R Bool) (a b : Env → S → R Fl) (ρ : Env) (s : S) : sIf c a b ρ s = ((c ρ s).bind (kIfS a b ρ)) := by
  unfold sIf
  rfl
@[simp] theorem eq_forStep (tg : E) (b : Env → S → R Fl) (x : D) (ρ : Env) (s : S) : forStep tg b x ρ s = (match bind1 tg x ρ with | none => .no | some ρ => b ρ s) := by
  unfold forStep
  rfl
def kFor (tg : E) (b : Env → S → R Fl) (ρ : Env) (xs : List D) (s : S) : R Fl := forLoop (forStep tg b) xs ρ s
@[simp] theorem eq_kFor (tg : E) (b : Env → S → R Fl) (ρ : Env) (xs : List D) (s : S) : kFor tg b ρ xs s = (forLoop (forStep tg b) xs ρ s) := rfl
@[simp] theorem eq_sFor (tg : E) (it : Env → S → R (List D)) (b : Env → S → R Fl) (ρ : Env) (s : S) : sFor tg it b ρ s = ((it ρ s).bind (kFor tg b ρ)) := by
  unfold sFor
  rfl
@[simp] theorem eq_sFrz (i : Nat) (ρ : Env) (s : S) : sFrz i ρ s = (match rd ρ i with | .ow d => .ok (.nx (wr ρ i (.fz d))) s | _ => .no) := by
  unfold sFrz
  rfl
end MR.MS
set_option Elab.async false
set_option linter.all false
set_option maxRecDepth 100000
namespace MR.MS
open PySem
/-- the text has this def at i -/
class Has (F : List FD) (i : Nat) (fd : outParam FD) : Prop where
  h : nth F i = some fd
def fin (r : R Fl) : R D := r.bind fun f s => match f with
  | .rt d => .ok d s
  | .nx _ => .ok .non s
  | _ => .no
theorem callN_has {F : List FD} {T : D → Option Str} {fuel n i : Nat} {fd : FD} {xs : List D} {s : S} (H : Has F i fd) (h : xs.length = fd.np) :
    callN F T fuel (n + 1) i xs s = fin ((den ⟨callN F T fuel n, T, fuel⟩ fd.body).x (start fd.ns xs) s) := by
  conv => lhs; unfold callN
  rw [H.h]
  show (if xs.length = fd.np then _ else _) = _
  rw [if_pos h]
  rfl
def finK (Q : D → S → Prop) (f : Fl) (s : S) : Prop := match f with
  | .rt d => Q d s
  | .nx _ => Q .non s
  | _ => False
@[simp] theorem finK_rt {Q : D → S → Prop} {d : D} {s : S} : finK Q (.rt d) s = Q d s := rfl
@[simp] theorem finK_nx {Q : D → S → Prop} {ρ : Env} {s : S} : finK Q (.nx ρ) s = Q .non s := rfl
@[simp] theorem finK_bk {Q : D → S → Prop} {ρ : Env} {s : S} : finK Q (.bk ρ) s = False := rfl
@[simp] theorem finK_ct {Q : D → S → Prop} {ρ : Env} {s : S} : finK Q (.ct ρ) s = False := rfl
@[simp] theorem wp_fin {r : R Fl} {Q : D → S → Prop} : Wp (fin r) Q = Wp r (finK Q) := by
  unfold fin
  cases r with
  | ok f s => cases f <;> rfl
  | ex c xs s => rfl
  | no => rfl
@[simp] theorem fin_ex {c : Nat} {xs : List D} {s : S} : fin (.ex c xs s) = .ex c xs s := rfl
@[simp] theorem fin_rt {d : D} {s : S} : fin (.ok (.rt d) s) = .ok d s := rfl
@[simp] theorem fin_nx {ρ : Env} {s : S} : fin (.ok (.nx ρ) s) = .ok .non s := rfl
/-- behind a loop's body -/
def lpB (J : Env → S → Prop) (Q : Fl → S → Prop) (f : Fl) (s : S) : Prop := match f with
  | .nx ρ => J ρ s
  | .ct ρ => J ρ s
  | .bk ρ => Q (.nx ρ) s
  | .rt d => Q (.rt d) s
section
variable {J : Env → S → Prop} {Q : Fl → S → Prop} {ρ : Env} {s : S} {d : D}
@[simp] theorem lpB_nx : lpB J Q (.nx ρ) s = J ρ s := rfl
@[simp] theorem lpB_ct : lpB J Q (.ct ρ) s = J ρ s := rfl
@[simp] theorem lpB_bk : lpB J Q (.bk ρ) s = Q (.nx ρ) s := rfl
@[simp] theorem lpB_rt : lpB J Q (.rt d) s = Q (.rt d) s := rfl
end
/-- behind a while's test -/
def whT (I : Nat → Env → S → Prop) (Q : Fl → S → Prop) (body : Env → S → R Fl) (n : Nat) (ρ : Env) (b : Bool) (s : S) : Prop :=
  if b = true then ∃ m, n = m + 1 ∧ Wp (body ρ s) (lpB (I m) Q) else Q (.nx ρ) s
@[simp] theorem eq_whT {I : Nat → Env → S → Prop} {Q : Fl → S → Prop} {body : Env → S → R Fl} {n : Nat} {ρ : Env} {b : Bool} {s : S} :
    whT I Q body n ρ b s = if b = true then ∃ m, n = m + 1 ∧ Wp (body ρ s) (lpB (I m) Q) else Q (.nx ρ) s := rfl
theorem wh_wp {test : Env → S → R Bool} {body : Env → S → R Fl} {Q : Fl → S → Prop} (I : Nat → Env → S → Prop)
    (h : ∀ n ρ s, I n ρ s → Wp (test ρ s) (whT I Q body n ρ)) : ∀ (fuel n : Nat) (ρ : Env) (s : S), n < fuel → I n ρ s → Wp (whLoop test body fuel ρ s) Q
  | 0, n, ρ, s, hl, _ => absurd hl (Nat.not_lt_zero _)
  | k + 1, n, ρ, s, hl, i => by
    unfold whLoop
    rw [wp_bind]
    refine wp_mono (h n ρ s i) fun b s1 q => ?_
    show Wp _ _
    cases b with
    | false => exact q
    | true =>
      obtain ⟨m, rfl, q⟩ := q
      show Wp ((body ρ s1).bind _) Q
      rw [wp_bind]
      refine wp_mono q fun f s2 q => ?_
      cases f with
      | nx ρ2 => exact wh_wp I h k m ρ2 s2 (by omega) q
      | ct ρ2 => exact wh_wp I h k m ρ2 s2 (by omega) q
      | bk ρ2 => exact q
      | rt d => exact q
theorem for_wp {α : Type} {step : D → Env → S → R Fl} {Q : Fl → S → Prop} (e : α → D) (I : List α → Env → S → Prop)
    (h : ∀ x xs ρ s, I (x :: xs) ρ s → Wp (step (e x) ρ s) (lpB (I xs) Q)) (h0 : ∀ ρ s, I [] ρ s → Q (.nx ρ) s) : ∀ (xs : List α) (ρ : Env) (s : S), I xs ρ s → Wp (forLoop step (xs.map e) ρ s) Q
  | [], ρ, s, i => h0 ρ s i
  | x :: xs, ρ, s, i => by
    show Wp ((step (e x) ρ s).bind _) Q
    rw [wp_bind]
    refine wp_mono (h x xs ρ s i) fun f s1 q => ?_
    cases f with
    | nx ρ2 => exact for_wp e I h h0 xs ρ2 s1 q
    | ct ρ2 => exact for_wp e I h h0 xs ρ2 s1 q
    | bk ρ2 => exact q
    | rt d => exact q
/-- the loop of a comprehension, told by what is left and what is found -/
theorem lc_wp {α : Type} {step : D → List D → S → R (List D)} {Q : List D → S → Prop} (e : α → D) (I : List α → List D → S → Prop)
    (h : ∀ x xs acc s, I (x :: xs) acc s → Wp (step (e x) acc s) fun acc s => I xs acc s) (h0 : ∀ acc s, I [] acc s → Q acc s) : ∀ (xs : List α) (acc : List D) (s : S), I xs acc s → Wp (lcLoop step (xs.map e) acc s) Q
  | [], acc, s, i => h0 acc s i
  | x :: xs, acc, s, i => by
    show Wp ((step (e x) acc s).bind _) Q
    rw [wp_bind]
    exact wp_mono (h x xs acc s i) fun acc s1 q => lc_wp e I h h0 xs acc s1 q
/-- a comprehension without effects -/
theorem lc_pure {α : Type} {tg : E} {ρ : Env} {s : S} {cond : Env → S → R Bool} {elt : Env → S → R D} (e : α → D) (ρf : α → Env) (c : α → Bool) (f : α → D)
    (hb : ∀ x, bind1 tg (e x) ρ = some (ρf x)) : ∀ (xs : List α) (acc : List D), (∀ x ∈ xs, cond (ρf x) s = .ok (c x) s) → (∀ x ∈ xs, c x = true → elt (ρf x) s = .ok (f x) s) → acc.length + xs.length ≤ lim →
    lcLoop (lcStep tg ρ cond (lcAdd elt)) (xs.map e) acc s = .ok (acc ++ (xs.filter c).map f) s
  | [], acc, _, _, _ => by
    show R.ok acc s = _
    simp
  | x :: xs, acc, hc, he, hl => by
    simp only [List.length_cons] at hl
    show (lcStep tg ρ cond (lcAdd elt) (e x) acc s).bind _ = _
    have e0 : lcStep tg ρ cond (lcAdd elt) (e x) acc s = (if c x = true then lcAdd elt (ρf x) acc s else R.ok acc s) := by
      unfold lcStep
      rw [hb x]
      show ((cond (ρf x) s).calm.bind _) = _
      rw [hc x (by simp)]
      rfl
    rw [e0]
    cases hx : c x with
    | false =>
      show lcLoop _ (xs.map e) acc s = _
      rw [lc_pure e ρf c f hb xs acc (fun y hy => hc y (by simp [hy])) (fun y hy => he y (by simp [hy])) (by omega), List.filter_cons_of_neg (by simp [hx])]
    | true =>
      have e1 : lcAdd elt (ρf x) acc s = .ok (acc ++ [f x]) s := by
        unfold lcAdd
        rw [he x (by simp) hx]
        show (if acc.length < lim then _ else _) = _
        rw [if_pos (by omega)]
      show (lcAdd elt (ρf x) acc s).bind _ = _
      rw [e1]
      show lcLoop _ (xs.map e) (acc ++ [f x]) s = _
      rw [lc_pure e ρf c f hb xs (acc ++ [f x]) (fun y hy => hc y (by simp [hy])) (fun y hy => he y (by simp [hy])) (by simp; omega), List.filter_cons_of_pos hx]
      simp
abbrev nD (n : Nat) : D := .int n
abbrev pD (p : List Nat) : D := .tup (p.map nD)
theorem pl_ints : ∀ l : List Int, pls (l.map D.int) = true
  | [] => rfl
  | x :: r => by simp only [List.map_cons, pls, pl, Bool.true_and]; exact pl_ints r
theorem dep_ints : ∀ l : List Int, deps (l.map D.int) = 0
  | [] => rfl
  | x :: r => by simp only [List.map_cons, deps, dep, dep_ints r]; rfl
theorem nD_int (l : List Nat) : l.map nD = (l.map Int.ofNat).map D.int := by simp [nD]
theorem pl_nats (l : List Nat) : pls (l.map nD) = true := by rw [nD_int]; exact pl_ints _
theorem dep_nats (l : List Nat) : deps (l.map nD) = 0 := by rw [nD_int]; exact dep_ints _
theorem pl_ps : ∀ l : List (List Nat), pls (l.map pD) = true
  | [] => rfl
  | x :: r => by simp only [List.map_cons, pls, pl, pl_nats, Bool.true_and]; exact pl_ps r
theorem dep_ps : ∀ l : List (List Nat), deps (l.map pD) ≤ 1
  | [] => Nat.zero_le _
  | x :: r => by
    simp only [List.map_cons, deps, dep, dep_nats]
    have := dep_ps r
    omega
@[simp] theorem cmpOk_non : cmpOk .non = true := rfl
@[simp] theorem cmpOk_bl {b : Bool} : cmpOk (.bl b) = true := rfl
@[simp] theorem cmpOk_int {i : Int} : cmpOk (.int i) = true := rfl
@[simp] theorem cmpOk_str {x : Str} : cmpOk (.str x) = true := rfl
@[simp] theorem cmpOk_tup0 : cmpOk (.tup []) = true := rfl
@[simp] theorem cmpOk_lst0 : cmpOk (.lst []) = true := rfl
@[simp] theorem cmpOk_ints {l : List Int} : cmpOk (.lst (l.map D.int)) = true := by simp [cmpOk, pl, dep, pl_ints, dep_ints]
@[simp] theorem cmpOk_tints {l : List Int} : cmpOk (.tup (l.map D.int)) = true := by simp [cmpOk, pl, dep, pl_ints, dep_ints]
@[simp] theorem cmpOk_pD {l : List Nat} : cmpOk (.tup (l.map nD)) = true := by simp [cmpOk, pl, dep, pl_nats, dep_nats]
@[simp] theorem cmpOk_lD {l : List Nat} : cmpOk (.lst (l.map nD)) = true := by simp [cmpOk, pl, dep, pl_nats, dep_nats]
@[simp] theorem cmpOk_pDs {l : List (List Nat)} : cmpOk (.tup (l.map pD)) = true := by
  have := dep_ps l
  simp [cmpOk, pl, dep, pl_ps]; omega
@[simp] theorem cmpOk_lDs {l : List (List Nat)} : cmpOk (.lst (l.map pD)) = true := by
  have := dep_ps l
  simp [cmpOk, pl, dep, pl_ps]; omega
@[simp] theorem eqv_int {i j : Int} : eqv (.int i) (.int j) = decide (i = j) := by
  unfold eqv
  rfl
theorem eqvs_ints : ∀ l m : List Int, eqvs (l.map D.int) (m.map D.int) = decide (l = m)
  | [], [] => by simp [eqvs]
  | [], y :: ys => by simp [eqvs]
  | x :: xs, [] => by simp [eqvs]
  | x :: xs, y :: ys => by
    simp only [List.map_cons, eqvs, eqv_int, eqvs_ints xs ys]
    by_cases h : x = y <;> simp [h]
theorem ofNat_inj : ∀ {l m : List Nat}, (l.map Int.ofNat = m.map Int.ofNat) ↔ l = m
  | [], [] => by simp
  | [], _ :: _ => by simp
  | _ :: _, [] => by simp
  | x :: xs, y :: ys => by
    simp only [List.map_cons, List.cons.injEq, ofNat_inj (l := xs) (m := ys)]
    constructor
    · rintro ⟨a, b⟩
      exact ⟨Int.ofNat.inj a, b⟩
    · rintro ⟨a, b⟩
      exact ⟨by rw [a], b⟩
theorem eqvs_nats (l m : List Nat) : eqvs (l.map nD) (m.map nD) = decide (l = m) := by
  rw [nD_int, nD_int, eqvs_ints, decide_eq_decide, ofNat_inj]
@[simp] theorem eqv_ints {l m : List Int} : eqv (.lst (l.map D.int)) (.lst (m.map D.int)) = decide (l = m) := by
  unfold eqv; exact eqvs_ints l m
@[simp] theorem eqv_tints {l m : List Int} : eqv (.tup (l.map D.int)) (.tup (m.map D.int)) = decide (l = m) := by
  unfold eqv; exact eqvs_ints l m
@[simp] theorem eqv_pD {l m : List Nat} : eqv (.tup (l.map nD)) (.tup (m.map nD)) = decide (l = m) := by
  unfold eqv; exact eqvs_nats l m
@[simp] theorem eqv_lD {l m : List Nat} : eqv (.lst (l.map nD)) (.lst (m.map nD)) = decide (l = m) := by
  unfold eqv; exact eqvs_nats l m
@[simp] theorem eqv_lst0 {xs : List D} : eqv (.lst xs) (.lst []) = xs.isEmpty := by
  unfold eqv
  cases xs <;> rfl
@[simp] theorem eqv_tup0 {xs : List D} : eqv (.tup xs) (.tup []) = xs.isEmpty := by
  unfold eqv
  cases xs <;> rfl
theorem eqvs_ps : ∀ l m : List (List Nat), eqvs (l.map pD) (m.map pD) = decide (l = m)
  | [], [] => by simp [eqvs]
  | [], y :: ys => by simp [eqvs]
  | x :: xs, [] => by simp [eqvs]
  | x :: xs, y :: ys => by
    simp only [List.map_cons, eqvs, eqv_pD, eqvs_ps xs ys]
    by_cases h : x = y <;> simp [h]
@[simp] theorem eqv_lDs {l m : List (List Nat)} : eqv (.lst (l.map pD)) (.lst (m.map pD)) = decide (l = m) := by
  unfold eqv; exact eqvs_ps l m
@[simp] theorem eqv_pDs {l m : List (List Nat)} : eqv (.tup (l.map pD)) (.tup (m.map pD)) = decide (l = m) := by
  unfold eqv; exact eqvs_ps l m
theorem isIn_ps {p : List Nat} : ∀ l : List (List Nat), isIn (.tup (p.map nD)) (l.map pD) = decide (p ∈ l)
  | [] => by simp [isIn]
  | x :: r => by
    simp only [List.map_cons, isIn, eqv_pD, isIn_ps r]
    by_cases h : x = p
    · simp [h]
    · have : p ≠ x := fun z => h z.symm
      by_cases h2 : p ∈ r <;> simp [h, h2, this]
theorem nth_map' {α β : Type} (f : α → β) : ∀ (l : List α) (i : Nat), nth (l.map f) i = (nth l i).map f
  | [], i => by cases i <;> rfl
  | x :: r, 0 => rfl
  | x :: r, i + 1 => nth_map' f r i
theorem nth_getElem? {α : Type} : ∀ (l : List α) (i : Nat), nth l i = l[i]?
  | [], i => by cases i <;> rfl
  | x :: r, 0 => rfl
  | x :: r, i + 1 => by rw [nth, nth_getElem? r i]; simp
theorem nth_ex {α : Type} : ∀ {l : List α} {i : Nat}, i < l.length → ∃ x, nth l i = some x ∧ x ∈ l
  | [], i, h => by simp at h
  | x :: _, 0, _ => ⟨x, rfl, by simp⟩
  | _ :: r, i + 1, h => by
    obtain ⟨x, a, b⟩ := nth_ex (l := r) (i := i) (by simpa using h)
    exact ⟨x, a, by simp [b]⟩
@[simp] theorem bin_add {i j : Int} : bin .add (.int i) (.int j) = some (.int (i + j)) := rfl
@[simp] theorem bin_sub {i j : Int} : bin .sub (.int i) (.int j) = some (.int (i - j)) := rfl
@[simp] theorem bin_mul {i j : Int} : bin .mul (.int i) (.int j) = if mulOk i j = true then some (.int (i * j)) else none := rfl
@[simp] theorem bin_fdiv {i j : Int} : bin .fdiv (.int i) (.int j) = if j ≠ 0 ∧ j.natAbs < 1073741824 then some (.int (i.fdiv j)) else none := rfl
@[simp] theorem bin_mod {i j : Int} : bin .mod (.int i) (.int j) = if j ≠ 0 then some (.int (i.fmod j)) else none := rfl
@[simp] theorem bin_pow {i j : Int} : bin .pow (.int i) (.int j) = if 0 ≤ j ∧ j ≤ 1000 ∧ small64 i = true then some (.int (i ^ j.toNat)) else none := rfl
@[simp] theorem bin_addt {x y : List D} : bin .add (.tup x) (.tup y) = if x.length + y.length ≤ lim then some (.tup (x ++ y)) else none := rfl
@[simp] theorem bin_addl {x y : List D} : bin .add (.lst x) (.lst y) = if x.length + y.length ≤ lim then some (.lst (x ++ y)) else none := rfl
@[simp] theorem cmp_eq {a b : D} : cmp .eq a b = if (cmpOk a && cmpOk b) = true then some (.bl (eqv a b)) else none := rfl
@[simp] theorem cmp_ne {a b : D} : cmp .ne a b = if (cmpOk a && cmpOk b) = true then some (.bl (!eqv a b)) else none := rfl
@[simp] theorem cmp_lt {i j : Int} : cmp .lt (.int i) (.int j) = some (.bl (decide (i < j))) := rfl
@[simp] theorem cmp_le {i j : Int} : cmp .le (.int i) (.int j) = some (.bl (decide (i ≤ j))) := rfl
@[simp] theorem cmp_gt {i j : Int} : cmp .gt (.int i) (.int j) = some (.bl (decide (j < i))) := rfl
@[simp] theorem cmp_ge {i j : Int} : cmp .ge (.int i) (.int j) = some (.bl (decide (j ≤ i))) := rfl
section
variable {T : D → Option Str}
@[simp] theorem blt_abs {i : Int} : blt T .abs [.int i] = some (.int (if i < 0 then -i else i)) := rfl
@[simp] theorem blt_int {i : Int} : blt T .int [.int i] = some (.int i) := rfl
@[simp] theorem blt_lenl {xs : List D} : blt T .len [.lst xs] = some (.int xs.length) := rfl
@[simp] theorem blt_lent {xs : List D} : blt T .len [.tup xs] = some (.int xs.length) := rfl
@[simp] theorem blt_lens {xs : List D} : blt T .len [.scr xs] = some (.int xs.length) := rfl
@[simp] theorem blt_min {i j : Int} : blt T .min [.int i, .int j] = some (.int (if j < i then j else i)) := rfl
@[simp] theorem blt_max {i j : Int} : blt T .max [.int i, .int j] = some (.int (if j > i then j else i)) := rfl
@[simp] theorem blt_repr {d : D} : blt T .repr [d] = (T d).map .str := rfl
end
theorem at_nat {α : Type} {xs : List α} {k : Nat} : at_ xs (k : Int) = nth xs k := by
  unfold at_
  rw [if_pos (by omega)]
  congr 1
theorem at_in {α : Type} {xs : List α} {k : Int} (h0 : 0 ≤ k) (h1 : k < xs.length) : ∃ x, at_ xs k = some x ∧ x ∈ xs := by
  unfold at_
  rw [if_pos h0]
  exact nth_ex (by omega)
theorem small64_of {i : Int} (h1 : -18446744073709551616 < i) (h2 : i < 18446744073709551616) : small64 i = true := Nat.ble_eq_true_of_le (by omega)
theorem mulOk_l {i j : Int} (h1 : -18446744073709551616 < i) (h2 : i < 18446744073709551616) : mulOk i j = true := by
  unfold mulOk
  rw [small64_of h1 h2]
  rfl
theorem mulOk_r {i j : Int} (h1 : -18446744073709551616 < j) (h2 : j < 18446744073709551616) : mulOk i j = true := by
  unfold mulOk
  rw [small64_of h1 h2, Bool.or_true]
@[simp] theorem truthy_bl {b : Bool} : truthy (.bl b) = some b := rfl
theorem inB_nat {k : Nat} (h : k ≤ 4611686018427387903) : inB (k : Int) = true := Nat.ble_eq_true_of_le h
theorem inB_of {k : Int} (h1 : -4611686018427387904 < k) (h2 : k < 4611686018427387904) : inB k = true := Nat.ble_eq_true_of_le (by omega)
@[simp] theorem inB_lit {k : Nat} : inB (OfNat.ofNat k) = Nat.ble k 4611686018427387903 := rfl
@[simp high] theorem sub_lstN {xs : List D} {k : Nat} : sub (.lst xs) (.int (k : Int)) = if inB (k : Int) = true then nth xs k else none := by
  show (if inB (k : Int) = true then at_ xs k else none) = _
  rw [at_nat]
@[simp high] theorem sub_tupN {xs : List D} {k : Nat} : sub (.tup xs) (.int (k : Int)) = if inB (k : Int) = true then nth xs k else none := by
  show (if inB (k : Int) = true then at_ xs k else none) = _
  rw [at_nat]
@[simp] theorem at_zero {α : Type} {xs : List α} : at_ xs 0 = nth xs 0 := rfl
@[simp] theorem at_lit {α : Type} {xs : List α} {k : Nat} : at_ xs (OfNat.ofNat (k + 2)) = nth xs (k + 2) := at_nat (k := k + 2)
@[simp] theorem at_one {α : Type} {xs : List α} : at_ xs 1 = nth xs 1 := rfl
@[simp] theorem sub_lst {xs : List D} {k : Int} : sub (.lst xs) (.int k) = if inB k = true then at_ xs k else none := rfl
@[simp] theorem sub_tup {xs : List D} {k : Int} : sub (.tup xs) (.int k) = if inB k = true then at_ xs k else none := rfl
theorem ex_map {α β : Type} {f : α → β} {qs : List α} : ∀ {ys : List β}, (∀ d ∈ ys, d ∈ qs.map f) → ∃ l : List α, ys = l.map f ∧ ∀ p ∈ l, p ∈ qs
  | [], _ => ⟨[], rfl, fun _ h => by cases h⟩
  | y :: ys, h => by
    obtain ⟨l, e, hl⟩ := ex_map (ys := ys) fun d hd => h d (by simp [hd])
    obtain ⟨p, hp, rfl⟩ := List.mem_map.mp (h y (by simp))
    refine ⟨p :: l, by rw [e]; rfl, fun q hq => ?_⟩
    rcases List.mem_cons.mp hq with rfl | hq
    · exact hp
    · exact hl q hq
theorem cut_mem {α : Type} {xs : List α} {lo hi : Option Int} {x : α} (h : x ∈ cut xs lo hi) : x ∈ xs := by
  unfold cut at h
  exact List.mem_of_mem_drop (List.mem_of_mem_take h)
end MR.MS
set_option Elab.async false
set_option linter.all false
set_option maxRecDepth 100000
namespace MR.MS
open PySem
/-- the state's two cells -/
def St (lg cs : List Int) (left turn : Int) : S := [.lst (lg.map .int), .dic [.str "large", .str "cells", .str "left", .str "turn"] [.cell 0, .lst (cs.map .int), .int left, .int turn]]
/-- a state of the law's, at most so many turns done -/
def Good (k : Nat) (s : S) : Prop := ∃ lg cs left turn, s = St lg cs left turn ∧ (∀ z ∈ lg, 0 ≤ z) ∧ (∀ z ∈ cs, 0 ≤ z) ∧ 0 ≤ left ∧ 0 ≤ turn ∧ turn ≤ k ∧ lg.length ≤ 63 ∧ cs.length ≤ 63
theorem Good.mono {k m : Nat} {s : S} (g : Good k s) (h : k ≤ m) : Good m s := by
  obtain ⟨lg, cs, left, turn, e, a, b, c, d, f, i, j⟩ := g
  exact ⟨lg, cs, left, turn, e, a, b, c, d, by omega, i, j⟩
def fdDraw : FD := ⟨2, 6, (.cn (.wh (.an (.cmp .eq (.sub (.vr 0) (.cs "left")) (.ci 0)) (.cmp .ne (.sub (.vr 0) (.cs "large")) (.ls .nl))) (.cn (.cset (.vr 0) (.cs "left") (.popc (.sub (.vr 0) (.cs "large")) (.ci 0))) .nl)) (.cn (.iff (.cmp .gt (.sub (.vr 0) (.cs "left")) (.ci 0)) (.cn (.asg (.tg 5) (.bin .mod (.blt .int (.cn (.sub (.vr 0) (.cs "left")) .nl)) (.vr 1))) (.cn (.cset (.vr 0) (.cs "left") (.bin .fdiv (.sub (.vr 0) (.cs "left")) (.vr 1))) (.cn (.ret (.vr 5)) .nl))) .nl) (.cn (.asg (.tg 2) (.bin .add (.sub (.vr 0) (.cs "turn")) (.ci 1))) (.cn (.cset (.vr 0) (.cs "turn") (.vr 2)) (.cn (.asg (.tg 3) (.ife (.cmp .ne (.sub (.vr 0) (.cs "cells")) (.ls .nl)) (.sub (.sub (.vr 0) (.cs "cells")) (.bin .mod (.blt .int (.cn (.vr 2) .nl)) (.blt .len (.cn (.sub (.vr 0) (.cs "cells")) .nl)))) (.ci 0))) (.cn (.asg (.tg 4) (.bin .mod (.blt .int (.cn (.bin .pow (.bin .add (.bin .add (.bin .mod (.blt .int (.cn (.vr 3) .nl)) (.ci 2147483563)) (.bin .mul (.ci 40692) (.vr 2))) (.ci 24681)) (.ci 3)) .nl)) (.ci 2147483629))) (.cn (.ret (.bin .mod (.blt .int (.cn (.bin .fdiv (.bin .mod (.blt .int (.cn (.bin .pow (.bin .add (.vr 4) (.bin .mul (.ci 104917) (.vr 2))) (.ci 5)) .nl)) (.ci 2147483579)) (.ci 29)) .nl)) (.vr 1))) .nl)))))))⟩
section
variable {lg cs : List Int} {left turn x : Int}
@[simp] theorem st_1 : nth (St lg cs left turn) 1 = some (.dic [.str "large", .str "cells", .str "left", .str "turn"] [.cell 0, .lst (cs.map .int), .int left, .int turn]) := rfl
@[simp] theorem st_0 : nth (St lg cs left turn) 0 = some (.lst (lg.map .int)) := rfl
theorem sub_dic {ks vs : List D} {x : Str} : sub (.dic ks vs) (.str x) = (keyAt (.str x) ks).bind (nth vs) := by
  unfold sub
  simp only [isStrD]
  rfl
@[simp] theorem st_large : sub (.dic [.str "large", .str "cells", .str "left", .str "turn"] [.cell 0, .lst (cs.map .int), .int left, .int turn]) (.str "large") = some (.cell 0) := by
  rw [sub_dic]
  rw [show keyAt (.str "large") [.str "large", .str "cells", .str "left", .str "turn"] = some 0 by decide +kernel]
  rfl
@[simp] theorem st_cells : sub (.dic [.str "large", .str "cells", .str "left", .str "turn"] [.cell 0, .lst (cs.map .int), .int left, .int turn]) (.str "cells") = some (.lst (cs.map .int)) := by
  rw [sub_dic]
  rw [show keyAt (.str "cells") [.str "large", .str "cells", .str "left", .str "turn"] = some 1 by decide +kernel]
  rfl
@[simp] theorem st_left : sub (.dic [.str "large", .str "cells", .str "left", .str "turn"] [.cell 0, .lst (cs.map .int), .int left, .int turn]) (.str "left") = some (.int left) := by
  rw [sub_dic]
  rw [show keyAt (.str "left") [.str "large", .str "cells", .str "left", .str "turn"] = some 2 by decide +kernel]
  rfl
@[simp] theorem st_turn : sub (.dic [.str "large", .str "cells", .str "left", .str "turn"] [.cell 0, .lst (cs.map .int), .int left, .int turn]) (.str "turn") = some (.int turn) := by
  rw [sub_dic]
  rw [show keyAt (.str "turn") [.str "large", .str "cells", .str "left", .str "turn"] = some 3 by decide +kernel]
  rfl
@[simp] theorem put_left : dput [.str "large", .str "cells", .str "left", .str "turn"] [.cell 0, .lst (cs.map .int), .int left, .int turn] (.str "left") (.int x) = ([.str "large", .str "cells", .str "left", .str "turn"], [.cell 0, .lst (cs.map .int), .int x, .int turn]) := by
  have a : ([.str "large", .str "cells", .str "left", .str "turn"] : List D).any (fun x => eqv x (.str "left")) = true := by decide +kernel
  have b1 : eqv (.str "large") (.str "left") = false := by decide +kernel
  have b2 : eqv (.str "cells") (.str "left") = false := by decide +kernel
  have b3 : eqv (.str "left") (.str "left") = true := by decide +kernel
  have b4 : eqv (.str "turn") (.str "left") = false := by decide +kernel
  unfold dput
  rw [if_pos a]
  simp [mapAt, b1, b2, b3, b4]
@[simp] theorem put_turn : dput [.str "large", .str "cells", .str "left", .str "turn"] [.cell 0, .lst (cs.map .int), .int left, .int turn] (.str "turn") (.int x) = ([.str "large", .str "cells", .str "left", .str "turn"], [.cell 0, .lst (cs.map .int), .int left, .int x]) := by
  have a : ([.str "large", .str "cells", .str "left", .str "turn"] : List D).any (fun x => eqv x (.str "turn")) = true := by decide +kernel
  have b1 : eqv (.str "large") (.str "turn") = false := by decide +kernel
  have b2 : eqv (.str "cells") (.str "turn") = false := by decide +kernel
  have b3 : eqv (.str "left") (.str "turn") = false := by decide +kernel
  have b4 : eqv (.str "turn") (.str "turn") = true := by decide +kernel
  unfold dput
  rw [if_pos a]
  simp [mapAt, b1, b2, b3, b4]
@[simp] theorem st_set {l2 t2 : Int} : setN (St lg cs left turn) 1 (.dic [.str "large", .str "cells", .str "left", .str "turn"] [.cell 0, .lst (cs.map .int), .int l2, .int t2]) = St lg cs l2 t2 := rfl
@[simp] theorem st_set0 {lg2 : List Int} : setN (St lg cs left turn) 0 (.lst (lg2.map .int)) = St lg2 cs left turn := rfl
@[simp] theorem isStr_s {y : Str} : isStrD (.str y) = true := rfl
@[simp] theorem lim_4 : (4 : Nat) < lim := by decide
theorem fmod_lt {a b : Int} (h : 0 < b) : 0 ≤ a.fmod b ∧ a.fmod b < b := ⟨Int.fmod_nonneg_of_pos a h, Int.fmod_lt_of_pos a h⟩
end
variable {F : List FD} {T : D → Option Str} {fuel i n k : Nat} {s : S}
theorem draw_wp (H : Has F i fdDraw) (hf : 65 ≤ fuel) {z : Nat} (hz : 0 < z) (hz2 : z < 1073741824) (hk : k ≤ 10000000000000) (g : Good k s) :
    Wp (callN F T fuel (n + 1) i [.cell 1, nD z] s) fun d s' => ∃ r : Nat, d = nD r ∧ r < z ∧ Good (k + 1) s' := by
  rw [callN_has H rfl, wp_fin]
  obtain ⟨lg, cs, left, turn, rfl, hlg, hcs, hl, ht, htk, hn, hn2⟩ := g
  simp only [fdDraw, start, List.map, List.length, List.replicate, List.cons_append, List.nil_append]
  simp
  refine wp_mono (P := fun f s => ∃ lg left, f = .nx [.fz (.cell 1), .fz (nD z), .un, .un, .un, .un] ∧ s = St lg cs left turn ∧ (∀ z ∈ lg, 0 ≤ z) ∧ 0 ≤ left ∧ lg.length ≤ 63) ?_ ?_
  · refine wh_wp (fun m ρ s => ∃ lg left, ρ = [.fz (.cell 1), .fz (nD z), .un, .un, .un, .un] ∧ s = St lg cs left turn ∧ (∀ z ∈ lg, 0 ≤ z) ∧ 0 ≤ left ∧ lg.length = m ∧ m ≤ 63) ?_ fuel lg.length _ _ (by omega) ⟨lg, left, rfl, rfl, hlg, hl, rfl, hn⟩
    clear hlg hl hn
    rintro m ρ s ⟨lg, left, rfl, rfl, hlg, hl, hm, hm2⟩
    by_cases h : left = 0
    · subst h
      cases lg with
      | nil =>
        simp
        exact ⟨[], 0, rfl, by simp, by omega, by simp⟩
      | cons x r =>
        simp only [List.length_cons] at hm
        have hc : cmpOk (.lst (.int x :: r.map .int)) = true := cmpOk_ints (l := x :: r)
        simp at hlg
        simp [hc]
        exact ⟨r.length, hm.symm, r, x, rfl, hlg.2, hlg.1, rfl, by omega⟩
    · simp [h]
      exact ⟨lg, left, rfl, hlg, hl, by omega⟩
  · rintro f s ⟨lg, left, rfl, rfl, hlg, hl, hn⟩
    have hz0 : z ≠ 0 := by omega
    by_cases h : 0 < left
    · simp [h, hz0, hz2]
      obtain ⟨a, b⟩ := fmod_lt (a := left) (b := z) (by omega)
      exact ⟨(left.fmod z).toNat, by omega, by omega, lg, cs, _, turn, rfl, hlg, hcs, Int.fdiv_nonneg (by omega) (by omega), ht, by omega, hn, hn2⟩
    · have hcell : ∃ c : Int, 0 ≤ c ∧ ((cs = [] ∧ c = 0) ∨ (cs ≠ [] ∧ at_ (cs.map D.int) ((turn + 1).fmod cs.length) = some (.int c))) := by
        by_cases hcs0 : cs = []
        · exact ⟨0, by omega, .inl ⟨hcs0, rfl⟩⟩
        · have hp : 0 < cs.length := List.length_pos_iff.mpr hcs0
          obtain ⟨a, b⟩ := fmod_lt (a := turn + 1) (b := cs.length) (by omega)
          obtain ⟨x, h1, h2⟩ := at_in (xs := cs.map D.int) a (by simpa using b)
          obtain ⟨c, h3, rfl⟩ := List.mem_map.mp h2
          exact ⟨c, hcs c h3, .inr ⟨hcs0, h1⟩⟩
      have rest : ∀ c : Int, 0 ≤ c → Good (k + 1) (St lg cs left (turn + 1)) := fun c hc => ⟨lg, cs, left, turn + 1, rfl, hlg, hcs, hl, by omega, by omega, hn, hn2⟩
      obtain ⟨c, hc, hcell⟩ := hcell
      obtain ⟨a1, b1⟩ := fmod_lt (a := c) (b := 2147483563) (by omega)
      generalize hm1 : c.fmod 2147483563 = m1 at a1 b1
      obtain ⟨a2, b2⟩ := fmod_lt (a := (m1 + 40692 * (turn + 1) + 24681) ^ 3) (b := 2147483629) (by omega)
      generalize hm2 : ((m1 + 40692 * (turn + 1) + 24681) ^ 3).fmod 2147483629 = m2 at a2 b2
      have o1 : mulOk 40692 (turn + 1) = true := mulOk_l (by omega) (by omega)
      have o2 : mulOk 104917 (turn + 1) = true := mulOk_l (by omega) (by omega)
      have o3 : small64 (m1 + 40692 * (turn + 1) + 24681) = true := small64_of (by omega) (by omega)
      have o4 : small64 (m2 + 104917 * (turn + 1)) = true := small64_of (by omega) (by omega)
      have fin2 : ∀ x : Int, ∃ r : Nat, x.fmod z = r ∧ r < z ∧ Good (k + 1) (St lg cs left (turn + 1)) := fun x => by
        obtain ⟨a, b⟩ := fmod_lt (a := x) (b := z) (by omega)
        exact ⟨(x.fmod z).toNat, by omega, by omega, lg, cs, left, turn + 1, rfl, hlg, hcs, hl, by omega, by omega, hn, hn2⟩
      simp [h]
      rcases hcell with ⟨hcs0, rfl⟩ | ⟨hcs0, hat⟩
      · rw [if_pos hcs0]
        simp [hm1, hm2, o1, o2, o3, o4, hz0]
        exact fin2 _
      · rw [if_neg hcs0]
        simp [hcs0, hat, hm1, hm2, o1, o2, o3, o4, hz0]
        have hp : 0 < cs.length := List.length_pos_iff.mpr hcs0
        obtain ⟨a, b⟩ := fmod_lt (a := turn + 1) (b := cs.length) (by omega)
        exact ⟨inB_of (by omega) (by omega), fin2 _⟩
def fdPick (iDraw : Nat) : FD := ⟨2, 2, (.cn (.ret (.sub (.vr 1) (.call iDraw (.cn (.vr 0) (.cn (.blt .len (.cn (.vr 1) .nl)) .nl))))) .nl)⟩
theorem pick_wp {iD : Nat} (H : Has F i (fdPick iD)) (HD : Has F iD fdDraw) (hf : 65 ≤ fuel) {xs : List D} (hx : xs ≠ []) (hx2 : xs.length < 1073741824) (hk : k ≤ 10000000000000) (g : Good k s) {L : D} (hL : L = .lst xs ∨ L = .tup xs) :
    Wp (callN F T fuel (n + 2) i [.cell 1, L] s) fun d s' => d ∈ xs ∧ Good (k + 1) s' := by
  have hp : 0 < xs.length := List.length_pos_iff.mpr hx
  have hd := draw_wp (T := T) (n := n) HD hf hp hx2 hk g
  rw [callN_has H rfl, wp_fin]
  have e : ∀ r : Nat, r < xs.length → ∃ x, nth xs r = some x ∧ x ∈ xs := fun r hr => nth_ex hr
  rcases hL with rfl | rfl <;>
  · simp [fdPick, start]
    refine wp_mono hd fun d s' ⟨r, h1, h2, h3⟩ => ?_
    obtain ⟨x, hx1, hx2⟩ := e r h2
    subst h1
    simp [hx1]
    exact ⟨inB_nat (by omega), hx2, h3⟩
def fdMixed (iDraw : Nat) : FD := ⟨2, 4, (.cn (.par 2 3 (.li (.itv (.vr 1))) (.ls .nl) true true) (.cn (.wh (.cmp .ne (.br 2) (.ls .nl)) (.cn (.apop 3 2 (.call iDraw (.cn (.vr 0) (.cn (.blt .len (.cn (.br 2) .nl)) .nl)))) .nl)) (.cn (.rmv 3) .nl)))⟩
theorem popAt_ex {xs : List D} {r : Nat} (h : r < xs.length) (h2 : r < 4611686018427387904) : ∃ y t, popAt xs (r : Int) = some (y, t) ∧ xs.Perm (y :: t) := by
  have key : ∀ (xs : List D) (r : Nat), r < xs.length → ∃ y, nth xs r = some y ∧ xs.Perm (y :: dropN xs r) := by
    intro xs
    induction xs with
    | nil => intro r h; simp at h
    | cons x t ih =>
      intro r h
      cases r with
      | zero => exact ⟨x, rfl, .refl _⟩
      | succ r =>
        obtain ⟨y, a, b⟩ := ih r (by simpa using h)
        exact ⟨y, a, (List.Perm.cons x b).trans (.swap _ _ _)⟩
  obtain ⟨y, a, b⟩ := key xs r h
  refine ⟨y, dropN xs r, ?_, b⟩
  have c1 : (0 : Int) ≤ r := by omega
  have c2 : (0 : Int) ≤ r ∧ (r : Int) < xs.length ∧ inB (r : Int) = true := ⟨by omega, by omega, inB_nat (by omega)⟩
  unfold popAt
  simp only [if_pos c1, if_pos c2]
  simp [a]
theorem mixed_wp {iD : Nat} (H : Has F i (fdMixed iD)) (HD : Has F iD fdDraw) (hf : 65 ≤ fuel) {xs : List D} (hx2 : xs.length < 100000) (hxf : xs.length < fuel) (hpl : ∀ ys : List D, ys.Subset xs → ys.length ≤ xs.length → cmpOk (.lst ys) = true) (hk : k ≤ 9000000000000) (g : Good k s) {L : D} (hL : items L = some xs) :
    Wp (callN F T fuel (n + 2) i [.cell 1, L] s) fun d s' => ∃ ys, d = .lst ys ∧ xs.Perm ys ∧ Good (k + xs.length) s' := by
  rw [callN_has H rfl, wp_fin]
  have hl : xs.length ≤ lim := by unfold lim; omega
  simp [fdMixed, start, hL, hl, isBox]
  refine wp_mono (P := fun f s' => ∃ ys, f = .nx [.fz (.cell 1), .fz L, .ow (.lst []), .ow (.lst ys)] ∧ xs.Perm ys ∧ Good (k + xs.length) s') ?_ ?_
  · refine wh_wp (fun m ρ s => ∃ ls ys, ρ = [.fz (.cell 1), .fz L, .ow (.lst ls), .ow (.lst ys)] ∧ xs.Perm (ys ++ ls) ∧ ls.length = m ∧ Good (k + ys.length) s) ?_ fuel xs.length _ _ (by omega) ⟨xs, [], rfl, by simp, rfl, by simpa using g⟩
    rintro m ρ s ⟨ls, ys, rfl, hp, hm, hg⟩
    have hlen := hp.length_eq
    simp only [List.length_append] at hlen
    have hc : cmpOk (.lst ls) = true := hpl ls (fun a ha => hp.symm.subset (by simp [ha])) (by omega)
    cases ls with
    | nil =>
      simp at hm hp hlen
      simp
      exact ⟨hp, by rw [hlen]; exact hg⟩
    | cons x r =>
      have hm' : m = r.length + 1 := by simpa using hm.symm
      simp only [List.length_cons] at hlen
      simp [hc]
      refine ⟨r.length, hm', ?_⟩
      have hd := draw_wp (T := T) (n := n) (k := k + ys.length) HD hf (z := r.length + 1) (by omega) (by omega) (by omega) hg
      refine wp_mono hd fun d s' ⟨j, h1, h2, h3⟩ => ?_
      subst h1
      obtain ⟨y, t, p1, p2⟩ := popAt_ex (xs := x :: r) (r := j) (by simpa using h2) (by omega)
      have hyl : ys.length < lim := by unfold lim; omega
      simp [p1, hyl]
      refine ⟨t, ys ++ [y], ⟨rfl, rfl⟩, ?_, ?_, ?_⟩
      · refine hp.trans ?_
        have : (ys ++ x :: r).Perm (ys ++ y :: t) := List.Perm.append_left ys p2
        simpa using this
      · have := p2.length_eq
        simp at this
        omega
      · simp only [List.length_append, List.length_cons, List.length_nil]
        exact h3.mono (by omega)
  · rintro f s' ⟨ys, rfl, hp, hg⟩
    simp
    exact ⟨hp, hg⟩
def fdBegun : FD := ⟨1, 4, (.cn (.asg (.tg 1) (.lc (.tg 3) (.itv (.vr 0)) (.cb true) (.blt .abs (.cn (.vr 3) .nl)) [3])) (.cn (.asg (.tg 2) (.newc (.lc (.tg 3) (.itv (.vr 1)) (.cmp .ge (.vr 3) (.bin .pow (.ci 10) (.ci 18))) (.bin .sub (.vr 3) (.bin .pow (.ci 10) (.ci 18))) [3]))) (.cn (.ret (.newc (.dsp (.cn (.cs "large") (.cn (.cs "cells") (.cn (.cs "left") (.cn (.cs "turn") .nl)))) (.cn (.vr 2) (.cn (.vr 1) (.cn (.ci 0) (.cn (.ci 0) .nl))))))) .nl)))⟩
theorem begun_wp (H : Has F i fdBegun) {ns : List Int} (hn : ns.length ≤ 63) : Wp (callN F T fuel (n + 1) i [.scr (ns.map .int)] []) fun d s' => d = .cell 1 ∧ Good 0 s' := by
  rw [callN_has H rfl, wp_fin]
  simp [fdBegun, start]
  have key : lcLoop (lcStep (E.tg 3) [.fz (.scr (ns.map .int)), .un, .un, .un] (tv fun x s => R.ok (D.bl true) s) (lcAdd (vBlt T Bl.abs (lbCons (vVar 3) fun x s => R.ok [] s)))) (ns.map .int) [] [] = .ok ([] ++ (ns.filter fun _ => true).map fun x => D.int (if x < 0 then -x else x)) [] := by
    refine lc_pure D.int (fun x => [.fz (.scr (ns.map .int)), .un, .un, .fz (.int x)]) _ _ (fun x => by simp) ns [] (fun x _ => by simp) (fun x _ _ => by simp) ?_
    simp; unfold lim; omega
  have e0 : ((ns.filter fun _ => true).map fun x => D.int (if x < 0 then -x else x)) = (ns.map fun x => if x < 0 then -x else x).map D.int := by
    rw [List.filter_eq_self.mpr (by simp), List.map_map]
    rfl
  rw [key, e0]
  generalize hcs : ns.map (fun x => if x < 0 then -x else x) = cs
  have hcl : cs.length = ns.length := by rw [← hcs]; simp
  have hc0 : ∀ z ∈ cs, 0 ≤ z := fun z hz => by
    rw [← hcs] at hz
    obtain ⟨x, _, rfl⟩ := List.mem_map.mp hz
    split <;> omega
  simp
  have key2 : ∀ s : S, lcLoop (lcStep (E.tg 3) [.fz (.scr (ns.map .int)), .fz (.lst (cs.map .int)), .un, .un] (tv (vCmp COp.ge (vVar 3) (vBin BOp.pow (fun x s => R.ok (D.int 10) s) fun x s => R.ok (D.int 18) s)))
      (lcAdd (vBin BOp.sub (vVar 3) (vBin BOp.pow (fun x s => R.ok (D.int 10) s) fun x s => R.ok (D.int 18) s)))) (cs.map .int) [] s = .ok ([] ++ (cs.filter fun x => decide (10 ^ 18 ≤ x)).map fun x => D.int (x - 10 ^ 18)) s := fun s => by
    refine lc_pure D.int (fun x => [.fz (.scr (ns.map .int)), .fz (.lst (cs.map .int)), .un, .fz (.int x)]) _ _ (fun x => by simp) cs [] (fun x _ => ?_) (fun x _ _ => ?_) ?_
    · have : small64 10 = true := by decide
      simp [this]
    · have : small64 10 = true := by decide
      simp [this]
    · simp; unfold lim; omega
  rw [key2]
  have e1 : ((cs.filter fun x => decide (10 ^ 18 ≤ x)).map fun x => D.int (x - 10 ^ 18)) = ((cs.filter fun x => decide (10 ^ 18 ≤ x)).map fun x => x - 10 ^ 18).map D.int := by
    rw [List.map_map]
    rfl
  rw [e1]
  generalize hlg : (cs.filter fun x => decide (10 ^ 18 ≤ x)).map (fun x => x - 10 ^ 18) = lg
  have hll : lg.length ≤ 63 := by
    rw [← hlg, List.length_map]
    exact Nat.le_trans (List.length_filter_le _ _) (by omega)
  have hl0 : ∀ z ∈ lg, 0 ≤ z := fun z hz => by
    rw [← hlg] at hz
    obtain ⟨x, hx, rfl⟩ := List.mem_map.mp hz
    have := (List.mem_filter.mp hx).2
    simp at this
    omega
  simp [isBox, keysOf]
  refine ⟨by decide +kernel, lg, cs, 0, 0, rfl, hl0, hc0, by omega, by omega, by omega, hll, by omega⟩
end MR.MS
set_option Elab.async false
set_option linter.all false
set_option maxRecDepth 100000
namespace MR.MS
open PySem
mutual
/-- small: no dict, no number of thirteen digits -/
def sm : D → Bool
  | .non | .bl _ => true
  | .int i => decide (i.natAbs < 10 ^ 12)
  | .str x => x.cps.toList.all fun c => decide (c < 16 ^ 8)
  | .tup xs | .lst xs => sms xs
  | _ => false
def sms : List D → Bool
  | [] => true
  | x :: xs => sm x && sms xs
end
mutual
def wt : D → Nat
  | .int _ => 40
  | .str x => x.cps.size
  | .tup xs | .lst xs => wts xs
  | _ => 0
def wts : List D → Nat
  | [] => 0
  | x :: xs => wt x + 1 + wts xs
end
theorem log2_small {n : Nat} (h : n < 10 ^ 12) : n.log2 < 40 := by
  by_cases z : n = 0
  · subst z
    decide
  · rw [Nat.log2_lt z]
    exact Nat.lt_of_lt_of_le h (by decide)
mutual
theorem sm_pl : ∀ {d : D}, sm d = true → pl d = true
  | .non, _ | .bl _, _ | .int _, _ | .str _, _ => rfl
  | .tup xs, h | .lst xs, h => by
    simp only [pl]
    exact sms_pl (by simpa only [sm] using h)
  | .dic _ _, h | .set _, h | .exc _ _, h | .cell _, h | .scr _, h => by simp [sm] at h
theorem sms_pl : ∀ {xs : List D}, sms xs = true → pls xs = true
  | [], _ => rfl
  | x :: xs, h => by
    simp only [sms, Bool.and_eq_true] at h
    simp only [pls, Bool.and_eq_true]
    exact ⟨sm_pl h.1, sms_pl h.2⟩
end
mutual
theorem sm_py : ∀ {d : D}, sm d = true → (toPy d).leavesShort 13 = true ∧ (toPy d).showable = true ∧ (toPy d).hasDict = false ∧ (toPy d).weight ≤ wt d
  | .non, _ | .bl _, _ => by simp [toPy, PyData.leavesShort, PyData.showable, PyData.hasDict, PyData.weight]
  | .int i, h => by
    simp only [sm, decide_eq_true_eq] at h
    have h2 := log2_small h
    refine ⟨?_, ?_, ?_, ?_⟩
    · simp only [toPy, PyData.leavesShort, decide_eq_true_eq]
      exact PyData.shown_int_le h
    · simp only [toPy, PyData.showable, decide_eq_true_eq]
      omega
    · simp [toPy, PyData.hasDict]
    · simp only [toPy, PyData.weight, wt]
      split <;> omega
  | .str x, h => by
    simp only [sm] at h
    refine ⟨?_, ?_, ?_, ?_⟩
    · simpa only [toPy, PyData.leavesShort] using h
    · simp [toPy, PyData.showable]
    · simp [toPy, PyData.hasDict]
    · simp [toPy, PyData.weight, wt]
  | .tup xs, h => by
    obtain ⟨a, b, c, d⟩ := sms_py (xs := xs) (by simpa only [sm] using h)
    simp only [toPy, PyData.leavesShort, PyData.showable, PyData.hasDict, PyData.weight, wt]
    exact ⟨a, b, c, d⟩
  | .lst xs, h => by
    obtain ⟨a, b, c, d⟩ := sms_py (xs := xs) (by simpa only [sm] using h)
    simp only [toPy, PyData.leavesShort, PyData.showable, PyData.hasDict, PyData.weight, wt]
    exact ⟨a, b, c, d⟩
  | .dic _ _, h | .set _, h | .exc _ _, h | .cell _, h | .scr _, h => by simp [sm] at h
theorem sms_py : ∀ {xs : List D}, sms xs = true → PyData.leavesShortAll 13 (toPys xs) = true ∧ PyData.showableAll (toPys xs) = true ∧ PyData.hasDictAll (toPys xs) = false ∧ PyData.weightAll (toPys xs) ≤ wts xs
  | [], _ => by simp [toPys, PyData.leavesShortAll, PyData.showableAll, PyData.hasDictAll, PyData.weightAll]
  | x :: xs, h => by
    simp only [sms, Bool.and_eq_true] at h
    obtain ⟨a, b, c, d⟩ := sm_py h.1
    obtain ⟨a2, b2, c2, d2⟩ := sms_py h.2
    simp only [toPys, PyData.leavesShortAll, PyData.showableAll, PyData.hasDictAll, PyData.weightAll, wts, a, b, c, a2, b2, c2, Bool.and_self, Bool.or_self, true_and]
    omega
end
/-- a small list or tuple has a text -/
theorem txt_ex {d : D} (hk : (∃ xs, d = .lst xs) ∨ ∃ xs, d = .tup xs) (h : sm d = true) (hd : dep d ≤ 60) (hw : wt d ≤ 1048576) : ∃ t, txt d = some t := by
  obtain ⟨a, b, c, e⟩ := sm_py h
  have hl : (PyData.shown (toPy d)).length ≤ lim := by
    have := PyData.shown_le 13 (by decide) _ a
    have h2 : (13 + 2) * (toPy d).weight ≤ 15 * 1048576 := Nat.mul_le_mul (by decide) (by omega)
    unfold lim
    omega
  have key : (pl d && decide (dep d ≤ 60) && PyData.showable (toPy d) && !(PyData.hasDict (toPy d)) && decide ((PyData.shown (toPy d)).length ≤ lim)) = true := by
    simp [sm_pl h, hd, b, c, hl]
  rcases hk with ⟨xs, rfl⟩ | ⟨xs, rfl⟩
  · exact ⟨_, if_pos key⟩
  · exact ⟨_, if_pos key⟩
theorem sms_nats : ∀ (l : List Nat), (∀ x ∈ l, x < 10 ^ 12) → sms (l.map nD) = true
  | [], _ => rfl
  | x :: r, h => by
    simp only [List.map_cons, sms, sm, Bool.and_eq_true, decide_eq_true_eq]
    exact ⟨by have := h x (by simp); simpa [nD] using this, sms_nats r fun y hy => h y (by simp [hy])⟩
theorem wts_nats : ∀ (l : List Nat), wts (l.map nD) = 41 * l.length
  | [] => rfl
  | x :: r => by
    simp only [List.map_cons, wts, wt, wts_nats r, List.length_cons]
    omega
theorem sms_ps : ∀ (l : List (List Nat)), (∀ p ∈ l, ∀ x ∈ p, x < 10 ^ 12) → sms (l.map pD) = true
  | [], _ => rfl
  | x :: r, h => by
    simp only [List.map_cons, sms, sm, Bool.and_eq_true]
    exact ⟨sms_nats x (h x (by simp)), sms_ps r fun y hy => h y (by simp [hy])⟩
theorem wts_ps {k : Nat} : ∀ (l : List (List Nat)), (∀ p ∈ l, p.length ≤ k) → wts (l.map pD) ≤ (41 * k + 1) * l.length
  | [], _ => by simp [wts]
  | x :: r, h => by
    have h1 := h x (by simp)
    have h2 := wts_ps r fun y hy => h y (by simp [hy])
    simp only [List.map_cons, wts, wt, wts_nats, List.length_cons, Nat.mul_add]
    omega
end MR.MS
set_option Elab.async false
set_option linter.all false
set_option maxRecDepth 100000
namespace MR.MS
open PySem
/-- one block behind another -/
def capp : E → E → E
  | .cn h t, r => .cn h (capp t r)
  | _, r => r
def isBlk : E → Bool
  | .cn _ t => isBlk t
  | .nl => true
  | _ => false
theorem seq_assoc {a b c : Env → S → R Fl} {ρ : Env} {s : S} : sSeq a (sSeq b c) ρ s = sSeq (sSeq a b) c ρ s := by
  unfold sSeq
  cases a ρ s with
  | ok f s1 => cases f <;> rfl
  | ex c xs s => rfl
  | no => rfl
theorem den_capp {g : G} : ∀ {a r : E} {ρ : Env} {s : S}, isBlk a = true → (den g (capp a r)).x ρ s = sSeq (den g a).x (den g r).x ρ s
  | .nl, r, ρ, s, _ => by
    show (den g r).x ρ s = _
    rfl
  | .cn h t, r, ρ, s, hb => by
    show sSeq (den g h).x (den g (capp t r)).x ρ s = sSeq (sSeq (den g h).x (den g t).x) (den g r).x ρ s
    rw [← seq_assoc]
    unfold sSeq
    cases (den g h).x ρ s with
    | ok f s1 =>
      cases f with
      | nx ρ' => exact den_capp (a := t) hb
      | _ => rfl
    | ex c xs s => rfl
    | no => rfl
section
variable {F : List FD} {T : D → Option Str} {fuel i n k : Nat} {s : S}
def fdBetween : FD := ⟨3, 3, (.cn (.ret (.an (.isi (.vr 0) [.int]) (.an (.nt (.isi (.vr 0) [.bool])) (.cm2 .le .le (.vr 1) (.vr 0) (.vr 2))))) .nl)⟩
/-- a number of this range -/
def betw (d : D) (lo hi : Int) : Bool := match d with
  | .int i => decide (lo ≤ i) && decide (i ≤ hi)
  | _ => false
theorem between_eq (H : Has F i fdBetween) {d : D} {lo hi : Int} (h : isTyOk d = true) (hc : ∀ k, d ≠ .cell k) : callN F T fuel (n + 1) i [d, .int lo, .int hi] s = .ok (.bl (betw d lo hi)) s := by
  refine wp_eq ?_
  rw [callN_has H rfl, wp_fin]
  cases d with
  | int j =>
    by_cases h1 : lo ≤ j <;> simp [fdBetween, start, isTyOk, isTy, betw, h1]
  | cell k => exact absurd rfl (hc k)
  | exc _ _ => cases h
  | set _ => cases h
  | scr _ => cases h
  | _ => simp [fdBetween, start, isTyOk, isTy, betw]
theorem zip2_nats : ∀ (xs : List D) (d : List Nat), zip2 xs (d.map nD) = (xs.zip d).map fun p => D.tup [p.1, nD p.2]
  | [], _ => by cases ‹List Nat› <;> rfl
  | _ :: _, [] => rfl
  | x :: xs, y :: ys => by
    simp only [List.map_cons, zip2, List.zip_cons_cons, zip2_nats xs ys]
theorem truths_bl {α : Type} (f : α → Bool) : ∀ l : List α, truths (l.map fun x => D.bl (f x)) = some (l.map f)
  | [] => rfl
  | x :: r => by simp only [List.map_cons, truths, truths_bl f r, Option.map_some]
@[simp] theorem blt_all {xs : List D} : blt T .all [.lst xs] = (truths xs).map fun bs => .bl (bs.all id) := rfl
/-- all items within the sizes -/
def inAll (xs : List D) (d : List Nat) : Bool := (xs.zip d).all fun p => betw p.1 0 ((p.2 : Int) - 1)
/-- may be looked at for its kind -/
def okD (d : D) : Prop := isTyOk d = true ∧ ∀ k, d ≠ .cell k
theorem okD_of {d : D} (h : isTyOk d = true) : okD d := ⟨h, fun k z => by subst z; cases h⟩
def fdIsPlace (iB : Nat) : FD := ⟨2, 4, (.cn (.iff (.or (.nt (.isi (.vr 1) [.tuple])) (.cmp .ne (.blt .len (.cn (.vr 1) .nl)) (.blt .len (.cn (.vr 0) .nl)))) (.cn (.ret (.cb false)) .nl) .nl) (.cn (.ret (.blt .all (.cn (.lc (.tt (.cn (.tg 2) (.cn (.tg 3) .nl))) (.itz (.cn (.vr 1) (.cn (.vr 0) .nl))) (.cb true) (.call iB (.cn (.vr 2) (.cn (.ci 0) (.cn (.bin .sub (.vr 3) (.ci 1)) .nl)))) [2, 3]) .nl))) .nl))⟩
theorem isPlace_tup {iB : Nat} (H : Has F i (fdIsPlace iB)) (HB : Has F iB fdBetween) {xs : List D} {d : List Nat} (hx : ∀ x ∈ xs, okD x) (hl : d.length ≤ lim) :
    callN F T fuel (n + 2) i [pD d, .tup xs] s = .ok (.bl (decide (xs.length = d.length) && inAll xs d)) s := by
  refine wp_eq ?_
  rw [callN_has H rfl, wp_fin]
  have h1 : isTyOk (.tup xs) = true := rfl
  have h2 : isTy (.tup xs) .tuple = true := rfl
  by_cases hlen : xs.length = d.length
  · simp [fdIsPlace, start, h1, h2, hlen, zipOf, zip2_nats]
    have key := lc_pure (tg := .tt (.cn (.tg 2) (.cn (.tg 3) .nl))) (ρ := [.fz (pD d), .fz (.tup xs), .un, .un]) (s := s) (cond := tv fun x s => R.ok (D.bl true) s)
      (elt := vCall (callN F T fuel (n + 1)) iB (lCons (evl1 (vVar 2)) (lCons (evl1 fun x s => R.ok (D.int 0) s) (lCons (evl1 (vBin BOp.sub (vVar 3) fun x s => R.ok (D.int 1) s)) fun x s => R.ok [] s))))
      (fun p : D × Nat => D.tup [p.1, nD p.2]) (fun p => [.fz (pD d), .fz (.tup xs), .fz p.1, .fz (nD p.2)]) (fun _ => true) (fun p => .bl (betw p.1 0 ((p.2 : Int) - 1))) (fun p => by simp) (xs.zip d) [] (fun p _ => by simp) (fun p hp _ => ?_) ?_
    · rw [key]
      simp [truths_bl]
      unfold inAll
      rw [List.all_eq]
    · obtain ⟨a, b⟩ := hx p.1 (List.of_mem_zip hp).1
      have := between_eq (n := n) (T := T) (fuel := fuel) (s := s) HB (lo := 0) (hi := (p.2 : Int) - 1) a b
      simp [this]
    · simp
      omega
  · simp [fdIsPlace, start, h1, h2, hlen]
    have : (xs.length : Int) ≠ d.length := by omega
    simp [this]
theorem isPlace_no {iB : Nat} (H : Has F i (fdIsPlace iB)) {x : D} {d : List Nat} (hx : okD x) (ht : ∀ xs, x ≠ .tup xs) :
    callN F T fuel (n + 1) i [pD d, x] s = .ok (.bl false) s := by
  refine wp_eq ?_
  rw [callN_has H rfl, wp_fin]
  obtain ⟨h1, h2⟩ := hx
  cases x with
  | tup xs => exact absurd rfl (ht xs)
  | cell k => exact absurd rfl (h2 k)
  | exc _ _ => cases h1
  | set _ => cases h1
  | scr _ => cases h1
  | _ => simp [fdIsPlace, start, isTyOk, isTy]
end
end MR.MS
set_option Elab.async false
set_option linter.all false
set_option maxRecDepth 100000
namespace MR.MS
open PySem
/-- a place of these dials -/
def isPl : List Nat → List Nat → Bool
  | [], [] => true
  | s :: d, x :: p => decide (x < s) && isPl d p
  | _, _ => false
theorem isPl_len : ∀ {d p : List Nat}, isPl d p = true → p.length = d.length
  | [], [], _ => rfl
  | [], _ :: _, h => by cases h
  | _ :: _, [], h => by cases h
  | s :: d, x :: p, h => by
    simp only [isPl, Bool.and_eq_true] at h
    simp [isPl_len h.2]
theorem isPl_snoc : ∀ {d p : List Nat} {s x : Nat}, isPl d p = true → x < s → isPl (d ++ [s]) (p ++ [x]) = true
  | [], [], s, x, _, h => by simp [isPl, h]
  | [], _ :: _, _, _, h, _ => by cases h
  | _ :: _, [], _, _, h, _ => by cases h
  | s :: d, y :: p, s', x, h, hx => by
    simp only [isPl, Bool.and_eq_true, List.cons_append] at h ⊢
    exact ⟨h.1, isPl_snoc h.2 hx⟩
theorem mem_zip_nth {α β : Type} : ∀ {xs : List α} {ys : List β} {i : Nat} {x : α} {y : β}, nth xs i = some x → nth ys i = some y → (x, y) ∈ xs.zip ys
  | [], _, i, _, _, h, _ => by cases i <;> cases h
  | _ :: _, [], i, _, _, _, h => by cases i <;> cases h
  | x :: xs, y :: ys, 0, _, _, h, h' => by
    cases h
    cases h'
    simp
  | x :: xs, y :: ys, i + 1, a, b, h, h' => by
    have := mem_zip_nth (xs := xs) (ys := ys) (i := i) h h'
    simp [this]
theorem inAll_no {xs : List D} {d : List Nat} {i : Nat} {x : D} {s : Nat} (h : nth xs i = some x) (h' : nth d i = some s) (hb : betw x 0 ((s : Int) - 1) = false) : inAll xs d = false := by
  unfold inAll
  rw [List.all_eq_false]
  exact ⟨_, mem_zip_nth h h', by simp [hb]⟩
/-- no place of these dials, whatever it is -/
def BadP (d : List Nat) (x : D) : Prop := okD x ∧ ((∀ xs, x ≠ .tup xs) ∨ ∃ xs, x = .tup xs ∧ (∀ y ∈ xs, okD y) ∧ (xs.length ≠ d.length ∨ inAll xs d = false))
section
variable {F : List FD} {T : D → Option Str} {fuel i n k : Nat} {s : S}
theorem isPlace_bad {iB : Nat} (H : Has F i (fdIsPlace iB)) (HB : Has F iB fdBetween) {x : D} {d : List Nat} (hl : d.length ≤ lim) (h : BadP d x) : callN F T fuel (n + 2) i [pD d, x] s = .ok (.bl false) s := by
  obtain ⟨ho, h | ⟨xs, rfl, hx, h⟩⟩ := h
  · exact isPlace_no H ho h
  · rw [isPlace_tup H HB hx hl]
    rcases h with h | h
    · simp [h]
    · simp [h]
def fdPlace (iD : Nat) : FD := ⟨2, 3, (.cn (.ret (.ti (.itv (.lc (.tg 2) (.itv (.vr 1)) (.cb true) (.call iD (.cn (.vr 0) (.cn (.vr 2) .nl))) [2])))) .nl)⟩
theorem place_wp {iD : Nat} (H : Has F i (fdPlace iD)) (HD : Has F iD fdDraw) (hf : 65 ≤ fuel) {d : List Nat} (hd : ∀ z ∈ d, 0 < z ∧ z < 1073741824) (hl : d.length ≤ 1000) (hk : k ≤ 9000000000000) (g : Good k s) :
    Wp (callN F T fuel (n + 2) i [.cell 1, pD d] s) fun x s' => ∃ p, x = pD p ∧ isPl d p = true ∧ Good (k + d.length) s' := by
  rw [callN_has H rfl, wp_fin]
  simp [fdPlace, start]
  refine wp_mono (P := fun acc s' => ∃ p, acc = p.map nD ∧ isPl d p = true ∧ Good (k + d.length) s') ?_ ?_
  · refine lc_wp nD (fun rest acc s => ∃ dn p, d = dn ++ rest ∧ acc = p.map nD ∧ isPl dn p = true ∧ Good (k + dn.length) s) ?_ ?_ d [] s ⟨[], [], rfl, rfl, rfl, g⟩
    · rintro z rest acc s ⟨dn, p, e, rfl, hp, hg⟩
      have hz := hd z (by rw [e]; simp)
      have hlen : dn.length + (rest.length + 1) = d.length := by rw [e]; simp
      simp [lcStep, lcAdd]
      refine wp_mono (draw_wp (T := T) (n := n) HD hf hz.1 hz.2 (by omega) hg) fun x s' ⟨r, h1, h2, h3⟩ => ?_
      subst h1
      have hpl := isPl_len hp
      simp
      refine ⟨by unfold lim; omega, dn ++ [z], by rw [e]; simp, p ++ [r], by simp, isPl_snoc hp h2, ?_⟩
      exact h3.mono (by simp; omega)
    · rintro acc s ⟨dn, p, e, rfl, hp, hg⟩
      rw [List.append_nil] at e
      subst e
      exact ⟨p, rfl, hp, hg⟩
  · rintro acc s' ⟨p, rfl, hp, hg⟩
    have := isPl_len hp
    simp
    exact ⟨by unfold lim; omega, p, rfl, hp, hg⟩
theorem sub_tup_nat {xs : List D} {j : Nat} {v : D} (h : j < xs.length) (hl : xs.length ≤ 1000000) (hv : nth xs j = some v) : sub (.tup xs) (nD j) = some v := by
  rw [sub_tupN, if_pos (inB_nat (by omega)), hv]
theorem cut_to {α : Type} {xs : List α} {j : Nat} (h : j ≤ xs.length) : cut xs none (some (j : Int)) = xs.take j := by
  unfold cut sIx
  simp only [show (0 : Int) ≤ (j : Int) by omega, if_true, List.drop_zero, Int.toNat_natCast, Nat.sub_zero, Nat.min_eq_left h]
theorem cut_from {α : Type} {xs : List α} {j : Nat} (h : j ≤ xs.length) : cut xs (some (j : Int)) none = xs.drop j := by
  unfold cut sIx
  simp only [show (0 : Int) ≤ (j : Int) by omega, if_true, Int.toNat_natCast, Nat.min_eq_left h]
  rw [List.take_of_length_le]
  simp
theorem cut_but {α : Type} {xs : List α} (h : 0 < xs.length) : (cut xs none (some (-1))).length = xs.length - 1 := by
  unfold cut sIx
  simp only [show ¬ (0 : Int) ≤ -1 by omega, if_false, List.drop_zero, Nat.sub_zero, List.length_take]
  omega
theorem mem_cut {α : Type} {xs : List α} {lo hi : Option Int} {x : α} (h : x ∈ cut xs lo hi) : x ∈ xs := cut_mem h
theorem okD_nat {x : Nat} : okD (nD x) := okD_of rfl
theorem ok_nats {l : List Nat} : ∀ y ∈ l.map nD, okD y := fun y hy => by
  obtain ⟨x, _, rfl⟩ := List.mem_map.mp hy
  exact okD_nat
/-- one item exchanged -/
theorem bad_at {d p : List Nat} {j : Nat} {x : D} {z : Nat} (hl : p.length = d.length) (hj : j < d.length) (hz : nth d j = some z) (hx : okD x) (hb : betw x 0 ((z : Int) - 1) = false) : BadP d (.tup (((p.take j).map nD ++ [x]) ++ (p.drop (j + 1)).map nD)) := by
  refine ⟨okD_of rfl, .inr ⟨_, rfl, fun y hy => ?_, .inr (inAll_no (i := j) (x := x) ?_ hz hb)⟩⟩
  · simp only [List.mem_append, List.mem_singleton] at hy
    rcases hy with (hy | hy) | hy
    · exact ok_nats y hy
    · rw [hy]; exact hx
    · exact ok_nats y hy
  · rw [nth_getElem?]
    have e : ((p.take j).map nD).length = j := by simp; omega
    rw [List.append_assoc, List.getElem?_append_right (by omega), e]
    simp
def fdBool (iK : Nat) : FD := ⟨2, 5, (.cn (.asg (.tg 2) (.lc (.tt (.cn (.tg 3) (.cn (.tg 4) .nl))) (.ite (.vr 1)) (.cmp .lt (.vr 4) (.ci 2)) (.vr 3) [3, 4])) (.cn (.iff (.cmp .eq (.vr 2) (.ls .nl)) (.cn (.ret (.slc (.vr 1) .nl (.neg (.ci 1)))) .nl) .nl) (.cn (.asg (.tg 3) (.call iK (.cn (.vr 0) (.cn (.vr 2) .nl)))) (.cn (.ret (.bin .add (.bin .add (.slc (.vr 1) .nl (.vr 3)) (.tp (.cn (.cmp .eq (.sub (.vr 1) (.vr 3)) (.ci 1)) .nl))) (.slc (.vr 1) (.bin .add (.vr 3) (.ci 1)) .nl))) .nl))))⟩
theorem enum_nats : ∀ (p : List Nat) (j : Nat), enumL (j : Int) (p.map nD) = (p.zipIdx j).map fun q => D.tup [nD q.2, nD q.1]
  | [], _ => rfl
  | x :: p, j => by
    have := enum_nats p (j + 1)
    simp only [List.map_cons, enumL, List.zipIdx_cons]
    rw [← this]
    congr 1
theorem bool_wp {iK iD : Nat} (H : Has F i (fdBool iK)) (HK : Has F iK (fdPick iD)) (HD : Has F iD fdDraw) (hf : 65 ≤ fuel) {d p : List Nat} (hp : isPl d p = true) (h0 : 0 < d.length) (hl : d.length ≤ 1000) (hk : k ≤ 9000000000000) (g : Good k s) :
    Wp (callN F T fuel (n + 3) i [.cell 1, pD p] s) fun x s' => BadP d x ∧ Good (k + 1) s' := by
  have hpl := isPl_len hp
  rw [callN_has H rfl, wp_fin]
  have key := lc_pure (tg := .tt (.cn (.tg 3) (.cn (.tg 4) .nl))) (ρ := [.fz (.cell 1), .fz (pD p), .un, .un, .un]) (s := s) (cond := tv (vCmp .lt (vVar 4) fun x s => R.ok (D.int 2) s)) (elt := vVar 3)
      (fun q : Nat × Nat => D.tup [nD q.2, nD q.1]) (fun q => [.fz (.cell 1), .fz (pD p), .un, .fz (nD q.2), .fz (nD q.1)]) (fun q => decide (q.1 < 2)) (fun q => nD q.2) (fun q => by simp) (p.zipIdx 0) [] (fun q _ => by simp; omega) (fun q _ _ => by simp) (by simp; unfold lim; omega)
  have en := enum_nats p 0
  have en : enumL 0 (p.map nD) = (p.zipIdx 0).map fun q => D.tup [nD q.2, nD q.1] := en
  generalize hsp : ((p.zipIdx 0).filter fun q => decide (q.1 < 2)) = sp at key
  have hspm : ∀ q ∈ sp, q.2 < p.length := fun q hq => by
    rw [← hsp] at hq
    have := (List.mem_filter.mp hq).1
    have := List.snd_lt_of_mem_zipIdx this
    simpa using this
  have hspl0 : sp.length ≤ p.length := by
    rw [← hsp]
    refine Nat.le_trans (List.length_filter_le _ _) ?_
    simp
  have hspl : (sp.map fun q => nD q.2).length < 1073741824 := by
    rw [List.length_map]
    omega
  have hsn : (sp.map fun q => nD q.2) = (sp.map (·.2)).map nD := by rw [List.map_map]; rfl
  simp [fdBool, start, en, key]
  refine ⟨by rw [hsn]; exact cmpOk_lD, ?_⟩
  by_cases h : sp = []
  · rw [if_pos h]
    simp [cutD]
    refine ⟨⟨okD_of rfl, .inr ⟨_, rfl, fun y hy => ok_nats y (mem_cut hy), .inl ?_⟩⟩, g.mono (by omega)⟩
    rw [cut_but (by simp; omega)]
    simp
    omega
  · rw [if_neg h]
    simp
    refine wp_mono (pick_wp (T := T) (n := n) HK HD hf (xs := sp.map fun q => nD q.2) (by simpa using h) hspl (by omega) g (.inl rfl)) fun x s' ⟨hx, hg⟩ => ?_
    · obtain ⟨q, hq, rfl⟩ := List.mem_map.mp hx
      have hj := hspm q hq
      have hj2 : q.2 < d.length := by omega
      have e1 := nth_ex hj
      have e2 := nth_ex hj2
      clear key en hsp hspm
      cases e1 with
      | intro v hv' =>
      cases e2 with
      | intro z hz' =>
      have hv := hv'.1
      have hz := hz'.1
      have hsub : sub (.tup (p.map nD)) (.int (q.2 : Int)) = some (nD v) := sub_tup_nat (by rw [List.length_map]; exact hj) (by rw [List.length_map]; omega) (by rw [nth_map', hv]; rfl)
      have c1 : cut (p.map nD) none (some (q.2 : Int)) = (p.take q.2).map nD := by rw [cut_to (by simp; omega), List.map_take]
      have c2 : cut (p.map nD) (some ((q.2 : Int) + 1)) none = (p.drop (q.2 + 1)).map nD := by
        have : ((q.2 : Int) + 1) = ((q.2 + 1 : Nat) : Int) := by omega
        rw [this, cut_from (by simp; omega), List.map_drop]
      have hlm : (p.map nD).length ≤ lim := by
        rw [List.length_map]
        unfold lim
        omega
      have b1 : bin .add (.tup ((p.take q.2).map nD)) (.tup [.bl (decide ((v : Int) = 1))]) = some (.tup ((p.take q.2).map nD ++ [.bl (decide ((v : Int) = 1))])) := if_pos (by simp; unfold lim; omega)
      have b2 : bin .add (.tup ((p.take q.2).map nD ++ [.bl (decide ((v : Int) = 1))])) (.tup ((p.drop (q.2 + 1)).map nD)) = some (.tup (((p.take q.2).map nD ++ [.bl (decide ((v : Int) = 1))]) ++ (p.drop (q.2 + 1)).map nD)) := if_pos (by simp; unfold lim; omega)
      simp [-sub_tupN, -sub_tup, -bin_addt, -List.map_take, -List.map_drop, -List.append_assoc, hsub, cutD, c1, c2, b1, b2]
      exact ⟨by unfold lim; omega, bad_at hpl hj2 hz (okD_of rfl) rfl, hg⟩
end
end MR.MS
set_option Elab.async false
set_option linter.all false
set_option maxRecDepth 100000
namespace MR.MS
open PySem
section
variable {F : List FD} {T : D → Option Str} {fuel i n k : Nat} {s : S}
@[simp] theorem lcLoop_nil {st : D → List D → S → R (List D)} {acc : List D} {s : S} : lcLoop st [] acc s = .ok acc s := rfl
@[simp] theorem lcLoop_cons {st : D → List D → S → R (List D)} {x : D} {xs acc : List D} {s : S} : lcLoop st (x :: xs) acc s = (st x acc s).bind fun acc s => lcLoop st xs acc s := rfl
def fdBadPlace (iP iD iK iB : Nat) : FD := ⟨2, 6, (.cn (.par 3 4 (.call iP (.cn (.vr 0) (.cn (.vr 1) .nl))) (.call iD (.cn (.vr 0) (.cn (.blt .len (.cn (.vr 1) .nl)) .nl))) false false) (.cn (.asg (.tg 2) (.lc (.tg 5) (.itv (.ls (.cn (.neg (.ci 1)) (.cn (.sub (.vr 1) (.vr 4)) (.cn .cnn (.cn (.cs "0") .nl)))))) (.cb true) (.bin .add (.bin .add (.slc (.vr 3) .nl (.vr 4)) (.tp (.cn (.vr 5) .nl))) (.slc (.vr 3) (.bin .add (.vr 4) (.ci 1)) .nl)) [5])) (.cn (.ret (.call iK (.cn (.vr 0) (.cn (.bin .add (.vr 2) (.ls (.cn (.li (.itv (.vr 3))) (.cn (.slc (.vr 3) .nl (.neg (.ci 1))) (.cn (.bin .add (.vr 3) (.tp (.cn (.ci 0) .nl))) (.cn .cnn (.cn (.ci 5) (.cn (.call iB (.cn (.vr 0) (.cn (.vr 3) .nl))) .nl)))))))) .nl)))) .nl)))⟩
theorem badPlace_wp {iP iD iK iB : Nat} (H : Has F i (fdBadPlace iP iD iK iB)) (HP : Has F iP (fdPlace iD)) (HD : Has F iD fdDraw) (HK : Has F iK (fdPick iD)) (HB : Has F iB (fdBool iK)) (hf : 65 ≤ fuel) {d : List Nat} (hd : ∀ z ∈ d, 0 < z ∧ z < 1073741824) (h0 : 0 < d.length) (hl : d.length ≤ 100) (hk : k ≤ 8000000000000) (g : Good k s) :
    Wp (callN F T fuel (n + 4) i [.cell 1, pD d] s) fun x s' => BadP d x ∧ Good (k + 200) s' := by
  rw [callN_has H rfl, wp_fin]
  simp [fdBadPlace, start]
  refine wp_mono (place_wp (T := T) (n := n + 1) HP HD hf hd (by omega) (by omega) g) fun x s' ⟨p, h1, hp, hg⟩ => ?_
  subst h1
  have hpl := isPl_len hp
  simp
  refine wp_mono (draw_wp (T := T) (n := n + 2) HD hf (z := d.length) h0 (by omega) (by omega) hg) fun x s' ⟨j, h1, hj, hg⟩ => ?_
  subst h1
  have hjp : j < p.length := by omega
  cases nth_ex hj with
  | intro z hz' =>
  have hz := hz'.1
  have hsub : sub (.tup (d.map nD)) (.int (j : Int)) = some (nD z) := sub_tup_nat (by rw [List.length_map]; exact hj) (by rw [List.length_map]; omega) (by rw [nth_map', hz]; rfl)
  have c1 : cut (p.map nD) none (some (j : Int)) = (p.take j).map nD := by rw [cut_to (by simp; omega), List.map_take]
  have c2 : cut (p.map nD) (some ((j : Int) + 1)) none = (p.drop (j + 1)).map nD := by
    have : ((j : Int) + 1) = ((j + 1 : Nat) : Int) := by omega
    rw [this, cut_from (by simp; omega), List.map_drop]
  have b1 : ∀ x : D, bin .add (.tup ((p.take j).map nD)) (.tup [x]) = some (.tup ((p.take j).map nD ++ [x])) := fun x => if_pos (by simp; unfold lim; omega)
  have b2 : ∀ x : D, bin .add (.tup ((p.take j).map nD ++ [x])) (.tup ((p.drop (j + 1)).map nD)) = some (.tup (((p.take j).map nD ++ [x]) ++ (p.drop (j + 1)).map nD)) := fun x => if_pos (by simp; unfold lim; omega)
  have b3 : bin .add (.tup (p.map nD)) (.tup [.int 0]) = some (.tup (p.map nD ++ [.int 0])) := if_pos (by simp; unfold lim; omega)
  have l1 : 1 ≤ lim := by decide
  have l4 : 4 ≤ lim := by decide
  have lp : p.length ≤ lim := by unfold lim; omega
  simp [-sub_tupN, -sub_tup, -bin_addt, -List.map_take, -List.map_drop, -List.append_assoc, hsub, cutD, c1, c2, b1, b2, b3, lcStep, lcAdd, l1, l4, lp]
  refine ⟨by decide, by decide, by decide, by decide, ?_⟩
  refine wp_mono (bool_wp (T := T) (n := n) HB HK HD hf hp h0 (by omega) (by omega) hg) fun x s' ⟨hx, hg⟩ => ?_
  have e6 : 6 ≤ lim := by decide
  have e10 : 4 + 6 ≤ lim := by decide
  have one : ∀ y : D, okD y → betw y 0 ((z : Int) - 1) = false → BadP d (.tup (((p.take j).map nD ++ [y]) ++ (p.drop (j + 1)).map nD)) := fun y h1 h2 => bad_at hpl hj hz h1 h2
  have o1 := one (.int (-1)) (okD_of rfl) (by simp [betw])
  have o2 := one (nD z) (okD_of rfl) (by simp [betw]; omega)
  have o3 := one .non (okD_of rfl) rfl
  have o4 := one (.str "0") (okD_of rfl) rfl
  have o5 : BadP d (.lst (p.map nD)) := ⟨okD_of rfl, .inl fun xs h => by cases h⟩
  have o6 : BadP d (.tup (cut (p.map nD) none (some (-1)))) := ⟨okD_of rfl, .inr ⟨_, rfl, fun y hy => ok_nats y (mem_cut hy), .inl (by rw [cut_but (by simp; omega)]; simp; omega)⟩⟩
  have o7 : BadP d (.tup (p.map nD ++ [.int 0])) := ⟨okD_of rfl, .inr ⟨_, rfl, fun y hy => by
    rcases List.mem_append.mp hy with hy | hy
    · exact ok_nats y hy
    · rw [List.mem_singleton.mp hy]; exact okD_of rfl, .inl (by simp; omega)⟩⟩
  have o8 : BadP d .non := ⟨okD_of rfl, .inl fun xs h => by cases h⟩
  have o9 : BadP d (.int 5) := ⟨okD_of rfl, .inl fun xs h => by cases h⟩
  generalize ((p.take j).map nD ++ [.int (-1)]) ++ (p.drop (j + 1)).map nD = w1 at o1 ⊢
  generalize ((p.take j).map nD ++ [nD z]) ++ (p.drop (j + 1)).map nD = w2 at o2 ⊢
  generalize ((p.take j).map nD ++ [.non]) ++ (p.drop (j + 1)).map nD = w3 at o3 ⊢
  generalize ((p.take j).map nD ++ [.str "0"]) ++ (p.drop (j + 1)).map nD = w4 at o4 ⊢
  generalize cut (p.map nD) none (some (-1)) = w6 at o6 ⊢
  generalize p.map nD ++ [.int 0] = w7 at o7 ⊢
  simp [e6, e10]
  refine wp_mono (pick_wp (T := T) (n := n + 1) (xs := [.tup w1, .tup w2, .tup w3, .tup w4, .lst (p.map nD), .tup w6, .tup w7, .non, .int 5, x]) HK HD hf (by simp) (by simp) (by omega) hg (.inl rfl)) fun y s' ⟨hy, hg⟩ => ?_
  simp
  refine ⟨?_, hg.mono (by omega)⟩
  simp only [List.mem_cons, List.not_mem_nil, or_false] at hy
  rcases hy with rfl | rfl | rfl | rfl | rfl | rfl | rfl | rfl | rfl | rfl
  · exact o1
  · exact o2
  · exact o3
  · exact o4
  · exact o5
  · exact o6
  · exact o7
  · exact o8
  · exact o9
  · exact hx
end
end MR.MS
set_option Elab.async false
set_option linter.all false
set_option maxRecDepth 100000
namespace MR.MS
open PySem
/-- item by item, by the sizes -/
def map3 (f : Nat → Nat → Nat → Nat) : List Nat → List Nat → List Nat → List Nat
  | s :: d, x :: a, y :: b => f s x y :: map3 f d a b
  | _, _, _ => []
def map2 (f : Nat → Nat → Nat) : List Nat → List Nat → List Nat
  | s :: d, x :: a => f s x :: map2 f d a
  | _, _ => []
def plusL : List Nat → List Nat → List Nat → List Nat := map3 fun s x y => (x + y) % s
def lessL : List Nat → List Nat → List Nat → List Nat := map3 fun s x y => (((x : Int) - y).fmod s).toNat
def timesL (k : Int) : List Nat → List Nat → List Nat := map2 fun s x => ((x * k).fmod s).toNat
def totalL (d : List Nat) (l : List (List Nat)) : List Nat := l.foldl (plusL d) (d.map fun _ => 0)
theorem map3_len {f : Nat → Nat → Nat → Nat} : ∀ {d a b : List Nat}, a.length = d.length → b.length = d.length → (map3 f d a b).length = d.length
  | [], _, _, _, _ => by cases ‹List Nat› <;> rfl
  | _ :: _, [], _, h, _ => by simp at h
  | _ :: _, _ :: _, [], _, h => by simp at h
  | _ :: d, _ :: a, _ :: b, h, h' => by
    simp only [map3, List.length_cons]
    rw [map3_len (by simpa using h) (by simpa using h')]
theorem isPl_map3 {f : Nat → Nat → Nat → Nat} (hf : ∀ s x y, 0 < s → f s x y < s) : ∀ {d a b : List Nat}, (∀ z ∈ d, 0 < z) → a.length = d.length → b.length = d.length → isPl d (map3 f d a b) = true
  | [], _, _, _, _, _ => by cases ‹List Nat› <;> rfl
  | _ :: _, [], _, _, h, _ => by simp at h
  | _ :: _, _ :: _, [], _, _, h => by simp at h
  | s :: d, x :: a, y :: b, hd, h, h' => by
    simp only [map3, isPl, Bool.and_eq_true, decide_eq_true_eq]
    exact ⟨hf s x y (hd s (by simp)), isPl_map3 hf (fun z hz => hd z (by simp [hz])) (by simpa using h) (by simpa using h')⟩
theorem isPl_map2 {f : Nat → Nat → Nat} (hf : ∀ s x, 0 < s → f s x < s) : ∀ {d a : List Nat}, (∀ z ∈ d, 0 < z) → a.length = d.length → isPl d (map2 f d a) = true
  | [], _, _, _ => by cases ‹List Nat› <;> rfl
  | _ :: _, [], _, h => by simp at h
  | s :: d, x :: a, hd, h => by
    simp only [map2, isPl, Bool.and_eq_true, decide_eq_true_eq]
    exact ⟨hf s x (hd s (by simp)), isPl_map2 hf (fun z hz => hd z (by simp [hz])) (by simpa using h)⟩
theorem isPl_zero : ∀ {d : List Nat}, (∀ z ∈ d, 0 < z) → isPl d (d.map fun _ => 0) = true
  | [], _ => rfl
  | s :: d, hd => by
    simp only [List.map_cons, isPl, Bool.and_eq_true, decide_eq_true_eq]
    exact ⟨hd s (by simp), isPl_zero fun z hz => hd z (by simp [hz])⟩
theorem isPl_total {d : List Nat} (hd : ∀ z ∈ d, 0 < z) : ∀ {l : List (List Nat)} {p : List Nat}, isPl d p = true → (∀ q ∈ l, isPl d q = true) → isPl d (l.foldl (plusL d) p) = true
  | [], p, hp, _ => hp
  | q :: l, p, hp, h => isPl_total (p := plusL d p q) hd (isPl_map3 (f := fun s x y => (x + y) % s) (fun s x y hs => Nat.mod_lt _ hs) hd (isPl_len hp) (isPl_len (h q (by simp)))) fun r hr => h r (by simp [hr])
theorem zip3_map {f : Nat → Nat → Nat → Nat} : ∀ (d a b : List Nat), ((a.zip (b.zip d)).map fun t => f t.2.2 t.1 t.2.1) = map3 f d a b
  | [], a, b => by cases a <;> cases b <;> simp [map3]
  | _ :: _, [], _ => by simp [map3]
  | _ :: _, _ :: _, [] => by simp [map3]
  | _ :: d, _ :: a, _ :: b => by simp [map3, zip3_map d a b]
theorem zip2_map {f : Nat → Nat → Nat} : ∀ (d a : List Nat), ((a.zip d).map fun t => f t.2 t.1) = map2 f d a
  | [], a => by cases a <;> simp [map2]
  | _ :: _, [] => by simp [map2]
  | _ :: d, _ :: a => by simp [map2, zip2_map d a]
theorem zip3_nats : ∀ (a b d : List Nat), zip3 (a.map nD) (b.map nD) (d.map nD) = (a.zip (b.zip d)).map fun t => D.tup [nD t.1, nD t.2.1, nD t.2.2]
  | [], _, _ => by simp [zip3]
  | _ :: _, [], _ => by simp [zip3]
  | _ :: _, _ :: _, [] => by simp [zip3]
  | x :: a, y :: b, z :: d => by simp [zip3, zip3_nats a b d]
theorem zip2_nats2 (a d : List Nat) : zip2 (a.map nD) (d.map nD) = (a.zip d).map fun t => D.tup [nD t.1, nD t.2] := by
  rw [zip2_nats, List.zip_map_left, List.map_map]
  rfl
theorem fmod_nat (a b : Nat) : (a : Int).fmod (b : Int) = ((a % b : Nat) : Int) := (Int.ofNat_fmod a b).symm
theorem fmod_add (a : Int) (b : Nat) (hb : 0 < b) : (a + b).fmod (b : Int) = a.fmod b := by
  rw [Int.fmod_eq_emod_of_nonneg _ (by omega), Int.fmod_eq_emod_of_nonneg _ (by omega), Int.add_emod_right]
theorem toNat_fmod {a : Int} {b : Nat} (hb : 0 < b) : ((a.fmod b).toNat : Int) = a.fmod b := by
  have := (fmod_lt (a := a) (b := b) (by omega)).1
  omega
section
variable {F : List FD} {T : D → Option Str} {fuel i n k : Nat} {s : S}
/-- tuple([elt for x, y, z in zip(one, other, dials)]) -/
theorem tup3_eq {f : Nat → Nat → Nat → Nat} {ρ : Env} {elt : Env → S → R D} {i1 i2 i3 : Nat} {d a b : List Nat} (ρf : Nat × Nat × Nat → Env)
    (hb : ∀ t, bind1 (.tt (.cn (.tg i1) (.cn (.tg i2) (.cn (.tg i3) .nl)))) (D.tup [nD t.1, nD t.2.1, nD t.2.2]) ρ = some (ρf t)) (hl : a.length ≤ lim) (he : ∀ t ∈ a.zip (b.zip d), elt (ρf t) s = .ok (nD (f t.2.2 t.1 t.2.1)) s) :
    lcLoop (lcStep (.tt (.cn (.tg i1) (.cn (.tg i2) (.cn (.tg i3) .nl)))) ρ (tv fun x s => R.ok (D.bl true) s) (lcAdd elt)) (zip3 (a.map nD) (b.map nD) (d.map nD)) [] s = .ok ((map3 f d a b).map nD) s := by
  rw [zip3_nats]
  have := lc_pure (s := s) (tg := .tt (.cn (.tg i1) (.cn (.tg i2) (.cn (.tg i3) .nl)))) (ρ := ρ) (cond := tv fun x s => R.ok (D.bl true) s) (elt := elt) (fun t : Nat × Nat × Nat => D.tup [nD t.1, nD t.2.1, nD t.2.2]) ρf (fun _ => true) (fun t => nD (f t.2.2 t.1 t.2.1)) hb (a.zip (b.zip d)) [] (fun t _ => by simp) (fun t ht _ => he t ht) (by simp; omega)
  rw [this]
  congr 1
  rw [List.nil_append, List.filter_eq_self.mpr (by simp), ← zip3_map, List.map_map]
  rfl
theorem tup2_eq {f : Nat → Nat → Nat} {ρ : Env} {elt : Env → S → R D} {i1 i2 : Nat} {d a : List Nat} (ρf : Nat × Nat → Env)
    (hb : ∀ t, bind1 (.tt (.cn (.tg i1) (.cn (.tg i2) .nl))) (D.tup [nD t.1, nD t.2]) ρ = some (ρf t)) (hl : a.length ≤ lim) (he : ∀ t ∈ a.zip d, elt (ρf t) s = .ok (nD (f t.2 t.1)) s) :
    lcLoop (lcStep (.tt (.cn (.tg i1) (.cn (.tg i2) .nl))) ρ (tv fun x s => R.ok (D.bl true) s) (lcAdd elt)) (zip2 (a.map nD) (d.map nD)) [] s = .ok ((map2 f d a).map nD) s := by
  rw [zip2_nats2]
  have := lc_pure (s := s) (tg := .tt (.cn (.tg i1) (.cn (.tg i2) .nl))) (ρ := ρ) (cond := tv fun x s => R.ok (D.bl true) s) (elt := elt) (fun t : Nat × Nat => D.tup [nD t.1, nD t.2]) ρf (fun _ => true) (fun t => nD (f t.2 t.1)) hb (a.zip d) [] (fun t _ => by simp) (fun t ht _ => he t ht) (by simp; omega)
  rw [this]
  congr 1
  rw [List.nil_append, List.filter_eq_self.mpr (by simp), ← zip2_map, List.map_map]
  rfl
def fdPlusOf : FD := ⟨3, 6, (.cn (.ret (.ti (.itv (.lc (.tt (.cn (.tg 3) (.cn (.tg 4) (.cn (.tg 5) .nl)))) (.itz (.cn (.vr 1) (.cn (.vr 2) (.cn (.vr 0) .nl)))) (.cb true) (.bin .mod (.bin .add (.vr 3) (.vr 4)) (.vr 5)) [3, 4, 5])))) .nl)⟩
theorem plusOf_eq (H : Has F i fdPlusOf) {d a b : List Nat} (hd : ∀ z ∈ d, 0 < z) (hl : d.length ≤ 1000) (ha : a.length = d.length) (hb : b.length = d.length) : callN F T fuel (n + 1) i [pD d, pD a, pD b] s = .ok (pD (plusL d a b)) s := by
  refine wp_eq ?_
  rw [callN_has H rfl, wp_fin]
  have key := tup3_eq (s := s) (f := fun s x y => (x + y) % s) (d := d) (a := a) (b := b) (ρ := [.fz (pD d), .fz (pD a), .fz (pD b), .un, .un, .un]) (elt := vBin .mod (vBin .add (vVar 3) (vVar 4)) (vVar 5)) (i1 := 3) (i2 := 4) (i3 := 5)
    (fun t => [.fz (pD d), .fz (pD a), .fz (pD b), .fz (nD t.1), .fz (nD t.2.1), .fz (nD t.2.2)]) (fun t => by simp) (by unfold lim; omega) fun t ht => by
      have h1 := (List.of_mem_zip (List.of_mem_zip ht).2).2
      have h2 : t.2.2 ≠ 0 := Nat.ne_of_gt (hd _ h1)
      have e : ((t.1 : Int) + t.2.1).fmod t.2.2 = (((t.1 + t.2.1) % t.2.2 : Nat) : Int) := by rw [← fmod_nat]; rfl
      simp [h2, e]
  have l2 : (map3 (fun s x y => (x + y) % s) d a b).length ≤ lim := by rw [map3_len ha hb]; unfold lim; omega
  simp [fdPlusOf, start, zipOf, key, l2]
  rfl
def fdLawPlus : FD := ⟨3, 6, (.cn (.ret (.ti (.itv (.lc (.tt (.cn (.tg 3) (.cn (.tg 4) (.cn (.tg 5) .nl)))) (.itz (.cn (.vr 1) (.cn (.vr 2) (.cn (.vr 0) .nl)))) (.cb true) (.bin .mod (.blt .int (.cn (.bin .add (.vr 3) (.vr 4)) .nl)) (.vr 5)) [3, 4, 5])))) .nl)⟩
theorem lawPlus_eq (H : Has F i fdLawPlus) {d a b : List Nat} (hd : ∀ z ∈ d, 0 < z) (hl : d.length ≤ 1000) (ha : a.length = d.length) (hb : b.length = d.length) : callN F T fuel (n + 1) i [pD d, pD a, pD b] s = .ok (pD (plusL d a b)) s := by
  refine wp_eq ?_
  rw [callN_has H rfl, wp_fin]
  have key := tup3_eq (s := s) (f := fun s x y => (x + y) % s) (d := d) (a := a) (b := b) (ρ := [.fz (pD d), .fz (pD a), .fz (pD b), .un, .un, .un]) (elt := vBin .mod (vBlt T .int (lbCons (vBin .add (vVar 3) (vVar 4)) fun x s => R.ok [] s)) (vVar 5)) (i1 := 3) (i2 := 4) (i3 := 5)
    (fun t => [.fz (pD d), .fz (pD a), .fz (pD b), .fz (nD t.1), .fz (nD t.2.1), .fz (nD t.2.2)]) (fun t => by simp) (by unfold lim; omega) fun t ht => by
      have h1 := (List.of_mem_zip (List.of_mem_zip ht).2).2
      have h0 : 0 < t.2.2 := hd _ h1
      have h2 : t.2.2 ≠ 0 := Nat.ne_of_gt h0
      have e : ((t.1 : Int) + t.2.1).fmod t.2.2 = (((t.1 + t.2.1) % t.2.2 : Nat) : Int) := by rw [← fmod_nat]; rfl
      simp [h2, e]
  have l2 : (map3 (fun s x y => (x + y) % s) d a b).length ≤ lim := by rw [map3_len ha hb]; unfold lim; omega
  simp [fdLawPlus, start, zipOf, key, l2]
  rfl
def fdLessOf : FD := ⟨3, 6, (.cn (.ret (.ti (.itv (.lc (.tt (.cn (.tg 3) (.cn (.tg 4) (.cn (.tg 5) .nl)))) (.itz (.cn (.vr 1) (.cn (.vr 2) (.cn (.vr 0) .nl)))) (.cb true) (.bin .mod (.bin .sub (.vr 3) (.vr 4)) (.vr 5)) [3, 4, 5])))) .nl)⟩
theorem lessOf_eq (H : Has F i fdLessOf) {d a b : List Nat} (hd : ∀ z ∈ d, 0 < z) (hl : d.length ≤ 1000) (ha : a.length = d.length) (hb : b.length = d.length) : callN F T fuel (n + 1) i [pD d, pD a, pD b] s = .ok (pD (lessL d a b)) s := by
  refine wp_eq ?_
  rw [callN_has H rfl, wp_fin]
  have key := tup3_eq (s := s) (f := fun s x y => (((x : Int) - y).fmod s).toNat) (d := d) (a := a) (b := b) (ρ := [.fz (pD d), .fz (pD a), .fz (pD b), .un, .un, .un]) (elt := vBin .mod (vBin .sub (vVar 3) (vVar 4)) (vVar 5)) (i1 := 3) (i2 := 4) (i3 := 5)
    (fun t => [.fz (pD d), .fz (pD a), .fz (pD b), .fz (nD t.1), .fz (nD t.2.1), .fz (nD t.2.2)]) (fun t => by simp) (by unfold lim; omega) fun t ht => by
      have h1 := (List.of_mem_zip (List.of_mem_zip ht).2).2
      have h0 : 0 < t.2.2 := hd _ h1
      have h2 : t.2.2 ≠ 0 := Nat.ne_of_gt h0
      have e := toNat_fmod (a := (t.1 : Int) - t.2.1) h0
      simp [h2, e]
  have l2 : (map3 (fun s x y => (((x : Int) - y).fmod s).toNat) d a b).length ≤ lim := by rw [map3_len ha hb]; unfold lim; omega
  simp [fdLessOf, start, zipOf, key, l2]
  rfl
def fdLawLess : FD := ⟨3, 6, (.cn (.ret (.ti (.itv (.lc (.tt (.cn (.tg 3) (.cn (.tg 4) (.cn (.tg 5) .nl)))) (.itz (.cn (.vr 1) (.cn (.vr 2) (.cn (.vr 0) .nl)))) (.cb true) (.bin .mod (.blt .int (.cn (.bin .add (.bin .sub (.vr 3) (.vr 4)) (.vr 5)) .nl)) (.vr 5)) [3, 4, 5])))) .nl)⟩
theorem lawLess_eq (H : Has F i fdLawLess) {d a b : List Nat} (hd : ∀ z ∈ d, 0 < z) (hl : d.length ≤ 1000) (ha : a.length = d.length) (hb : b.length = d.length) : callN F T fuel (n + 1) i [pD d, pD a, pD b] s = .ok (pD (lessL d a b)) s := by
  refine wp_eq ?_
  rw [callN_has H rfl, wp_fin]
  have key := tup3_eq (s := s) (f := fun s x y => (((x : Int) - y).fmod s).toNat) (d := d) (a := a) (b := b) (ρ := [.fz (pD d), .fz (pD a), .fz (pD b), .un, .un, .un]) (elt := vBin .mod (vBlt T .int (lbCons (vBin .add (vBin .sub (vVar 3) (vVar 4)) (vVar 5)) fun x s => R.ok [] s)) (vVar 5)) (i1 := 3) (i2 := 4) (i3 := 5)
    (fun t => [.fz (pD d), .fz (pD a), .fz (pD b), .fz (nD t.1), .fz (nD t.2.1), .fz (nD t.2.2)]) (fun t => by simp) (by unfold lim; omega) fun t ht => by
      have h1 := (List.of_mem_zip (List.of_mem_zip ht).2).2
      have h0 : 0 < t.2.2 := hd _ h1
      have h2 : t.2.2 ≠ 0 := Nat.ne_of_gt h0
      have e := toNat_fmod (a := (t.1 : Int) - t.2.1) h0
      have e2 := fmod_add ((t.1 : Int) - t.2.1) t.2.2 h0
      simp [h2, e, e2]
  have l2 : (map3 (fun s x y => (((x : Int) - y).fmod s).toNat) d a b).length ≤ lim := by rw [map3_len ha hb]; unfold lim; omega
  simp [fdLawLess, start, zipOf, key, l2]
  rfl
def fdTimesOf : FD := ⟨3, 5, (.cn (.ret (.ti (.itv (.lc (.tt (.cn (.tg 3) (.cn (.tg 4) .nl))) (.itz (.cn (.vr 1) (.cn (.vr 0) .nl))) (.cb true) (.bin .mod (.bin .mul (.vr 3) (.vr 2)) (.vr 4)) [3, 4])))) .nl)⟩
theorem map2_len {f : Nat → Nat → Nat} : ∀ {d a : List Nat}, a.length = d.length → (map2 f d a).length = d.length
  | [], _, _ => by cases ‹List Nat› <;> rfl
  | _ :: _, [], h => by simp at h
  | _ :: d, _ :: a, h => by
    simp only [map2, List.length_cons]
    rw [map2_len (by simpa using h)]
theorem timesOf_eq (H : Has F i fdTimesOf) {d a : List Nat} {m : Int} (hd : ∀ z ∈ d, 0 < z) (hl : d.length ≤ 1000) (ha : a.length = d.length) (hm : mulOk m m = true) : callN F T fuel (n + 1) i [pD d, pD a, .int m] s = .ok (pD (timesL m d a)) s := by
  refine wp_eq ?_
  rw [callN_has H rfl, wp_fin]
  have key := tup2_eq (s := s) (f := fun s x => ((x * m).fmod s).toNat) (d := d) (a := a) (ρ := [.fz (pD d), .fz (pD a), .fz (.int m), .un, .un]) (elt := vBin .mod (vBin .mul (vVar 3) (vVar 2)) (vVar 4)) (i1 := 3) (i2 := 4)
    (fun t => [.fz (pD d), .fz (pD a), .fz (.int m), .fz (nD t.1), .fz (nD t.2)]) (fun t => by simp) (by unfold lim; omega) fun t ht => by
      have h0 : 0 < t.2 := hd _ (List.of_mem_zip ht).2
      have h2 : t.2 ≠ 0 := Nat.ne_of_gt h0
      have e := toNat_fmod (a := (t.1 : Int) * m) h0
      have hm2 : mulOk (t.1 : Int) m = true := by
        unfold mulOk at hm ⊢
        rw [Bool.or_self] at hm
        rw [hm, Bool.or_true]
      simp [h2, e, hm2]
  have l2 : (map2 (fun s x => (((x : Int) * m).fmod s).toNat) d a).length ≤ lim := by rw [map2_len ha]; unfold lim; omega
  simp [fdTimesOf, start, zipOf, key, l2]
  rfl
end
end MR.MS
set_option Elab.async false
set_option linter.all false
set_option maxRecDepth 100000
namespace MR.MS
open PySem
section
variable {F : List FD} {T : D → Option Str} {fuel i n k : Nat} {s : S}
def zeroL (d : List Nat) : List Nat := d.map fun _ => 0
theorem rep_zero : ∀ d : List Nat, rep [D.int 0] d.length = (zeroL d).map nD
  | [] => rfl
  | x :: d => by
    simp only [List.length_cons, rep, rep_zero d, zeroL, List.map_cons]
    rfl
def fdNothing : FD := ⟨1, 1, (.cn (.ret (.bin .mul (.tp (.cn (.ci 0) .nl)) (.blt .len (.cn (.vr 0) .nl)))) .nl)⟩
theorem nothing_eq (H : Has F i fdNothing) {d : List Nat} (h0 : 0 < d.length) (hl : d.length ≤ 1000) : callN F T fuel (n + 1) i [pD d] s = .ok (pD (zeroL d)) s := by
  refine wp_eq ?_
  rw [callN_has H rfl, wp_fin]
  have key : bin .mul (.tup [.int 0]) (.int (d.length : Int)) = some (.tup ((zeroL d).map nD)) := by
    rw [← rep_zero]
    show (if (d.length : Int) = 1 then some (D.tup [.int 0]) else if 2 ≤ (d.length : Int) ∧ (d.length : Int) ≤ 1000 ∧ [D.int 0].length ≤ 1000 ∧ [D.int 0].isEmpty = false then some (D.tup (rep [.int 0] (d.length : Int).toNat)) else none) = _
    by_cases h : d.length = 1
    · rw [if_pos (by omega), h]
      rfl
    · rw [if_neg (by omega), if_pos ⟨by omega, by omega, by simp, rfl⟩]
      rfl
  have l1 : 1 ≤ lim := by decide
  simp [fdNothing, start, key, l1]
def fdTotal (iN iP : Nat) : FD := ⟨2, 4, (.cn (.asg (.tg 2) (.call iN (.cn (.vr 0) .nl))) (.cn (.for_ (.tg 3) (.itv (.vr 1)) (.cn (.asg (.tg 2) (.call iP (.cn (.vr 0) (.cn (.vr 2) (.cn (.vr 3) .nl))))) .nl)) (.cn (.ret (.vr 2)) .nl)))⟩
/-- by any way of adding two places -/
theorem total_eq' {iN iP : Nat} (H : Has F i (fdTotal iN iP)) (HN : Has F iN fdNothing) {d : List Nat} (hP : ∀ a b s, isPl d a = true → isPl d b = true → callN F T fuel (n + 1) iP [pD d, pD a, pD b] s = .ok (pD (plusL d a b)) s)
    (hd : ∀ z ∈ d, 0 < z) (h0 : 0 < d.length) (hl : d.length ≤ 1000) {l : List (List Nat)} (hs : ∀ q ∈ l, isPl d q = true) {L : D} (hL : items L = some (l.map pD)) :
    callN F T fuel (n + 2) i [pD d, L] s = .ok (pD (totalL d l)) s := by
  refine wp_eq ?_
  rw [callN_has H rfl, wp_fin]
  have e0 := fun s => nothing_eq (T := T) (fuel := fuel) (n := n) (s := s) HN h0 hl
  simp [fdTotal, start, e0, hL]
  refine wp_mono (P := fun f s' => s' = s ∧ ∃ x, f = .nx [.fz (pD d), .fz L, .fz (pD (totalL d l)), x]) ?_ ?_
  · refine for_wp pD (fun rest ρ s' => s' = s ∧ (∀ q ∈ rest, isPl d q = true) ∧ ∃ p x, isPl d p = true ∧ rest.foldl (plusL d) p = totalL d l ∧ ρ = [.fz (pD d), .fz L, .fz (pD p), x]) ?_ ?_ l _ _ ⟨rfl, hs, zeroL d, _, isPl_zero hd, rfl, rfl⟩
    · rintro q rest ρ s' ⟨rfl, hq, p, x, hp, e, rfl⟩
      have hq1 := hq q (by simp)
      simp [hP p q _ hp hq1]
      exact ⟨fun r hr => hq r (by simp [hr]), plusL d p q, isPl_map3 (f := fun s x y => (x + y) % s) (fun s x y h => Nat.mod_lt _ h) hd (isPl_len hp) (isPl_len hq1), e, rfl⟩
    · rintro ρ s' ⟨rfl, _, p, x, hp, e, rfl⟩
      refine ⟨rfl, x, ?_⟩
      have e : p = totalL d l := e
      rw [e]
  · rintro f s' ⟨rfl, x, rfl⟩
    simp
end
end MR.MS
set_option Elab.async false
set_option linter.all false
set_option maxRecDepth 100000
namespace MR.MS
open PySem
section
variable {F : List FD} {T : D → Option Str} {fuel i n k : Nat} {s : S}
theorem inAll_pl : ∀ {d p : List Nat}, isPl d p = true → inAll (p.map nD) d = true
  | [], [], _ => rfl
  | [], _ :: _, h => by cases h
  | _ :: _, [], h => by cases h
  | z :: d, x :: p, h => by
    simp only [isPl, Bool.and_eq_true, decide_eq_true_eq] at h
    have ih := inAll_pl h.2
    unfold inAll at ih ⊢
    have hb : betw (nD x) 0 ((z : Int) - 1) = true := by
      show (decide ((0 : Int) ≤ (x : Int)) && decide ((x : Int) ≤ (z : Int) - 1)) = true
      simp only [Bool.and_eq_true, decide_eq_true_eq]
      exact ⟨by omega, by omega⟩
    simp only [List.map_cons, List.zip_cons_cons, List.all_cons, ih, Bool.and_true, hb]
theorem isPlace_ok {iB : Nat} (H : Has F i (fdIsPlace iB)) (HB : Has F iB fdBetween) {d p : List Nat} (hl : d.length ≤ 1000) (hp : isPl d p = true) : callN F T fuel (n + 2) i [pD d, pD p] s = .ok (.bl true) s := by
  rw [isPlace_tup H HB ok_nats (by unfold lim; omega), inAll_pl hp]
  simp [isPl_len hp]
def fdNeedPlace (iI c : Nat) (m : Str) : FD := ⟨2, 2, (.cn (.iff (.nt (.call iI (.cn (.vr 0) (.cn (.vr 1) .nl)))) (.cn (.rs c m) .nl) .nl) .nl)⟩
theorem needPlace_ok {iI iB c : Nat} {m : Str} (H : Has F i (fdNeedPlace iI c m)) (HI : Has F iI (fdIsPlace iB)) (HB : Has F iB fdBetween) {d p : List Nat} (hl : d.length ≤ 1000) (hp : isPl d p = true) : callN F T fuel (n + 3) i [pD d, pD p] s = .ok .non s := by
  have e := isPlace_ok (T := T) (fuel := fuel) (n := n) (s := s) HI HB hl hp
  refine wp_eq ?_
  rw [callN_has H rfl, wp_fin]
  simp [fdNeedPlace, start, e]
theorem needPlace_bad {iI iB c : Nat} {m : Str} (H : Has F i (fdNeedPlace iI c m)) (HI : Has F iI (fdIsPlace iB)) (HB : Has F iB fdBetween) {d : List Nat} {x : D} (hl : d.length ≤ 1000) (hx : BadP d x) : callN F T fuel (n + 3) i [pD d, x] s = .ex c [] s := by
  have e := isPlace_bad (T := T) (fuel := fuel) (n := n) (s := s) HI HB (by unfold lim; omega) hx
  rw [callN_has H rfl]
  simp [fdNeedPlace, start, e]
def fdNeedSeveral (iI c : Nat) (m : Str) : FD := ⟨2, 3, (.cn (.iff (.or (.nt (.isi (.vr 1) [.list, .tuple])) (.nt (.blt .all (.cn (.lc (.tg 2) (.itv (.vr 1)) (.cb true) (.call iI (.cn (.vr 0) (.cn (.vr 2) .nl))) [2]) .nl)))) (.cn (.rs c m) .nl) .nl) .nl)⟩
theorem needSeveral_ok {iI iB c : Nat} {m : Str} (H : Has F i (fdNeedSeveral iI c m)) (HI : Has F iI (fdIsPlace iB)) (HB : Has F iB fdBetween) {d : List Nat} {l : List (List Nat)} (hl : d.length ≤ 1000) (hll : l.length ≤ lim) (hp : ∀ q ∈ l, isPl d q = true) {L : D} (hL : L = .lst (l.map pD) ∨ L = .tup (l.map pD)) :
    callN F T fuel (n + 3) i [pD d, L] s = .ok .non s := by
  have key := lc_pure (tg := .tg 2) (ρ := [.fz (pD d), .fz L, .un]) (s := s) (cond := tv fun x s => R.ok (D.bl true) s) (elt := vCall (callN F T fuel (n + 2)) iI (lCons (evl1 (vVar 0)) (lCons (evl1 (vVar 2)) fun x s => R.ok [] s)))
    pD (fun q => [.fz (pD d), .fz L, .fz (pD q)]) (fun _ => true) (fun q => .bl true) (fun q => by simp) l [] (fun q _ => by simp) (fun q hq _ => by
      have e := isPlace_ok (T := T) (fuel := fuel) (n := n) (s := s) HI HB hl (hp q hq)
      simp [e]) (by simp; exact hll)
  have fl : l.filter (fun _ => true) = l := List.filter_eq_self.mpr (by simp)
  rw [fl] at key
  have tr : truths (l.map fun q => D.bl true) = some (l.map fun _ => true) := truths_bl (fun _ => true) l
  have al : (l.map fun _ => true).all id = true := by simp
  refine wp_eq ?_
  rw [callN_has H rfl, wp_fin]
  rcases hL with rfl | rfl
  · simp [fdNeedSeveral, start, isTyOk, isTy, key, tr, al]
  · simp [fdNeedSeveral, start, isTyOk, isTy, key, tr, al]
end
end MR.MS
set_option Elab.async false
set_option linter.all false
set_option maxRecDepth 100000
namespace MR.MS
open PySem
section
variable {F : List FD} {T : D → Option Str} {fuel i n k : Nat} {s : S}
/-- a place, asked of any value -/
def plB (d : List Nat) : D → Bool
  | .tup xs => decide (xs.length = d.length) && inAll xs d
  | _ => false
def okP (x : D) : Prop := okD x ∧ ∀ xs, x = .tup xs → ∀ y ∈ xs, okD y
theorem isPlace_gen {iB : Nat} (H : Has F i (fdIsPlace iB)) (HB : Has F iB fdBetween) {x : D} {d : List Nat} (hl : d.length ≤ 1000) (h : okP x) : callN F T fuel (n + 2) i [pD d, x] s = .ok (.bl (plB d x)) s := by
  obtain ⟨h1, h2⟩ := h
  cases x with
  | tup xs => exact isPlace_tup H HB (h2 xs rfl) (by unfold lim; omega)
  | _ => exact isPlace_no H h1 (by intro xs h; cases h)
theorem BadP.okP {d : List Nat} {x : D} (h : BadP d x) : okP x := by
  obtain ⟨h1, h | ⟨xs, rfl, h2, _⟩⟩ := h
  · exact ⟨h1, fun xs e => absurd e (h xs)⟩
  · exact ⟨h1, fun ys e => by cases e; exact h2⟩
theorem BadP.plB {d : List Nat} {x : D} (h : BadP d x) : plB d x = false := by
  obtain ⟨h1, h | ⟨xs, rfl, h2, h3⟩⟩ := h
  · cases x with
    | tup xs => exact absurd rfl (h xs)
    | _ => rfl
  · show (decide (xs.length = d.length) && inAll xs d) = false
    rcases h3 with h3 | h3
    · simp [h3]
    · simp [h3]
theorem okP_pl {p : List Nat} : okP (pD p) := ⟨okD_of rfl, fun xs e => by cases e; exact ok_nats⟩
theorem plB_pl {d p : List Nat} (h : isPl d p = true) : plB d (pD p) = true := by
  show (decide ((p.map nD).length = d.length) && inAll (p.map nD) d) = true
  rw [inAll_pl h]
  simp [isPl_len h]
theorem needSeveral_bad {iI iB c : Nat} {m : Str} (H : Has F i (fdNeedSeveral iI c m)) (HI : Has F iI (fdIsPlace iB)) (HB : Has F iB fdBetween) {d : List Nat} {xs : List D} (hl : d.length ≤ 1000) (hll : xs.length ≤ lim) (hp : ∀ x ∈ xs, okP x) (hb : xs.all (plB d) = false) {L : D} (hL : L = .lst xs ∨ L = .tup xs) :
    callN F T fuel (n + 3) i [pD d, L] s = .ex c [] s := by
  have key := lc_pure (tg := .tg 2) (ρ := [.fz (pD d), .fz L, .un]) (s := s) (cond := tv fun x s => R.ok (D.bl true) s) (elt := vCall (callN F T fuel (n + 2)) iI (lCons (evl1 (vVar 0)) (lCons (evl1 (vVar 2)) fun x s => R.ok [] s)))
    id (fun q => [.fz (pD d), .fz L, .fz q]) (fun _ => true) (fun q => .bl (plB d q)) (fun q => by simp) xs [] (fun q _ => by simp) (fun q hq _ => by
      have e := isPlace_gen (T := T) (fuel := fuel) (n := n) (s := s) HI HB hl (hp q hq)
      simp [e]) (by simp; exact hll)
  have fl : xs.filter (fun _ => true) = xs := List.filter_eq_self.mpr (by simp)
  rw [fl, List.map_id] at key
  have tr : truths (xs.map fun q => D.bl (plB d q)) = some (xs.map (plB d)) := truths_bl (plB d) xs
  have al : (xs.map (plB d)).all id = false := by rw [List.all_map]; exact hb
  rw [callN_has H rfl]
  rcases hL with rfl | rfl
  · simp [fdNeedSeveral, start, isTyOk, isTy, key, tr, al, -List.all_map]
  · simp [fdNeedSeveral, start, isTyOk, isTy, key, tr, al, -List.all_map]
theorem needSeveral_no {iI c : Nat} {m : Str} (H : Has F i (fdNeedSeveral iI c m)) {d : List Nat} {L : D} (ho : okD L) (h1 : ∀ xs, L ≠ .lst xs) (h2 : ∀ xs, L ≠ .tup xs) : callN F T fuel (n + 1) i [pD d, L] s = .ex c [] s := by
  rw [callN_has H rfl]
  obtain ⟨o1, o2⟩ := ho
  cases L with
  | lst xs => exact absurd rfl (h1 xs)
  | tup xs => exact absurd rfl (h2 xs)
  | cell k => exact absurd rfl (o2 k)
  | exc _ _ => cases o1
  | set _ => cases o1
  | scr _ => cases o1
  | _ => simp [fdNeedSeveral, start, isTyOk, isTy]
/-- plus, less -/
def fdSum2 (iN iP iO : Nat) : FD := ⟨3, 3, (.cn (.exs (.call iN (.cn (.vr 0) .nl))) (.cn (.exs (.call iP (.cn (.vr 0) (.cn (.vr 1) .nl)))) (.cn (.exs (.call iP (.cn (.vr 0) (.cn (.vr 2) .nl)))) (.cn (.ret (.call iO (.cn (.vr 0) (.cn (.vr 1) (.cn (.vr 2) .nl))))) .nl))))⟩
section
variable {iN iP iO iI iB c : Nat} {m : Str} {d a b : List Nat}
theorem sum2_ok (H : Has F i (fdSum2 iN iP iO)) (HP : Has F iP (fdNeedPlace iI c m)) (HI : Has F iI (fdIsPlace iB)) (HB : Has F iB fdBetween) (hN : ∀ s, callN F T fuel (n + 3) iN [pD d] s = .ok .non s) {x : D} (hO : callN F T fuel (n + 3) iO [pD d, pD a, pD b] s = .ok x s)
    (hl : d.length ≤ 1000) (ha : isPl d a = true) (hb : isPl d b = true) : callN F T fuel (n + 4) i [pD d, pD a, pD b] s = .ok x s := by
  have e1 := needPlace_ok (T := T) (fuel := fuel) (n := n) (s := s) HP HI HB hl ha
  have e2 := needPlace_ok (T := T) (fuel := fuel) (n := n) (s := s) HP HI HB hl hb
  refine wp_eq ?_
  rw [callN_has H rfl, wp_fin]
  simp [fdSum2, start, hN, e1, e2, hO]
theorem sum2_bad1 (H : Has F i (fdSum2 iN iP iO)) (HP : Has F iP (fdNeedPlace iI c m)) (HI : Has F iI (fdIsPlace iB)) (HB : Has F iB fdBetween) (hN : ∀ s, callN F T fuel (n + 3) iN [pD d] s = .ok .non s) {x y : D}
    (hl : d.length ≤ 1000) (hx : BadP d x) : callN F T fuel (n + 4) i [pD d, x, y] s = .ex c [] s := by
  have e1 := needPlace_bad (T := T) (fuel := fuel) (n := n) (s := s) HP HI HB hl hx
  rw [callN_has H rfl]
  simp [fdSum2, start, hN, e1]
theorem sum2_bad2 (H : Has F i (fdSum2 iN iP iO)) (HP : Has F iP (fdNeedPlace iI c m)) (HI : Has F iI (fdIsPlace iB)) (HB : Has F iB fdBetween) (hN : ∀ s, callN F T fuel (n + 3) iN [pD d] s = .ok .non s) {x : D}
    (hl : d.length ≤ 1000) (ha : isPl d a = true) (hx : BadP d x) : callN F T fuel (n + 4) i [pD d, pD a, x] s = .ex c [] s := by
  have e1 := needPlace_ok (T := T) (fuel := fuel) (n := n) (s := s) HP HI HB hl ha
  have e2 := needPlace_bad (T := T) (fuel := fuel) (n := n) (s := s) HP HI HB hl hx
  rw [callN_has H rfl]
  simp [fdSum2, start, hN, e1, e2]
def fdTimes (iN iP iB iO c2 : Nat) (m2 : Str) : FD := ⟨3, 3, (.cn (.exs (.call iN (.cn (.vr 0) .nl))) (.cn (.exs (.call iP (.cn (.vr 0) (.cn (.vr 1) .nl)))) (.cn (.iff (.nt (.call iB (.cn (.vr 2) (.cn (.neg (.gc "MOST_NUMBER" 999999999)) (.cn (.gc "MOST_NUMBER" 999999999) .nl))))) (.cn (.rs c2 m2) .nl) .nl) (.cn (.ret (.call iO (.cn (.vr 0) (.cn (.vr 1) (.cn (.vr 2) .nl))))) .nl))))⟩
theorem times_ok {c2 : Nat} {m2 : Str} (H : Has F i (fdTimes iN iP iB iO c2 m2)) (HP : Has F iP (fdNeedPlace iI c m)) (HI : Has F iI (fdIsPlace iB)) (HB : Has F iB fdBetween) (HO : Has F iO fdTimesOf) (hN : ∀ s, callN F T fuel (n + 3) iN [pD d] s = .ok .non s)
    (hl : d.length ≤ 1000) (hd : ∀ z ∈ d, 0 < z) (ha : isPl d a = true) {j : Int} (h1 : -999999999 ≤ j) (h2 : j ≤ 999999999) : callN F T fuel (n + 4) i [pD d, pD a, .int j] s = .ok (pD (timesL j d a)) s := by
  have e1 := needPlace_ok (T := T) (fuel := fuel) (n := n) (s := s) HP HI HB hl ha
  have e2 := between_eq (T := T) (fuel := fuel) (n := n + 2) (s := s) HB (d := .int j) (lo := -999999999) (hi := 999999999) rfl (by intro k h; cases h)
  have e3 : betw (.int j) (-999999999) 999999999 = true := by simp [betw, h1, h2]
  have e4 := timesOf_eq (T := T) (fuel := fuel) (n := n + 2) (s := s) HO hd hl (isPl_len ha) (m := j) (mulOk_l (by omega) (by omega))
  rw [e3] at e2
  refine wp_eq ?_
  rw [callN_has H rfl, wp_fin]
  simp [fdTimes, start, hN, e1, e2, e4]
theorem times_bad1 {c2 : Nat} {m2 : Str} (H : Has F i (fdTimes iN iP iB iO c2 m2)) (HP : Has F iP (fdNeedPlace iI c m)) (HI : Has F iI (fdIsPlace iB)) (HB : Has F iB fdBetween) (hN : ∀ s, callN F T fuel (n + 3) iN [pD d] s = .ok .non s)
    (hl : d.length ≤ 1000) {x y : D} (hx : BadP d x) : callN F T fuel (n + 4) i [pD d, x, y] s = .ex c [] s := by
  have e1 := needPlace_bad (T := T) (fuel := fuel) (n := n) (s := s) HP HI HB hl hx
  rw [callN_has H rfl]
  simp [fdTimes, start, hN, e1]
theorem times_bad2 {c2 : Nat} {m2 : Str} (H : Has F i (fdTimes iN iP iB iO c2 m2)) (HP : Has F iP (fdNeedPlace iI c m)) (HI : Has F iI (fdIsPlace iB)) (HB : Has F iB fdBetween) (hN : ∀ s, callN F T fuel (n + 3) iN [pD d] s = .ok .non s)
    (hl : d.length ≤ 1000) (ha : isPl d a = true) {y : D} (hy : okD y) (hb : betw y (-999999999) 999999999 = false) : callN F T fuel (n + 4) i [pD d, pD a, y] s = .ex c2 [] s := by
  have e1 := needPlace_ok (T := T) (fuel := fuel) (n := n) (s := s) HP HI HB hl ha
  have e2 := between_eq (T := T) (fuel := fuel) (n := n + 2) (s := s) HB (d := y) (lo := -999999999) (hi := 999999999) hy.1 hy.2
  rw [hb] at e2
  rw [callN_has H rfl]
  simp [fdTimes, start, hN, e1, e2]
def fdTotalP (iN iS iT : Nat) : FD := ⟨2, 2, (.cn (.exs (.call iN (.cn (.vr 0) .nl))) (.cn (.exs (.call iS (.cn (.vr 0) (.cn (.vr 1) .nl)))) (.cn (.ret (.call iT (.cn (.vr 0) (.cn (.vr 1) .nl)))) .nl)))⟩
theorem totalP_ok {iS iT iZ iQ : Nat} (H : Has F i (fdTotalP iN iS iT)) (HS : Has F iS (fdNeedSeveral iI c m)) (HI : Has F iI (fdIsPlace iB)) (HB : Has F iB fdBetween) (HT : Has F iT (fdTotal iZ iQ)) (HZ : Has F iZ fdNothing) (HQ : Has F iQ fdPlusOf) (hN : ∀ s, callN F T fuel (n + 3) iN [pD d] s = .ok .non s)
    (hl : d.length ≤ 1000) (h0 : 0 < d.length) (hd : ∀ z ∈ d, 0 < z) {l : List (List Nat)} (hp : ∀ q ∈ l, isPl d q = true) (hll : l.length ≤ lim) {L : D} (hL : L = .lst (l.map pD) ∨ L = .tup (l.map pD)) : callN F T fuel (n + 4) i [pD d, L] s = .ok (pD (totalL d l)) s := by
  have e1 := needSeveral_ok (T := T) (fuel := fuel) (n := n) (s := s) HS HI HB hl hll hp hL
  have hI : items L = some (l.map pD) := by rcases hL with rfl | rfl <;> rfl
  have e2 := total_eq' (T := T) (fuel := fuel) (n := n + 1) (s := s) HT HZ (d := d) (fun a b s ha hb => plusOf_eq HQ hd hl (isPl_len ha) (isPl_len hb)) hd h0 hl hp hI
  refine wp_eq ?_
  rw [callN_has H rfl, wp_fin]
  simp [fdTotalP, start, hN, e1, e2]
theorem totalP_bad {iS iT : Nat} (H : Has F i (fdTotalP iN iS iT)) (hN : ∀ s, callN F T fuel n iN [pD d] s = .ok .non s) {L : D} (hS : callN F T fuel n iS [pD d, L] s = .ex c [] s) : callN F T fuel (n + 1) i [pD d, L] s = .ex c [] s := by
  rw [callN_has H rfl]
  simp [fdTotalP, start, hN, hS]
end
end
end MR.MS
set_option Elab.async false
set_option linter.all false
set_option maxRecDepth 100000
namespace MR.MS
open PySem
def fdP_are_dials (i_is_between : Nat) (i_count_of : Nat) : FD := ⟨1, 2, (.cn (.iff (.or (.nt (.isi (.vr 0) [.tuple])) (.nt (.cm2 .le .le (.ci 1) (.blt .len (.cn (.vr 0) .nl)) (.gc "MOST_DIALS" 4)))) (.cn (.ret (.cb false)) .nl) .nl) (.cn (.ret (.an (.blt .all (.cn (.lc (.tg 1) (.itv (.vr 0)) (.cb true) (.call i_is_between (.cn (.vr 1) (.cn (.ci 2) (.cn (.gc "MOST_PLACES" 24) .nl)))) [1]) .nl)) (.cmp .le (.call i_count_of (.cn (.vr 0) .nl)) (.gc "MOST_PLACES" 24)))) .nl))⟩
def fdP_count_of : FD := ⟨1, 3, (.cn (.asg (.tg 1) (.ci 1)) (.cn (.for_ (.tg 2) (.itv (.vr 0)) (.cn (.asg (.tg 1) (.bin .mul (.vr 1) (.vr 2))) .nl)) (.cn (.ret (.vr 1)) .nl)))⟩
def fdP_need_dials (i_are_dials : Nat) (c_BadDials : Nat) : FD := ⟨1, 1, (.cn (.iff (.nt (.call i_are_dials (.cn (.vr 0) .nl))) (.cn (.rs c_BadDials "no dials") .nl) .nl) .nl)⟩
def fdP_picks_of : FD := ⟨1, 5, (.cn (.asgo 1 (.ls (.cn (.tp .nl) .nl))) (.cn (.for_ (.tg 2) (.itv (.vr 0)) (.cn (.asgo 1 (.lc2 (.tg 3) (.itv (.br 1)) (.cb true) (.tg 4) (.itv (.vr 2)) (.cb true) (.tp (.cn (.st (.vr 3)) (.cn (.vr 4) .nl))) [3, 4] [4])) .nl)) (.cn (.rmv 1) .nl)))⟩
def fdP_places_of (i_picks_of : Nat) : FD := ⟨1, 2, (.cn (.ret (.call i_picks_of (.cn (.lc (.tg 1) (.itv (.vr 0)) (.cb true) (.li (.itr (.cn (.vr 1) .nl))) [1]) .nl))) .nl)⟩
def fdL_places : FD := ⟨1, 6, (.cn (.asg (.tg 1) (.ls (.cn (.tp .nl) .nl))) (.cn (.for_ (.tg 2) (.itv (.vr 0)) (.cn (.asg (.tg 3) (.ls .nl)) (.cn (.for_ (.tg 4) (.itv (.vr 1)) (.cn (.asg (.tg 3) (.bin .add (.vr 3) (.lc (.tg 5) (.itr (.cn (.vr 2) .nl)) (.cb true) (.bin .add (.vr 4) (.tp (.cn (.vr 5) .nl))) [5]))) .nl)) (.cn (.asg (.tg 1) (.vr 3)) .nl)))) (.cn (.ret (.vr 1)) .nl)))⟩
def fdL_dials (iL_pick : Nat) (iL_count : Nat) : FD := ⟨2, 4, (.cn (.asg (.tg 2) (.ls (.cn (.tp (.cn (.ci 2) .nl)) (.cn (.tp (.cn (.ci 3) .nl)) (.cn (.tp (.cn (.ci 4) .nl)) (.cn (.tp (.cn (.ci 2) (.cn (.ci 2) .nl))) (.cn (.tp (.cn (.ci 5) .nl)) (.cn (.tp (.cn (.ci 6) .nl)) (.cn (.tp (.cn (.ci 2) (.cn (.ci 3) .nl))) (.cn (.tp (.cn (.ci 7) .nl)) (.cn (.tp (.cn (.ci 8) .nl)) (.cn (.tp (.cn (.ci 2) (.cn (.ci 4) .nl))) (.cn (.tp (.cn (.ci 2) (.cn (.ci 2) (.cn (.ci 2) .nl)))) (.cn (.tp (.cn (.ci 9) .nl)) (.cn (.tp (.cn (.ci 3) (.cn (.ci 3) .nl))) (.cn (.tp (.cn (.ci 10) .nl)) (.cn (.tp (.cn (.ci 11) .nl)) (.cn (.tp (.cn (.ci 12) .nl)) .nl)))))))))))))))))) (.cn (.asg (.tg 2) (.bin .add (.vr 2) (.ls (.cn (.tp (.cn (.ci 2) (.cn (.ci 6) .nl))) (.cn (.tp (.cn (.ci 3) (.cn (.ci 4) .nl))) (.cn (.tp (.cn (.ci 13) .nl)) (.cn (.tp (.cn (.ci 14) .nl)) (.cn (.tp (.cn (.ci 15) .nl)) (.cn (.tp (.cn (.ci 3) (.cn (.ci 5) .nl))) (.cn (.tp (.cn (.ci 16) .nl)) (.cn (.tp (.cn (.ci 4) (.cn (.ci 4) .nl))) (.cn (.tp (.cn (.ci 2) (.cn (.ci 8) .nl))) (.cn (.tp (.cn (.ci 2) (.cn (.ci 2) (.cn (.ci 4) .nl)))) (.cn (.tp (.cn (.ci 2) (.cn (.ci 2) (.cn (.ci 2) (.cn (.ci 2) .nl))))) (.cn (.tp (.cn (.ci 17) .nl)) (.cn (.tp (.cn (.ci 18) .nl)) (.cn (.tp (.cn (.ci 3) (.cn (.ci 6) .nl))) .nl))))))))))))))))) (.cn (.asg (.tg 2) (.bin .add (.vr 2) (.ls (.cn (.tp (.cn (.ci 19) .nl)) (.cn (.tp (.cn (.ci 20) .nl)) (.cn (.tp (.cn (.ci 2) (.cn (.ci 10) .nl))) (.cn (.tp (.cn (.ci 21) .nl)) (.cn (.tp (.cn (.ci 22) .nl)) (.cn (.tp (.cn (.ci 23) .nl)) (.cn (.tp (.cn (.ci 24) .nl)) (.cn (.tp (.cn (.ci 2) (.cn (.ci 12) .nl))) (.cn (.tp (.cn (.ci 4) (.cn (.ci 6) .nl))) (.cn (.tp (.cn (.ci 2) (.cn (.ci 2) (.cn (.ci 6) .nl)))) (.cn (.tp (.cn (.ci 2) (.cn (.ci 2) (.cn (.ci 2) (.cn (.ci 3) .nl))))) .nl)))))))))))))) (.cn (.ret (.call iL_pick (.cn (.vr 0) (.cn (.lc (.tg 3) (.itv (.vr 2)) (.cmp .le (.call iL_count (.cn (.vr 3) .nl)) (.vr 1)) (.vr 3) [3]) .nl)))) .nl))))⟩
def fdL_bad_dials (iL_pick : Nat) : FD := ⟨1, 1, (.cn (.ret (.call iL_pick (.cn (.vr 0) (.cn (.ls (.cn .cnn (.cn (.tp .nl) (.cn (.ls (.cn (.ci 2) (.cn (.ci 3) .nl))) (.cn (.tp (.cn (.ci 1) (.cn (.ci 3) .nl))) (.cn (.tp (.cn (.ci 0) .nl)) (.cn (.tp (.cn (.ci 25) .nl)) (.cn (.tp (.cn (.ci 5) (.cn (.ci 5) .nl))) (.cn (.tp (.cn (.ci 2) (.cn (.ci 2) (.cn (.ci 2) (.cn (.ci 2) (.cn (.ci 2) .nl)))))) (.cn (.tp (.cn (.cb true) (.cn (.ci 3) .nl))) (.cn (.cs "23") (.cn (.ci 6) (.cn (.tp (.cn (.neg (.ci 2)) .nl)) (.cn (.dsp .nl .nl) .nl)))))))))))))) .nl)))) .nl)⟩
def fdP_places (i_need_dials : Nat) (i_places_of : Nat) : FD := ⟨1, 1, (.cn (.exs (.call i_need_dials (.cn (.vr 0) .nl))) (.cn (.ret (.call i_places_of (.cn (.vr 0) .nl))) .nl))⟩
def prodL (d : List Nat) : Nat := d.foldl (· * ·) 1
structure DOk (d : List Nat) : Prop where
  ge : ∀ z ∈ d, 2 ≤ z
  le : ∀ z ∈ d, z ≤ 24
  n1 : 1 ≤ d.length
  n4 : d.length ≤ 4
  c : prodL d ≤ 24
theorem DOk.pos {d : List Nat} (h : DOk d) : ∀ z ∈ d, 0 < z := fun z hz => by have := h.ge z hz; omega
theorem DOk.lim {d : List Nat} (h : DOk d) : d.length ≤ lim := by have := h.n4; unfold MR.lim; omega
theorem DOk.th {d : List Nat} (h : DOk d) : d.length ≤ 1000 := by have := h.n4; omega
theorem DOk.pos2 {d : List Nat} (h : DOk d) : ∀ z ∈ d, 0 < z ∧ z < 1073741824 := fun z hz => by have := h.ge z hz; have := h.le z hz; omega
section
variable {F : List FD} {T : D → Option Str} {fuel i n k : Nat} {s : S}
theorem countOf_eq [H : Has F i fdP_count_of] {d : List Nat} (hd : ∀ z ∈ d, z < 1000000) : callN F T fuel (n + 1) i [pD d] s = .ok (nD (prodL d)) s := by
  refine wp_eq ?_
  rw [callN_has H rfl, wp_fin]
  simp [fdP_count_of, start]
  refine wp_mono (P := fun f s' => s' = s ∧ ∃ x, f = .nx [.fz (pD d), .fz (nD (prodL d)), x]) ?_ ?_
  · refine for_wp nD (fun rest ρ s' => s' = s ∧ (∀ z ∈ rest, z < 1000000) ∧ ∃ (p : Nat) (x : Sl), rest.foldl (· * ·) p = prodL d ∧ ρ = [.fz (pD d), .fz (nD p), x]) ?_ ?_ d _ _ ⟨rfl, hd, 1, .un, rfl, rfl⟩
    · rintro q rest ρ s' ⟨rfl, hq, p, x, e, rfl⟩
      have hq1 := hq q (by simp)
      have hm : mulOk (p : Int) (q : Int) = true := mulOk_r (by omega) (by omega)
      simp [hm]
      exact ⟨fun r hr => hq r (by simp [hr]), p * q, by simpa using e, by simp⟩
    · rintro ρ s' ⟨rfl, _, p, x, e, rfl⟩
      have e : p = prodL d := e
      exact ⟨rfl, x, by rw [e]⟩
  · rintro f s' ⟨rfl, x, rfl⟩
    simp
theorem betw_all : ∀ {xs : List D}, xs.all (fun x => betw x 2 24) = true → ∃ d : List Nat, xs = d.map nD ∧ (∀ z ∈ d, 2 ≤ z ∧ z ≤ 24)
  | [], _ => ⟨[], rfl, by simp⟩
  | x :: xs, h => by
    simp only [List.all_cons, Bool.and_eq_true] at h
    obtain ⟨d, e, hd⟩ := betw_all h.2
    cases x with
    | int j =>
      have h1 := h.1
      simp [betw] at h1
      refine ⟨j.toNat :: d, by rw [e]; simp [nD]; omega, ?_⟩
      intro z hz
      rcases List.mem_cons.mp hz with rfl | hz
      · omega
      · exact hd z hz
    | _ => simp [betw] at h
def dialsB (xs : List D) : Bool := decide (1 ≤ xs.length) && decide (xs.length ≤ 4) && xs.all (fun x => betw x 2 24)
theorem areDials_tup {iB iC : Nat} [H : Has F i (fdP_are_dials iB iC)] [HB : Has F iB fdBetween] [HC : Has F iC fdP_count_of] {xs : List D} (hx : ∀ x ∈ xs, okD x) (hl : xs.length ≤ lim) :
    callN F T fuel (n + 2) i [.tup xs] s = if dialsB xs = true then callN F T fuel (n + 2) i [.tup xs] s else .ok (.bl false) s := by
  split
  · rfl
  rename_i hb
  refine wp_eq ?_
  rw [callN_has H rfl, wp_fin]
  have h1 : isTyOk (.tup xs) = true := rfl
  have h2 : isTy (.tup xs) .tuple = true := rfl
  have key := lc_pure (tg := .tg 1) (ρ := [.fz (.tup xs), .un]) (s := s) (cond := tv fun x s => R.ok (D.bl true) s)
      (elt := vCall (callN F T fuel (n + 1)) iB (lCons (evl1 (vVar 1)) (lCons (evl1 fun x s => R.ok (D.int 2) s) (lCons (evl1 fun x s => R.ok (D.int 24) s) fun x s => R.ok [] s))))
      id (fun p => [.fz (.tup xs), .fz p]) (fun _ => true) (fun p => .bl (betw p 2 24)) (fun p => by simp) xs [] (fun p _ => by simp) (fun p hp _ => by
        obtain ⟨a, b⟩ := hx p hp
        have := between_eq (n := n) (T := T) (fuel := fuel) (s := s) HB (lo := 2) (hi := 24) a b
        simp [this]) (by simp; exact hl)
  rw [List.map_id] at key
  have tr : truths (xs.map fun q => D.bl (betw q 2 24)) = some (xs.map fun q => betw q 2 24) := truths_bl (fun q => betw q 2 24) xs
  have fl : xs.filter (fun _ => true) = xs := List.filter_eq_self.mpr (by simp)
  rw [fl] at key
  by_cases c1 : 1 ≤ xs.length
  · by_cases c2 : xs.length ≤ 4
    · have c3 : xs.all (fun x => betw x 2 24) = false := by
        cases h : xs.all (fun x => betw x 2 24) with
        | false => rfl
        | true => exact absurd (by simp [dialsB, c1, c2]; simpa using h) hb
      have al : (xs.map fun q => betw q 2 24).all id = false := by rw [List.all_map]; exact c3
      have c1' : (1 : Int) ≤ xs.length := by omega
      have c2' : (xs.length : Int) ≤ 4 := by omega
      simp [fdP_are_dials, start, h1, h2, c1', c2', key, tr, al, -List.all_map]
    · have c1' : (1 : Int) ≤ xs.length := by omega
      have c2' : ¬ (xs.length : Int) ≤ 4 := by omega
      simp [fdP_are_dials, start, h1, h2, c1', c2']
  · have c1' : ¬ (1 : Int) ≤ xs.length := by omega
    simp [fdP_are_dials, start, h1, h2, c1']
theorem areDials_nat {iB iC : Nat} [H : Has F i (fdP_are_dials iB iC)] [HB : Has F iB fdBetween] [HC : Has F iC fdP_count_of] {d : List Nat} (h1 : 1 ≤ d.length) (h4 : d.length ≤ 4) (hd : ∀ z ∈ d, 2 ≤ z ∧ z ≤ 24) :
    callN F T fuel (n + 2) i [pD d] s = .ok (.bl (decide (prodL d ≤ 24))) s := by
  refine wp_eq ?_
  rw [callN_has H rfl, wp_fin]
  have i1 : isTyOk (pD d) = true := rfl
  have i2 : isTy (pD d) .tuple = true := rfl
  have key := lc_pure (tg := .tg 1) (ρ := [.fz (pD d), .un]) (s := s) (cond := tv fun x s => R.ok (D.bl true) s)
      (elt := vCall (callN F T fuel (n + 1)) iB (lCons (evl1 (vVar 1)) (lCons (evl1 fun x s => R.ok (D.int 2) s) (lCons (evl1 fun x s => R.ok (D.int 24) s) fun x s => R.ok [] s))))
      nD (fun p => [.fz (pD d), .fz (nD p)]) (fun _ => true) (fun p => .bl true) (fun p => by simp) d [] (fun p _ => by simp) (fun p hp _ => by
        have := between_eq (n := n) (T := T) (fuel := fuel) (s := s) HB (d := nD p) (lo := 2) (hi := 24) rfl (by intro k h; cases h)
        have hb : betw (nD p) 2 24 = true := by
          have := hd p hp
          simp [betw]; omega
        rw [hb] at this
        simp [this]) (by simp; unfold lim; omega)
  have fl : d.filter (fun _ => true) = d := List.filter_eq_self.mpr (by simp)
  rw [fl] at key
  have tr : truths (d.map fun q => D.bl true) = some (d.map fun _ => true) := truths_bl (fun _ => true) d
  have al : (d.map fun _ => true).all id = true := by simp
  have c1' : (1 : Int) ≤ d.length := by omega
  have c2' : (d.length : Int) ≤ 4 := by omega
  have ec := countOf_eq (F := F) (T := T) (fuel := fuel) (n := n) (i := iC) (s := s) (d := d) (fun z hz => by have := hd z hz; omega)
  simp [fdP_are_dials, start, i1, i2, c1', c2', key, tr, al, ec]
  omega
theorem areDials_no {iB iC : Nat} [H : Has F i (fdP_are_dials iB iC)] {x : D} (hx : okD x) (ht : ∀ xs, x ≠ .tup xs) :
    callN F T fuel (n + 1) i [x] s = .ok (.bl false) s := by
  refine wp_eq ?_
  rw [callN_has H rfl, wp_fin]
  obtain ⟨h1, h2⟩ := hx
  cases x with
  | tup xs => exact absurd rfl (ht xs)
  | cell k => exact absurd rfl (h2 k)
  | exc _ _ => cases h1
  | set _ => cases h1
  | scr _ => cases h1
  | _ => simp [fdP_are_dials, start, isTyOk, isTy]
@[simp] theorem needDials_ok {iA iB iC c : Nat} [H : Has F i (fdP_need_dials iA c)] [HA : Has F iA (fdP_are_dials iB iC)] [HB : Has F iB fdBetween] [HC : Has F iC fdP_count_of] {d : List Nat} (hd : DOk d) :
    callN F T fuel (n + 3) i [pD d] s = .ok .non s := by
  have e := areDials_nat (F := F) (T := T) (fuel := fuel) (n := n) (s := s) (i := iA) (iB := iB) (iC := iC) hd.n1 hd.n4 (fun z hz => ⟨hd.ge z hz, hd.le z hz⟩)
  refine wp_eq ?_
  rw [callN_has H rfl, wp_fin]
  have := hd.c
  simp [fdP_need_dials, start, e, this]
/-- no dials -/
def badD : List D := [.non, .tup [], .lst [.int 2, .int 3], .tup [.int 1, .int 3], .tup [.int 0], .tup [.int 25], .tup [.int 5, .int 5], .tup [.int 2, .int 2, .int 2, .int 2, .int 2], .tup [.bl true, .int 3], .str "23", .int 6, .tup [.int (-2)], .dic [] []]
theorem needDials_bad {iA iB iC c : Nat} [H : Has F i (fdP_need_dials iA c)] [HA : Has F iA (fdP_are_dials iB iC)] [HB : Has F iB fdBetween] [HC : Has F iC fdP_count_of] {w : D} (hw : w ∈ badD) :
    callN F T fuel (n + 3) i [w] s = .ex c [] s := by
  have e : callN F T fuel (n + 2) iA [w] s = .ok (.bl false) s := by
    have tu : ∀ xs : List D, (∀ x ∈ xs, okD x) → xs.length ≤ lim → dialsB xs = false → callN F T fuel (n + 2) iA [.tup xs] s = .ok (.bl false) s := fun xs h1 h2 h3 => by
      rw [areDials_tup (iB := iB) (iC := iC) h1 h2, if_neg (by simp [h3])]
    have no : ∀ x : D, okD x → (∀ xs, x ≠ .tup xs) → callN F T fuel (n + 2) iA [x] s = .ok (.bl false) s := fun x h1 h2 => areDials_no (iB := iB) (iC := iC) h1 h2
    simp only [badD, List.mem_cons, List.not_mem_nil, or_false] at hw
    have ok2 : ∀ a b : D, okD a → okD b → ∀ x ∈ [a, b], okD x := by
      intro a b ha hb x hx
      simp at hx
      rcases hx with rfl | rfl <;> assumption
    have ok1 : ∀ a : D, okD a → ∀ x ∈ [a], okD x := by
      intro a ha x hx
      simp at hx
      rw [hx]; exact ha
    have l2 : 2 ≤ lim := by decide
    have l1 : 1 ≤ lim := by decide
    have l5 : 5 ≤ lim := by decide
    rcases hw with rfl | rfl | rfl | rfl | rfl | rfl | rfl | rfl | rfl | rfl | rfl | rfl | rfl
    · exact no _ (okD_of rfl) (by intro xs h; cases h)
    · exact tu _ (by simp) (by simp) rfl
    · exact no _ (okD_of rfl) (by intro xs h; cases h)
    · exact tu _ (ok2 _ _ (okD_of rfl) (okD_of rfl)) l2 rfl
    · exact tu _ (ok1 _ (okD_of rfl)) l1 rfl
    · exact tu _ (ok1 _ (okD_of rfl)) l1 rfl
    · have := areDials_nat (F := F) (T := T) (fuel := fuel) (n := n) (s := s) (i := iA) (iB := iB) (iC := iC) (d := [5, 5]) (by decide) (by decide) (by decide)
      exact this
    · exact tu _ (fun x hx => by simp at hx; rw [hx]; exact okD_of rfl) l5 rfl
    · exact tu _ (ok2 _ _ (okD_of rfl) (okD_of rfl)) l2 rfl
    · exact no _ (okD_of rfl) (by intro xs h; cases h)
    · exact no _ (okD_of rfl) (by intro xs h; cases h)
    · exact tu _ (ok1 _ (okD_of rfl)) l1 rfl
    · exact no _ (okD_of rfl) (by intro xs h; cases h)
  rw [callN_has H rfl]
  simp [fdP_need_dials, start, e]
theorem badDials_wp {iK iD : Nat} [H : Has F i (fdL_bad_dials iK)] [HK : Has F iK (fdPick iD)] [HD : Has F iD fdDraw] (hf : 65 ≤ fuel) (hk : k ≤ 9000000000000) (g : Good k s) :
    Wp (callN F T fuel (n + 3) i [.cell 1] s) fun d s' => d ∈ badD ∧ Good (k + 1) s' := by
  have hd0 : distK ([] : List Str) = true := rfl
  rw [callN_has H rfl, wp_fin]
  simp [fdL_bad_dials, start, lim, keysOf, hd0]
  refine wp_mono (pick_wp (F := F) (T := T) (fuel := fuel) (n := n) HK HD hf (by simp) (by simp) (by omega) g (.inl rfl)) fun d s' ⟨h1, h2⟩ => ?_
  simp
  exact ⟨by simpa [badD] using h1, h2⟩
end
end MR.MS
set_option Elab.async false
set_option linter.all false
set_option maxRecDepth 100000
namespace MR.MS
open PySem
/-- a comprehension of two walks, without effects -/
theorem lc2_pure {α β : Type} {tg tg2 : E} {ρ : Env} {s : S} {cond cond2 : Env → S → R Bool} {it2 : Env → S → R (List D)} {elt : Env → S → R D} {vs2 : List Nat} (e : α → D) (ys : α → List β) (e2 : α → β → D) (ρf : α → Env) (ρg : α → β → Env) (c : α → Bool) (c2 : α → β → Bool) (f : α → β → D)
    (hb : ∀ x, bind1 tg (e x) ρ = some (ρf x)) : ∀ (xs : List α) (acc : List D), (∀ x ∈ xs, cond (ρf x) s = .ok (c x) s) → (∀ x ∈ xs, c x = true → it2 (ρf x) s = .ok ((ys x).map (e2 x)) s) → (∀ x ∈ xs, ∀ y, bind1 tg2 (e2 x y) (wipe (ρf x) vs2) = some (ρg x y)) →
    (∀ x ∈ xs, c x = true → ∀ y ∈ ys x, cond2 (ρg x y) s = .ok (c2 x y) s) → (∀ x ∈ xs, c x = true → ∀ y ∈ ys x, c2 x y = true → elt (ρg x y) s = .ok (f x y) s) → acc.length + (xs.flatMap ys).length ≤ lim →
    lcLoop (lcStep tg ρ cond (lcIn tg2 it2 cond2 elt vs2)) (xs.map e) acc s = .ok (acc ++ (xs.filter c).flatMap fun x => ((ys x).filter (c2 x)).map (f x)) s
  | [], acc, _, _, _, _, _, _ => by
    show R.ok acc s = _
    simp
  | x :: xs, acc, hc, hi, hb2, hc2, he, hl => by
    simp only [List.flatMap_cons, List.length_append] at hl
    show (lcStep tg ρ cond (lcIn tg2 it2 cond2 elt vs2) (e x) acc s).bind _ = _
    have e0 : lcStep tg ρ cond (lcIn tg2 it2 cond2 elt vs2) (e x) acc s = (if c x = true then lcIn tg2 it2 cond2 elt vs2 (ρf x) acc s else R.ok acc s) := by
      unfold lcStep
      rw [hb x]
      show ((cond (ρf x) s).calm.bind _) = _
      rw [hc x (by simp)]
      rfl
    rw [e0]
    cases hx : c x with
    | false =>
      show lcLoop _ (xs.map e) acc s = _
      rw [lc2_pure e ys e2 ρf ρg c c2 f hb xs acc (fun y hy => hc y (by simp [hy])) (fun y hy => hi y (by simp [hy])) (fun y hy => hb2 y (by simp [hy])) (fun y hy => hc2 y (by simp [hy])) (fun y hy => he y (by simp [hy])) (by omega), List.filter_cons_of_neg (by simp [hx])]
    | true =>
      have e1 : lcIn tg2 it2 cond2 elt vs2 (ρf x) acc s = .ok (acc ++ ((ys x).filter (c2 x)).map (f x)) s := by
        unfold lcIn
        rw [hi x (by simp) hx]
        show lcLoop _ ((ys x).map (e2 x)) acc s = _
        exact lc_pure (e2 x) (ρg x) (c2 x) (f x) (hb2 x (by simp)) (ys x) acc (hc2 x (by simp) hx) (he x (by simp) hx) (by omega)
      show (lcIn tg2 it2 cond2 elt vs2 (ρf x) acc s).bind _ = _
      rw [e1]
      have hfl := List.length_filter_le (c2 x) (ys x)
      show lcLoop _ (xs.map e) (acc ++ ((ys x).filter (c2 x)).map (f x)) s = _
      rw [lc2_pure e ys e2 ρf ρg c c2 f hb xs _ (fun y hy => hc y (by simp [hy])) (fun y hy => hi y (by simp [hy])) (fun y hy => hb2 y (by simp [hy])) (fun y hy => hc2 y (by simp [hy])) (fun y hy => he y (by simp [hy])) (by simp only [List.length_append, List.length_map]; omega), List.filter_cons_of_pos hx]
      simp
@[simp] theorem filter_tt {α : Type} {l : List α} : l.filter (fun _ => true) = l := List.filter_eq_self.mpr (by simp)
/-- all rows, one longer -/
def stepM (acc : List (List D)) (m : List D) : List (List D) := acc.flatMap fun r => m.map fun x => r ++ [x]
def stepP (acc : List (List Nat)) (z : Nat) : List (List Nat) := acc.flatMap fun r => (List.range z).map fun x => r ++ [x]
def placesL (d : List Nat) : List (List Nat) := d.foldl stepP [[]]
theorem flat_len {α β : Type} {f : α → List β} {m : Nat} : ∀ l : List α, (∀ x ∈ l, (f x).length = m) → (l.flatMap f).length = l.length * m
  | [], _ => by simp
  | x :: l, h => by
    rw [List.flatMap_cons, List.length_append, h x (by simp), flat_len l fun y hy => h y (by simp [hy]), List.length_cons, Nat.succ_mul, Nat.add_comm]
theorem stepP_len {acc : List (List Nat)} {z : Nat} : (stepP acc z).length = acc.length * z := flat_len acc fun r _ => by simp
theorem stepM_len {acc : List (List D)} {m : List D} : (stepM acc m).length = acc.length * m.length := flat_len acc fun r _ => by simp
theorem stepP_M {acc : List (List Nat)} {z : Nat} : (stepP acc z).map (·.map nD) = stepM (acc.map (·.map nD)) ((List.range z).map nD) := by
  unfold stepP stepM
  rw [List.map_flatMap, List.flatMap_map]
  congr 1
  funext r
  simp
theorem placesL_len (d : List Nat) : (placesL d).length = prodL d := by
  have key : ∀ (d : List Nat) (acc : List (List Nat)) (k : Nat), acc.length = k → (d.foldl stepP acc).length = d.foldl (· * ·) k := by
    intro d
    induction d with
    | nil => intro acc k h; exact h
    | cons z d ih => intro acc k h; exact ih _ _ (by rw [stepP_len, h])
  exact key d _ _ rfl
theorem prodL_step : ∀ (d : List Nat) (k : Nat), d.foldl (· * ·) k = k * prodL d
  | [], k => by simp [prodL]
  | z :: d, k => by
    rw [List.foldl_cons, prodL_step d (k * z)]
    show _ = k * d.foldl (· * ·) (1 * z)
    rw [Nat.one_mul, prodL_step d z, Nat.mul_assoc]
theorem prodL_cons (z : Nat) (d : List Nat) : prodL (z :: d) = z * prodL d := by
  show d.foldl (· * ·) (1 * z) = _
  rw [prodL_step, Nat.one_mul]
theorem mem_stepP {acc : List (List Nat)} {z : Nat} {q : List Nat} : q ∈ stepP acc z ↔ ∃ r ∈ acc, ∃ x < z, q = r ++ [x] := by
  unfold stepP
  simp only [List.mem_flatMap, List.mem_map, List.mem_range]
  constructor
  · rintro ⟨r, hr, x, hx, rfl⟩; exact ⟨r, hr, x, hx, rfl⟩
  · rintro ⟨r, hr, x, hx, rfl⟩; exact ⟨r, hr, x, hx, rfl⟩
theorem isPl_app : ∀ {a b p : List Nat}, isPl (a ++ b) p = true ↔ ∃ q r, p = q ++ r ∧ isPl a q = true ∧ isPl b r = true
  | [], b, p => by
    constructor
    · intro h; exact ⟨[], p, rfl, rfl, h⟩
    · rintro ⟨q, r, rfl, h1, h2⟩
      cases q with
      | nil => exact h2
      | cons => cases h1
  | z :: a, b, [] => by
    constructor
    · intro h; cases h
    · rintro ⟨q, r, e, h1, h2⟩
      cases q with
      | nil => cases h1
      | cons => cases e
  | z :: a, b, x :: p => by
    simp only [List.cons_append, isPl, Bool.and_eq_true, isPl_app (a := a) (b := b) (p := p)]
    constructor
    · rintro ⟨h, q, r, rfl, h1, h2⟩
      exact ⟨x :: q, r, rfl, by simp only [isPl, Bool.and_eq_true]; exact ⟨h, h1⟩, h2⟩
    · rintro ⟨q, r, e, h1, h2⟩
      cases q with
      | nil => cases h1
      | cons y q =>
        simp only [isPl, Bool.and_eq_true] at h1
        cases e
        exact ⟨h1.1, q, r, rfl, h1.2, h2⟩
theorem isPl_one {z : Nat} {p : List Nat} : isPl [z] p = true ↔ ∃ x < z, p = [x] := by
  cases p with
  | nil => simp [isPl]
  | cons x p =>
    cases p with
    | nil => simp [isPl]
    | cons => simp [isPl]
theorem mem_foldP : ∀ (d : List Nat) (acc : List (List Nat)) (done : List Nat), (∀ q, q ∈ acc ↔ isPl done q = true) → ∀ q, q ∈ d.foldl stepP acc ↔ isPl (done ++ d) q = true
  | [], acc, done, h, q => by simpa using h q
  | z :: d, acc, done, h, q => by
    rw [List.foldl_cons, mem_foldP d (stepP acc z) (done ++ [z]) (fun q => ?_) q]
    · simp
    · rw [mem_stepP, isPl_app]
      constructor
      · rintro ⟨r, hr, x, hx, rfl⟩
        exact ⟨r, [x], rfl, (h r).mp hr, isPl_one.mpr ⟨x, hx, rfl⟩⟩
      · rintro ⟨r, t, rfl, h1, h2⟩
        obtain ⟨x, hx, rfl⟩ := isPl_one.mp h2
        exact ⟨r, (h r).mpr h1, x, hx, rfl⟩
theorem mem_placesL {d q : List Nat} : q ∈ placesL d ↔ isPl d q = true := by
  refine mem_foldP d [[]] [] (fun q => ?_) q
  cases q with
  | nil => simp [isPl]
  | cons => simp [isPl]
theorem DOk.plLen {d : List Nat} (h : DOk d) : (placesL d).length ≤ 24 := by rw [placesL_len]; exact h.c
theorem DOk.ne {d : List Nat} (h : DOk d) : placesL d ≠ [] := by
  have : zeroL d ∈ placesL d := mem_placesL.mpr (isPl_zero h.pos)
  intro e
  rw [e] at this
  cases this
section
variable {F : List FD} {T : D → Option Str} {fuel i n k : Nat} {s : S}
theorem rangeL_map : ∀ (n : Nat) (lo : Nat), rangeL (lo : Int) n = (List.range' lo n).map nD
  | 0, _ => rfl
  | n + 1, lo => by
    have := rangeL_map n (lo + 1)
    rw [rangeL, List.range'_succ, List.map_cons, ← this]
    rfl
theorem rangeL_nat (n : Nat) : rangeL 0 n = (List.range n).map nD := by
  rw [List.range_eq_range']
  exact rangeL_map n 0
theorem rng1 {z : Nat} (h : z ≤ 4611686018427387903) : rngOf [nD z] = some ((List.range z).map nD) := by
  show (if inB (z : Int) = true then some (rangeL 0 (z : Int).toNat) else none) = _
  rw [if_pos (inB_nat h)]
  show some (rangeL 0 z) = _
  rw [rangeL_nat]
theorem capL (ms : List (List D)) (h : (ms.map List.length).foldl (fun a l => a * max l 1) 1 ≤ lim) : True := trivial
/-- what is in bounds, all the way -/
def PicksOk : List (List D) → List (List D) → Prop
  | [], _ => True
  | m :: ms, acc => acc.length * m.length ≤ lim ∧ (∀ r ∈ acc, r.length < lim) ∧ PicksOk ms (stepM acc m)
theorem picksOf_eq [H : Has F i fdP_picks_of] {ms : List (List D)} (h : PicksOk ms [[]]) : callN F T fuel (n + 1) i [.lst (ms.map .lst)] s = .ok (.lst ((ms.foldl stepM [[]]).map .tup)) s := by
  refine wp_eq ?_
  rw [callN_has H rfl, wp_fin]
  have l0 : 0 ≤ lim := Nat.zero_le _
  have l1 : 1 ≤ lim := by decide
  simp [fdP_picks_of, start, l1, isBox]
  refine wp_mono (P := fun f s' => s' = s ∧ ∃ x y z, f = .nx [.fz (.lst (ms.map .lst)), .ow (.lst ((ms.foldl stepM [[]]).map .tup)), x, y, z]) ?_ ?_
  · refine for_wp D.lst (fun rest ρ s' => s' = s ∧ ∃ (acc : List (List D)) (x y z : Sl), PicksOk rest acc ∧ rest.foldl stepM acc = ms.foldl stepM [[]] ∧ ρ = [.fz (.lst (ms.map .lst)), .ow (.lst (acc.map .tup)), x, y, z]) ?_ ?_ ms _ _ ⟨rfl, [[]], .un, .un, .un, h, rfl, rfl⟩
    · rintro m rest ρ s' ⟨rfl, acc, x, y, z, hk, e, rfl⟩
      obtain ⟨k1, k2, k3⟩ := hk
      have key := lc2_pure (s := s') (tg := .tg 3) (tg2 := .tg 4) (ρ := [.fz (.lst (ms.map .lst)), .ow (.lst (acc.map .tup)), .fz (.lst m), .un, .un]) (cond := tv fun x s => R.ok (D.bl true) s) (cond2 := tv fun x s => R.ok (D.bl true) s)
        (it2 := iVal (vVar 2)) (vs2 := [4]) (elt := vTup (lCons (iVal (vVar 3)) (lCons (evl1 (vVar 4)) fun x s => R.ok [] s)))
        D.tup (fun _ => m) (fun _ x => x) (fun r => [.fz (.lst (ms.map .lst)), .ow (.lst (acc.map .tup)), .fz (.lst m), .fz (.tup r), .un]) (fun r x => [.fz (.lst (ms.map .lst)), .ow (.lst (acc.map .tup)), .fz (.lst m), .fz (.tup r), .fz x])
        (fun _ => true) (fun _ _ => true) (fun r x => .tup (r ++ [x])) (fun r => by simp) acc [] (fun r _ => by simp) (fun r _ _ => by simp) (fun r _ x => by simp) (fun r _ _ x _ => by simp) (fun r hr _ x _ _ => by
          have := k2 r hr
          simp
          omega) (by
          have := flat_len (f := fun _ : List D => m) (m := m.length) acc (fun _ _ => rfl)
          simp only [List.length_nil]
          omega)
      simp [key, isBox]
      refine ⟨stepM acc m, k3, e, ?_⟩
      simp [stepM, List.map_flatMap, Function.comp_def]
    · rintro ρ s' ⟨rfl, acc, x, y, z, _, e, rfl⟩
      have e : acc = ms.foldl stepM [[]] := e
      exact ⟨rfl, x, y, z, by rw [e]⟩
  · rintro f s' ⟨rfl, x, y, z, rfl⟩
    simp
theorem picks_places : ∀ (d : List Nat) (acc : List (List Nat)), (d.map fun z => (List.range z).map nD).foldl stepM (acc.map (·.map nD)) = (d.foldl stepP acc).map (·.map nD)
  | [], acc => rfl
  | z :: d, acc => by
    rw [List.map_cons, List.foldl_cons, List.foldl_cons, ← stepP_M, picks_places d]
theorem picksOk_places : ∀ (d : List Nat) (acc : List (List Nat)) (m : Nat), (∀ z ∈ d, 0 < z) → (d.foldl stepP acc).length ≤ 100000 → (∀ r ∈ acc, r.length + d.length ≤ m) → m ≤ 1000 → PicksOk (d.map fun z => (List.range z).map nD) (acc.map (·.map nD))
  | [], acc, m, _, _, _, _ => trivial
  | z :: d, acc, m, hz, hl, hr, hm => by
    have h1 : (stepP acc z).length ≤ 100000 := by
      refine Nat.le_trans ?_ hl
      have key : ∀ (d : List Nat) (acc : List (List Nat)), (∀ z ∈ d, 0 < z) → acc.length ≤ (d.foldl stepP acc).length := by
        intro d
        induction d with
        | nil => intro acc _; exact Nat.le_refl _
        | cons z d ih =>
          intro acc hz
          refine Nat.le_trans ?_ (ih (stepP acc z) fun y hy => hz y (by simp [hy]))
          rw [stepP_len]
          exact Nat.le_mul_of_pos_right _ (hz z (by simp))
      exact key d (stepP acc z) fun y hy => hz y (by simp [hy])
    rw [List.map_cons]
    refine ⟨?_, ?_, ?_⟩
    · rw [stepP_len] at h1
      simp only [List.length_map, List.length_range]
      unfold lim; omega
    · intro r hr'
      obtain ⟨q, hq, rfl⟩ := List.mem_map.mp hr'
      have := hr q hq
      rw [List.length_map]
      unfold lim; omega
    · rw [← stepP_M]
      refine picksOk_places d (stepP acc z) m (fun y hy => hz y (by simp [hy])) hl (fun r hr' => ?_) hm
      obtain ⟨q, hq, x, _, rfl⟩ := mem_stepP.mp hr'
      have := hr q hq
      simp at this ⊢
      omega
@[simp] theorem placesOf_eq {iP : Nat} [H : Has F i (fdP_places_of iP)] [HP : Has F iP fdP_picks_of] {d : List Nat} (hd : DOk d) : callN F T fuel (n + 2) i [pD d] s = .ok (.lst ((placesL d).map pD)) s := by
  refine wp_eq ?_
  rw [callN_has H rfl, wp_fin]
  have e := picksOf_eq (F := F) (T := T) (fuel := fuel) (n := n) (i := iP) (s := s) (ms := d.map fun z => (List.range z).map nD) (by
    refine picksOk_places d [[]] 4 hd.pos ?_ ?_ (by omega)
    · show (placesL d).length ≤ _
      have := hd.plLen
      omega
    · intro r hr
      simp at hr
      subst hr
      have := hd.n4
      simpa using this)
  have key := lc_pure (tg := .tg 1) (ρ := [.fz (pD d), .un]) (s := s) (cond := tv fun x s => R.ok (D.bl true) s) (elt := vLi (iRng (lCons (evl1 (vVar 1)) fun x s => R.ok [] s)))
      nD (fun p => [.fz (pD d), .fz (nD p)]) (fun _ => true) (fun p => .lst ((List.range p).map nD)) (fun p => by simp) d [] (fun p _ => by simp) (fun p hp _ => by
        have := hd.le p hp
        have e := rng1 (z := p) (by omega)
        have : p ≤ lim := by unfold lim; omega
        simp [e, this]) (by simp; exact hd.lim)
  have fl : d.filter (fun _ => true) = d := List.filter_eq_self.mpr (by simp)
  rw [fl, List.nil_append] at key
  have e0 : (d.map fun p => D.lst ((List.range p).map nD)) = (d.map fun z => (List.range z).map nD).map D.lst := by rw [List.map_map]; rfl
  rw [e0] at key
  simp [-List.map_map, fdP_places_of, start, key, e]
  have := picks_places d [[]]
  rw [show ([[]] : List (List Nat)).map (·.map nD) = [[]] from rfl] at this
  rw [this, List.map_map]
  rfl
@[simp] theorem lawPlaces_eq [H : Has F i fdL_places] {d : List Nat} (hd : DOk d) : callN F T fuel (n + 1) i [pD d] s = .ok (.lst ((placesL d).map pD)) s := by
  refine wp_eq ?_
  rw [callN_has H rfl, wp_fin]
  have l1 : 1 ≤ lim := by decide
  simp [fdL_places, start, l1]
  have hl24 := hd.plLen
  have mono : ∀ (d : List Nat) (acc : List (List Nat)), (∀ z ∈ d, 0 < z) → acc.length ≤ (d.foldl stepP acc).length := by
    intro d
    induction d with
    | nil => intro acc _; exact Nat.le_refl _
    | cons z d ih =>
      intro acc hz
      refine Nat.le_trans ?_ (ih (stepP acc z) fun y hy => hz y (by simp [hy]))
      rw [stepP_len]
      exact Nat.le_mul_of_pos_right _ (hz z (by simp))
  refine wp_mono (P := fun f s' => s' = s ∧ ∃ x y z w, f = .nx [.fz (pD d), .fz (.lst ((placesL d).map pD)), x, y, z, w]) ?_ ?_
  · refine for_wp nD (fun rest ρ s' => s' = s ∧ (∀ z ∈ rest, 2 ≤ z ∧ z ≤ 24) ∧ ∃ (acc : List (List Nat)) (x y z w : Sl), (∀ r ∈ acc, r.length + rest.length ≤ 4) ∧ rest.foldl stepP acc = placesL d ∧ ρ = [.fz (pD d), .fz (.lst (acc.map pD)), x, y, z, w]) ?_ ?_ d _ _ ⟨rfl, fun z hz => ⟨hd.ge z hz, hd.le z hz⟩, [[]], .un, .un, .un, .un, (by intro r hr; simp at hr; subst hr; simpa using hd.n4), rfl, rfl⟩
    · rintro m rest ρ s' ⟨rfl, hm, acc, x, y, z, w, hr, e, rfl⟩
      have hm1 := hm m (by simp)
      have hbig : (stepP acc m).length ≤ 24 := by
        have := mono rest (stepP acc m) (fun z hz => by have := hm z (by simp [hz]); omega)
        rw [show rest.foldl stepP (stepP acc m) = placesL d from e] at this
        omega
      have hacc : acc.length ≤ 24 := by
        rw [stepP_len] at hbig
        have : acc.length * 1 ≤ acc.length * m := Nat.mul_le_mul_left _ (by omega)
        omega
      simp
      refine wp_mono (P := fun f s2 => s2 = s' ∧ ∃ x y, f = .nx [.fz (pD d), .fz (.lst (acc.map pD)), .fz (nD m), .fz (.lst ((stepP acc m).map pD)), x, y]) ?_ ?_
      · refine for_wp pD (fun left ρ s2 => s2 = s' ∧ (∀ r ∈ left, r.length + 1 ≤ 4) ∧ ∃ (done : List (List Nat)) (x y : Sl), acc = done ++ left ∧ ρ = [.fz (pD d), .fz (.lst (acc.map pD)), .fz (nD m), .fz (.lst ((stepP done m).map pD)), x, y]) ?_ ?_ acc _ _ ⟨rfl, fun r h => by have := hr r h; simp at this; omega, [], z, w, rfl, rfl⟩
        · rintro r left ρ s2 ⟨rfl, hl, done, x, y, rfl, rfl⟩
          have hr1 := hl r (by simp)
          have key := lc_pure (tg := .tg 5) (ρ := [.fz (pD d), .fz (.lst ((done ++ r :: left).map pD)), .fz (nD m), .fz (.lst ((stepP done m).map pD)), .fz (pD r), .un]) (s := s2) (cond := tv fun x s => R.ok (D.bl true) s) (elt := vBin .add (vVar 4) (vTup (lCons (evl1 (vVar 5)) fun x s => R.ok [] s)))
            nD (fun p => [.fz (pD d), .fz (.lst ((done ++ r :: left).map pD)), .fz (nD m), .fz (.lst ((stepP done m).map pD)), .fz (pD r), .fz (nD p)]) (fun _ => true) (fun p => pD (r ++ [p])) (fun p => by simp) (List.range m) [] (fun p _ => by simp) (fun p hp _ => by
              have : r.length + 1 ≤ lim := by unfold lim; omega
              have l1 : 1 ≤ lim := by decide
              simp [this, l1]) (by simp; unfold lim; omega)
          have fl : (List.range m).filter (fun _ => true) = List.range m := List.filter_eq_self.mpr (by simp)
          rw [fl, List.nil_append] at key
          have er := rng1 (z := m) (by omega)
          have lb : (stepP done m).length + m ≤ lim := by
            have : (stepP (done ++ r :: left) m).length = (done.length + (left.length + 1)) * m := by rw [stepP_len]; simp
            rw [stepP_len]
            rw [this, Nat.add_mul, Nat.succ_mul] at hbig
            unfold lim; omega
          simp [-List.map_append, er, key, lb]
          refine ⟨fun r h => by have := hl r (by simp [h]); omega, done ++ [r], by simp, ?_⟩
          simp [stepP, Function.comp_def]
        · rintro ρ s2 ⟨rfl, _, done, x, y, e, rfl⟩
          rw [List.append_nil] at e
          subst e
          exact ⟨rfl, x, y, rfl⟩
      · rintro f s2 ⟨rfl, x, y, rfl⟩
        simp
        refine ⟨fun z hz => hm z (by simp [hz]), stepP acc m, ?_, e, rfl⟩
        intro r hr'
        obtain ⟨q, hq, x, _, rfl⟩ := mem_stepP.mp hr'
        have := hr q hq
        simp at this ⊢
        omega
    · rintro ρ s' ⟨rfl, _, acc, x, y, z, w, _, e, rfl⟩
      have e : acc = placesL d := e
      exact ⟨rfl, x, y, z, w, by rw [e]⟩
  · rintro f s' ⟨rfl, x, y, z, w, rfl⟩
    simp
def dialsN : List (List Nat) := [[2], [3], [4], [2, 2], [5], [6], [2, 3], [7], [8], [2, 4], [2, 2, 2], [9], [3, 3], [10], [11], [12], [2, 6], [3, 4], [13], [14], [15], [3, 5], [16], [4, 4], [2, 8], [2, 2, 4], [2, 2, 2, 2], [17], [18], [3, 6], [19], [20], [2, 10], [21], [22], [23], [24], [2, 12], [4, 6], [2, 2, 6], [2, 2, 2, 3]]
theorem dialsN_ok : ∀ p ∈ dialsN, DOk p := by
  have key : ∀ p ∈ dialsN, (∀ z ∈ p, 2 ≤ z) ∧ (∀ z ∈ p, z ≤ 24) ∧ 1 ≤ p.length ∧ p.length ≤ 4 ∧ prodL p ≤ 24 := by decide +kernel
  intro p hp
  obtain ⟨a, b, c, d, e⟩ := key p hp
  exact ⟨a, b, c, d, e⟩
def hdDials : E := (.cn (.asg (.tg 2) (.ls (.cn (.tp (.cn (.ci 2) .nl)) (.cn (.tp (.cn (.ci 3) .nl)) (.cn (.tp (.cn (.ci 4) .nl)) (.cn (.tp (.cn (.ci 2) (.cn (.ci 2) .nl))) (.cn (.tp (.cn (.ci 5) .nl)) (.cn (.tp (.cn (.ci 6) .nl)) (.cn (.tp (.cn (.ci 2) (.cn (.ci 3) .nl))) (.cn (.tp (.cn (.ci 7) .nl)) (.cn (.tp (.cn (.ci 8) .nl)) (.cn (.tp (.cn (.ci 2) (.cn (.ci 4) .nl))) (.cn (.tp (.cn (.ci 2) (.cn (.ci 2) (.cn (.ci 2) .nl)))) (.cn (.tp (.cn (.ci 9) .nl)) (.cn (.tp (.cn (.ci 3) (.cn (.ci 3) .nl))) (.cn (.tp (.cn (.ci 10) .nl)) (.cn (.tp (.cn (.ci 11) .nl)) (.cn (.tp (.cn (.ci 12) .nl)) .nl)))))))))))))))))) (.cn (.asg (.tg 2) (.bin .add (.vr 2) (.ls (.cn (.tp (.cn (.ci 2) (.cn (.ci 6) .nl))) (.cn (.tp (.cn (.ci 3) (.cn (.ci 4) .nl))) (.cn (.tp (.cn (.ci 13) .nl)) (.cn (.tp (.cn (.ci 14) .nl)) (.cn (.tp (.cn (.ci 15) .nl)) (.cn (.tp (.cn (.ci 3) (.cn (.ci 5) .nl))) (.cn (.tp (.cn (.ci 16) .nl)) (.cn (.tp (.cn (.ci 4) (.cn (.ci 4) .nl))) (.cn (.tp (.cn (.ci 2) (.cn (.ci 8) .nl))) (.cn (.tp (.cn (.ci 2) (.cn (.ci 2) (.cn (.ci 4) .nl)))) (.cn (.tp (.cn (.ci 2) (.cn (.ci 2) (.cn (.ci 2) (.cn (.ci 2) .nl))))) (.cn (.tp (.cn (.ci 17) .nl)) (.cn (.tp (.cn (.ci 18) .nl)) (.cn (.tp (.cn (.ci 3) (.cn (.ci 6) .nl))) .nl))))))))))))))))) (.cn (.asg (.tg 2) (.bin .add (.vr 2) (.ls (.cn (.tp (.cn (.ci 19) .nl)) (.cn (.tp (.cn (.ci 20) .nl)) (.cn (.tp (.cn (.ci 2) (.cn (.ci 10) .nl))) (.cn (.tp (.cn (.ci 21) .nl)) (.cn (.tp (.cn (.ci 22) .nl)) (.cn (.tp (.cn (.ci 23) .nl)) (.cn (.tp (.cn (.ci 24) .nl)) (.cn (.tp (.cn (.ci 2) (.cn (.ci 12) .nl))) (.cn (.tp (.cn (.ci 4) (.cn (.ci 6) .nl))) (.cn (.tp (.cn (.ci 2) (.cn (.ci 2) (.cn (.ci 6) .nl)))) (.cn (.tp (.cn (.ci 2) (.cn (.ci 2) (.cn (.ci 2) (.cn (.ci 3) .nl))))) .nl)))))))))))))) .nl)))
def lcDials (iC : Nat) : E := (.lc (.tg 3) (.itv (.vr 2)) (.cmp .le (.call iC (.cn (.vr 3) .nl)) (.vr 1)) (.vr 3) [3])
theorem fdDials_eq {iK iC : Nat} : (fdL_dials iK iC).body = capp hdDials (.cn (.ret (.call iK (.cn (.vr 0) (.cn (lcDials iC) .nl)))) .nl) := rfl
theorem hdDials_ok {g : G} {x : Sl} (s : S) : (den g hdDials).x [.fz (.cell 1), x, .un, .un] s = .ok (.nx [.fz (.cell 1), x, .fz (.lst (dialsN.map pD)), .un]) s := by kernel_rfl
theorem lawDials_wp {iK iC iD : Nat} [H : Has F i (fdL_dials iK iC)] [HK : Has F iK (fdPick iD)] [HC : Has F iC fdP_count_of] [HD : Has F iD fdDraw] (hf : 65 ≤ fuel) {most : Nat} (hm : 2 ≤ most) (hk : k ≤ 9000000000000) (g : Good k s) :
    Wp (callN F T fuel (n + 3) i [.cell 1, nD most] s) fun d s' => (∃ p, d = pD p ∧ DOk p ∧ prodL p ≤ most ∧ p ∈ dialsN) ∧ Good (k + 1) s' := by
  rw [callN_has H rfl, wp_fin]
  have key := lc_pure (tg := .tg 3) (ρ := [.fz (.cell 1), .fz (nD most), .fz (.lst (dialsN.map pD)), .un]) (s := s) (cond := tv (vCmp .le (vCall (callN F T fuel (n + 2)) iC (lCons (evl1 (vVar 3)) fun x s => R.ok [] s)) (vVar 1))) (elt := vVar 3)
      pD (fun p => [.fz (.cell 1), .fz (nD most), .fz (.lst (dialsN.map pD)), .fz (pD p)]) (fun p => decide (prodL p ≤ most)) (fun p => pD p) (fun p => by simp) dialsN [] (fun p hp => by
        have e := countOf_eq (F := F) (T := T) (fuel := fuel) (n := n + 1) (i := iC) (s := s) (d := p) (fun z hz => by have := (dialsN_ok p hp).le z hz; omega)
        simp [e]) (fun p hp _ => by simp) (by decide)
  generalize hfl : dialsN.filter (fun p => decide (prodL p ≤ most)) = ps at key
  have hps : ∀ p ∈ ps, p ∈ dialsN ∧ prodL p ≤ most := fun p hp => by
    rw [← hfl] at hp
    simpa using List.mem_filter.mp hp
  have hps2 : ps.length ≤ 41 := by
    rw [← hfl]
    exact Nat.le_trans (List.length_filter_le _ _) (by decide)
  have hne : ps ≠ [] := by
    have : [2] ∈ ps := by
      rw [← hfl]
      exact List.mem_filter.mpr ⟨by decide, by simpa [prodL] using hm⟩
    intro e
    rw [e] at this
    cases this
  rw [fdDials_eq, den_capp (by decide)]
  show Wp (sSeq _ _ [.fz (.cell 1), .fz (nD most), .un, .un] s) _
  rw [eq_sSeq, wp_bind]
  refine wp_of_eq (hdDials_ok s) ?_
  rw [List.nil_append] at key
  simp [lcDials, key]
  refine wp_mono (pick_wp (F := F) (T := T) (fuel := fuel) (n := n) HK HD hf (xs := ps.map pD) (by simpa using hne) (by simp; omega) (by omega) g (.inl rfl)) fun d s' ⟨h1, h2⟩ => ?_
  simp
  obtain ⟨p, hp, rfl⟩ := List.mem_map.mp h1
  obtain ⟨a, b⟩ := hps p hp
  exact ⟨⟨p, rfl, dialsN_ok p a, b, a⟩, h2⟩
end
end MR.MS
set_option Elab.async false
set_option linter.all false
set_option maxRecDepth 100000
namespace MR.MS
open PySem
/-- all are places -/
def AllPl (d : List Nat) (l : List (List Nat)) : Prop := ∀ q ∈ l, isPl d q = true
section
variable (F : List FD)
/-- raises unless dials are told -/
class NeedD (i : Nat) (c : outParam Nat) : Prop where
  ok : ∀ {T fuel n d s}, DOk d → callN F T fuel (n + 3) i [pD d] s = .ok .non s
  bad : ∀ {T fuel n w s}, w ∈ badD → callN F T fuel (n + 3) i [w] s = .ex c [] s
class IsPlC (i : Nat) : Prop where
  h : ∀ {T fuel n d x s}, DOk d → okP x → callN F T fuel (n + 2) i [pD d, x] s = .ok (.bl (plB d x)) s
class NeedPl (i : Nat) (c : outParam Nat) : Prop where
  ok : ∀ {T fuel n d p s}, DOk d → isPl d p = true → callN F T fuel (n + 3) i [pD d, pD p] s = .ok .non s
  bad : ∀ {T fuel n d x s}, DOk d → BadP d x → callN F T fuel (n + 3) i [pD d, x] s = .ex c [] s
class NeedSev (i : Nat) (c : outParam Nat) : Prop where
  ok : ∀ {T fuel n s} {d : List Nat} {l : List (List Nat)}, DOk d → l.length ≤ lim → AllPl d l → callN F T fuel (n + 3) i [pD d, .lst (l.map pD)] s = .ok .non s
  okt : ∀ {T fuel n s} {d : List Nat} {l : List (List Nat)}, DOk d → l.length ≤ lim → AllPl d l → callN F T fuel (n + 3) i [pD d, .tup (l.map pD)] s = .ok .non s
  no : ∀ {T fuel n s} {d : List Nat} {L : D}, DOk d → okD L → (∀ xs, L ≠ .lst xs) → (∀ xs, L ≠ .tup xs) → callN F T fuel (n + 3) i [pD d, L] s = .ex c [] s
  bad : ∀ {T fuel n s} {d : List Nat} {xs : List D}, DOk d → xs.length ≤ lim → (∀ x ∈ xs, okP x) → xs.all (plB d) = false → callN F T fuel (n + 3) i [pD d, .lst xs] s = .ex c [] s
  badt : ∀ {T fuel n s} {d : List Nat} {xs : List D}, DOk d → xs.length ≤ lim → (∀ x ∈ xs, okP x) → xs.all (plB d) = false → callN F T fuel (n + 3) i [pD d, .tup xs] s = .ex c [] s
class PlusFn (i : Nat) : Prop where
  h : ∀ {T fuel n d a b s}, DOk d → isPl d a = true → isPl d b = true → callN F T fuel (n + 1) i [pD d, pD a, pD b] s = .ok (pD (plusL d a b)) s
class LessFn (i : Nat) : Prop where
  h : ∀ {T fuel n d a b s}, DOk d → isPl d a = true → isPl d b = true → callN F T fuel (n + 1) i [pD d, pD a, pD b] s = .ok (pD (lessL d a b)) s
class TimesFn (i : Nat) : Prop where
  h : ∀ {T fuel n d a m s}, DOk d → isPl d a = true → mulOk m m = true → callN F T fuel (n + 1) i [pD d, pD a, .int m] s = .ok (pD (timesL m d a)) s
class NothFn (i : Nat) : Prop where
  h : ∀ {T fuel n d s}, DOk d → callN F T fuel (n + 1) i [pD d] s = .ok (pD (zeroL d)) s
class TotFn (i : Nat) : Prop where
  h : ∀ {T fuel n s} {d : List Nat} {l : List (List Nat)}, DOk d → AllPl d l → callN F T fuel (n + 2) i [pD d, .lst (l.map pD)] s = .ok (pD (totalL d l)) s
  ht : ∀ {T fuel n s} {d : List Nat} {l : List (List Nat)}, DOk d → AllPl d l → callN F T fuel (n + 2) i [pD d, .tup (l.map pD)] s = .ok (pD (totalL d l)) s
class PlacesFn (i : Nat) : Prop where
  h : ∀ {T fuel n d s}, DOk d → callN F T fuel (n + 2) i [pD d] s = .ok (.lst ((placesL d).map pD)) s
class CountFn (i : Nat) : Prop where
  h : ∀ {T fuel n d s}, DOk d → callN F T fuel (n + 1) i [pD d] s = .ok (nD (prodL d)) s
end
section
variable {F : List FD} {T : D → Option Str} {fuel i n k c : Nat} {s : S}
instance [H : Has F i fdP_count_of] : CountFn F i := ⟨fun hd => countOf_eq fun z hz => by have := hd.le z hz; omega⟩
instance {iA iB iC : Nat} [H : Has F i (fdP_need_dials iA c)] [HA : Has F iA (fdP_are_dials iB iC)] [HB : Has F iB fdBetween] [HC : Has F iC fdP_count_of] : NeedD F i c := ⟨fun hd => needDials_ok (iA := iA) (iB := iB) (iC := iC) (c := c) hd, fun hw => needDials_bad (iA := iA) (iB := iB) (iC := iC) hw⟩
instance {iB : Nat} [H : Has F i (fdIsPlace iB)] [HB : Has F iB fdBetween] : IsPlC F i := ⟨fun hd h => isPlace_gen H HB hd.th h⟩
instance {iI iB : Nat} {m : Str} [H : Has F i (fdNeedPlace iI c m)] [HI : Has F iI (fdIsPlace iB)] [HB : Has F iB fdBetween] : NeedPl F i c := ⟨fun hd h => needPlace_ok H HI HB hd.th h, fun hd h => needPlace_bad H HI HB hd.th h⟩
instance {iI iB : Nat} {m : Str} [H : Has F i (fdNeedSeveral iI c m)] [HI : Has F iI (fdIsPlace iB)] [HB : Has F iB fdBetween] : NeedSev F i c :=
  ⟨fun hd hl h => needSeveral_ok H HI HB hd.th hl h (.inl rfl), fun hd hl h => needSeveral_ok H HI HB hd.th hl h (.inr rfl), fun hd h a b => needSeveral_no H h a b, fun hd hl h a => needSeveral_bad H HI HB hd.th hl h a (.inl rfl), fun hd hl h a => needSeveral_bad H HI HB hd.th hl h a (.inr rfl)⟩
instance [H : Has F i fdPlusOf] : PlusFn F i := ⟨fun hd ha hb => plusOf_eq H hd.pos hd.th (isPl_len ha) (isPl_len hb)⟩
instance [H : Has F i fdLawPlus] : PlusFn F i := ⟨fun hd ha hb => lawPlus_eq H hd.pos hd.th (isPl_len ha) (isPl_len hb)⟩
instance [H : Has F i fdLessOf] : LessFn F i := ⟨fun hd ha hb => lessOf_eq H hd.pos hd.th (isPl_len ha) (isPl_len hb)⟩
instance [H : Has F i fdLawLess] : LessFn F i := ⟨fun hd ha hb => lawLess_eq H hd.pos hd.th (isPl_len ha) (isPl_len hb)⟩
instance [H : Has F i fdTimesOf] : TimesFn F i := ⟨fun hd ha hm => timesOf_eq H hd.pos hd.th (isPl_len ha) hm⟩
instance [H : Has F i fdNothing] : NothFn F i := ⟨fun hd => nothing_eq H hd.n1 hd.th⟩
instance {iN iP : Nat} [H : Has F i (fdTotal iN iP)] [HN : Has F iN fdNothing] [HP : PlusFn F iP] : TotFn F i :=
  ⟨fun hd h => total_eq' H HN (fun a b s ha hb => HP.h hd ha hb) hd.pos hd.n1 hd.th h rfl, fun hd h => total_eq' H HN (fun a b s ha hb => HP.h hd ha hb) hd.pos hd.n1 hd.th h rfl⟩
instance {iP : Nat} [H : Has F i (fdP_places_of iP)] [HP : Has F iP fdP_picks_of] : PlacesFn F i := ⟨fun hd => placesOf_eq (iP := iP) hd⟩
instance [H : Has F i fdL_places] : PlacesFn F i := ⟨fun hd => lawPlaces_eq hd⟩
variable {d a b : List Nat} {l : List (List Nat)}
@[simp] theorem allPl_places (hd : DOk d) : AllPl d (placesL d) := fun q hq => mem_placesL.mp hq
@[simp] theorem countFn [h : CountFn F i] (hd : DOk d) : callN F T fuel (n + 1) i [pD d] s = .ok (nD (prodL d)) s := h.h hd
@[simp] theorem needD [h : NeedD F i c] (hd : DOk d) : callN F T fuel (n + 3) i [pD d] s = .ok .non s := h.ok hd
@[simp] theorem needD_bad [h : NeedD F i c] {w : D} (hw : w ∈ badD) : callN F T fuel (n + 3) i [w] s = .ex c [] s := h.bad hw
@[simp] theorem needPl [h : NeedPl F i c] (hd : DOk d) (ha : isPl d a = true) : callN F T fuel (n + 3) i [pD d, pD a] s = .ok .non s := h.ok hd ha
@[simp] theorem needPl_bad [h : NeedPl F i c] {x : D} (hd : DOk d) (hx : BadP d x) : callN F T fuel (n + 3) i [pD d, x] s = .ex c [] s := h.bad hd hx
@[simp] theorem plusFn [h : PlusFn F i] (hd : DOk d) (ha : isPl d a = true) (hb : isPl d b = true) : callN F T fuel (n + 1) i [pD d, pD a, pD b] s = .ok (pD (plusL d a b)) s := h.h hd ha hb
@[simp] theorem lessFn [h : LessFn F i] (hd : DOk d) (ha : isPl d a = true) (hb : isPl d b = true) : callN F T fuel (n + 1) i [pD d, pD a, pD b] s = .ok (pD (lessL d a b)) s := h.h hd ha hb
@[simp] theorem timesFn [h : TimesFn F i] {m : Int} (hd : DOk d) (ha : isPl d a = true) (hm : mulOk m m = true) : callN F T fuel (n + 1) i [pD d, pD a, .int m] s = .ok (pD (timesL m d a)) s := h.h hd ha hm
@[simp] theorem nothFn [h : NothFn F i] (hd : DOk d) : callN F T fuel (n + 1) i [pD d] s = .ok (pD (zeroL d)) s := h.h hd
@[simp] theorem totFn [h : TotFn F i] (hd : DOk d) (hl : AllPl d l) : callN F T fuel (n + 2) i [pD d, .lst (l.map pD)] s = .ok (pD (totalL d l)) s := h.h hd hl
@[simp] theorem totFnT [h : TotFn F i] (hd : DOk d) (hl : AllPl d l) : callN F T fuel (n + 2) i [pD d, .tup (l.map pD)] s = .ok (pD (totalL d l)) s := h.ht hd hl
@[simp] theorem placesFn [h : PlacesFn F i] (hd : DOk d) : callN F T fuel (n + 2) i [pD d] s = .ok (.lst ((placesL d).map pD)) s := h.h hd
@[simp] theorem isPl_plus (hd : DOk d) (ha : isPl d a = true) (hb : isPl d b = true) : isPl d (plusL d a b) = true := isPl_map3 (f := fun s x y => (x + y) % s) (fun s x y h => Nat.mod_lt _ h) hd.pos (isPl_len ha) (isPl_len hb)
@[simp] theorem isPl_less (hd : DOk d) (ha : isPl d a = true) (hb : isPl d b = true) : isPl d (lessL d a b) = true := isPl_map3 (f := fun s x y => (((x : Int) - y).fmod s).toNat) (fun s x y h => by have := fmod_lt (a := (x : Int) - y) (b := s) (by omega); omega) hd.pos (isPl_len ha) (isPl_len hb)
@[simp] theorem isPl_times (hd : DOk d) (ha : isPl d a = true) {m : Int} : isPl d (timesL m d a) = true := isPl_map2 (f := fun s x => (((x : Int) * m).fmod s).toNat) (fun s x h => by have := fmod_lt (a := (x : Int) * m) (b := s) (by omega); omega) hd.pos (isPl_len ha)
@[simp] theorem isPl_nothing (hd : DOk d) : isPl d (zeroL d) = true := isPl_zero hd.pos
@[simp] theorem isPl_tot (hd : DOk d) (hl : AllPl d l) : isPl d (totalL d l) = true := isPl_total hd.pos (isPl_zero hd.pos) hl
theorem isPl_lt : ∀ {d p : List Nat}, (∀ z ∈ d, z ≤ 24) → isPl d p = true → ∀ x ∈ p, x < 24
  | [], [], _, _, x, h => by cases h
  | [], _ :: _, _, h, _, _ => by cases h
  | _ :: _, [], _, h, _, _ => by cases h
  | z :: d, y :: p, hd, h, x, hx => by
    simp only [isPl, Bool.and_eq_true, decide_eq_true_eq] at h
    rcases List.mem_cons.mp hx with rfl | hx
    · have := hd z (by simp); omega
    · exact isPl_lt (fun z hz => hd z (by simp [hz])) h.2 x hx
/-- small: has a text, whatever list or tuple it stands in -/
def Sml (w : Nat) (x : D) : Prop := sm x = true ∧ dep x ≤ 20 ∧ wt x ≤ w
theorem Sml.pl (hd : DOk d) (ha : isPl d a = true) : Sml 164 (pD a) := by
  refine ⟨?_, ?_, ?_⟩
  · show sms (a.map nD) = true
    exact sms_nats a fun x hx => by have := isPl_lt hd.le ha x hx; omega
  · show deps (a.map nD) + 1 ≤ 20
    rw [dep_nats]; omega
  · show wts (a.map nD) ≤ 164
    have := isPl_len ha
    have := hd.n4
    rw [wts_nats]; omega
theorem Sml.list {w m : Nat} {g : D} {xs : List D} (h : ∀ x ∈ xs, sm x = true ∧ dep x ≤ m ∧ wt x ≤ w) : sms xs = true ∧ deps xs ≤ m ∧ wts xs ≤ (w + 1) * xs.length := by
  induction xs with
  | nil => exact ⟨rfl, Nat.zero_le _, Nat.zero_le _⟩
  | cons x xs ih =>
    obtain ⟨a, b, c⟩ := ih fun y hy => h y (by simp [hy])
    obtain ⟨a', b', c'⟩ := h x (by simp)
    refine ⟨by simp [sms, a, a'], by simp only [deps]; omega, ?_⟩
    simp only [wts, List.length_cons, Nat.mul_add]
    omega
/-- lists of places -/
theorem txt_pls (hd : DOk d) (hl : AllPl d l) (hlen : l.length ≤ 5000) : ∃ t, txt (.lst (l.map pD)) = some t := by
  obtain ⟨x, y, z⟩ := Sml.list (w := 164) (m := 1) (g := .non) (xs := l.map pD) fun x hx => by
    obtain ⟨q, hq, rfl⟩ := List.mem_map.mp hx
    have h := Sml.pl hd (hl q hq)
    refine ⟨h.1, ?_, h.2.2⟩
    show deps (q.map nD) + 1 ≤ 1
    rw [dep_nats]; omega
  refine txt_ex (.inl ⟨_, rfl⟩) x ?_ ?_
  · show deps (l.map pD) + 1 ≤ 60; omega
  · show wts (l.map pD) ≤ 1048576
    simp only [List.length_map] at z
    omega
theorem txt_pls2 (hd : DOk d) (hl : AllPl d l) (hlen : l.length ≤ 2500) : ∃ t, txt (.lst [.lst (l.map pD), .lst (l.map pD)]) = some t := by
  obtain ⟨x, y, z⟩ := Sml.list (w := 164) (m := 1) (g := .non) (xs := l.map pD) fun x hx => by
    obtain ⟨q, hq, rfl⟩ := List.mem_map.mp hx
    have h := Sml.pl hd (hl q hq)
    refine ⟨h.1, ?_, h.2.2⟩
    show deps (q.map nD) + 1 ≤ 1
    rw [dep_nats]; omega
  simp only [List.length_map] at z
  refine txt_ex (.inl ⟨_, rfl⟩) ?_ ?_ ?_
  · show (sms (l.map pD) && (sms (l.map pD) && true)) = true
    simp only [x, Bool.and_true]
  · show max (deps (l.map pD) + 1) (max (deps (l.map pD) + 1) 0) + 1 ≤ 60; omega
  · show wts (l.map pD) + 1 + (wts (l.map pD) + 1 + 0) ≤ 1048576
    omega
theorem txt_pp (hd : DOk d) (ha : isPl d a = true) : ∃ t, txt (.lst [pD a, pD a]) = some t :=
  txt_pls (l := [a, a]) hd (by intro q hq; simp at hq; rw [hq]; exact ha) (by simp)
@[simp] theorem eqv_str {x y : Str} : eqv (.str x) (.str y) = (x == y) := by unfold eqv; rfl
@[simp] theorem perm_nil {α : Type} {xs : List α} : perm xs [] = some [] := rfl
@[simp] theorem perm_cons {α : Type} {xs : List α} {i : Nat} {is : List Nat} : perm xs (i :: is) = (match nth xs i, perm xs is with | some x, some r => some (x :: r) | _, _ => none) := rfl
@[simp] theorem bin_mul2 {x : D} : bin .mul (.lst [x]) (.int 2) = some (.lst [x, x]) := by
  show (if 1 * 2 ≤ lim ∧ Nat.ble 2 999999999 = true then some (D.lst (rep [x] 2)) else none) = _
  rw [if_pos ⟨by decide, rfl⟩]
  rfl
theorem le_lim {k : Nat} (h : Nat.ble k 16777216 = true) : k ≤ lim := Nat.le_of_ble_eq_true h
@[simp] theorem l1' : 1 ≤ lim := le_lim rfl
@[simp] theorem l2' : 2 ≤ lim := le_lim rfl
@[simp] theorem l3' : 3 ≤ lim := le_lim rfl
@[simp] theorem l4' : 4 ≤ lim := le_lim rfl
@[simp] theorem l5' : 5 ≤ lim := le_lim rfl
@[simp] theorem l6' : 6 ≤ lim := le_lim rfl
@[simp] theorem l7' : 7 ≤ lim := le_lim rfl
@[simp] theorem l8' : 8 ≤ lim := le_lim rfl
@[simp] theorem l9' : 9 ≤ lim := le_lim rfl
@[simp] theorem l10' : 10 ≤ lim := le_lim rfl
@[simp] theorem l11' : 11 ≤ lim := le_lim rfl
@[simp] theorem l12' : 12 ≤ lim := le_lim rfl
@[simp] theorem l13' : 13 ≤ lim := le_lim rfl
@[simp] theorem l14' : 14 ≤ lim := le_lim rfl
@[simp] theorem vCgt_eq {f : Env → S → R D} {ρ : Env} : vCgt f ρ s = (match f ρ s with | .ok _ s => .ok .non s | .ex c xs s => .ok (.exc c xs) s | .no => .no) := rfl
@[simp] theorem distK_nil : distK [] = true := rfl
@[simp] theorem keysOf_nil : keysOf .nl = [] := rfl
end
end MR.MS
set_option Elab.async false
set_option linter.all false
set_option maxRecDepth 100000
namespace MR.MS
open PySem
section
variable {F : List FD} {T : D → Option Str} {fuel i n k c c0 c2 : Nat} {s : S} {iN iP iO iB iS : Nat} {d a b : List Nat} {l : List (List Nat)}
/-- a call, opened: for a def that is told -/
theorem callN_open (fd : FD) [H : Has F i fd] {xs : List D} (h : xs.length = fd.np) :
    callN F T fuel (n + 1) i xs s = fin ((den ⟨callN F T fuel n, T, fuel⟩ fd.body).x (start fd.ns xs) s) := callN_has H h
@[simp] theorem places_s [H : Has F i (fdP_places iN iP)] [NeedD F iN c0] [PlacesFn F iP] (hd : DOk d) : callN F T fuel (n + 4) i [pD d] s = .ok (.lst ((placesL d).map pD)) s := by
  rw [callN_has H rfl]
  simp [fdP_places, start, hd]
@[simp] theorem places_bad [H : Has F i (fdP_places iN iP)] [NeedD F iN c0] {w : D} (hw : w ∈ badD) : callN F T fuel (n + 4) i [w] s = .ex c0 [] s := by
  rw [callN_has H rfl]
  simp [fdP_places, start, hw]
@[simp] theorem sum2_plus [H : Has F i (fdSum2 iN iP iO)] [NeedD F iN c0] [NeedPl F iP c] [PlusFn F iO] (hd : DOk d) (ha : isPl d a = true) (hb : isPl d b = true) :
    callN F T fuel (n + 4) i [pD d, pD a, pD b] s = .ok (pD (plusL d a b)) s := by
  rw [callN_has H rfl]
  simp [fdSum2, start, hd, ha, hb]
@[simp] theorem sum2_less [H : Has F i (fdSum2 iN iP iO)] [NeedD F iN c0] [NeedPl F iP c] [LessFn F iO] (hd : DOk d) (ha : isPl d a = true) (hb : isPl d b = true) :
    callN F T fuel (n + 4) i [pD d, pD a, pD b] s = .ok (pD (lessL d a b)) s := by
  rw [callN_has H rfl]
  simp [fdSum2, start, hd, ha, hb]
@[simp] theorem sum2_b0 [H : Has F i (fdSum2 iN iP iO)] [NeedD F iN c0] {w x y : D} (hw : w ∈ badD) : callN F T fuel (n + 4) i [w, x, y] s = .ex c0 [] s := by
  rw [callN_has H rfl]
  simp [fdSum2, start, hw]
@[simp] theorem sum2_b1 [H : Has F i (fdSum2 iN iP iO)] [NeedD F iN c0] [NeedPl F iP c] {x y : D} (hd : DOk d) (hx : BadP d x) : callN F T fuel (n + 4) i [pD d, x, y] s = .ex c [] s := by
  rw [callN_has H rfl]
  simp [fdSum2, start, hd, hx]
@[simp] theorem sum2_b2 [H : Has F i (fdSum2 iN iP iO)] [NeedD F iN c0] [NeedPl F iP c] {x : D} (hd : DOk d) (ha : isPl d a = true) (hx : BadP d x) : callN F T fuel (n + 4) i [pD d, pD a, x] s = .ex c [] s := by
  rw [callN_has H rfl]
  simp [fdSum2, start, hd, ha, hx]
variable {m2 : Str}
@[simp] theorem times_s [H : Has F i (fdTimes iN iP iB iO c2 m2)] [NeedD F iN c0] [NeedPl F iP c] [HB : Has F iB fdBetween] [TimesFn F iO] (hd : DOk d) (ha : isPl d a = true) {j : Int} (h1 : -999999999 ≤ j) (h2 : j ≤ 999999999) :
    callN F T fuel (n + 4) i [pD d, pD a, .int j] s = .ok (pD (timesL j d a)) s := by
  have e2 := between_eq (T := T) (fuel := fuel) (n := n + 2) (s := s) HB (d := .int j) (lo := -999999999) (hi := 999999999) rfl (by intro k h; cases h)
  have e3 : betw (.int j) (-999999999) 999999999 = true := by simp [betw, h1, h2]
  have hm : mulOk j j = true := mulOk_l (by omega) (by omega)
  rw [e3] at e2
  rw [callN_has H rfl]
  simp [fdTimes, start, hd, ha, e2, hm]
@[simp] theorem times_b0 [H : Has F i (fdTimes iN iP iB iO c2 m2)] [NeedD F iN c0] {w x y : D} (hw : w ∈ badD) : callN F T fuel (n + 4) i [w, x, y] s = .ex c0 [] s := by
  rw [callN_has H rfl]
  simp [fdTimes, start, hw]
@[simp] theorem times_b1 [H : Has F i (fdTimes iN iP iB iO c2 m2)] [NeedD F iN c0] [NeedPl F iP c] {x y : D} (hd : DOk d) (hx : BadP d x) : callN F T fuel (n + 4) i [pD d, x, y] s = .ex c [] s := by
  rw [callN_has H rfl]
  simp [fdTimes, start, hd, hx]
@[simp] theorem times_b2 [H : Has F i (fdTimes iN iP iB iO c2 m2)] [NeedD F iN c0] [NeedPl F iP c] [HB : Has F iB fdBetween] {y : D} (hd : DOk d) (ha : isPl d a = true) (hy : okD y) (hb : betw y (-999999999) 999999999 = false) : callN F T fuel (n + 4) i [pD d, pD a, y] s = .ex c2 [] s := by
  have e2 := between_eq (T := T) (fuel := fuel) (n := n + 2) (s := s) HB (d := y) (lo := -999999999) (hi := 999999999) hy.1 hy.2
  rw [hb] at e2
  rw [callN_has H rfl]
  simp [fdTimes, start, hd, ha, e2]
@[simp] theorem total_s [H : Has F i (fdTotalP iN iS iO)] [NeedD F iN c0] [NeedSev F iS c] [TotFn F iO] (hd : DOk d) (hll : l.length ≤ lim) (hl : AllPl d l) : callN F T fuel (n + 4) i [pD d, .lst (l.map pD)] s = .ok (pD (totalL d l)) s := by
  have e := NeedSev.ok (F := F) (i := iS) (T := T) (fuel := fuel) (n := n) (s := s) hd hll hl
  have e2 := totFn (F := F) (i := iO) (T := T) (fuel := fuel) (n := n + 1) (s := s) hd hl
  rw [callN_has H rfl]
  simp [fdTotalP, start, hd, e, e2]
@[simp] theorem total_st [H : Has F i (fdTotalP iN iS iO)] [NeedD F iN c0] [NeedSev F iS c] [TotFn F iO] (hd : DOk d) (hll : l.length ≤ lim) (hl : AllPl d l) : callN F T fuel (n + 4) i [pD d, .tup (l.map pD)] s = .ok (pD (totalL d l)) s := by
  have e := NeedSev.okt (F := F) (i := iS) (T := T) (fuel := fuel) (n := n) (s := s) hd hll hl
  have e2 := totFnT (F := F) (i := iO) (T := T) (fuel := fuel) (n := n + 1) (s := s) hd hl
  rw [callN_has H rfl]
  simp [fdTotalP, start, hd, e, e2]
@[simp] theorem total_b0 [H : Has F i (fdTotalP iN iS iO)] [NeedD F iN c0] {w x : D} (hw : w ∈ badD) : callN F T fuel (n + 4) i [w, x] s = .ex c0 [] s := by
  rw [callN_has H rfl]
  simp [fdTotalP, start, hw]
/-- no list of places -/
def BadSev (d : List Nat) (L : D) : Prop := (okD L ∧ (∀ xs, L ≠ .lst xs) ∧ ∀ xs, L ≠ .tup xs) ∨ ∃ xs, (L = .lst xs ∨ L = .tup xs) ∧ xs.length ≤ lim ∧ (∀ x ∈ xs, okP x) ∧ xs.all (plB d) = false
@[simp] theorem needSev_bad [h : NeedSev F i c] {L : D} (hd : DOk d) (hb : BadSev d L) : callN F T fuel (n + 3) i [pD d, L] s = .ex c [] s := by
  rcases hb with ⟨a, b, e⟩ | ⟨xs, rfl | rfl, a, b, e⟩
  · exact h.no hd a b e
  · exact h.bad hd a b e
  · exact h.badt hd a b e
@[simp] theorem total_b1 [H : Has F i (fdTotalP iN iS iO)] [NeedD F iN c0] [NeedSev F iS c] {L : D} (hd : DOk d) (hb : BadSev d L) : callN F T fuel (n + 4) i [pD d, L] s = .ex c [] s := by
  rw [callN_has H rfl]
  simp [fdTotalP, start, hd, hb]
theorem BadSev.no {x : D} (h : okD x) (h1 : ∀ xs, x ≠ .lst xs) (h2 : ∀ xs, x ≠ .tup xs) : BadSev d x := .inl ⟨h, h1, h2⟩
theorem BadSev.lst {xs : List D} (hl : xs.length ≤ lim) (h : ∀ x ∈ xs, okP x) (hb : xs.all (plB d) = false) : BadSev d (.lst xs) := .inr ⟨xs, .inl rfl, hl, h, hb⟩
theorem BadSev.tup {xs : List D} (hl : xs.length ≤ lim) (h : ∀ x ∈ xs, okP x) (hb : xs.all (plB d) = false) : BadSev d (.tup xs) := .inr ⟨xs, .inr rfl, hl, h, hb⟩
theorem rangeL_len : ∀ (lo : Int) (n : Nat), (rangeL lo n).length = n
  | _, 0 => rfl
  | lo, n + 1 => by rw [rangeL, List.length_cons, rangeL_len (lo + 1) n]
/-- a law: so many turns of the same body -/
theorem law_top {iBg m A B C : Nat} {body : E} {ns : List Int} (H : Has F i ⟨1, m + 3, (.cn (.asg (.tg 1) (.call iBg (.cn (.vr 0) .nl))) (.cn (.for_ (.tg 2) (.itr (.cn (.bin .add (.ci A) (.blt .min (.cn (.blt .len (.cn (.vr 0) .nl)) (.cn (.ci B) .nl)))) .nl)) body) (.cn (.ret (.cb true)) .nl)))⟩)
    (HB : Has F iBg fdBegun) (hn : ns.length ≤ 63) (hA : A ≤ 1000) (hB : B ≤ 1000)
    (h : ∀ (k : Nat) (s : S) (x2 : Sl) (r : List Sl), r.length = m → k ≤ C * 2000 → Good k s → Wp ((den ⟨callN F T fuel (n + 1), T, fuel⟩ body).x (.fz (.scr (ns.map .int)) :: .fz (.cell 1) :: x2 :: r) s) fun f s' => (∃ r', f = Fl.nx (.fz (.scr (ns.map .int)) :: .fz (.cell 1) :: x2 :: r') ∧ r'.length = m) ∧ Good (k + C) s') :
    ∃ s', callN F T fuel (n + 2) i [scrD ns] [] = .ok (.bl true) s' := by
  have key : Wp (callN F T fuel (n + 2) i [scrD ns] []) fun d s => d = .bl true := by
    rw [callN_has H rfl, wp_fin]
    simp [start, scrD]
    refine wp_mono (begun_wp (F := F) (T := T) (fuel := fuel) (n := n) HB hn) fun d s ⟨h1, hg⟩ => ?_
    subst h1
    have hr : ∀ x : Nat, x ≤ 63 → rngOf [.int ((A : Int) + (if B < x then (B : Int) else x))] = some (rangeL 0 ((A : Int) + (if B < x then (B : Int) else x)).toNat) := fun x h2 => by
      refine if_pos (inB_of ?_ ?_)
      · split <;> omega
      · split <;> omega
    simp [hr _ (show ns.length ≤ 63 from hn), List.replicate_succ]
    generalize hn2 : ((A : Int) + (if B < ns.length then (B : Int) else (ns.length : Int))).toNat = N
    have hm : N ≤ 2000 := by
      rw [← hn2]
      split <;> omega
    refine wp_mono (P := fun f s => ∃ ρ, f = Fl.nx ρ) ?_ ?_
    · have e : rangeL 0 N = (rangeL 0 N).map id := by simp
      rw [e]
      refine for_wp id (fun l ρ s => l.length ≤ 2000 ∧ (∃ x2 r, ρ = .fz (.scr (ns.map .int)) :: .fz (.cell 1) :: x2 :: r ∧ r.length = m) ∧ Good (C * (2000 - l.length)) s) ?_ ?_ (rangeL 0 N) _ _ ⟨by rw [rangeL_len]; exact hm, ⟨_, _, rfl, by simp⟩, hg.mono (by omega)⟩
      · rintro x l ρ s ⟨hl, ⟨x2, r, rfl, hr⟩, hg⟩
        simp only [List.length_cons] at hl hg
        simp
        have hle : C * (2000 - (l.length + 1)) ≤ C * 2000 := Nat.mul_le_mul_left _ (by omega)
        refine wp_mono (h _ s (.fz x) r hr hle hg) fun f s' ⟨⟨r', h1, h2⟩, hg⟩ => ?_
        subst h1
        refine ⟨by omega, ⟨_, _, rfl, h2⟩, hg.mono ?_⟩
        have : 2000 - l.length = (2000 - (l.length + 1)) + 1 := by omega
        rw [this, Nat.mul_add, Nat.mul_one]
        exact Nat.le_refl _
      · rintro ρ s _
        exact ⟨ρ, rfl⟩
    · rintro f s ⟨ρ, rfl⟩
      simp
  obtain ⟨d, s, e, rfl⟩ := wp_elim key
  exact ⟨s, e⟩
end
end MR.MS
set_option Elab.async false
set_option linter.all false
set_option maxRecDepth 100000
namespace MR.MS
open PySem
section
variable (g : G) (a : E) (i j : Int)
def kSor (xs : List D) (s : S) : R D := R.of ((sortD xs).map .lst) s
def kItL (x : D) (s : S) : R (List D) := R.of (itemsL x) s
def kLset (xs : List D) (s : S) : R D := R.of (lsetD xs) s
def kSset (xs : List D) (s : S) : R D := R.of ((ssetD xs).map .lst) s
@[simp] theorem eq_kSor (xs : List D) (s : S) : kSor xs s = R.of ((sortD xs).map .lst) s := rfl
@[simp] theorem eq_kItL (x : D) (s : S) : kItL x s = R.of (itemsL x) s := rfl
@[simp] theorem eq_kLset (xs : List D) (s : S) : kLset xs s = R.of (lsetD xs) s := rfl
@[simp] theorem eq_kSset (xs : List D) (s : S) : kSset xs s = R.of ((ssetD xs).map .lst) s := rfl
theorem bind_as {α β γ : Type} (r : R α) (f : α → S → R β) (h : β → S → R γ) : (r.bind fun x s => (f x s).bind h) = (r.bind f).bind h := by cases r <;> rfl
@[simp] theorem eq_vSor (v : Env → S → R D) (ρ : Env) (s : S) : vSor v ρ s = (iVal v ρ s).bind kSor := bind_as _ _ _
@[simp] theorem eq_vLset (v : Env → S → R D) (ρ : Env) (s : S) : vLset v ρ s = ((v ρ s).bind kItL).bind kLset := bind_as _ _ _
@[simp] theorem eq_vSset (v : Env → S → R D) (ρ : Env) (s : S) : vSset v ρ s = ((v ρ s).bind kItL).bind kSset := bind_as _ _ _
@[simp] theorem itemsL_lst {xs : List D} : itemsL (.lst xs) = some xs := rfl
@[simp] theorem den_sor_v : (den g (.sor a)).v = vSor (den g a).v := rfl
@[simp] theorem den_sor_t : (den g (.sor a)).t = tv (vSor (den g a).v) := rfl
@[simp] theorem den_sor_e : (den g (.sor a)).e = evl1 (vSor (den g a).v) := rfl
@[simp] theorem den_lset_v : (den g (.lset a)).v = vLset (den g a).v := rfl
@[simp] theorem den_lset_t : (den g (.lset a)).t = tv (vLset (den g a).v) := rfl
@[simp] theorem den_lset_e : (den g (.lset a)).e = evl1 (vLset (den g a).v) := rfl
@[simp] theorem den_sset_v : (den g (.sset a)).v = vSset (den g a).v := rfl
@[simp] theorem den_sset_t : (den g (.sset a)).t = tv (vSset (den g a).v) := rfl
@[simp] theorem den_sset_e : (den g (.sset a)).e = evl1 (vSset (den g a).v) := rfl
@[simp] theorem den_dz_v : (den g (.dz i j)).v = (fun _ s => .ok (.dic [.int i] [.int j]) s) := rfl
@[simp] theorem den_dz_t : (den g (.dz i j)).t = tv (fun _ s => .ok (.dic [.int i] [.int j]) s) := rfl
@[simp] theorem den_dz_e : (den g (.dz i j)).e = evl1 (fun _ s => .ok (.dic [.int i] [.int j]) s) := rfl
end
abbrev iL (p : List Nat) : List Int := p.map Int.ofNat
abbrev iLs (l : List (List Nat)) : List (List Int) := l.map iL
theorem toT_iL (p : List Nat) : toT (iL p) = pD p := by
  show D.tup ((p.map Int.ofNat).map .int) = D.tup (p.map nD)
  rw [List.map_map]
  rfl
theorem intL_map : ∀ l : List Int, intL (l.map .int) = some l
  | [] => rfl
  | x :: l => by simp only [List.map_cons, intL, intL_map l, Option.map_some]
theorem tupIs_pD : ∀ l : List (List Nat), tupIs (l.map pD) = some (iLs l)
  | [] => rfl
  | p :: l => by
    have e : tupI (pD p) = some (iL p) := by
      show intL (p.map nD) = _
      rw [nD_int, intL_map]
    rw [List.map_cons, tupIs, e, tupIs_pD l]
    rfl
theorem iL_inj {p q : List Nat} (h : iL p = iL q) : p = q := ofNat_inj.mp h
theorem iL_to (p : List Nat) : (iL p).map Int.toNat = p := by
  rw [List.map_map]
  have : (Int.toNat ∘ Int.ofNat) = id := rfl
  rw [this, List.map_id]
def sortP (l : List (List Nat)) : List (List Nat) := (isortL (iLs l)).map (·.map Int.toNat)
theorem mem_iLs {l : List (List Nat)} {x : List Int} (h : x ∈ isortL (iLs l)) : ∃ p ∈ l, x = iL p := by
  obtain ⟨p, hp, e⟩ := List.mem_map.mp ((isortL_perm _).mem_iff.mp h)
  exact ⟨p, hp, e.symm⟩
theorem iLs_sortP (l : List (List Nat)) : iLs (sortP l) = isortL (iLs l) := by
  unfold sortP iLs
  rw [List.map_map]
  refine Eq.trans (List.map_congr_left fun x hx => ?_) (List.map_id _)
  obtain ⟨p, _, rfl⟩ := mem_iLs hx
  show iL ((iL p).map Int.toNat) = iL p
  rw [iL_to]
theorem sortP_perm (l : List (List Nat)) : (sortP l).Perm l := by
  have h : (iLs (sortP l)).Perm (iLs l) := by rw [iLs_sortP]; exact isortL_perm _
  have h2 := h.map (List.map Int.toNat)
  unfold iLs at h2
  rw [List.map_map, List.map_map] at h2
  have e : (List.map Int.toNat ∘ iL) = id := funext fun p => iL_to p
  rwa [e, List.map_id, List.map_id] at h2
/-- one ahead of another, strictly -/
def ltP (p q : List Nat) : Prop := lexL (iL p) (iL q) = true ∧ p ≠ q
theorem sortP_uniq {l m : List (List Nat)} (hp : l.Perm m) (hm : m.Pairwise fun p q => lexL (iL p) (iL q) = true) : sortP l = m := by
  have e : isortL (iLs l) = iLs m := sorted_uniq (isortL_sorted _) (List.pairwise_map.mpr hm) ((isortL_perm _).trans (hp.map iL))
  have e2 : iLs (sortP l) = iLs m := (iLs_sortP l).trans e
  have e3 := congrArg (List.map (List.map Int.toNat)) e2
  unfold iLs at e3
  rw [List.map_map, List.map_map] at e3
  have ee : (List.map Int.toNat ∘ iL) = id := funext fun p => iL_to p
  rwa [ee, List.map_id, List.map_id] at e3
theorem sortP_sorted (l : List (List Nat)) : (sortP l).Pairwise fun p q => lexL (iL p) (iL q) = true := by
  have := isortL_sorted (iLs l)
  rw [← iLs_sortP] at this
  exact List.pairwise_map.mp this
theorem bdI_nat {x : Nat} (h : x ≤ 1073741823) : bdI (Int.ofNat x) = true := by
  simp only [bdI, Bool.and_eq_true, decide_eq_true_eq]
  exact ⟨Int.ofNat_nonneg x, Nat.ble_eq_true_of_le h⟩
theorem sortOk_pl {d : List Nat} {l : List (List Nat)} (hd : DOk d) (hl : AllPl d l) (h64 : l.length < 64) : sortOk (iLs l) = true := by
  cases l with
  | nil => rfl
  | cons p l =>
    have hp := isPl_len (hl p (by simp))
    have := hd.n1
    simp only [iLs, List.map_cons, sortOk, Bool.and_eq_true, decide_eq_true_eq, List.all_eq_true]
    refine ⟨⟨by simpa using h64, by simpa [hp] using this⟩, fun m hm => ?_⟩
    have hm' : m ∈ iLs (p :: l) := hm
    obtain ⟨q, hq, rfl⟩ := List.mem_map.mp hm'
    have h1 := isPl_len (hl q hq)
    refine ⟨by simp [hp, h1], fun x hx => ?_⟩
    obtain ⟨y, hy, rfl⟩ := List.mem_map.mp hx
    exact bdI_nat (by have := isPl_lt hd.le (hl q hq) y hy; omega)
@[simp] theorem sortD_pl {d : List Nat} {l : List (List Nat)} (hd : DOk d) (hl : AllPl d l) (h64 : l.length < 64) : sortD (l.map pD) = some ((sortP l).map pD) := by
  unfold sortD
  rw [tupIs_pD]
  show (if sortOk (iLs l) = true then some ((isortL (iLs l)).map toT) else none) = _
  rw [if_pos (sortOk_pl hd hl h64), ← iLs_sortP]
  unfold iLs
  rw [List.map_map]
  congr 1
  refine List.map_congr_left fun p _ => toT_iL p
theorem nub_len {l : List (List Nat)} : (nubI (iLs l)).length = l.length ↔ l.Nodup := by
  have key : ∀ m : List (List Int), (nubI m).length = m.length ↔ m.Nodup := by
    intro m
    induction m with
    | nil => simp [nubI]
    | cons x m ih =>
      have := nubI_sub m
      simp only [nubI, List.nodup_cons]
      split
      · rename_i c
        rw [memI_iff] at c
        constructor
        · intro h
          simp only [List.length_cons] at h
          omega
        · intro h
          exact absurd c h.1
      · rename_i c
        rw [memI_iff] at c
        simp only [List.length_cons, Nat.add_right_cancel_iff, ih, c, not_false_eq_true, true_and]
  have e : (iLs l).length = l.length := by simp
  rw [← e, key]
  constructor
  · intro h
    exact (List.pairwise_map.mp h).imp fun h e => h (by rw [e])
  · intro h
    exact List.pairwise_map.mpr (h.imp fun h e => h (iL_inj e))
@[simp] theorem lsetD_pl {l : List (List Nat)} (h64 : l.length < 64) : lsetD (l.map pD) = some (nD (nubI (iLs l)).length) := by
  unfold lsetD
  rw [tupIs_pD]
  show (if (iLs l).length < 64 then some (D.int (nubI (iLs l)).length) else none) = _
  rw [if_pos (by simpa using h64)]
theorem lexL_app : ∀ {a b : List Int} (r s : List Int), a.length = b.length → lexL a b = true → a ≠ b → lexL (a ++ r) (b ++ s) = true
  | [], [], _, _, _, _, h => absurd rfl h
  | [], _ :: _, _, _, h, _, _ => by simp at h
  | _ :: _, [], _, _, h, _, _ => by simp at h
  | x :: a, y :: b, r, s, hl, h, hn => by
    simp only [List.cons_append, lexL, Bool.or_eq_true, decide_eq_true_eq, Bool.and_eq_true] at h ⊢
    rcases h with h | ⟨rfl, h⟩
    · exact .inl h
    · exact .inr ⟨rfl, lexL_app r s (by simpa using hl) h fun e => hn (by rw [e])⟩
theorem lexL_same : ∀ (a : List Int) {r s : List Int}, lexL (a ++ r) (a ++ s) = lexL r s
  | [], _, _ => rfl
  | x :: a, r, s => by simp [lexL, lexL_same a]
theorem stepP_sorted {acc : List (List Nat)} {z k : Nat} (hk : ∀ p ∈ acc, p.length = k) (h : acc.Pairwise ltP) : (stepP acc z).Pairwise ltP ∧ ∀ p ∈ stepP acc z, p.length = k + 1 := by
  constructor
  · induction acc with
    | nil => exact .nil
    | cons r acc ih =>
      obtain ⟨h1, h2⟩ := List.pairwise_cons.mp h
      have e : stepP (r :: acc) z = (List.range z).map (fun x => r ++ [x]) ++ stepP acc z := by simp [stepP]
      rw [e, List.pairwise_append]
      refine ⟨?_, ih (fun p hp => hk p (by simp [hp])) h2, fun a ha b hb => ?_⟩
      · rw [List.pairwise_map]
        refine List.Pairwise.imp (fun {x y} hxy => ?_) List.pairwise_lt_range
        have hxy : x < y := hxy
        constructor
        · show lexL (iL (r ++ [x])) (iL (r ++ [y])) = true
          simp only [iL, List.map_append, lexL_same, List.map_cons, List.map_nil, lexL]
          have : (Int.ofNat x) < Int.ofNat y := by simp only [Int.ofNat_eq_natCast]; omega
          simp
          omega
        · intro e
          have := List.append_cancel_left e
          simp at this
          omega
      · obtain ⟨x, _, rfl⟩ := List.mem_map.mp ha
        obtain ⟨q, hq, y, _, rfl⟩ := mem_stepP.mp hb
        obtain ⟨g1, g2⟩ := h1 q hq
        have hl : r.length = q.length := by rw [hk r (by simp), hk q (by simp [hq])]
        constructor
        · show lexL (iL (r ++ [x])) (iL (q ++ [y])) = true
          simp only [iL, List.map_append]
          exact lexL_app _ _ (by simpa using hl) g1 fun e => g2 (iL_inj e)
        · intro e
          exact g2 (List.append_inj_left e hl)
  · intro p hp
    obtain ⟨q, hq, x, _, rfl⟩ := mem_stepP.mp hp
    simp [hk q hq]
theorem placesL_lt (d : List Nat) : (placesL d).Pairwise ltP := by
  have key : ∀ (d : List Nat) (acc : List (List Nat)) (k : Nat), (∀ p ∈ acc, p.length = k) → acc.Pairwise ltP → (d.foldl stepP acc).Pairwise ltP := by
    intro d
    induction d with
    | nil => intro acc k _ h; exact h
    | cons z d ih =>
      intro acc k hk h
      obtain ⟨h1, h2⟩ := stepP_sorted (z := z) hk h
      exact ih _ (k + 1) h2 h1
  exact key d [[]] 0 (by simp) (by simp)
theorem placesL_sorted (d : List Nat) : (placesL d).Pairwise fun p q => lexL (iL p) (iL q) = true := (placesL_lt d).imp fun h => h.1
theorem placesL_nodup (d : List Nat) : (placesL d).Nodup := (placesL_lt d).imp fun h => h.2
theorem nodup_le {α : Type} [DecidableEq α] : ∀ {l m : List α}, l.Nodup → (∀ x ∈ l, x ∈ m) → l.length ≤ m.length
  | [], _, _, _ => Nat.zero_le _
  | x :: l, m, h, hs => by
    obtain ⟨h1, h2⟩ := List.nodup_cons.mp h
    have hx := hs x (by simp)
    have ih := nodup_le (m := m.erase x) h2 fun y hy => (List.mem_erase_of_ne (fun e => h1 (by rw [← e]; exact hy))).mpr (hs y (by simp [hy]))
    have := List.length_erase_of_mem hx
    have : 0 < m.length := List.length_pos_of_mem hx
    simp only [List.length_cons]
    omega
theorem nodup_perm {α : Type} [DecidableEq α] {l m : List α} (hl : l.Nodup) (hm : m.Nodup) (hs : ∀ x ∈ l, x ∈ m) (h : m.length ≤ l.length) : l.Perm m := by
  refine (List.perm_ext_iff_of_nodup hl hm).mpr fun x => ⟨hs x, fun hx => ?_⟩
  refine Classical.byContradiction fun n => ?_
  have := nodup_le (l := x :: l) (m := m) (List.nodup_cons.mpr ⟨n, hl⟩) fun y hy => by
    rcases List.mem_cons.mp hy with rfl | hy
    · exact hx
    · exact hs y hy
  simp only [List.length_cons] at this
  omega
/-- as many places as there are stand in order as all places exactly if no two are alike -/
theorem sortP_all {d : List Nat} {l : List (List Nat)} (hl : AllPl d l) (hn : l.length = prodL d) : sortP l = placesL d ↔ l.Nodup := by
  constructor
  · intro e
    have h := sortP_perm l
    rw [e] at h
    exact h.nodup_iff.mp (placesL_nodup d)
  · intro h
    exact sortP_uniq (nodup_perm h (placesL_nodup d) (fun p hp => mem_placesL.mpr (hl p hp)) (by rw [placesL_len, hn]; exact Nat.le_refl _)) (placesL_sorted d)
end MR.MS
set_option Elab.async false
set_option linter.all false
set_option maxRecDepth 100000
namespace MR.MS
open PySem
def fdP_picks_of_v2 : FD := ⟨1, 5, (.cn (.asg (.tg 1) (.ls (.cn (.tp .nl) .nl))) (.cn (.for_ (.tg 2) (.itv (.vr 0)) (.cn (.asg (.tg 1) (.lc2 (.tg 3) (.itv (.vr 1)) (.cb true) (.tg 4) (.itv (.vr 2)) (.cb true) (.tp (.cn (.st (.vr 3)) (.cn (.vr 4) .nl))) [3, 4] [4])) .nl)) (.cn (.ret (.vr 1)) .nl)))⟩
def fdP_are_moves (i_count_of : Nat) (i_is_place : Nat) : FD := ⟨2, 3, (.cn (.iff (.or (.nt (.isi (.vr 1) [.tuple])) (.cmp .ne (.blt .len (.cn (.vr 1) .nl)) (.call i_count_of (.cn (.vr 0) .nl)))) (.cn (.ret (.cb false)) .nl) .nl) (.cn (.ret (.blt .all (.cn (.lc (.tg 2) (.itv (.vr 1)) (.cb true) (.call i_is_place (.cn (.vr 0) (.cn (.vr 2) .nl))) [2]) .nl))) .nl))⟩
def fdP_need_moves (i_are_moves : Nat) (c_BadMoves : Nat) : FD := ⟨2, 2, (.cn (.iff (.nt (.call i_are_moves (.cn (.vr 0) (.cn (.vr 1) .nl)))) (.cn (.rs c_BadMoves "no move for each person") .nl) .nl) .nl)⟩
def fdP_ends_of (i_places_of : Nat) (i_plus_of : Nat) : FD := ⟨2, 4, (.cn (.ret (.lc (.tt (.cn (.tg 2) (.cn (.tg 3) .nl))) (.itz (.cn (.call i_places_of (.cn (.vr 0) .nl)) (.cn (.vr 1) .nl))) (.cb true) (.call i_plus_of (.cn (.vr 0) (.cn (.vr 2) (.cn (.vr 3) .nl)))) [2, 3])) .nl)⟩
def fdP_deals (i_are_moves : Nat) (i_ends_of : Nat) (i_count_of : Nat) : FD := ⟨2, 2, (.cn (.ret (.an (.call i_are_moves (.cn (.vr 0) (.cn (.vr 1) .nl))) (.cmp .eq (.lset (.call i_ends_of (.cn (.vr 0) (.cn (.vr 1) .nl)))) (.call i_count_of (.cn (.vr 0) .nl))))) .nl)⟩
def fdP_is_dealing (i_need_dials : Nat) (i_deals : Nat) : FD := ⟨2, 2, (.cn (.exs (.call i_need_dials (.cn (.vr 0) .nl))) (.cn (.ret (.call i_deals (.cn (.vr 0) (.cn (.vr 1) .nl)))) .nl))⟩
def fdL_is_whole : FD := ⟨1, 1, (.cn (.ret (.an (.isi (.vr 0) [.int]) (.nt (.isi (.vr 0) [.bool])))) .nl)⟩
def fdL_is_place (iL_is_whole : Nat) : FD := ⟨2, 4, (.cn (.iff (.or (.nt (.isi (.vr 1) [.tuple])) (.cmp .ne (.blt .len (.cn (.vr 1) .nl)) (.blt .len (.cn (.vr 0) .nl)))) (.cn (.ret (.cb false)) .nl) .nl) (.cn (.ret (.cmp .eq (.lc (.tt (.cn (.tg 2) (.cn (.tg 3) .nl))) (.itz (.cn (.vr 1) (.cn (.vr 0) .nl))) (.or (.nt (.call iL_is_whole (.cn (.vr 2) .nl))) (.nt (.cm2 .le .lt (.ci 0) (.vr 2) (.vr 3)))) (.ci 1) [2, 3]) (.ls .nl))) .nl))⟩
def fdL_dealing (iL_places : Nat) (iL_mixed : Nat) (iL_less : Nat) : FD := ⟨2, 5, (.cn (.asg (.tg 2) (.call iL_places (.cn (.vr 1) .nl))) (.cn (.ret (.ti (.itv (.lc (.tt (.cn (.tg 3) (.cn (.tg 4) .nl))) (.itz (.cn (.vr 2) (.cn (.call iL_mixed (.cn (.vr 0) (.cn (.vr 2) .nl))) .nl))) (.cb true) (.call iL_less (.cn (.vr 1) (.cn (.vr 4) (.cn (.vr 3) .nl)))) [3, 4])))) .nl))⟩
def fdL_deals (iL_count : Nat) (iL_is_place : Nat) (iL_ends : Nat) (iL_places : Nat) : FD := ⟨2, 3, (.cn (.iff (.or (.nt (.isi (.vr 1) [.tuple])) (.cmp .ne (.blt .len (.cn (.vr 1) .nl)) (.call iL_count (.cn (.vr 0) .nl)))) (.cn (.ret (.cb false)) .nl) .nl) (.cn (.iff (.cmp .ne (.lc (.tg 2) (.itv (.vr 1)) (.nt (.call iL_is_place (.cn (.vr 0) (.cn (.vr 2) .nl)))) (.ci 1) [2]) (.ls .nl)) (.cn (.ret (.cb false)) .nl) .nl) (.cn (.ret (.cmp .eq (.sor (.call iL_ends (.cn (.vr 0) (.cn (.vr 1) .nl)))) (.call iL_places (.cn (.vr 0) .nl)))) .nl)))⟩
def fdL_bad_dealing (iL_dealing : Nat) (iL_draw : Nat) (iL_count : Nat) (iL_plus : Nat) (iL_places : Nat) (iL_bad_place : Nat) (iL_pick : Nat) : FD := ⟨2, 7, (.cn (.par 4 5 (.call iL_dealing (.cn (.vr 0) (.cn (.vr 1) .nl))) (.call iL_draw (.cn (.vr 0) (.cn (.call iL_count (.cn (.vr 1) .nl)) .nl))) false false) (.cn (.asg (.tg 2) (.call iL_plus (.cn (.vr 1) (.cn (.sub (.vr 4) (.vr 5)) (.cn (.sub (.call iL_places (.cn (.vr 1) .nl)) (.ci 1)) .nl))))) (.cn (.asg (.tg 3) (.lc (.tg 6) (.itv (.ls (.cn (.vr 2) (.cn (.vr 2) (.cn (.call iL_bad_place (.cn (.vr 0) (.cn (.vr 1) .nl))) (.cn .cnn .nl)))))) (.cb true) (.bin .add (.bin .add (.slc (.vr 4) .nl (.vr 5)) (.tp (.cn (.vr 6) .nl))) (.slc (.vr 4) (.bin .add (.vr 5) (.ci 1)) .nl)) [6])) (.cn (.ret (.call iL_pick (.cn (.vr 0) (.cn (.bin .add (.vr 3) (.ls (.cn (.li (.itv (.vr 4))) (.cn (.slc (.vr 4) .nl (.neg (.ci 1))) (.cn (.bin .add (.vr 4) (.slc (.vr 4) .nl (.ci 1))) (.cn .cnn (.cn (.tp .nl) (.cn (.ci 5) .nl)))))))) .nl)))) .nl))))⟩
def fdL_odd (iL_pick : Nat) : FD := ⟨1, 1, (.cn (.ret (.call iL_pick (.cn (.vr 0) (.cn (.ls (.cn .cnn (.cn (.cb true) (.cn (.cb false) (.cn (.cs "0") (.cn (.cs "") (.cn (.ls .nl) (.cn (.dsp .nl .nl) (.cn (.tp (.cn .cnn .nl)) (.cn (.tp (.cn (.cs "a") (.cn (.ci 1) .nl))) (.cn (.ls (.cn (.ls (.cn (.ci 0) .nl)) .nl)) (.cn (.dz 0 0) (.cn (.tp (.cn (.cb true) .nl)) (.cn (.ci 5) (.cn (.neg (.ci 1)) .nl))))))))))))))) .nl)))) .nl)⟩
/-- a value that may be looked at for places -/
def okM (x : D) : Prop := okD x ∧ ∀ xs, x = .tup xs → ∀ y ∈ xs, okP y
def movB (d : List Nat) : D → Bool
  | .tup xs => decide (xs.length = prodL d) && xs.all (plB d)
  | _ => false
def unI : D → Nat
  | .int i => i.toNat
  | _ => 0
def unP : D → List Nat
  | .tup ys => ys.map unI
  | _ => []
def endsL (d : List Nat) (l : List (List Nat)) : List (List Nat) := List.zipWith (plusL d) (placesL d) l
def dealB (d : List Nat) : D → Bool
  | .tup xs => movB d (.tup xs) && decide ((endsL d (xs.map unP)).Nodup)
  | _ => false
theorem unP_pD (p : List Nat) : unP (pD p) = p := by
  show (p.map nD).map unI = p
  rw [List.map_map]
  refine Eq.trans (List.map_congr_left fun x _ => ?_) (List.map_id p)
  show (x : Int).toNat = x
  omega
theorem plB_ex : ∀ {d : List Nat} {x : D}, plB d x = true → ∃ p, x = pD p ∧ isPl d p = true := by
  intro d x h
  cases x with
  | tup xs =>
    simp only [plB, Bool.and_eq_true, decide_eq_true_eq] at h
    have key : ∀ (d : List Nat) (xs : List D), xs.length = d.length → inAll xs d = true → ∃ p : List Nat, xs = p.map nD ∧ isPl d p = true := by
      intro d
      induction d with
      | nil =>
        intro xs hl _
        cases xs with
        | nil => exact ⟨[], rfl, rfl⟩
        | cons => simp at hl
      | cons z d ih =>
        intro xs hl h
        cases xs with
        | nil => simp at hl
        | cons y xs =>
          unfold inAll at h
          simp only [List.zip_cons_cons, List.all_cons, Bool.and_eq_true] at h
          obtain ⟨p, e, hp⟩ := ih xs (by simpa using hl) h.2
          cases y with
          | int j =>
            have h1 := h.1
            simp [betw] at h1
            refine ⟨j.toNat :: p, by rw [e]; simp [nD]; omega, ?_⟩
            simp only [isPl, Bool.and_eq_true, decide_eq_true_eq]
            exact ⟨by omega, hp⟩
          | _ => simp [betw] at h
    obtain ⟨p, e, hp⟩ := key d xs h.1 h.2
    exact ⟨p, by rw [e], hp⟩
  | _ => cases h
theorem movB_ex {d : List Nat} {x : D} (h : movB d x = true) : ∃ l, x = .tup (l.map pD) ∧ AllPl d l ∧ l.length = prodL d := by
  cases x with
  | tup xs =>
    simp only [movB, Bool.and_eq_true, decide_eq_true_eq] at h
    have key : ∀ xs : List D, xs.all (plB d) = true → ∃ l : List (List Nat), xs = l.map pD ∧ AllPl d l := by
      intro xs
      induction xs with
      | nil => intro _; exact ⟨[], rfl, fun q hq => by cases hq⟩
      | cons y xs ih =>
        intro h
        simp only [List.all_cons, Bool.and_eq_true] at h
        obtain ⟨l, e, hl⟩ := ih h.2
        obtain ⟨p, e1, hp⟩ := plB_ex h.1
        refine ⟨p :: l, by rw [e, e1]; rfl, fun q hq => ?_⟩
        rcases List.mem_cons.mp hq with rfl | hq
        · exact hp
        · exact hl q hq
    obtain ⟨l, e, hl⟩ := key xs h.2
    refine ⟨l, by rw [e], hl, ?_⟩
    rw [← h.1, e, List.length_map]
  | _ => cases h
theorem movB_pl {d : List Nat} {l : List (List Nat)} (hl : AllPl d l) (hn : l.length = prodL d) : movB d (.tup (l.map pD)) = true := by
  simp only [movB, Bool.and_eq_true, decide_eq_true_eq, List.length_map, List.all_eq_true]
  refine ⟨hn, fun x hx => ?_⟩
  obtain ⟨p, hp, rfl⟩ := List.mem_map.mp hx
  exact plB_pl (hl p hp)
theorem dealB_pl {d : List Nat} {l : List (List Nat)} (hl : AllPl d l) (hn : l.length = prodL d) : dealB d (.tup (l.map pD)) = decide ((endsL d l).Nodup) := by
  show (movB d (.tup (l.map pD)) && decide ((endsL d ((l.map pD).map unP)).Nodup)) = _
  rw [movB_pl hl hn, List.map_map]
  have : (unP ∘ pD) = id := funext unP_pD
  rw [this, List.map_id, Bool.true_and]
theorem okM_no {x : D} (h : okD x) (hx : ∀ xs, x ≠ .tup xs) : okM x := ⟨h, fun xs e => absurd e (hx xs)⟩
theorem okM_tup {xs : List D} (h : ∀ y ∈ xs, okP y) : okM (.tup xs) := ⟨okD_of rfl, fun ys e => by cases e; exact h⟩
theorem okP_no {x : D} (h : okD x) (hx : ∀ xs, x ≠ .tup xs) : okP x := ⟨h, fun xs e => absurd e (hx xs)⟩
theorem okP_pls {l : List (List Nat)} : ∀ y ∈ l.map pD, okP y := fun y hy => by
  obtain ⟨p, _, rfl⟩ := List.mem_map.mp hy
  exact okP_pl
@[simp] theorem okM_pls {l : List (List Nat)} : okM (.tup (l.map pD)) := okM_tup okP_pls
theorem endsL_len {d : List Nat} {l : List (List Nat)} (hn : l.length = prodL d) : (endsL d l).length = prodL d := by
  simp [endsL, placesL_len, hn]
theorem mem_zipWith {α β γ : Type} {f : α → β → γ} : ∀ {l : List α} {m : List β} {x : γ}, x ∈ List.zipWith f l m → ∃ a ∈ l, ∃ b ∈ m, x = f a b
  | [], _, _, h => by simp at h
  | _ :: _, [], _, h => by simp at h
  | a :: l, b :: m, x, h => by
    rw [List.zipWith_cons_cons] at h
    rcases List.mem_cons.mp h with rfl | h
    · exact ⟨a, by simp, b, by simp, rfl⟩
    · obtain ⟨a', ha, b', hb, e⟩ := mem_zipWith h
      exact ⟨a', by simp [ha], b', by simp [hb], e⟩
@[simp] theorem allPl_ends {d : List Nat} {l : List (List Nat)} (hd : DOk d) (hl : AllPl d l) : AllPl d (endsL d l) := fun q hq => by
  obtain ⟨a, ha, b, hb, rfl⟩ := mem_zipWith hq
  exact isPl_plus hd (mem_placesL.mp ha) (hl b hb)
theorem zip2_pD : ∀ (a b : List (List Nat)), zip2 (a.map pD) (b.map pD) = (a.zip b).map fun t => D.tup [pD t.1, pD t.2]
  | [], _ => by simp [zip2]
  | _ :: _, [] => by simp [zip2]
  | x :: a, y :: b => by simp only [List.map_cons, zip2, List.zip_cons_cons, zip2_pD a b]
section
variable (F : List FD)
class MovC (i : Nat) : Prop where
  h : ∀ {T fuel n d x s}, DOk d → okM x → callN F T fuel (n + 3) i [pD d, x] s = .ok (.bl (movB d x)) s
class EndsFn (i : Nat) : Prop where
  h : ∀ {T fuel n d s} {l : List (List Nat)}, DOk d → AllPl d l → l.length ≤ lim → callN F T fuel (n + 3) i [pD d, .tup (l.map pD)] s = .ok (.lst ((endsL d l).map pD)) s
class DealC (i : Nat) : Prop where
  h : ∀ {T fuel n d x s}, DOk d → okM x → callN F T fuel (n + 4) i [pD d, x] s = .ok (.bl (dealB d x)) s
end
section
variable {F : List FD} {T : D → Option Str} {fuel i n k c : Nat} {s : S} {d : List Nat} {l : List (List Nat)}
@[simp] theorem movFn [h : MovC F i] {x : D} (hd : DOk d) (hx : okM x) : callN F T fuel (n + 3) i [pD d, x] s = .ok (.bl (movB d x)) s := h.h hd hx
@[simp] theorem endsFn [h : EndsFn F i] (hd : DOk d) (hl : AllPl d l) (hlen : l.length ≤ lim) : callN F T fuel (n + 3) i [pD d, .tup (l.map pD)] s = .ok (.lst ((endsL d l).map pD)) s := h.h hd hl hlen
@[simp] theorem dealFn [h : DealC F i] {x : D} (hd : DOk d) (hx : okM x) : callN F T fuel (n + 4) i [pD d, x] s = .ok (.bl (dealB d x)) s := h.h hd hx
theorem plC [h : IsPlC F i] {x : D} (hd : DOk d) (hx : okP x) : callN F T fuel (n + 2) i [pD d, x] s = .ok (.bl (plB d x)) s := h.h hd hx
instance picks2 {iP : Nat} [H : Has F i (fdP_places_of iP)] [HP : Has F iP fdP_picks_of_v2] : PlacesFn F i := ⟨fun {T fuel n d s} hd => by
  have e : callN F T fuel (n + 1) iP [.lst ((d.map fun z => (List.range z).map nD).map .lst)] s = .ok (.lst (((d.map fun z => (List.range z).map nD).foldl stepM [[]]).map .tup)) s := by
    have h : PicksOk (d.map fun z => (List.range z).map nD) [[]] := by
      refine picksOk_places d [[]] 4 hd.pos ?_ ?_ (by omega)
      · show (placesL d).length ≤ _
        have := hd.plLen
        omega
      · intro r hr
        simp at hr
        subst hr
        have := hd.n4
        simpa using this
    generalize (d.map fun z => (List.range z).map nD) = ms at h
    refine wp_eq ?_
    rw [callN_has HP rfl, wp_fin]
    simp [fdP_picks_of_v2, start]
    refine wp_mono (P := fun f s' => s' = s ∧ ∃ x y z, f = .nx [.fz (.lst (ms.map .lst)), .fz (.lst ((ms.foldl stepM [[]]).map .tup)), x, y, z]) ?_ ?_
    · refine for_wp D.lst (fun rest ρ s' => s' = s ∧ ∃ (acc : List (List D)) (x y z : Sl), PicksOk rest acc ∧ rest.foldl stepM acc = ms.foldl stepM [[]] ∧ ρ = [.fz (.lst (ms.map .lst)), .fz (.lst (acc.map .tup)), x, y, z]) ?_ ?_ ms _ _ ⟨rfl, [[]], .un, .un, .un, h, rfl, rfl⟩
      · rintro m rest ρ s' ⟨rfl, acc, x, y, z, hk, e, rfl⟩
        obtain ⟨k1, k2, k3⟩ := hk
        have key := lc2_pure (s := s') (tg := .tg 3) (tg2 := .tg 4) (ρ := [.fz (.lst (ms.map .lst)), .fz (.lst (acc.map .tup)), .fz (.lst m), .un, .un]) (cond := tv fun x s => R.ok (D.bl true) s) (cond2 := tv fun x s => R.ok (D.bl true) s)
          (it2 := iVal (vVar 2)) (vs2 := [4]) (elt := vTup (lCons (iVal (vVar 3)) (lCons (evl1 (vVar 4)) fun x s => R.ok [] s)))
          D.tup (fun _ => m) (fun _ x => x) (fun r => [.fz (.lst (ms.map .lst)), .fz (.lst (acc.map .tup)), .fz (.lst m), .fz (.tup r), .un]) (fun r x => [.fz (.lst (ms.map .lst)), .fz (.lst (acc.map .tup)), .fz (.lst m), .fz (.tup r), .fz x])
          (fun _ => true) (fun _ _ => true) (fun r x => .tup (r ++ [x])) (fun r => by simp) acc [] (fun r _ => by simp) (fun r _ _ => by simp) (fun r _ x => by simp) (fun r _ _ x _ => by simp) (fun r hr _ x _ _ => by
            have := k2 r hr
            simp
            omega) (by
            have := flat_len (f := fun _ : List D => m) (m := m.length) acc (fun _ _ => rfl)
            simp only [List.length_nil]
            omega)
        simp [key]
        refine ⟨stepM acc m, k3, e, ?_⟩
        simp [stepM, List.map_flatMap, Function.comp_def]
      · rintro ρ s' ⟨rfl, acc, x, y, z, _, e, rfl⟩
        have e : acc = ms.foldl stepM [[]] := e
        exact ⟨rfl, x, y, z, by rw [e]⟩
    · rintro f s' ⟨rfl, x, y, z, rfl⟩
      simp
  refine wp_eq ?_
  rw [callN_has H rfl, wp_fin]
  have key := lc_pure (tg := .tg 1) (ρ := [.fz (pD d), .un]) (s := s) (cond := tv fun x s => R.ok (D.bl true) s) (elt := vLi (iRng (lCons (evl1 (vVar 1)) fun x s => R.ok [] s)))
      nD (fun p => [.fz (pD d), .fz (nD p)]) (fun _ => true) (fun p => .lst ((List.range p).map nD)) (fun p => by simp) d [] (fun p _ => by simp) (fun p hp _ => by
        have := hd.le p hp
        have e := rng1 (z := p) (by omega)
        have : p ≤ lim := by unfold lim; omega
        simp [e, this]) (by simp; exact hd.lim)
  rw [filter_tt, List.nil_append] at key
  have e0 : (d.map fun p => D.lst ((List.range p).map nD)) = (d.map fun z => (List.range z).map nD).map D.lst := by rw [List.map_map]; rfl
  rw [e0] at key
  simp [-List.map_map, fdP_places_of, start, key, e]
  have := picks_places d [[]]
  rw [show ([[]] : List (List Nat)).map (·.map nD) = [[]] from rfl] at this
  rw [this, List.map_map]
  rfl⟩
def isI : D → Bool
  | .int _ => true
  | _ => false
theorem whole_eq [H : Has F i fdL_is_whole] {x : D} (hx : okD x) : callN F T fuel (n + 1) i [x] s = .ok (.bl (isI x)) s := by
  obtain ⟨h1, h2⟩ := hx
  rw [callN_has H rfl]
  cases x with
  | cell k => exact absurd rfl (h2 k)
  | exc _ _ => cases h1
  | set _ => cases h1
  | scr _ => cases h1
  | _ => simp [fdL_is_whole, start, isTyOk, isTy, isI]
theorem filter_all {α : Type} {p : α → Bool} {l : List α} : (l.filter p).isEmpty = l.all fun x => !p x := by
  induction l with
  | nil => rfl
  | cons x l ih =>
    cases h : p x with
    | true => simp [h]
    | false => simp only [List.filter_cons, h, Bool.false_eq_true, if_false, ih, List.all_cons, Bool.not_false, Bool.true_and]
theorem cmpOk_ones {α : Type} {l : List α} : cmpOk (.lst (l.map fun _ => D.int 1)) = true := by
  have : l.map (fun _ => D.int 1) = (l.map fun _ => (1 : Int)).map D.int := by rw [List.map_map]; rfl
  rw [this]
  exact cmpOk_ints
instance lawIsPl {iW : Nat} [H : Has F i (fdL_is_place iW)] [HW : Has F iW fdL_is_whole] : IsPlC F i := ⟨fun {T fuel n d x s} hd hx => by
  rw [callN_has H rfl]
  obtain ⟨ho, hx⟩ := hx
  cases x with
  | tup xs =>
    have hx := hx xs rfl
    have h1 : isTyOk (.tup xs) = true := rfl
    have h2 : isTy (.tup xs) .tuple = true := rfl
    by_cases hlen : xs.length = d.length
    · have key := lc_pure (tg := .tt (.cn (.tg 2) (.cn (.tg 3) .nl))) (ρ := [.fz (pD d), .fz (.tup xs), .un, .un]) (s := s)
        (cond := tOr (tNot (tv (vCall (callN F T fuel (n + 1)) iW (lCons (evl1 (vVar 2)) fun x s => R.ok [] s)))) (tNot (tv (vCm2 .le .lt (fun x s => R.ok (D.int 0) s) (vVar 2) (vVar 3)))))
        (elt := fun x s => R.ok (D.int 1) s)
        (fun p : D × Nat => D.tup [p.1, nD p.2]) (fun p => [.fz (pD d), .fz (.tup xs), .fz p.1, .fz (nD p.2)]) (fun p => !betw p.1 0 ((p.2 : Int) - 1)) (fun p => .int 1) (fun p => by simp) (xs.zip d) [] (fun p hp => by
          have ho := hx p.1 (List.of_mem_zip hp).1
          have e := whole_eq (F := F) (T := T) (fuel := fuel) (n := n) (i := iW) (s := s) ho
          cases h : p.1 with
          | int j =>
            rw [h] at e
            by_cases c1 : 0 ≤ j
            · by_cases c2 : j < (p.2 : Int)
              · have : j ≤ (p.2 : Int) - 1 := by omega
                simp [e, isI, betw, c1, c2, this]
              · have : ¬ j ≤ (p.2 : Int) - 1 := by omega
                simp [e, isI, betw, c1, c2, this]
            · simp [e, isI, betw, c1]
          | _ => rw [h] at e; simp [e, isI, betw]) (fun p _ _ => rfl) (by
          have := hd.n4
          simp
          unfold lim
          omega)
      rw [List.nil_append] at key
      have co := cmpOk_ones (l := (xs.zip d).filter fun p => !betw p.1 0 ((p.2 : Int) - 1))
      have al : (((xs.zip d).filter fun p => !betw p.1 0 ((p.2 : Int) - 1)).map fun _ => D.int 1).isEmpty = inAll xs d := by
        rw [List.isEmpty_map, filter_all]
        unfold inAll
        congr 1
        funext p
        simp
      simp [fdL_is_place, start, h1, h2, hlen, zipOf, zip2_nats, key, co, -List.isEmpty_map, -List.map_const]
      rw [al]
      simp [plB, hlen]
    · have : (xs.length : Int) ≠ d.length := by omega
      simp [fdL_is_place, start, h1, h2, this, plB, hlen]
  | cell k => exact absurd rfl (ho.2 k)
  | exc _ _ => cases ho.1
  | set _ => cases ho.1
  | scr _ => cases ho.1
  | _ => simp [fdL_is_place, start, isTyOk, isTy, plB]⟩
end
end MR.MS
set_option Elab.async false
set_option linter.all false
set_option maxRecDepth 100000
namespace MR.MS
open PySem
section
variable {F : List FD} {T : D → Option Str} {fuel i n k c : Nat} {s : S} {d : List Nat} {l : List (List Nat)}
instance movInst {iC iI : Nat} [H : Has F i (fdP_are_moves iC iI)] [HC : CountFn F iC] [HI : IsPlC F iI] : MovC F i := ⟨fun {T fuel n d x s} hd hx => by
  rw [callN_has H rfl]
  obtain ⟨ho, hx⟩ := hx
  cases x with
  | tup xs =>
    have hx := hx xs rfl
    have h1 : isTyOk (.tup xs) = true := rfl
    have h2 : isTy (.tup xs) .tuple = true := rfl
    by_cases hlen : xs.length = prodL d
    · have key := lc_pure (tg := .tg 2) (ρ := [.fz (pD d), .fz (.tup xs), .un]) (s := s) (cond := tv fun x s => R.ok (D.bl true) s) (elt := vCall (callN F T fuel (n + 2)) iI (lCons (evl1 (vVar 0)) (lCons (evl1 (vVar 2)) fun x s => R.ok [] s)))
        id (fun q => [.fz (pD d), .fz (.tup xs), .fz q]) (fun _ => true) (fun q => .bl (plB d q)) (fun q => by simp) xs [] (fun q _ => by simp) (fun q hq _ => by
          have e := plC (F := F) (T := T) (fuel := fuel) (n := n) (i := iI) (s := s) hd (hx q hq)
          simp [e]) (by have := hd.c; simp; unfold lim; omega)
      rw [filter_tt, List.map_id, List.nil_append] at key
      have tr : truths (xs.map fun q => D.bl (plB d q)) = some (xs.map (plB d)) := truths_bl (plB d) xs
      simp [fdP_are_moves, start, h1, h2, hlen, hd, key, tr, movB]
    · have : ¬ (xs.length : Int) = (prodL d : Int) := by omega
      simp [fdP_are_moves, start, h1, h2, hlen, hd, movB, this]
  | cell k => exact absurd rfl (ho.2 k)
  | exc _ _ => cases ho.1
  | set _ => cases ho.1
  | scr _ => cases ho.1
  | _ => simp [fdP_are_moves, start, isTyOk, isTy, movB]⟩
instance endsInst {iP iQ : Nat} [H : Has F i (fdP_ends_of iP iQ)] [HP : PlacesFn F iP] [HQ : PlusFn F iQ] : EndsFn F i := ⟨fun {T fuel n d s l} hd hl hlen => by
  rw [callN_has H rfl]
  have key := lc_pure (tg := .tt (.cn (.tg 2) (.cn (.tg 3) .nl))) (ρ := [.fz (pD d), .fz (.tup (l.map pD)), .un, .un]) (s := s) (cond := tv fun x s => R.ok (D.bl true) s) (elt := vCall (callN F T fuel (n + 2)) iQ (lCons (evl1 (vVar 0)) (lCons (evl1 (vVar 2)) (lCons (evl1 (vVar 3)) fun x s => R.ok [] s))))
    (fun t : List Nat × List Nat => D.tup [pD t.1, pD t.2]) (fun t => [.fz (pD d), .fz (.tup (l.map pD)), .fz (pD t.1), .fz (pD t.2)]) (fun _ => true) (fun t => pD (plusL d t.1 t.2)) (fun t => by simp) ((placesL d).zip l) [] (fun t _ => by simp) (fun t ht _ => by
      have h1 := mem_placesL.mp (List.of_mem_zip ht).1
      have h2 := hl _ (List.of_mem_zip ht).2
      simp [hd, h1, h2]) (by have := hd.plLen; simp; unfold lim; omega)
  rw [filter_tt, List.nil_append] at key
  simp [fdP_ends_of, start, hd, zipOf, zip2_pD, key]
  unfold endsL
  rw [List.zip_eq_zipWith, List.map_zipWith, List.map_zipWith]⟩
theorem prod64 (hd : DOk d) : prodL d < 64 := by have := hd.c; omega
instance dealInst {iM iE iC : Nat} [H : Has F i (fdP_deals iM iE iC)] [HM : MovC F iM] [HE : EndsFn F iE] [HC : CountFn F iC] : DealC F i := ⟨fun {T fuel n d x s} hd hx => by
  rw [callN_has H rfl]
  cases hb : movB d x with
  | false =>
    have : dealB d x = false := by
      cases x with
      | tup xs => simp [dealB, hb]
      | _ => rfl
    simp [fdP_deals, start, hd, hx, hb, this]
  | true =>
    obtain ⟨l, rfl, hl, hn⟩ := movB_ex hb
    have h64 : (endsL d l).length < 64 := by rw [endsL_len hn]; exact prod64 hd
    have hll : l.length ≤ lim := by have := hd.c; unfold lim; omega
    rw [dealB_pl hl hn]
    have e : decide ((nubI (iLs (endsL d l))).length = prodL d) = decide ((endsL d l).Nodup) := by
      rw [decide_eq_decide, ← nub_len, endsL_len hn]
    have e2 := nub_len (l := endsL d l)
    rw [endsL_len hn] at e2
    simp [fdP_deals, start, hd, hb, hl, hll, h64]
    exact ⟨fun h => e2.mp (by omega), fun h => by have := e2.mpr h; omega⟩⟩
instance lawDealInst {iC iI iE iP : Nat} [H : Has F i (fdL_deals iC iI iE iP)] [HC : CountFn F iC] [HI : IsPlC F iI] [HE : EndsFn F iE] [HP : PlacesFn F iP] : DealC F i := ⟨fun {T fuel n d x s} hd hx => by
  rw [callN_has H rfl]
  obtain ⟨ho, hx⟩ := hx
  cases x with
  | tup xs =>
    have hx := hx xs rfl
    have h1 : isTyOk (.tup xs) = true := rfl
    have h2 : isTy (.tup xs) .tuple = true := rfl
    by_cases hlen : xs.length = prodL d
    · have key := lc_pure (tg := .tg 2) (ρ := [.fz (pD d), .fz (.tup xs), .un]) (s := s) (cond := tNot (tv (vCall (callN F T fuel (n + 3)) iI (lCons (evl1 (vVar 0)) (lCons (evl1 (vVar 2)) fun x s => R.ok [] s))))) (elt := fun x s => R.ok (D.int 1) s)
        id (fun q => [.fz (pD d), .fz (.tup xs), .fz q]) (fun q => !plB d q) (fun q => .int 1) (fun q => by simp) xs [] (fun q hq => by
          have e := plC (F := F) (T := T) (fuel := fuel) (n := n + 1) (i := iI) (s := s) hd (hx q hq)
          simp [e]) (fun q hq _ => rfl) (by have := hd.c; simp; unfold lim; omega)
      rw [List.map_id, List.nil_append] at key
      have co := cmpOk_ones (l := xs.filter fun q => !plB d q)
      have al : ((xs.filter fun q => !plB d q).map fun _ => D.int 1).isEmpty = xs.all (plB d) := by
        rw [List.isEmpty_map, filter_all]
        congr 1
        funext p
        simp
      cases hb : xs.all (plB d) with
      | false =>
        rw [hb] at al
        have hm : dealB d (.tup xs) = false := by simp only [dealB, movB, hb, Bool.and_false, Bool.false_and]
        simp [fdL_deals, start, h1, h2, hlen, hd, key, co, al, hm, -List.isEmpty_map, -List.map_const]
      | true =>
        rw [hb] at al
        have hm : movB d (.tup xs) = true := by simp only [movB, hb, hlen, decide_true, Bool.and_self]
        obtain ⟨l, e, hl, hn⟩ := movB_ex hm
        cases e
        have h64 : (endsL d l).length < 64 := by rw [endsL_len hn]; exact prod64 hd
        have hll : l.length ≤ lim := by have := hd.c; unfold lim; omega
        have he := allPl_ends hd hl
        have e2 : decide (sortP (endsL d l) = placesL d) = decide ((endsL d l).Nodup) := by
          rw [decide_eq_decide, sortP_all he (endsL_len hn)]
        rw [dealB_pl hl hn, ← e2]
        have so := sortD_pl hd he h64
        have hpl : prodL d ≤ lim := by have := hd.c; unfold lim; omega
        simp [hpl, fdL_deals, start, h1, h2, hn, hd, key, co, al, hl, hll, so, -List.isEmpty_map, -List.map_const]
    · have hm : dealB d (.tup xs) = false := by simp [dealB, movB, hlen]
      have : ¬ (xs.length : Int) = (prodL d : Int) := by omega
      simp [fdL_deals, start, h1, h2, hlen, hd, hm, this]
  | cell k => exact absurd rfl (ho.2 k)
  | exc _ _ => cases ho.1
  | set _ => cases ho.1
  | scr _ => cases ho.1
  | _ => simp [fdL_deals, start, isTyOk, isTy, dealB]⟩
theorem map3_map3 : ∀ {d a b : List Nat}, isPl d a = true → isPl d b = true → plusL d b (lessL d a b) = a
  | [], [], [], _, _ => rfl
  | [], _ :: _, _, h, _ => by cases h
  | [], [], _ :: _, _, h => by cases h
  | _ :: _, [], _, h, _ => by cases h
  | _ :: _, _ :: _, [], _, h => by cases h
  | z :: d, x :: a, y :: b, ha, hb => by
    simp only [isPl, Bool.and_eq_true, decide_eq_true_eq] at ha hb
    show (y + (((x : Int) - y).fmod z).toNat) % z :: plusL d b (lessL d a b) = x :: a
    rw [map3_map3 ha.2 hb.2]
    congr 1
    have hz : 0 < z := by omega
    have e := toNat_fmod (a := (x : Int) - y) hz
    have : (((y + (((x : Int) - y).fmod z).toNat) % z : Nat) : Int) = x := by
      rw [Int.natCast_emod, Int.natCast_add, e, Int.fmod_eq_emod_of_nonneg _ (by omega), Int.add_emod_emod]
      have : (y : Int) + ((x : Int) - y) = x := by omega
      rw [this]
      exact Int.emod_eq_of_lt (by omega) (by omega)
    omega
theorem plus_less {a b : List Nat} (ha : isPl d a = true) (hb : isPl d b = true) : plusL d b (lessL d a b) = a := map3_map3 ha hb
/-- a dealing -/
structure IsDl (d : List Nat) (l : List (List Nat)) : Prop where
  pl : AllPl d l
  len : l.length = prodL d
  nd : (endsL d l).Nodup
theorem zipWith_zipWith {f : List Nat → List Nat → List Nat} {g : List Nat → List Nat → List Nat} (h : ∀ a b, isPl d a = true → isPl d b = true → f a (g a b) = b) : ∀ {l m : List (List Nat)}, AllPl d l → AllPl d m → l.length = m.length → List.zipWith f l (List.zipWith g l m) = m
  | [], [], _, _, _ => rfl
  | [], _ :: _, _, _, h => by simp at h
  | _ :: _, [], _, _, h => by simp at h
  | a :: l, b :: m, hl, hm, hn => by
    simp only [List.zipWith_cons_cons]
    rw [h a b (hl a (by simp)) (hm b (by simp)), zipWith_zipWith h (fun q hq => hl q (by simp [hq])) (fun q hq => hm q (by simp [hq])) (by simpa using hn)]
theorem dl_of_perm (hd : DOk d) {m : List (List Nat)} (hm : (placesL d).Perm m) : IsDl d (List.zipWith (fun here there => lessL d there here) (placesL d) m) ∧ endsL d (List.zipWith (fun here there => lessL d there here) (placesL d) m) = m := by
  have hpm : AllPl d m := fun q hq => mem_placesL.mp (hm.mem_iff.mpr hq)
  have hlen := hm.length_eq
  have e : endsL d (List.zipWith (fun here there => lessL d there here) (placesL d) m) = m := by
    unfold endsL
    exact zipWith_zipWith (d := d) (f := plusL d) (g := fun here there => lessL d there here) (fun a b ha hb => plus_less hb ha) (allPl_places hd) hpm hlen
  refine ⟨⟨fun q hq => ?_, by simp [placesL_len, ← hlen], by rw [e]; exact hm.nodup_iff.mp (placesL_nodup d)⟩, e⟩
  obtain ⟨a, ha, b, hb, rfl⟩ := mem_zipWith hq
  exact isPl_less hd (hpm b hb) (mem_placesL.mp ha)
theorem perm_pD {ys : List D} {m : List (List Nat)} (h : (m.map pD).Perm ys) : ∃ m' : List (List Nat), ys = m'.map pD ∧ m.Perm m' := by
  have e : ys.map unP = (ys.map unP) := rfl
  refine ⟨ys.map unP, ?_, ?_⟩
  · rw [List.map_map]
    refine (Eq.trans (List.map_congr_left fun y hy => ?_) (List.map_id ys)).symm
    obtain ⟨p, _, rfl⟩ := List.mem_map.mp (h.mem_iff.mpr hy)
    show pD (unP (pD p)) = pD p
    rw [unP_pD]
  · have := h.map unP
    rw [List.map_map] at this
    have e : (unP ∘ pD) = id := funext unP_pD
    rwa [e, List.map_id] at this
theorem dealing_wp {iP iM iL iD : Nat} [H : Has F i (fdL_dealing iP iM iL)] [HP : PlacesFn F iP] [HM : Has F iM (fdMixed iD)] [HL : LessFn F iL] [HD : Has F iD fdDraw] (hf : 65 ≤ fuel) (hd : DOk d) (hk : k ≤ 8000000000000) (g : Good k s) :
    Wp (callN F T fuel (n + 3) i [.cell 1, pD d] s) fun x s' => (∃ l, x = .tup (l.map pD) ∧ IsDl d l) ∧ Good (k + 24) s' := by
  rw [callN_has H rfl, wp_fin]
  simp [fdL_dealing, start, hd]
  have h24 := hd.plLen
  refine wp_mono (mixed_wp (T := T) (n := n) HM HD hf (xs := (placesL d).map pD) (by rw [List.length_map]; omega) (by rw [List.length_map]; omega) (fun ys hs hy => ?_) (by omega) g (L := .lst ((placesL d).map pD)) rfl) fun x s' ⟨ys, h1, hp, hg⟩ => ?_
  · obtain ⟨m, rfl, _⟩ := ex_map (f := pD) (qs := placesL d) (ys := ys) fun y hy => hs hy
    exact cmpOk_lDs
  · subst h1
    obtain ⟨m, rfl, hm⟩ := perm_pD hp
    have hpm : AllPl d m := fun q hq => mem_placesL.mp (hm.mem_iff.mpr hq)
    have key := lc_pure (tg := .tt (.cn (.tg 3) (.cn (.tg 4) .nl))) (ρ := [.fz (.cell 1), .fz (pD d), .fz (.lst ((placesL d).map pD)), .un, .un]) (s := s') (cond := tv fun x s => R.ok (D.bl true) s) (elt := vCall (callN F T fuel (n + 2)) iL (lCons (evl1 (vVar 1)) (lCons (evl1 (vVar 4)) (lCons (evl1 (vVar 3)) fun x s => R.ok [] s))))
      (fun t : List Nat × List Nat => D.tup [pD t.1, pD t.2]) (fun t => [.fz (.cell 1), .fz (pD d), .fz (.lst ((placesL d).map pD)), .fz (pD t.1), .fz (pD t.2)]) (fun _ => true) (fun t => pD (lessL d t.2 t.1)) (fun t => by simp) ((placesL d).zip m) [] (fun t _ => by simp) (fun t ht _ => by
        have h1 := mem_placesL.mp (List.of_mem_zip ht).1
        have h2 := hpm _ (List.of_mem_zip ht).2
        simp [hd, h1, h2]) (by simp; unfold lim; omega)
    rw [filter_tt, List.nil_append] at key
    have hml := hm.length_eq
    have e1 : (((placesL d).zip m).map fun t => pD (lessL d t.2 t.1)) = (List.zipWith (fun here there => lessL d there here) (placesL d) m).map pD := by
      rw [List.zip_eq_zipWith, List.map_zipWith, List.map_zipWith]
    rw [e1] at key
    have hlen : (List.zipWith (fun here there => lessL d there here) (placesL d) m).length ≤ lim := by simp; unfold lim; omega
    simp only [List.length_zipWith] at hlen
    simp [-List.map_zipWith, zipOf, zip2_pD, key, hlen]
    exact ⟨⟨_, rfl, (dl_of_perm hd hm).1⟩, hg.mono (by rw [List.length_map]; omega)⟩
def oddL : List D := [.non, .bl true, .bl false, .str "0", .str "", .lst [], .dic [] [], .tup [.non], .tup [.str "a", .int 1], .lst [.lst [.int 0]], .dic [.int 0] [.int 0], .tup [.bl true], .int 5, .int (-1)]
theorem okP_non : okP .non := okP_no (okD_of rfl) (by intro xs h; cases h)
theorem okP_bl {b : Bool} : okP (.bl b) := okP_no (okD_of rfl) (by intro xs h; cases h)
theorem okP_int {i : Int} : okP (.int i) := okP_no (okD_of rfl) (by intro xs h; cases h)
theorem okP_str {x : Str} : okP (.str x) := okP_no (okD_of rfl) (by intro xs h; cases h)
theorem okM_tup1 {x : D} (h : okP x) : okM (.tup [x]) := okM_tup fun y hy => by
  rw [List.mem_singleton.mp hy]; exact h
theorem okM_tup2 {x z : D} (h : okP x) (h2 : okP z) : okM (.tup [x, z]) := okM_tup fun y hy => by
  simp only [List.mem_cons, List.not_mem_nil, or_false] at hy
  rcases hy with rfl | rfl
  · exact h
  · exact h2
theorem odd_okM {x : D} (h : x ∈ oddL) : okM x := by
  simp only [oddL, List.mem_cons, List.not_mem_nil, or_false] at h
  rcases h with rfl | rfl | rfl | rfl | rfl | rfl | rfl | rfl | rfl | rfl | rfl | rfl | rfl | rfl
  case inr.inr.inr.inr.inr.inr.inr.inl => exact okM_tup1 okP_non
  case inr.inr.inr.inr.inr.inr.inr.inr.inl => exact okM_tup2 okP_str okP_int
  case inr.inr.inr.inr.inr.inr.inr.inr.inr.inr.inr.inl => exact okM_tup1 okP_bl
  all_goals exact okM_no (okD_of rfl) (by intro xs h; cases h)
theorem odd_wp {iK iD : Nat} [H : Has F i (fdL_odd iK)] [HK : Has F iK (fdPick iD)] [HD : Has F iD fdDraw] (hf : 65 ≤ fuel) (hk : k ≤ 9000000000000) (g : Good k s) :
    Wp (callN F T fuel (n + 3) i [.cell 1] s) fun x s' => x ∈ oddL ∧ Good (k + 1) s' := by
  rw [callN_has H rfl, wp_fin]
  simp [fdL_odd, start]
  refine wp_mono (pick_wp (F := F) (T := T) (fuel := fuel) (n := n) HK HD hf (by simp) (by simp) (by omega) g (.inl rfl)) fun d s' ⟨h1, h2⟩ => ?_
  simp
  exact ⟨by simpa [oddL] using h1, h2⟩
class NeedMov (F : List FD) (i : Nat) (c : outParam Nat) : Prop where
  ok : ∀ {T fuel n d x s}, DOk d → okM x → movB d x = true → callN F T fuel (n + 4) i [pD d, x] s = .ok .non s
  bad : ∀ {T fuel n d x s}, DOk d → okM x → movB d x = false → callN F T fuel (n + 4) i [pD d, x] s = .ex c [] s
instance needMovInst {iM : Nat} [H : Has F i (fdP_need_moves iM c)] [HM : MovC F iM] : NeedMov F i c := ⟨fun {T fuel n d x s} hd hx hb => by
  rw [callN_has H rfl]
  simp [fdP_need_moves, start, hd, hx, hb], fun {T fuel n d x s} hd hx hb => by
  rw [callN_has H rfl]
  simp [fdP_need_moves, start, hd, hx, hb]⟩
@[simp] theorem needMov_ok [h : NeedMov F i c] {x : D} (hd : DOk d) (hx : okM x) (hb : movB d x = true) : callN F T fuel (n + 4) i [pD d, x] s = .ok .non s := h.ok hd hx hb
@[simp] theorem needMov_bad [h : NeedMov F i c] {x : D} (hd : DOk d) (hx : okM x) (hb : movB d x = false) : callN F T fuel (n + 4) i [pD d, x] s = .ex c [] s := h.bad hd hx hb
variable {iN iS iO c0 : Nat}
@[simp] theorem ends_s [H : Has F i (fdTotalP iN iS iO)] [NeedD F iN c0] [NeedMov F iS c] [EndsFn F iO] (hd : DOk d) (hl : AllPl d l) (hn : l.length = prodL d) : callN F T fuel (n + 5) i [pD d, .tup (l.map pD)] s = .ok (.lst ((endsL d l).map pD)) s := by
  have hm := movB_pl hl hn
  have hll : l.length ≤ lim := by have := hd.c; unfold lim; omega
  have e := needMov_ok (F := F) (T := T) (fuel := fuel) (n := n) (i := iS) (s := s) hd (okM_pls (l := l)) hm
  have e2 := endsFn (F := F) (T := T) (fuel := fuel) (n := n + 1) (i := iO) (s := s) hd hl hll
  rw [callN_has H rfl]
  simp [fdTotalP, start, hd, e, e2]
@[simp] theorem ends_bad [H : Has F i (fdTotalP iN iS iO)] [NeedD F iN c0] [NeedMov F iS c] {x : D} (hd : DOk d) (hx : okM x) (hb : movB d x = false) : callN F T fuel (n + 5) i [pD d, x] s = .ex c [] s := by
  have e := needMov_bad (F := F) (T := T) (fuel := fuel) (n := n) (i := iS) (s := s) hd hx hb
  rw [callN_has H rfl]
  simp [fdTotalP, start, hd, e]
@[simp] theorem isDealing_s [H : Has F i (fdP_is_dealing iN iO)] [NeedD F iN c0] [DealC F iO] {x : D} (hd : DOk d) (hx : okM x) : callN F T fuel (n + 5) i [pD d, x] s = .ok (.bl (dealB d x)) s := by
  rw [callN_has H rfl]
  simp [fdP_is_dealing, start, hd, hx]
@[simp] theorem isDealing_bad [H : Has F i (fdP_is_dealing iN iO)] [NeedD F iN c0] {w x : D} (hw : w ∈ badD) : callN F T fuel (n + 4) i [w, x] s = .ex c0 [] s := by
  rw [callN_has H rfl]
  simp [fdP_is_dealing, start, hw]
theorem cut_pls {l : List (List Nat)} {j : Nat} (h : j ≤ l.length) : cut (l.map pD) none (some (j : Int)) = (l.take j).map pD ∧ cut (l.map pD) (some (j : Int)) none = (l.drop j).map pD := by
  rw [cut_to (by simpa using h), cut_from (by simpa using h), List.map_take, List.map_drop]
  exact ⟨rfl, rfl⟩
theorem one_pls {l : List (List Nat)} {j : Nat} {x : D} (hx : okP x) : ∀ y ∈ ((l.take j).map pD ++ [x]) ++ (l.drop (j + 1)).map pD, okP y := fun y hy => by
  simp only [List.mem_append, List.mem_singleton] at hy
  rcases hy with (hy | rfl) | hy
  · exact okP_pls y hy
  · exact hx
  · exact okP_pls y hy
theorem okP_cut {l : List (List Nat)} {lo hi : Option Int} : ∀ y ∈ cut (l.map pD) lo hi, okP y := fun y hy => okP_pls y (cut_mem hy)
theorem badDealing_wp {iA iD iC iP iL iB iK iP2 iK2 iB2 iM2 iL2 iP3 : Nat} [H : Has F i (fdL_bad_dealing iA iD iC iP iL iB iK)] [HA : Has F iA (fdL_dealing iP3 iM2 iL2)] [HP3 : PlacesFn F iP3] [HM2 : Has F iM2 (fdMixed iD)] [HL2 : LessFn F iL2]
    [HD : Has F iD fdDraw] [HC : CountFn F iC] [HP : PlusFn F iP] [HL : PlacesFn F iL] [HB : Has F iB (fdBadPlace iP2 iD iK2 iB2)] [HP2 : Has F iP2 (fdPlace iD)] [HK2 : Has F iK2 (fdPick iD)] [HB2 : Has F iB2 (fdBool iK2)] [HK : Has F iK (fdPick iD)] (hf : 65 ≤ fuel) (hd : DOk d) (hk : k ≤ 7000000000000) (g : Good k s) :
    Wp (callN F T fuel (n + 5) i [.cell 1, pD d] s) fun x s' => okM x ∧ Good (k + 300) s' := by
  rw [callN_has H rfl, wp_fin]
  simp [fdL_bad_dealing, start]
  refine wp_mono (dealing_wp (F := F) (T := T) (fuel := fuel) (n := n + 1) (i := iA) (iP := iP3) (iM := iM2) (iL := iL2) (iD := iD) hf hd (by omega) g) fun x s1 ⟨⟨l, h1, hl⟩, g1⟩ => ?_
  subst h1
  have hp2 : 1 ≤ prodL d := by
    rw [← placesL_len]
    exact List.length_pos_iff.mpr hd.ne
  have hp3 : prodL d ≤ 24 := hd.c
  simp [hd]
  refine wp_mono (draw_wp (F := F) (T := T) (fuel := fuel) (n := n + 3) (i := iD) HD hf (z := prodL d) (by omega) (by omega) (by omega) g1) fun x s2 ⟨j, h1, hj, g2⟩ => ?_
  subst h1
  have hjl : j < l.length := by rw [hl.len]; exact hj
  obtain ⟨q, hq, hql⟩ := nth_ex hjl
  have hsub : sub (.tup (l.map pD)) (.int (j : Int)) = some (pD q) := by
    rw [sub_tupN, if_pos (inB_nat (by omega)), nth_map', hq]
    rfl
  have h2 : 1 < (placesL d).length := by
    have h0 := hd.n1
    rw [placesL_len]
    cases d with
    | nil => simp at h0
    | cons z d' =>
      rw [prodL_cons]
      have hz := hd.ge z (by simp)
      have : 1 ≤ prodL d' := by
        cases e : prodL d' with
        | zero => rw [prodL_cons, e, Nat.mul_zero] at hp2; omega
        | succ m => omega
      have : z * 1 ≤ z * prodL d' := Nat.mul_le_mul_left _ this
      omega
  obtain ⟨r, hr, hrl⟩ := nth_ex h2
  have hsub2 : at_ ((placesL d).map pD) 1 = some (pD r) := by
    rw [at_one, nth_map', hr]
    rfl
  have hqp := hl.pl q hql
  have hrp := mem_placesL.mp hrl
  have in1 : inB 1 = true := rfl
  simp [-sub_tupN, hsub, hsub2, in1, hd, hqp, hrp]
  refine wp_mono (badPlace_wp (F := F) (T := T) (fuel := fuel) (n := n) (i := iB) (iP := iP2) (iD := iD) (iK := iK2) (iB := iB2) HB HP2 HD HK2 HB2 hf hd.pos2 hd.n1 (by have := hd.n4; omega) (by omega) g2) fun b s3 ⟨hb, g3⟩ => ?_
  obtain ⟨c1, _⟩ := cut_pls (l := l) (j := j) (by omega)
  obtain ⟨_, c2⟩ := cut_pls (l := l) (j := j + 1) (by omega)
  have c2' : cut (l.map pD) (some ((j : Int) + 1)) none = (l.drop (j + 1)).map pD := c2
  have hl24 : l.length ≤ 24 := by rw [hl.len]; exact hp3
  have b1 : ∀ x : D, bin .add (.tup ((l.take j).map pD)) (.tup [x]) = some (.tup ((l.take j).map pD ++ [x])) := fun x => if_pos (by simp; unfold lim; omega)
  have b2 : ∀ x : D, bin .add (.tup ((l.take j).map pD ++ [x])) (.tup ((l.drop (j + 1)).map pD)) = some (.tup (((l.take j).map pD ++ [x]) ++ (l.drop (j + 1)).map pD)) := fun x => if_pos (by simp; unfold lim; omega)
  obtain ⟨c3, _⟩ := cut_pls (l := l) (j := 1) (by rw [hl.len]; omega)
  have c3' : cut (l.map pD) none (some 1) = (l.take 1).map pD := c3
  have b3 : bin .add (.tup (l.map pD)) (.tup ((l.take 1).map pD)) = some (.tup (l.map pD ++ (l.take 1).map pD)) := if_pos (by simp; unfold lim; omega)
  have hll : l.length ≤ lim := by unfold lim; omega
  have e46 : (4 : Nat) + 6 ≤ lim := by decide
  simp [-sub_tupN, -sub_tup, -bin_addt, -List.map_take, -List.map_drop, -List.append_assoc, cutD, c1, c2', c3', b1, b2, b3, lcStep, lcAdd, hll]
  refine ⟨by decide, by decide, by decide, by decide, ?_⟩
  have o1 := okM_tup (one_pls (l := l) (j := j) (x := pD (plusL d q r)) okP_pl)
  have o2 := okM_tup (one_pls (l := l) (j := j) (x := b) hb.okP)
  have o3 := okM_tup (one_pls (l := l) (j := j) (x := .non) okP_non)
  have o4 : okM (.lst (l.map pD)) := okM_no (okD_of rfl) (by intro xs h; cases h)
  have o5 : okM (.tup (cut (l.map pD) none (some (-1)))) := okM_tup okP_cut
  have o6 : okM (.tup (l.map pD ++ (l.take 1).map pD)) := okM_tup fun y hy => by
    rcases List.mem_append.mp hy with hy | hy
    · exact okP_pls y hy
    · exact okP_pls y hy
  have o7 : okM .non := okM_no (okD_of rfl) (by intro xs h; cases h)
  have o8 : okM (.tup []) := okM_tup (by simp)
  have o9 : okM (.int 5) := okM_no (okD_of rfl) (by intro xs h; cases h)
  generalize ((l.take j).map pD ++ [pD (plusL d q r)]) ++ (l.drop (j + 1)).map pD = w1 at o1 ⊢
  generalize ((l.take j).map pD ++ [b]) ++ (l.drop (j + 1)).map pD = w2 at o2 ⊢
  generalize ((l.take j).map pD ++ [.non]) ++ (l.drop (j + 1)).map pD = w3 at o3 ⊢
  generalize cut (l.map pD) none (some (-1)) = w5 at o5 ⊢
  generalize l.map pD ++ (l.take 1).map pD = w6 at o6 ⊢
  refine wp_mono (pick_wp (T := T) (n := n + 2) (xs := [.tup w1, .tup w1, .tup w2, .tup w3, .lst (l.map pD), .tup w5, .tup w6, .non, .tup [], .int 5]) HK HD hf (by simp) (by simp) (by omega) g3 (.inl rfl)) fun y s' ⟨hy, hg⟩ => ?_
  simp
  refine ⟨?_, hg.mono (by omega)⟩
  simp only [List.mem_cons, List.not_mem_nil, or_false] at hy
  rcases hy with rfl | rfl | rfl | rfl | rfl | rfl | rfl | rfl | rfl | rfl <;> assumption
end
end MR.MS
set_option Elab.async false
set_option linter.all false
set_option maxRecDepth 100000
namespace MR
open PySem PySem.Spec PyProof.Rows L2
def topS (i : Nat) : Stmt := PySem.Challenge.pw_movedround_k08_ends_and_dealings_judged.main.body.getD i (.Pass ⟨0, 0, 0, 0⟩)
def bd0 : E := (.cn (.ret (.an (.isi (.vr 0) [.int]) (.an (.nt (.isi (.vr 0) [.bool])) (.cm2 .le .le (.vr 1) (.vr 0) (.vr 2))))) .nl)
abbrev st0 : Stmt := topS 7
def df0 : Df := ⟨"is_between", 3, ["thing", "low", "high"], st0, bd0, false, [], false⟩
def bd1 : E := (.cn (.asg (.tg 1) (.ci 1)) (.cn (.for_ (.tg 2) (.itv (.vr 0)) (.cn (.asg (.tg 1) (.bin .mul (.vr 1) (.vr 2))) .nl)) (.cn (.ret (.vr 1)) .nl)))
abbrev st1 : Stmt := topS 8
def df1 : Df := ⟨"count_of", 1, ["dials", "found", "size"], st1, bd1, false, [], false⟩
def bd2 : E := (.cn (.iff (.or (.nt (.isi (.vr 0) [.tuple])) (.nt (.cm2 .le .le (.ci 1) (.blt .len (.cn (.vr 0) .nl)) (.gc "MOST_DIALS" 4)))) (.cn (.ret (.cb false)) .nl) .nl) (.cn (.ret (.an (.blt .all (.cn (.lc (.tg 1) (.itv (.vr 0)) (.cb true) (.call 0 (.cn (.vr 1) (.cn (.ci 2) (.cn (.gc "MOST_PLACES" 24) .nl)))) [1]) .nl)) (.cmp .le (.call 1 (.cn (.vr 0) .nl)) (.gc "MOST_PLACES" 24)))) .nl))
abbrev st2 : Stmt := topS 9
def df2 : Df := ⟨"are_dials", 1, ["thing", "size"], st2, bd2, false, [], false⟩
def bd3 : E := (.cn (.iff (.nt (.call 2 (.cn (.vr 0) .nl))) (.cn (.rs 1 "no dials") .nl) .nl) .nl)
abbrev st3 : Stmt := topS 10
def df3 : Df := ⟨"need_dials", 1, ["dials"], st3, bd3, false, [], false⟩
def bd4 : E := (.cn (.iff (.or (.nt (.isi (.vr 1) [.tuple])) (.cmp .ne (.blt .len (.cn (.vr 1) .nl)) (.blt .len (.cn (.vr 0) .nl)))) (.cn (.ret (.cb false)) .nl) .nl) (.cn (.ret (.blt .all (.cn (.lc (.tt (.cn (.tg 2) (.cn (.tg 3) .nl))) (.itz (.cn (.vr 1) (.cn (.vr 0) .nl))) (.cb true) (.call 0 (.cn (.vr 2) (.cn (.ci 0) (.cn (.bin .sub (.vr 3) (.ci 1)) .nl)))) [2, 3]) .nl))) .nl))
abbrev st4 : Stmt := topS 11
def df4 : Df := ⟨"is_place", 2, ["dials", "thing", "item", "size"], st4, bd4, false, [], false⟩
def bd5 : E := (.cn (.asg (.tg 1) (.ls (.cn (.tp .nl) .nl))) (.cn (.for_ (.tg 2) (.itv (.vr 0)) (.cn (.asg (.tg 1) (.lc2 (.tg 3) (.itv (.vr 1)) (.cb true) (.tg 4) (.itv (.vr 2)) (.cb true) (.tp (.cn (.st (.vr 3)) (.cn (.vr 4) .nl))) [3, 4] [4])) .nl)) (.cn (.ret (.vr 1)) .nl)))
abbrev st5 : Stmt := topS 12
def df5 : Df := ⟨"picks_of", 1, ["menus", "found", "menu", "row", "item"], st5, bd5, false, [], false⟩
def bd6 : E := (.cn (.ret (.call 5 (.cn (.lc (.tg 1) (.itv (.vr 0)) (.cb true) (.li (.itr (.cn (.vr 1) .nl))) [1]) .nl))) .nl)
abbrev st6 : Stmt := topS 13
def df6 : Df := ⟨"places_of", 1, ["dials", "size"], st6, bd6, false, [], false⟩
def bd7 : E := (.cn (.ret (.ti (.itv (.lc (.tt (.cn (.tg 3) (.cn (.tg 4) (.cn (.tg 5) .nl)))) (.itz (.cn (.vr 1) (.cn (.vr 2) (.cn (.vr 0) .nl)))) (.cb true) (.bin .mod (.bin .add (.vr 3) (.vr 4)) (.vr 5)) [3, 4, 5])))) .nl)
abbrev st7 : Stmt := topS 14
def df7 : Df := ⟨"plus_of", 3, ["dials", "one", "other", "here", "there", "size"], st7, bd7, false, [], false⟩
def bd8 : E := (.cn (.iff (.or (.nt (.isi (.vr 1) [.tuple])) (.cmp .ne (.blt .len (.cn (.vr 1) .nl)) (.call 1 (.cn (.vr 0) .nl)))) (.cn (.ret (.cb false)) .nl) .nl) (.cn (.ret (.blt .all (.cn (.lc (.tg 2) (.itv (.vr 1)) (.cb true) (.call 4 (.cn (.vr 0) (.cn (.vr 2) .nl))) [2]) .nl))) .nl))
abbrev st8 : Stmt := topS 16
def df8 : Df := ⟨"are_moves", 2, ["dials", "thing", "move"], st8, bd8, false, [], false⟩
def bd9 : E := (.cn (.iff (.nt (.call 8 (.cn (.vr 0) (.cn (.vr 1) .nl)))) (.cn (.rs 2 "no move for each person") .nl) .nl) .nl)
abbrev st9 : Stmt := topS 17
def df9 : Df := ⟨"need_moves", 2, ["dials", "moves"], st9, bd9, false, [], false⟩
def bd10 : E := (.cn (.ret (.lc (.tt (.cn (.tg 2) (.cn (.tg 3) .nl))) (.itz (.cn (.call 6 (.cn (.vr 0) .nl)) (.cn (.vr 1) .nl))) (.cb true) (.call 7 (.cn (.vr 0) (.cn (.vr 2) (.cn (.vr 3) .nl)))) [2, 3])) .nl)
abbrev st10 : Stmt := topS 18
def df10 : Df := ⟨"ends_of", 2, ["dials", "moves", "person", "move"], st10, bd10, false, [], true⟩
def bd11 : E := (.cn (.ret (.an (.call 8 (.cn (.vr 0) (.cn (.vr 1) .nl))) (.cmp .eq (.lset (.call 10 (.cn (.vr 0) (.cn (.vr 1) .nl)))) (.call 1 (.cn (.vr 0) .nl))))) .nl)
abbrev st11 : Stmt := topS 19
def df11 : Df := ⟨"deals", 2, ["dials", "thing"], st11, bd11, false, [], false⟩
def bd12 : E := (.cn (.exs (.call 3 (.cn (.vr 0) .nl))) (.cn (.exs (.call 9 (.cn (.vr 0) (.cn (.vr 1) .nl)))) (.cn (.ret (.call 10 (.cn (.vr 0) (.cn (.vr 1) .nl)))) .nl)))
abbrev st12 : Stmt := topS 20
def df12 : Df := ⟨"ends", 2, ["dials", "moves"], st12, bd12, false, [(0, ["moves", "dials"], [1, 0])], true⟩
def bd13 : E := (.cn (.exs (.call 3 (.cn (.vr 0) .nl))) (.cn (.ret (.call 11 (.cn (.vr 0) (.cn (.vr 1) .nl)))) .nl))
abbrev st13 : Stmt := topS 21
def df13 : Df := ⟨"is_dealing", 2, ["dials", "thing"], st13, bd13, false, [(0, ["thing", "dials"], [1, 0])], false⟩
def bd14 : E := (.cn (.asg (.tg 1) (.lc (.tg 3) (.itv (.vr 0)) (.cb true) (.blt .abs (.cn (.vr 3) .nl)) [3])) (.cn (.asg (.tg 2) (.newc (.lc (.tg 3) (.itv (.vr 1)) (.cmp .ge (.vr 3) (.bin .pow (.ci 10) (.ci 18))) (.bin .sub (.vr 3) (.bin .pow (.ci 10) (.ci 18))) [3]))) (.cn (.ret (.newc (.dsp (.cn (.cs "large") (.cn (.cs "cells") (.cn (.cs "left") (.cn (.cs "turn") .nl)))) (.cn (.vr 2) (.cn (.vr 1) (.cn (.ci 0) (.cn (.ci 0) .nl))))))) .nl)))
abbrev st14 : Stmt := topS 23
def df14 : Df := ⟨"_law_begun", 1, ["_law_script", "_law_cells_here", "_law_large", "_law_cell"], st14, bd14, false, [], false⟩
def bd15 : E := (.cn (.wh (.an (.cmp .eq (.sub (.vr 0) (.cs "left")) (.ci 0)) (.cmp .ne (.sub (.vr 0) (.cs "large")) (.ls .nl))) (.cn (.cset (.vr 0) (.cs "left") (.popc (.sub (.vr 0) (.cs "large")) (.ci 0))) .nl)) (.cn (.iff (.cmp .gt (.sub (.vr 0) (.cs "left")) (.ci 0)) (.cn (.asg (.tg 5) (.bin .mod (.blt .int (.cn (.sub (.vr 0) (.cs "left")) .nl)) (.vr 1))) (.cn (.cset (.vr 0) (.cs "left") (.bin .fdiv (.sub (.vr 0) (.cs "left")) (.vr 1))) (.cn (.ret (.vr 5)) .nl))) .nl) (.cn (.asg (.tg 2) (.bin .add (.sub (.vr 0) (.cs "turn")) (.ci 1))) (.cn (.cset (.vr 0) (.cs "turn") (.vr 2)) (.cn (.asg (.tg 3) (.ife (.cmp .ne (.sub (.vr 0) (.cs "cells")) (.ls .nl)) (.sub (.sub (.vr 0) (.cs "cells")) (.bin .mod (.blt .int (.cn (.vr 2) .nl)) (.blt .len (.cn (.sub (.vr 0) (.cs "cells")) .nl)))) (.ci 0))) (.cn (.asg (.tg 4) (.bin .mod (.blt .int (.cn (.bin .pow (.bin .add (.bin .add (.bin .mod (.blt .int (.cn (.vr 3) .nl)) (.ci 2147483563)) (.bin .mul (.ci 40692) (.vr 2))) (.ci 24681)) (.ci 3)) .nl)) (.ci 2147483629))) (.cn (.ret (.bin .mod (.blt .int (.cn (.bin .fdiv (.bin .mod (.blt .int (.cn (.bin .pow (.bin .add (.vr 4) (.bin .mul (.ci 104917) (.vr 2))) (.ci 5)) .nl)) (.ci 2147483579)) (.ci 29)) .nl)) (.vr 1))) .nl)))))))
abbrev st15 : Stmt := topS 24
def df15 : Df := ⟨"_law_draw", 2, ["_law_state", "_law_size_here", "_law_turn", "_law_cell", "_law_mixed_here", "_law_found"], st15, bd15, false, [], false⟩
def bd16 : E := (.cn (.ret (.sub (.vr 1) (.call 15 (.cn (.vr 0) (.cn (.blt .len (.cn (.vr 1) .nl)) .nl))))) .nl)
abbrev st16 : Stmt := topS 25
def df16 : Df := ⟨"_law_pick", 2, ["_law_state", "_law_several"], st16, bd16, false, [], false⟩
def bd17 : E := (.cn (.par 2 3 (.li (.itv (.vr 1))) (.ls .nl) true true) (.cn (.wh (.cmp .ne (.br 2) (.ls .nl)) (.cn (.apop 3 2 (.call 15 (.cn (.vr 0) (.cn (.blt .len (.cn (.br 2) .nl)) .nl)))) .nl)) (.cn (.rmv 3) .nl)))
abbrev st17 : Stmt := topS 26
def df17 : Df := ⟨"_law_mixed", 2, ["_law_state", "_law_several", "_law_left", "_law_found"], st17, bd17, false, [], true⟩
def bd18 : E := (.cn (.ret (.an (.isi (.vr 0) [.int]) (.nt (.isi (.vr 0) [.bool])))) .nl)
abbrev st18 : Stmt := topS 28
def df18 : Df := ⟨"_law_is_whole", 1, ["_law_item"], st18, bd18, false, [], false⟩
def bd19 : E := (.cn (.ret (.call 16 (.cn (.vr 0) (.cn (.ls (.cn .cnn (.cn (.cb true) (.cn (.cb false) (.cn (.cs "0") (.cn (.cs "") (.cn (.ls .nl) (.cn (.dsp .nl .nl) (.cn (.tp (.cn .cnn .nl)) (.cn (.tp (.cn (.cs "a") (.cn (.ci 1) .nl))) (.cn (.ls (.cn (.ls (.cn (.ci 0) .nl)) .nl)) (.cn (.dz 0 0) (.cn (.tp (.cn (.cb true) .nl)) (.cn (.ci 5) (.cn (.neg (.ci 1)) .nl))))))))))))))) .nl)))) .nl)
abbrev st19 : Stmt := topS 29
def df19 : Df := ⟨"_law_odd", 1, ["_law_state"], st19, bd19, false, [], false⟩
def bd20 : E := (.cn (.asg (.tg 1) (.ci 1)) (.cn (.for_ (.tg 2) (.itv (.vr 0)) (.cn (.asg (.tg 1) (.bin .mul (.vr 1) (.vr 2))) .nl)) (.cn (.ret (.vr 1)) .nl)))
abbrev st20 : Stmt := topS 30
def df20 : Df := ⟨"_law_count", 1, ["_law_dials_here", "_law_found", "_law_size_here"], st20, bd20, false, [], false⟩
def bd21 : E := (.cn (.asg (.tg 2) (.ls (.cn (.tp (.cn (.ci 2) .nl)) (.cn (.tp (.cn (.ci 3) .nl)) (.cn (.tp (.cn (.ci 4) .nl)) (.cn (.tp (.cn (.ci 2) (.cn (.ci 2) .nl))) (.cn (.tp (.cn (.ci 5) .nl)) (.cn (.tp (.cn (.ci 6) .nl)) (.cn (.tp (.cn (.ci 2) (.cn (.ci 3) .nl))) (.cn (.tp (.cn (.ci 7) .nl)) (.cn (.tp (.cn (.ci 8) .nl)) (.cn (.tp (.cn (.ci 2) (.cn (.ci 4) .nl))) (.cn (.tp (.cn (.ci 2) (.cn (.ci 2) (.cn (.ci 2) .nl)))) (.cn (.tp (.cn (.ci 9) .nl)) (.cn (.tp (.cn (.ci 3) (.cn (.ci 3) .nl))) (.cn (.tp (.cn (.ci 10) .nl)) (.cn (.tp (.cn (.ci 11) .nl)) (.cn (.tp (.cn (.ci 12) .nl)) .nl)))))))))))))))))) (.cn (.asg (.tg 2) (.bin .add (.vr 2) (.ls (.cn (.tp (.cn (.ci 2) (.cn (.ci 6) .nl))) (.cn (.tp (.cn (.ci 3) (.cn (.ci 4) .nl))) (.cn (.tp (.cn (.ci 13) .nl)) (.cn (.tp (.cn (.ci 14) .nl)) (.cn (.tp (.cn (.ci 15) .nl)) (.cn (.tp (.cn (.ci 3) (.cn (.ci 5) .nl))) (.cn (.tp (.cn (.ci 16) .nl)) (.cn (.tp (.cn (.ci 4) (.cn (.ci 4) .nl))) (.cn (.tp (.cn (.ci 2) (.cn (.ci 8) .nl))) (.cn (.tp (.cn (.ci 2) (.cn (.ci 2) (.cn (.ci 4) .nl)))) (.cn (.tp (.cn (.ci 2) (.cn (.ci 2) (.cn (.ci 2) (.cn (.ci 2) .nl))))) (.cn (.tp (.cn (.ci 17) .nl)) (.cn (.tp (.cn (.ci 18) .nl)) (.cn (.tp (.cn (.ci 3) (.cn (.ci 6) .nl))) .nl))))))))))))))))) (.cn (.asg (.tg 2) (.bin .add (.vr 2) (.ls (.cn (.tp (.cn (.ci 19) .nl)) (.cn (.tp (.cn (.ci 20) .nl)) (.cn (.tp (.cn (.ci 2) (.cn (.ci 10) .nl))) (.cn (.tp (.cn (.ci 21) .nl)) (.cn (.tp (.cn (.ci 22) .nl)) (.cn (.tp (.cn (.ci 23) .nl)) (.cn (.tp (.cn (.ci 24) .nl)) (.cn (.tp (.cn (.ci 2) (.cn (.ci 12) .nl))) (.cn (.tp (.cn (.ci 4) (.cn (.ci 6) .nl))) (.cn (.tp (.cn (.ci 2) (.cn (.ci 2) (.cn (.ci 6) .nl)))) (.cn (.tp (.cn (.ci 2) (.cn (.ci 2) (.cn (.ci 2) (.cn (.ci 3) .nl))))) .nl)))))))))))))) (.cn (.ret (.call 16 (.cn (.vr 0) (.cn (.lc (.tg 3) (.itv (.vr 2)) (.cmp .le (.call 20 (.cn (.vr 3) .nl)) (.vr 1)) (.vr 3) [3]) .nl)))) .nl))))
abbrev st21 : Stmt := topS 31
def df21 : Df := ⟨"_law_dials", 2, ["_law_state", "_law_most", "_law_some", "_law_dials_here"], st21, bd21, false, [], false⟩
def bd22 : E := (.cn (.asg (.tg 1) (.ls (.cn (.tp .nl) .nl))) (.cn (.for_ (.tg 2) (.itv (.vr 0)) (.cn (.asg (.tg 3) (.ls .nl)) (.cn (.for_ (.tg 4) (.itv (.vr 1)) (.cn (.asg (.tg 3) (.bin .add (.vr 3) (.lc (.tg 5) (.itr (.cn (.vr 2) .nl)) (.cb true) (.bin .add (.vr 4) (.tp (.cn (.vr 5) .nl))) [5]))) .nl)) (.cn (.asg (.tg 1) (.vr 3)) .nl)))) (.cn (.ret (.vr 1)) .nl)))
abbrev st22 : Stmt := topS 32
def df22 : Df := ⟨"_law_places", 1, ["_law_dials_here", "_law_found", "_law_size_here", "_law_more", "_law_row", "_law_item"], st22, bd22, false, [], false⟩
def bd23 : E := (.cn (.ret (.ti (.itv (.lc (.tt (.cn (.tg 3) (.cn (.tg 4) (.cn (.tg 5) .nl)))) (.itz (.cn (.vr 1) (.cn (.vr 2) (.cn (.vr 0) .nl)))) (.cb true) (.bin .mod (.blt .int (.cn (.bin .add (.vr 3) (.vr 4)) .nl)) (.vr 5)) [3, 4, 5])))) .nl)
abbrev st23 : Stmt := topS 33
def df23 : Df := ⟨"_law_plus", 3, ["_law_dials_here", "_law_one", "_law_other", "_law_here", "_law_there", "_law_size_here"], st23, bd23, false, [], false⟩
def bd24 : E := (.cn (.ret (.ti (.itv (.lc (.tt (.cn (.tg 3) (.cn (.tg 4) (.cn (.tg 5) .nl)))) (.itz (.cn (.vr 1) (.cn (.vr 2) (.cn (.vr 0) .nl)))) (.cb true) (.bin .mod (.blt .int (.cn (.bin .add (.bin .sub (.vr 3) (.vr 4)) (.vr 5)) .nl)) (.vr 5)) [3, 4, 5])))) .nl)
abbrev st24 : Stmt := topS 34
def df24 : Df := ⟨"_law_less", 3, ["_law_dials_here", "_law_one", "_law_other", "_law_here", "_law_there", "_law_size_here"], st24, bd24, false, [], false⟩
def bd25 : E := (.cn (.iff (.or (.nt (.isi (.vr 1) [.tuple])) (.cmp .ne (.blt .len (.cn (.vr 1) .nl)) (.blt .len (.cn (.vr 0) .nl)))) (.cn (.ret (.cb false)) .nl) .nl) (.cn (.ret (.cmp .eq (.lc (.tt (.cn (.tg 2) (.cn (.tg 3) .nl))) (.itz (.cn (.vr 1) (.cn (.vr 0) .nl))) (.or (.nt (.call 18 (.cn (.vr 2) .nl))) (.nt (.cm2 .le .lt (.ci 0) (.vr 2) (.vr 3)))) (.ci 1) [2, 3]) (.ls .nl))) .nl))
abbrev st25 : Stmt := topS 35
def df25 : Df := ⟨"_law_is_place", 2, ["_law_dials_here", "_law_item", "_law_one", "_law_size_here"], st25, bd25, false, [], false⟩
def bd26 : E := (.cn (.ret (.ti (.itv (.lc (.tg 2) (.itv (.vr 1)) (.cb true) (.call 15 (.cn (.vr 0) (.cn (.vr 2) .nl))) [2])))) .nl)
abbrev st26 : Stmt := topS 36
def df26 : Df := ⟨"_law_place", 2, ["_law_state", "_law_dials_here", "_law_size_here"], st26, bd26, false, [], false⟩
def bd27 : E := (.cn (.asg (.tg 2) (.call 22 (.cn (.vr 1) .nl))) (.cn (.ret (.ti (.itv (.lc (.tt (.cn (.tg 3) (.cn (.tg 4) .nl))) (.itz (.cn (.vr 2) (.cn (.call 17 (.cn (.vr 0) (.cn (.vr 2) .nl))) .nl))) (.cb true) (.call 24 (.cn (.vr 1) (.cn (.vr 4) (.cn (.vr 3) .nl)))) [3, 4])))) .nl))
abbrev st27 : Stmt := topS 37
def df27 : Df := ⟨"_law_dealing", 2, ["_law_state", "_law_dials_here", "_law_menu", "_law_here", "_law_there"], st27, bd27, false, [], false⟩
def bd28 : E := (.cn (.ret (.lc (.tt (.cn (.tg 2) (.cn (.tg 3) .nl))) (.itz (.cn (.call 22 (.cn (.vr 0) .nl)) (.cn (.vr 1) .nl))) (.cb true) (.call 23 (.cn (.vr 0) (.cn (.vr 2) (.cn (.vr 3) .nl)))) [2, 3])) .nl)
abbrev st28 : Stmt := topS 38
def df28 : Df := ⟨"_law_ends", 2, ["_law_dials_here", "_law_moves_here", "_law_one", "_law_move_here"], st28, bd28, false, [], true⟩
def bd29 : E := (.cn (.iff (.or (.nt (.isi (.vr 1) [.tuple])) (.cmp .ne (.blt .len (.cn (.vr 1) .nl)) (.call 20 (.cn (.vr 0) .nl)))) (.cn (.ret (.cb false)) .nl) .nl) (.cn (.iff (.cmp .ne (.lc (.tg 2) (.itv (.vr 1)) (.nt (.call 25 (.cn (.vr 0) (.cn (.vr 2) .nl)))) (.ci 1) [2]) (.ls .nl)) (.cn (.ret (.cb false)) .nl) .nl) (.cn (.ret (.cmp .eq (.sor (.call 28 (.cn (.vr 0) (.cn (.vr 1) .nl)))) (.call 22 (.cn (.vr 0) .nl)))) .nl)))
abbrev st29 : Stmt := topS 39
def df29 : Df := ⟨"_law_deals", 2, ["_law_dials_here", "_law_item", "_law_move_here"], st29, bd29, false, [], false⟩
def bd30 : E := (.cn (.asg (.tg 2) (.lc (.tt (.cn (.tg 3) (.cn (.tg 4) .nl))) (.ite (.vr 1)) (.cmp .lt (.vr 4) (.ci 2)) (.vr 3) [3, 4])) (.cn (.iff (.cmp .eq (.vr 2) (.ls .nl)) (.cn (.ret (.slc (.vr 1) .nl (.neg (.ci 1)))) .nl) .nl) (.cn (.asg (.tg 3) (.call 16 (.cn (.vr 0) (.cn (.vr 2) .nl)))) (.cn (.ret (.bin .add (.bin .add (.slc (.vr 1) .nl (.vr 3)) (.tp (.cn (.cmp .eq (.sub (.vr 1) (.vr 3)) (.ci 1)) .nl))) (.slc (.vr 1) (.bin .add (.vr 3) (.ci 1)) .nl))) .nl))))
abbrev st30 : Stmt := topS 40
def df30 : Df := ⟨"_law_bool_place", 2, ["_law_state", "_law_place_here", "_law_spots_here", "_law_spot", "_law_item"], st30, bd30, false, [], true⟩
def bd31 : E := (.cn (.par 3 4 (.call 26 (.cn (.vr 0) (.cn (.vr 1) .nl))) (.call 15 (.cn (.vr 0) (.cn (.blt .len (.cn (.vr 1) .nl)) .nl))) false false) (.cn (.asg (.tg 2) (.lc (.tg 5) (.itv (.ls (.cn (.neg (.ci 1)) (.cn (.sub (.vr 1) (.vr 4)) (.cn .cnn (.cn (.cs "0") .nl)))))) (.cb true) (.bin .add (.bin .add (.slc (.vr 3) .nl (.vr 4)) (.tp (.cn (.vr 5) .nl))) (.slc (.vr 3) (.bin .add (.vr 4) (.ci 1)) .nl)) [5])) (.cn (.ret (.call 16 (.cn (.vr 0) (.cn (.bin .add (.vr 2) (.ls (.cn (.li (.itv (.vr 3))) (.cn (.slc (.vr 3) .nl (.neg (.ci 1))) (.cn (.bin .add (.vr 3) (.tp (.cn (.ci 0) .nl))) (.cn .cnn (.cn (.ci 5) (.cn (.call 30 (.cn (.vr 0) (.cn (.vr 3) .nl))) .nl)))))))) .nl)))) .nl)))
abbrev st31 : Stmt := topS 41
def df31 : Df := ⟨"_law_bad_place", 2, ["_law_state", "_law_dials_here", "_law_some", "_law_place_here", "_law_spot", "_law_item"], st31, bd31, false, [], false⟩
def bd32 : E := (.cn (.ret (.call 16 (.cn (.vr 0) (.cn (.ls (.cn .cnn (.cn (.tp .nl) (.cn (.ls (.cn (.ci 2) (.cn (.ci 3) .nl))) (.cn (.tp (.cn (.ci 1) (.cn (.ci 3) .nl))) (.cn (.tp (.cn (.ci 0) .nl)) (.cn (.tp (.cn (.ci 25) .nl)) (.cn (.tp (.cn (.ci 5) (.cn (.ci 5) .nl))) (.cn (.tp (.cn (.ci 2) (.cn (.ci 2) (.cn (.ci 2) (.cn (.ci 2) (.cn (.ci 2) .nl)))))) (.cn (.tp (.cn (.cb true) (.cn (.ci 3) .nl))) (.cn (.cs "23") (.cn (.ci 6) (.cn (.tp (.cn (.neg (.ci 2)) .nl)) (.cn (.dsp .nl .nl) .nl)))))))))))))) .nl)))) .nl)
abbrev st32 : Stmt := topS 42
def df32 : Df := ⟨"_law_bad_dials", 1, ["_law_state"], st32, bd32, false, [], false⟩
def bd33 : E := (.cn (.par 4 5 (.call 27 (.cn (.vr 0) (.cn (.vr 1) .nl))) (.call 15 (.cn (.vr 0) (.cn (.call 20 (.cn (.vr 1) .nl)) .nl))) false false) (.cn (.asg (.tg 2) (.call 23 (.cn (.vr 1) (.cn (.sub (.vr 4) (.vr 5)) (.cn (.sub (.call 22 (.cn (.vr 1) .nl)) (.ci 1)) .nl))))) (.cn (.asg (.tg 3) (.lc (.tg 6) (.itv (.ls (.cn (.vr 2) (.cn (.vr 2) (.cn (.call 31 (.cn (.vr 0) (.cn (.vr 1) .nl))) (.cn .cnn .nl)))))) (.cb true) (.bin .add (.bin .add (.slc (.vr 4) .nl (.vr 5)) (.tp (.cn (.vr 6) .nl))) (.slc (.vr 4) (.bin .add (.vr 5) (.ci 1)) .nl)) [6])) (.cn (.ret (.call 16 (.cn (.vr 0) (.cn (.bin .add (.vr 3) (.ls (.cn (.li (.itv (.vr 4))) (.cn (.slc (.vr 4) .nl (.neg (.ci 1))) (.cn (.bin .add (.vr 4) (.slc (.vr 4) .nl (.ci 1))) (.cn .cnn (.cn (.tp .nl) (.cn (.ci 5) .nl)))))))) .nl)))) .nl))))
abbrev st33 : Stmt := topS 43
def df33 : Df := ⟨"_law_bad_dealing", 2, ["_law_state", "_law_dials_here", "_law_other", "_law_some", "_law_told", "_law_spot", "_law_item"], st33, bd33, false, [], false⟩
def bd34 : E := (.cn (.asg (.tg 1) (.call 14 (.cn (.vr 0) .nl))) (.cn (.for_ (.tg 2) (.itr (.cn (.bin .add (.ci 2) (.blt .min (.cn (.blt .len (.cn (.vr 0) .nl)) (.cn (.ci 8) .nl)))) .nl)) (.cn (.asg (.tg 3) (.call 21 (.cn (.vr 1) (.cn (.ci 24) .nl)))) (.cn (.par 9 10 (.call 27 (.cn (.vr 1) (.cn (.vr 3) .nl))) (.ti (.itv (.lc (.tg 7) (.itv (.call 22 (.cn (.vr 3) .nl))) (.cb true) (.call 26 (.cn (.vr 1) (.cn (.vr 3) .nl))) [7]))) false false) (.cn (.for_ (.tg 4) (.itv (.ls (.cn (.vr 9) (.cn (.vr 10) .nl)))) (.cn (.asg (.tg 11) (.call 28 (.cn (.vr 3) (.cn (.vr 4) .nl)))) (.cn (.asgo 12 (.call 12 (.cn (.vr 3) (.cn (.vr 4) .nl)))) (.cn (.iff (.cmp .ne (.rpl (.cn (.br 12) (.cn (.calk 12 (.cn (.vr 4) (.cn (.vr 3) .nl)) [1, 0]) .nl))) (.blt .repr (.cn (.ls (.cn (.vr 11) (.cn (.vr 11) .nl))) .nl))) (.cn (.ret (.cb false)) .nl) .nl) (.cn (.clr 12) (.cn (.iff (.cmp .ne (.blt .repr (.cn (.call 12 (.cn (.vr 3) (.cn (.vr 4) .nl))) .nl)) (.blt .repr (.cn (.vr 11) .nl))) (.cn (.ret (.cb false)) .nl) .nl) .nl)))))) (.cn (.asgo 5 (.ls (.cn (.vr 9) (.cn (.vr 10) (.cn (.call 19 (.cn (.vr 1) .nl)) (.cn (.call 33 (.cn (.vr 1) (.cn (.vr 3) .nl))) (.cn (.call 33 (.cn (.vr 1) (.cn (.vr 3) .nl))) .nl))))))) (.cn (.asg (.tg 6) (.call 15 (.cn (.vr 1) (.cn (.blt .len (.cn (.vr 9) .nl)) .nl)))) (.cn (.app 5 (.bin .add (.bin .add (.slc (.vr 9) .nl (.vr 6)) (.tp (.cn (.call 30 (.cn (.vr 1) (.cn (.sub (.vr 9) (.vr 6)) .nl))) .nl))) (.slc (.vr 9) (.bin .add (.vr 6) (.ci 1)) .nl))) (.cn (.frz 5) (.cn (.for_ (.tg 7) (.itv (.vr 5)) (.cn (.asg (.tg 11) (.call 29 (.cn (.vr 3) (.cn (.vr 7) .nl)))) (.cn (.iff (.cmp .ne (.blt .repr (.cn (.ls (.cn (.call 13 (.cn (.vr 3) (.cn (.vr 7) .nl))) (.cn (.calk 13 (.cn (.vr 7) (.cn (.vr 3) .nl)) [1, 0]) .nl))) .nl)) (.blt .repr (.cn (.ls (.cn (.vr 11) (.cn (.vr 11) .nl))) .nl))) (.cn (.ret (.cb false)) .nl) .nl) .nl))) (.cn (.par 13 14 (.call 32 (.cn (.vr 1) .nl)) (.call 16 (.cn (.vr 1) (.cn (.ls (.cn .cnn (.cn (.li (.itv (.vr 9))) (.cn (.slc (.vr 9) .nl (.neg (.ci 1))) (.cn (.bin .add (.vr 9) (.slc (.vr 9) .nl (.ci 1))) (.cn (.ci 5) (.cn (.tp .nl) (.cn (.sub (.br 5) (.neg (.ci 1))) .nl)))))))) .nl))) false false) (.cn (.lams 8 (.cn (.call 12 (.cn (.vr 13) (.cn (.vr 14) .nl))) (.cn (.call 13 (.cn (.vr 13) (.cn (.vr 9) .nl))) .nl)) [1]) (.cn (.iff (.nt (.ise (.cgt (.call 12 (.cn (.vr 3) (.cn (.vr 14) .nl)))) [2])) (.cn (.ret (.cb false)) .nl) .nl) .nl)))))))))))) (.cn (.ret (.cb true)) .nl)))
abbrev st34 : Stmt := topS 44
def df34 : Df := ⟨"law", 1, ["_law_script", "_law_state", "_law_turn", "_law_dials_here", "_law_moves_here", "_law_some", "_law_spot", "_law_item", "_law_work", "_law_told", "_law_any_moves", "_law_due", "_law_found", "_law_wrong", "_law_bad"], st34, bd34, true, [], false⟩
def ds : List Df := [df0, df1, df2, df3, df4, df5, df6, df7, df8, df9, df10, df11, df12, df13, df14, df15, df16, df17, df18, df19, df20, df21, df22, df23, df24, df25, df26, df27, df28, df29, df30, df31, df32, df33, df34]
def tx : Tx := ⟨ds.map fun d => (d.nm, d.np), ["MoveError", "BadDials", "BadMoves"], [("MOST_PLACES", 24), ("MOST_DIALS", 4)], true, ds.map fun d => d.kl, ds.map fun d => d.own⟩
theorem ck0 : (chk tx bd0).b (scOf df0) (defBody st0) = true := by decide +kernel
theorem sc0 : FnScope df0.N (df0.N.take df0.np) (defScope st0) := ⟨rfl, rfl, rfl, by decide +kernel, rfl, by decide +kernel, by decide +kernel⟩
theorem bb0 : DfBd df0 := ⟨rfl, fun _ _ _ _ _ _ us hl => match us, hl with | [_, _, _], _ => rfl⟩
theorem kk0 (kV doc pm : Value) (an : Option Addr) (cdv ct : Value) : ∀ e ∈ df0.kl, KwB (PySem.W.fnOf df0.nm df0.nm (defArgs df0.st) (defBody df0.st) (defScope df0.st) .none kV doc pm an cdv ct) (df0.N.take df0.np) e := fun _ h => by cases h
theorem tt0 : DfT tx df0 := ⟨sc0, bb0, kk0, ck0⟩
theorem ck1 : (chk tx bd1).b (scOf df1) (defBody st1) = true := by decide +kernel
theorem sc1 : FnScope df1.N (df1.N.take df1.np) (defScope st1) := ⟨rfl, rfl, rfl, by decide +kernel, rfl, by decide +kernel, by decide +kernel⟩
theorem bb1 : DfBd df1 := ⟨rfl, fun _ _ _ _ _ _ us hl => match us, hl with | [_], _ => rfl⟩
theorem kk1 (kV doc pm : Value) (an : Option Addr) (cdv ct : Value) : ∀ e ∈ df1.kl, KwB (PySem.W.fnOf df1.nm df1.nm (defArgs df1.st) (defBody df1.st) (defScope df1.st) .none kV doc pm an cdv ct) (df1.N.take df1.np) e := fun _ h => by cases h
theorem tt1 : DfT tx df1 := ⟨sc1, bb1, kk1, ck1⟩
theorem ck2 : (chk tx bd2).b (scOf df2) (defBody st2) = true := by decide +kernel
theorem sc2 : FnScope df2.N (df2.N.take df2.np) (defScope st2) := ⟨rfl, rfl, rfl, by decide +kernel, rfl, by decide +kernel, by decide +kernel⟩
theorem bb2 : DfBd df2 := ⟨rfl, fun _ _ _ _ _ _ us hl => match us, hl with | [_], _ => rfl⟩
theorem kk2 (kV doc pm : Value) (an : Option Addr) (cdv ct : Value) : ∀ e ∈ df2.kl, KwB (PySem.W.fnOf df2.nm df2.nm (defArgs df2.st) (defBody df2.st) (defScope df2.st) .none kV doc pm an cdv ct) (df2.N.take df2.np) e := fun _ h => by cases h
theorem tt2 : DfT tx df2 := ⟨sc2, bb2, kk2, ck2⟩
theorem ck3 : (chk tx bd3).b (scOf df3) (defBody st3) = true := by decide +kernel
theorem sc3 : FnScope df3.N (df3.N.take df3.np) (defScope st3) := ⟨rfl, rfl, rfl, by decide +kernel, rfl, by decide +kernel, by decide +kernel⟩
theorem bb3 : DfBd df3 := ⟨rfl, fun _ _ _ _ _ _ us hl => match us, hl with | [_], _ => rfl⟩
theorem kk3 (kV doc pm : Value) (an : Option Addr) (cdv ct : Value) : ∀ e ∈ df3.kl, KwB (PySem.W.fnOf df3.nm df3.nm (defArgs df3.st) (defBody df3.st) (defScope df3.st) .none kV doc pm an cdv ct) (df3.N.take df3.np) e := fun _ h => by cases h
theorem tt3 : DfT tx df3 := ⟨sc3, bb3, kk3, ck3⟩
theorem ck4 : (chk tx bd4).b (scOf df4) (defBody st4) = true := by decide +kernel
theorem sc4 : FnScope df4.N (df4.N.take df4.np) (defScope st4) := ⟨rfl, rfl, rfl, by decide +kernel, rfl, by decide +kernel, by decide +kernel⟩
theorem bb4 : DfBd df4 := ⟨rfl, fun _ _ _ _ _ _ us hl => match us, hl with | [_, _], _ => rfl⟩
theorem kk4 (kV doc pm : Value) (an : Option Addr) (cdv ct : Value) : ∀ e ∈ df4.kl, KwB (PySem.W.fnOf df4.nm df4.nm (defArgs df4.st) (defBody df4.st) (defScope df4.st) .none kV doc pm an cdv ct) (df4.N.take df4.np) e := fun _ h => by cases h
theorem tt4 : DfT tx df4 := ⟨sc4, bb4, kk4, ck4⟩
theorem ck5 : (chk tx bd5).b (scOf df5) (defBody st5) = true := by decide +kernel
theorem sc5 : FnScope df5.N (df5.N.take df5.np) (defScope st5) := ⟨rfl, rfl, rfl, by decide +kernel, rfl, by decide +kernel, by decide +kernel⟩
theorem bb5 : DfBd df5 := ⟨rfl, fun _ _ _ _ _ _ us hl => match us, hl with | [_], _ => rfl⟩
theorem kk5 (kV doc pm : Value) (an : Option Addr) (cdv ct : Value) : ∀ e ∈ df5.kl, KwB (PySem.W.fnOf df5.nm df5.nm (defArgs df5.st) (defBody df5.st) (defScope df5.st) .none kV doc pm an cdv ct) (df5.N.take df5.np) e := fun _ h => by cases h
theorem tt5 : DfT tx df5 := ⟨sc5, bb5, kk5, ck5⟩
theorem ck6 : (chk tx bd6).b (scOf df6) (defBody st6) = true := by decide +kernel
theorem sc6 : FnScope df6.N (df6.N.take df6.np) (defScope st6) := ⟨rfl, rfl, rfl, by decide +kernel, rfl, by decide +kernel, by decide +kernel⟩
theorem bb6 : DfBd df6 := ⟨rfl, fun _ _ _ _ _ _ us hl => match us, hl with | [_], _ => rfl⟩
theorem kk6 (kV doc pm : Value) (an : Option Addr) (cdv ct : Value) : ∀ e ∈ df6.kl, KwB (PySem.W.fnOf df6.nm df6.nm (defArgs df6.st) (defBody df6.st) (defScope df6.st) .none kV doc pm an cdv ct) (df6.N.take df6.np) e := fun _ h => by cases h
theorem tt6 : DfT tx df6 := ⟨sc6, bb6, kk6, ck6⟩
theorem ck7 : (chk tx bd7).b (scOf df7) (defBody st7) = true := by decide +kernel
theorem sc7 : FnScope df7.N (df7.N.take df7.np) (defScope st7) := ⟨rfl, rfl, rfl, by decide +kernel, rfl, by decide +kernel, by decide +kernel⟩
theorem bb7 : DfBd df7 := ⟨rfl, fun _ _ _ _ _ _ us hl => match us, hl with | [_, _, _], _ => rfl⟩
theorem kk7 (kV doc pm : Value) (an : Option Addr) (cdv ct : Value) : ∀ e ∈ df7.kl, KwB (PySem.W.fnOf df7.nm df7.nm (defArgs df7.st) (defBody df7.st) (defScope df7.st) .none kV doc pm an cdv ct) (df7.N.take df7.np) e := fun _ h => by cases h
theorem tt7 : DfT tx df7 := ⟨sc7, bb7, kk7, ck7⟩
theorem ck8 : (chk tx bd8).b (scOf df8) (defBody st8) = true := by decide +kernel
theorem sc8 : FnScope df8.N (df8.N.take df8.np) (defScope st8) := ⟨rfl, rfl, rfl, by decide +kernel, rfl, by decide +kernel, by decide +kernel⟩
theorem bb8 : DfBd df8 := ⟨rfl, fun _ _ _ _ _ _ us hl => match us, hl with | [_, _], _ => rfl⟩
theorem kk8 (kV doc pm : Value) (an : Option Addr) (cdv ct : Value) : ∀ e ∈ df8.kl, KwB (PySem.W.fnOf df8.nm df8.nm (defArgs df8.st) (defBody df8.st) (defScope df8.st) .none kV doc pm an cdv ct) (df8.N.take df8.np) e := fun _ h => by cases h
theorem tt8 : DfT tx df8 := ⟨sc8, bb8, kk8, ck8⟩
theorem ck9 : (chk tx bd9).b (scOf df9) (defBody st9) = true := by decide +kernel
theorem sc9 : FnScope df9.N (df9.N.take df9.np) (defScope st9) := ⟨rfl, rfl, rfl, by decide +kernel, rfl, by decide +kernel, by decide +kernel⟩
theorem bb9 : DfBd df9 := ⟨rfl, fun _ _ _ _ _ _ us hl => match us, hl with | [_, _], _ => rfl⟩
theorem kk9 (kV doc pm : Value) (an : Option Addr) (cdv ct : Value) : ∀ e ∈ df9.kl, KwB (PySem.W.fnOf df9.nm df9.nm (defArgs df9.st) (defBody df9.st) (defScope df9.st) .none kV doc pm an cdv ct) (df9.N.take df9.np) e := fun _ h => by cases h
theorem tt9 : DfT tx df9 := ⟨sc9, bb9, kk9, ck9⟩
theorem ck10 : (chk tx bd10).b (scOf df10) (defBody st10) = true := by decide +kernel
theorem sc10 : FnScope df10.N (df10.N.take df10.np) (defScope st10) := ⟨rfl, rfl, rfl, by decide +kernel, rfl, by decide +kernel, by decide +kernel⟩
theorem bb10 : DfBd df10 := ⟨rfl, fun _ _ _ _ _ _ us hl => match us, hl with | [_, _], _ => rfl⟩
theorem kk10 (kV doc pm : Value) (an : Option Addr) (cdv ct : Value) : ∀ e ∈ df10.kl, KwB (PySem.W.fnOf df10.nm df10.nm (defArgs df10.st) (defBody df10.st) (defScope df10.st) .none kV doc pm an cdv ct) (df10.N.take df10.np) e := fun _ h => by cases h
theorem tt10 : DfT tx df10 := ⟨sc10, bb10, kk10, ck10⟩
theorem ck11 : (chk tx bd11).b (scOf df11) (defBody st11) = true := by decide +kernel
theorem sc11 : FnScope df11.N (df11.N.take df11.np) (defScope st11) := ⟨rfl, rfl, rfl, by decide +kernel, rfl, by decide +kernel, by decide +kernel⟩
theorem bb11 : DfBd df11 := ⟨rfl, fun _ _ _ _ _ _ us hl => match us, hl with | [_, _], _ => rfl⟩
theorem kk11 (kV doc pm : Value) (an : Option Addr) (cdv ct : Value) : ∀ e ∈ df11.kl, KwB (PySem.W.fnOf df11.nm df11.nm (defArgs df11.st) (defBody df11.st) (defScope df11.st) .none kV doc pm an cdv ct) (df11.N.take df11.np) e := fun _ h => by cases h
theorem tt11 : DfT tx df11 := ⟨sc11, bb11, kk11, ck11⟩
theorem ck12 : (chk tx bd12).b (scOf df12) (defBody st12) = true := by decide +kernel
theorem sc12 : FnScope df12.N (df12.N.take df12.np) (defScope st12) := ⟨rfl, rfl, rfl, by decide +kernel, rfl, by decide +kernel, by decide +kernel⟩
theorem bb12 : DfBd df12 := ⟨rfl, fun _ _ _ _ _ _ us hl => match us, hl with | [_, _], _ => rfl⟩
theorem kk12 (kV doc pm : Value) (an : Option Addr) (cdv ct : Value) : ∀ e ∈ df12.kl, KwB (PySem.W.fnOf df12.nm df12.nm (defArgs df12.st) (defBody df12.st) (defScope df12.st) .none kV doc pm an cdv ct) (df12.N.take df12.np) e := List.forall_mem_cons.mpr ⟨fun us ws h1 h2 => match us, h1, ws, h2 with | [], _, [_, _], _ => ⟨_, rfl, rfl⟩, fun _ h => by cases h⟩
theorem tt12 : DfT tx df12 := ⟨sc12, bb12, kk12, ck12⟩
theorem ck13 : (chk tx bd13).b (scOf df13) (defBody st13) = true := by decide +kernel
theorem sc13 : FnScope df13.N (df13.N.take df13.np) (defScope st13) := ⟨rfl, rfl, rfl, by decide +kernel, rfl, by decide +kernel, by decide +kernel⟩
theorem bb13 : DfBd df13 := ⟨rfl, fun _ _ _ _ _ _ us hl => match us, hl with | [_, _], _ => rfl⟩
theorem kk13 (kV doc pm : Value) (an : Option Addr) (cdv ct : Value) : ∀ e ∈ df13.kl, KwB (PySem.W.fnOf df13.nm df13.nm (defArgs df13.st) (defBody df13.st) (defScope df13.st) .none kV doc pm an cdv ct) (df13.N.take df13.np) e := List.forall_mem_cons.mpr ⟨fun us ws h1 h2 => match us, h1, ws, h2 with | [], _, [_, _], _ => ⟨_, rfl, rfl⟩, fun _ h => by cases h⟩
theorem tt13 : DfT tx df13 := ⟨sc13, bb13, kk13, ck13⟩
theorem ck14 : (chk tx bd14).b (scOf df14) (defBody st14) = true := by decide +kernel
theorem sc14 : FnScope df14.N (df14.N.take df14.np) (defScope st14) := ⟨rfl, rfl, rfl, by decide +kernel, rfl, by decide +kernel, by decide +kernel⟩
theorem bb14 : DfBd df14 := ⟨rfl, fun _ _ _ _ _ _ us hl => match us, hl with | [_], _ => rfl⟩
theorem kk14 (kV doc pm : Value) (an : Option Addr) (cdv ct : Value) : ∀ e ∈ df14.kl, KwB (PySem.W.fnOf df14.nm df14.nm (defArgs df14.st) (defBody df14.st) (defScope df14.st) .none kV doc pm an cdv ct) (df14.N.take df14.np) e := fun _ h => by cases h
theorem tt14 : DfT tx df14 := ⟨sc14, bb14, kk14, ck14⟩
theorem ck15 : (chk tx bd15).b (scOf df15) (defBody st15) = true := by decide +kernel
theorem sc15 : FnScope df15.N (df15.N.take df15.np) (defScope st15) := ⟨rfl, rfl, rfl, by decide +kernel, rfl, by decide +kernel, by decide +kernel⟩
theorem bb15 : DfBd df15 := ⟨rfl, fun _ _ _ _ _ _ us hl => match us, hl with | [_, _], _ => rfl⟩
theorem kk15 (kV doc pm : Value) (an : Option Addr) (cdv ct : Value) : ∀ e ∈ df15.kl, KwB (PySem.W.fnOf df15.nm df15.nm (defArgs df15.st) (defBody df15.st) (defScope df15.st) .none kV doc pm an cdv ct) (df15.N.take df15.np) e := fun _ h => by cases h
theorem tt15 : DfT tx df15 := ⟨sc15, bb15, kk15, ck15⟩
theorem ck16 : (chk tx bd16).b (scOf df16) (defBody st16) = true := by decide +kernel
theorem sc16 : FnScope df16.N (df16.N.take df16.np) (defScope st16) := ⟨rfl, rfl, rfl, by decide +kernel, rfl, by decide +kernel, by decide +kernel⟩
theorem bb16 : DfBd df16 := ⟨rfl, fun _ _ _ _ _ _ us hl => match us, hl with | [_, _], _ => rfl⟩
theorem kk16 (kV doc pm : Value) (an : Option Addr) (cdv ct : Value) : ∀ e ∈ df16.kl, KwB (PySem.W.fnOf df16.nm df16.nm (defArgs df16.st) (defBody df16.st) (defScope df16.st) .none kV doc pm an cdv ct) (df16.N.take df16.np) e := fun _ h => by cases h
theorem tt16 : DfT tx df16 := ⟨sc16, bb16, kk16, ck16⟩
theorem ck17 : (chk tx bd17).b (scOf df17) (defBody st17) = true := by decide +kernel
theorem sc17 : FnScope df17.N (df17.N.take df17.np) (defScope st17) := ⟨rfl, rfl, rfl, by decide +kernel, rfl, by decide +kernel, by decide +kernel⟩
theorem bb17 : DfBd df17 := ⟨rfl, fun _ _ _ _ _ _ us hl => match us, hl with | [_, _], _ => rfl⟩
theorem kk17 (kV doc pm : Value) (an : Option Addr) (cdv ct : Value) : ∀ e ∈ df17.kl, KwB (PySem.W.fnOf df17.nm df17.nm (defArgs df17.st) (defBody df17.st) (defScope df17.st) .none kV doc pm an cdv ct) (df17.N.take df17.np) e := fun _ h => by cases h
theorem tt17 : DfT tx df17 := ⟨sc17, bb17, kk17, ck17⟩
theorem ck18 : (chk tx bd18).b (scOf df18) (defBody st18) = true := by decide +kernel
theorem sc18 : FnScope df18.N (df18.N.take df18.np) (defScope st18) := ⟨rfl, rfl, rfl, by decide +kernel, rfl, by decide +kernel, by decide +kernel⟩
theorem bb18 : DfBd df18 := ⟨rfl, fun _ _ _ _ _ _ us hl => match us, hl with | [_], _ => rfl⟩
theorem kk18 (kV doc pm : Value) (an : Option Addr) (cdv ct : Value) : ∀ e ∈ df18.kl, KwB (PySem.W.fnOf df18.nm df18.nm (defArgs df18.st) (defBody df18.st) (defScope df18.st) .none kV doc pm an cdv ct) (df18.N.take df18.np) e := fun _ h => by cases h
theorem tt18 : DfT tx df18 := ⟨sc18, bb18, kk18, ck18⟩
theorem ck19 : (chk tx bd19).b (scOf df19) (defBody st19) = true := by decide +kernel
theorem sc19 : FnScope df19.N (df19.N.take df19.np) (defScope st19) := ⟨rfl, rfl, rfl, by decide +kernel, rfl, by decide +kernel, by decide +kernel⟩
theorem bb19 : DfBd df19 := ⟨rfl, fun _ _ _ _ _ _ us hl => match us, hl with | [_], _ => rfl⟩
theorem kk19 (kV doc pm : Value) (an : Option Addr) (cdv ct : Value) : ∀ e ∈ df19.kl, KwB (PySem.W.fnOf df19.nm df19.nm (defArgs df19.st) (defBody df19.st) (defScope df19.st) .none kV doc pm an cdv ct) (df19.N.take df19.np) e := fun _ h => by cases h
theorem tt19 : DfT tx df19 := ⟨sc19, bb19, kk19, ck19⟩
theorem ck20 : (chk tx bd20).b (scOf df20) (defBody st20) = true := by decide +kernel
theorem sc20 : FnScope df20.N (df20.N.take df20.np) (defScope st20) := ⟨rfl, rfl, rfl, by decide +kernel, rfl, by decide +kernel, by decide +kernel⟩
theorem bb20 : DfBd df20 := ⟨rfl, fun _ _ _ _ _ _ us hl => match us, hl with | [_], _ => rfl⟩
theorem kk20 (kV doc pm : Value) (an : Option Addr) (cdv ct : Value) : ∀ e ∈ df20.kl, KwB (PySem.W.fnOf df20.nm df20.nm (defArgs df20.st) (defBody df20.st) (defScope df20.st) .none kV doc pm an cdv ct) (df20.N.take df20.np) e := fun _ h => by cases h
theorem tt20 : DfT tx df20 := ⟨sc20, bb20, kk20, ck20⟩
theorem ck21 : (chk tx bd21).b (scOf df21) (defBody st21) = true := by decide +kernel
theorem sc21 : FnScope df21.N (df21.N.take df21.np) (defScope st21) := ⟨rfl, rfl, rfl, by decide +kernel, rfl, by decide +kernel, by decide +kernel⟩
theorem bb21 : DfBd df21 := ⟨rfl, fun _ _ _ _ _ _ us hl => match us, hl with | [_, _], _ => rfl⟩
theorem kk21 (kV doc pm : Value) (an : Option Addr) (cdv ct : Value) : ∀ e ∈ df21.kl, KwB (PySem.W.fnOf df21.nm df21.nm (defArgs df21.st) (defBody df21.st) (defScope df21.st) .none kV doc pm an cdv ct) (df21.N.take df21.np) e := fun _ h => by cases h
theorem tt21 : DfT tx df21 := ⟨sc21, bb21, kk21, ck21⟩
theorem ck22 : (chk tx bd22).b (scOf df22) (defBody st22) = true := by decide +kernel
theorem sc22 : FnScope df22.N (df22.N.take df22.np) (defScope st22) := ⟨rfl, rfl, rfl, by decide +kernel, rfl, by decide +kernel, by decide +kernel⟩
theorem bb22 : DfBd df22 := ⟨rfl, fun _ _ _ _ _ _ us hl => match us, hl with | [_], _ => rfl⟩
theorem kk22 (kV doc pm : Value) (an : Option Addr) (cdv ct : Value) : ∀ e ∈ df22.kl, KwB (PySem.W.fnOf df22.nm df22.nm (defArgs df22.st) (defBody df22.st) (defScope df22.st) .none kV doc pm an cdv ct) (df22.N.take df22.np) e := fun _ h => by cases h
theorem tt22 : DfT tx df22 := ⟨sc22, bb22, kk22, ck22⟩
theorem ck23 : (chk tx bd23).b (scOf df23) (defBody st23) = true := by decide +kernel
theorem sc23 : FnScope df23.N (df23.N.take df23.np) (defScope st23) := ⟨rfl, rfl, rfl, by decide +kernel, rfl, by decide +kernel, by decide +kernel⟩
theorem bb23 : DfBd df23 := ⟨rfl, fun _ _ _ _ _ _ us hl => match us, hl with | [_, _, _], _ => rfl⟩
theorem kk23 (kV doc pm : Value) (an : Option Addr) (cdv ct : Value) : ∀ e ∈ df23.kl, KwB (PySem.W.fnOf df23.nm df23.nm (defArgs df23.st) (defBody df23.st) (defScope df23.st) .none kV doc pm an cdv ct) (df23.N.take df23.np) e := fun _ h => by cases h
theorem tt23 : DfT tx df23 := ⟨sc23, bb23, kk23, ck23⟩
theorem ck24 : (chk tx bd24).b (scOf df24) (defBody st24) = true := by decide +kernel
theorem sc24 : FnScope df24.N (df24.N.take df24.np) (defScope st24) := ⟨rfl, rfl, rfl, by decide +kernel, rfl, by decide +kernel, by decide +kernel⟩
theorem bb24 : DfBd df24 := ⟨rfl, fun _ _ _ _ _ _ us hl => match us, hl with | [_, _, _], _ => rfl⟩
theorem kk24 (kV doc pm : Value) (an : Option Addr) (cdv ct : Value) : ∀ e ∈ df24.kl, KwB (PySem.W.fnOf df24.nm df24.nm (defArgs df24.st) (defBody df24.st) (defScope df24.st) .none kV doc pm an cdv ct) (df24.N.take df24.np) e := fun _ h => by cases h
theorem tt24 : DfT tx df24 := ⟨sc24, bb24, kk24, ck24⟩
theorem ck25 : (chk tx bd25).b (scOf df25) (defBody st25) = true := by decide +kernel
theorem sc25 : FnScope df25.N (df25.N.take df25.np) (defScope st25) := ⟨rfl, rfl, rfl, by decide +kernel, rfl, by decide +kernel, by decide +kernel⟩
theorem bb25 : DfBd df25 := ⟨rfl, fun _ _ _ _ _ _ us hl => match us, hl with | [_, _], _ => rfl⟩
theorem kk25 (kV doc pm : Value) (an : Option Addr) (cdv ct : Value) : ∀ e ∈ df25.kl, KwB (PySem.W.fnOf df25.nm df25.nm (defArgs df25.st) (defBody df25.st) (defScope df25.st) .none kV doc pm an cdv ct) (df25.N.take df25.np) e := fun _ h => by cases h
theorem tt25 : DfT tx df25 := ⟨sc25, bb25, kk25, ck25⟩
theorem ck26 : (chk tx bd26).b (scOf df26) (defBody st26) = true := by decide +kernel
theorem sc26 : FnScope df26.N (df26.N.take df26.np) (defScope st26) := ⟨rfl, rfl, rfl, by decide +kernel, rfl, by decide +kernel, by decide +kernel⟩
theorem bb26 : DfBd df26 := ⟨rfl, fun _ _ _ _ _ _ us hl => match us, hl with | [_, _], _ => rfl⟩
theorem kk26 (kV doc pm : Value) (an : Option Addr) (cdv ct : Value) : ∀ e ∈ df26.kl, KwB (PySem.W.fnOf df26.nm df26.nm (defArgs df26.st) (defBody df26.st) (defScope df26.st) .none kV doc pm an cdv ct) (df26.N.take df26.np) e := fun _ h => by cases h
theorem tt26 : DfT tx df26 := ⟨sc26, bb26, kk26, ck26⟩
theorem ck27 : (chk tx bd27).b (scOf df27) (defBody st27) = true := by decide +kernel
theorem sc27 : FnScope df27.N (df27.N.take df27.np) (defScope st27) := ⟨rfl, rfl, rfl, by decide +kernel, rfl, by decide +kernel, by decide +kernel⟩
theorem bb27 : DfBd df27 := ⟨rfl, fun _ _ _ _ _ _ us hl => match us, hl with | [_, _], _ => rfl⟩
theorem kk27 (kV doc pm : Value) (an : Option Addr) (cdv ct : Value) : ∀ e ∈ df27.kl, KwB (PySem.W.fnOf df27.nm df27.nm (defArgs df27.st) (defBody df27.st) (defScope df27.st) .none kV doc pm an cdv ct) (df27.N.take df27.np) e := fun _ h => by cases h
theorem tt27 : DfT tx df27 := ⟨sc27, bb27, kk27, ck27⟩
theorem ck28 : (chk tx bd28).b (scOf df28) (defBody st28) = true := by decide +kernel
theorem sc28 : FnScope df28.N (df28.N.take df28.np) (defScope st28) := ⟨rfl, rfl, rfl, by decide +kernel, rfl, by decide +kernel, by decide +kernel⟩
theorem bb28 : DfBd df28 := ⟨rfl, fun _ _ _ _ _ _ us hl => match us, hl with | [_, _], _ => rfl⟩
theorem kk28 (kV doc pm : Value) (an : Option Addr) (cdv ct : Value) : ∀ e ∈ df28.kl, KwB (PySem.W.fnOf df28.nm df28.nm (defArgs df28.st) (defBody df28.st) (defScope df28.st) .none kV doc pm an cdv ct) (df28.N.take df28.np) e := fun _ h => by cases h
theorem tt28 : DfT tx df28 := ⟨sc28, bb28, kk28, ck28⟩
theorem ck29 : (chk tx bd29).b (scOf df29) (defBody st29) = true := by decide +kernel
theorem sc29 : FnScope df29.N (df29.N.take df29.np) (defScope st29) := ⟨rfl, rfl, rfl, by decide +kernel, rfl, by decide +kernel, by decide +kernel⟩
theorem bb29 : DfBd df29 := ⟨rfl, fun _ _ _ _ _ _ us hl => match us, hl with | [_, _], _ => rfl⟩
theorem kk29 (kV doc pm : Value) (an : Option Addr) (cdv ct : Value) : ∀ e ∈ df29.kl, KwB (PySem.W.fnOf df29.nm df29.nm (defArgs df29.st) (defBody df29.st) (defScope df29.st) .none kV doc pm an cdv ct) (df29.N.take df29.np) e := fun _ h => by cases h
theorem tt29 : DfT tx df29 := ⟨sc29, bb29, kk29, ck29⟩
theorem ck30 : (chk tx bd30).b (scOf df30) (defBody st30) = true := by decide +kernel
theorem sc30 : FnScope df30.N (df30.N.take df30.np) (defScope st30) := ⟨rfl, rfl, rfl, by decide +kernel, rfl, by decide +kernel, by decide +kernel⟩
theorem bb30 : DfBd df30 := ⟨rfl, fun _ _ _ _ _ _ us hl => match us, hl with | [_, _], _ => rfl⟩
theorem kk30 (kV doc pm : Value) (an : Option Addr) (cdv ct : Value) : ∀ e ∈ df30.kl, KwB (PySem.W.fnOf df30.nm df30.nm (defArgs df30.st) (defBody df30.st) (defScope df30.st) .none kV doc pm an cdv ct) (df30.N.take df30.np) e := fun _ h => by cases h
theorem tt30 : DfT tx df30 := ⟨sc30, bb30, kk30, ck30⟩
theorem ck31 : (chk tx bd31).b (scOf df31) (defBody st31) = true := by decide +kernel
theorem sc31 : FnScope df31.N (df31.N.take df31.np) (defScope st31) := ⟨rfl, rfl, rfl, by decide +kernel, rfl, by decide +kernel, by decide +kernel⟩
theorem bb31 : DfBd df31 := ⟨rfl, fun _ _ _ _ _ _ us hl => match us, hl with | [_, _], _ => rfl⟩
theorem kk31 (kV doc pm : Value) (an : Option Addr) (cdv ct : Value) : ∀ e ∈ df31.kl, KwB (PySem.W.fnOf df31.nm df31.nm (defArgs df31.st) (defBody df31.st) (defScope df31.st) .none kV doc pm an cdv ct) (df31.N.take df31.np) e := fun _ h => by cases h
theorem tt31 : DfT tx df31 := ⟨sc31, bb31, kk31, ck31⟩
theorem ck32 : (chk tx bd32).b (scOf df32) (defBody st32) = true := by decide +kernel
theorem sc32 : FnScope df32.N (df32.N.take df32.np) (defScope st32) := ⟨rfl, rfl, rfl, by decide +kernel, rfl, by decide +kernel, by decide +kernel⟩
theorem bb32 : DfBd df32 := ⟨rfl, fun _ _ _ _ _ _ us hl => match us, hl with | [_], _ => rfl⟩
theorem kk32 (kV doc pm : Value) (an : Option Addr) (cdv ct : Value) : ∀ e ∈ df32.kl, KwB (PySem.W.fnOf df32.nm df32.nm (defArgs df32.st) (defBody df32.st) (defScope df32.st) .none kV doc pm an cdv ct) (df32.N.take df32.np) e := fun _ h => by cases h
theorem tt32 : DfT tx df32 := ⟨sc32, bb32, kk32, ck32⟩
theorem ck33 : (chk tx bd33).b (scOf df33) (defBody st33) = true := by decide +kernel
theorem sc33 : FnScope df33.N (df33.N.take df33.np) (defScope st33) := ⟨rfl, rfl, rfl, by decide +kernel, rfl, by decide +kernel, by decide +kernel⟩
theorem bb33 : DfBd df33 := ⟨rfl, fun _ _ _ _ _ _ us hl => match us, hl with | [_, _], _ => rfl⟩
theorem kk33 (kV doc pm : Value) (an : Option Addr) (cdv ct : Value) : ∀ e ∈ df33.kl, KwB (PySem.W.fnOf df33.nm df33.nm (defArgs df33.st) (defBody df33.st) (defScope df33.st) .none kV doc pm an cdv ct) (df33.N.take df33.np) e := fun _ h => by cases h
theorem tt33 : DfT tx df33 := ⟨sc33, bb33, kk33, ck33⟩
theorem ck34 : (chk tx bd34).b (scOf df34) (defBody st34) = true := by decide +kernel
theorem sc34 : FnScope df34.N (df34.N.take df34.np) (defScope st34) := ⟨rfl, rfl, rfl, by decide +kernel, rfl, by decide +kernel, by decide +kernel⟩
theorem bb34 : DfBd df34 := ⟨rfl, fun _ _ _ _ _ _ us hl => match us, hl with | [_], _ => rfl⟩
theorem kk34 (kV doc pm : Value) (an : Option Addr) (cdv ct : Value) : ∀ e ∈ df34.kl, KwB (PySem.W.fnOf df34.nm df34.nm (defArgs df34.st) (defBody df34.st) (defScope df34.st) .none kV doc pm an cdv ct) (df34.N.take df34.np) e := fun _ h => by cases h
theorem tt34 : DfT tx df34 := ⟨sc34, bb34, kk34, ck34⟩
end MR
set_option Elab.async false
set_option linter.all false
set_option maxRecDepth 100000
set_option maxHeartbeats 0
namespace MR
open PySem MS
abbrev F1 : List FD := ds.map fdOf
instance hP_is_between : Has F1 0 (fdBetween) := ⟨rfl⟩
instance hP_count_of : Has F1 1 (fdP_count_of) := ⟨rfl⟩
instance hP_are_dials : Has F1 2 (fdP_are_dials 0 1) := ⟨rfl⟩
instance hP_need_dials : Has F1 3 (fdP_need_dials 2 1) := ⟨rfl⟩
instance hP_is_place : Has F1 4 (fdIsPlace 0) := ⟨rfl⟩
instance hP_picks_of : Has F1 5 (fdP_picks_of_v2) := ⟨rfl⟩
instance hP_places_of : Has F1 6 (fdP_places_of 5) := ⟨rfl⟩
instance hP_plus_of : Has F1 7 (fdPlusOf) := ⟨rfl⟩
instance hP_are_moves : Has F1 8 (fdP_are_moves 1 4) := ⟨rfl⟩
instance hP_need_moves : Has F1 9 (fdP_need_moves 8 2) := ⟨rfl⟩
instance hP_ends_of : Has F1 10 (fdP_ends_of 6 7) := ⟨rfl⟩
instance hP_deals : Has F1 11 (fdP_deals 8 10 1) := ⟨rfl⟩
instance hP_ends : Has F1 12 (fdTotalP 3 9 10) := ⟨rfl⟩
instance hP_is_dealing : Has F1 13 (fdP_is_dealing 3 11) := ⟨rfl⟩
instance hL_begun : Has F1 14 (fdBegun) := ⟨rfl⟩
instance hL_draw : Has F1 15 (fdDraw) := ⟨rfl⟩
instance hL_pick : Has F1 16 (fdPick 15) := ⟨rfl⟩
instance hL_mixed : Has F1 17 (fdMixed 15) := ⟨rfl⟩
instance hL_is_whole : Has F1 18 (fdL_is_whole) := ⟨rfl⟩
instance hL_odd : Has F1 19 (fdL_odd 16) := ⟨rfl⟩
instance hL_count : Has F1 20 (fdP_count_of) := ⟨rfl⟩
instance hL_dials : Has F1 21 (fdL_dials 16 20) := ⟨rfl⟩
instance hL_places : Has F1 22 (fdL_places) := ⟨rfl⟩
instance hL_plus : Has F1 23 (fdLawPlus) := ⟨rfl⟩
instance hL_less : Has F1 24 (fdLawLess) := ⟨rfl⟩
instance hL_is_place : Has F1 25 (fdL_is_place 18) := ⟨rfl⟩
instance hL_place : Has F1 26 (fdPlace 15) := ⟨rfl⟩
instance hL_dealing : Has F1 27 (fdL_dealing 22 17 24) := ⟨rfl⟩
instance hL_ends : Has F1 28 (fdP_ends_of 22 23) := ⟨rfl⟩
instance hL_deals : Has F1 29 (fdL_deals 20 25 28 22) := ⟨rfl⟩
instance hL_bool_place : Has F1 30 (fdBool 16) := ⟨rfl⟩
instance hL_bad_place : Has F1 31 (fdBadPlace 26 15 16 30) := ⟨rfl⟩
instance hL_bad_dials : Has F1 32 (fdL_bad_dials 16) := ⟨rfl⟩
instance hL_bad_dealing : Has F1 33 (fdL_bad_dealing 27 15 20 23 22 31 16) := ⟨rfl⟩
def lpA : E := (.cn (.asg (.tg 11) (.call 28 (.cn (.vr 3) (.cn (.vr 4) .nl)))) (.cn (.asgo 12 (.call 12 (.cn (.vr 3) (.cn (.vr 4) .nl)))) (.cn (.iff (.cmp .ne (.rpl (.cn (.br 12) (.cn (.calk 12 (.cn (.vr 4) (.cn (.vr 3) .nl)) [1, 0]) .nl))) (.blt .repr (.cn (.ls (.cn (.vr 11) (.cn (.vr 11) .nl))) .nl))) (.cn (.ret (.cb false)) .nl) .nl) (.cn (.clr 12) (.cn (.iff (.cmp .ne (.blt .repr (.cn (.call 12 (.cn (.vr 3) (.cn (.vr 4) .nl))) .nl)) (.blt .repr (.cn (.vr 11) .nl))) (.cn (.ret (.cb false)) .nl) .nl) .nl)))))
def lpB : E := (.cn (.asg (.tg 11) (.call 29 (.cn (.vr 3) (.cn (.vr 7) .nl)))) (.cn (.iff (.cmp .ne (.blt .repr (.cn (.ls (.cn (.call 13 (.cn (.vr 3) (.cn (.vr 7) .nl))) (.cn (.calk 13 (.cn (.vr 7) (.cn (.vr 3) .nl)) [1, 0]) .nl))) .nl)) (.blt .repr (.cn (.ls (.cn (.vr 11) (.cn (.vr 11) .nl))) .nl))) (.cn (.ret (.cb false)) .nl) .nl) .nl))
def lpC : E := (.cn (.asg (.tg 3) (.call 21 (.cn (.vr 1) (.cn (.ci 24) .nl)))) (.cn (.par 9 10 (.call 27 (.cn (.vr 1) (.cn (.vr 3) .nl))) (.ti (.itv (.lc (.tg 7) (.itv (.call 22 (.cn (.vr 3) .nl))) (.cb true) (.call 26 (.cn (.vr 1) (.cn (.vr 3) .nl))) [7]))) false false) (.cn (.for_ (.tg 4) (.itv (.ls (.cn (.vr 9) (.cn (.vr 10) .nl)))) lpA) (.cn (.asgo 5 (.ls (.cn (.vr 9) (.cn (.vr 10) (.cn (.call 19 (.cn (.vr 1) .nl)) (.cn (.call 33 (.cn (.vr 1) (.cn (.vr 3) .nl))) (.cn (.call 33 (.cn (.vr 1) (.cn (.vr 3) .nl))) .nl))))))) (.cn (.asg (.tg 6) (.call 15 (.cn (.vr 1) (.cn (.blt .len (.cn (.vr 9) .nl)) .nl)))) (.cn (.app 5 (.bin .add (.bin .add (.slc (.vr 9) .nl (.vr 6)) (.tp (.cn (.call 30 (.cn (.vr 1) (.cn (.sub (.vr 9) (.vr 6)) .nl))) .nl))) (.slc (.vr 9) (.bin .add (.vr 6) (.ci 1)) .nl))) (.cn (.frz 5) (.cn (.for_ (.tg 7) (.itv (.vr 5)) lpB) (.cn (.par 13 14 (.call 32 (.cn (.vr 1) .nl)) (.call 16 (.cn (.vr 1) (.cn (.ls (.cn .cnn (.cn (.li (.itv (.vr 9))) (.cn (.slc (.vr 9) .nl (.neg (.ci 1))) (.cn (.bin .add (.vr 9) (.slc (.vr 9) .nl (.ci 1))) (.cn (.ci 5) (.cn (.tp .nl) (.cn (.sub (.br 5) (.neg (.ci 1))) .nl)))))))) .nl))) false false) (.cn (.lams 8 (.cn (.call 12 (.cn (.vr 13) (.cn (.vr 14) .nl))) (.cn (.call 13 (.cn (.vr 13) (.cn (.vr 9) .nl))) .nl)) [1]) (.cn (.iff (.nt (.ise (.cgt (.call 12 (.cn (.vr 3) (.cn (.vr 14) .nl)))) [2])) (.cn (.ret (.cb false)) .nl) .nl) .nl)))))))))))
theorem bd34_eq : bd34 = (.cn (.asg (.tg 1) (.call 14 (.cn (.vr 0) .nl))) (.cn (.for_ (.tg 2) (.itr (.cn (.bin .add (.ci 2) (.blt .min (.cn (.blt .len (.cn (.vr 0) .nl)) (.cn (.ci 8) .nl)))) .nl)) lpC) (.cn (.ret (.cb true)) .nl))) := rfl
abbrev g1 : G := ⟨callN F1 txt 1000 20, txt, 1000⟩
theorem txt_bb (b : Bool) : ∃ t, txt (.lst [.bl b, .bl b]) = some t := txt_ex (.inl ⟨_, rfl⟩) rfl (by simp [dep, deps]) (by simp [wt, wts])
section
variable {k : Nat} {s : S} {p : List Nat}
theorem lapA {l : List (List Nat)} {x0 x1 x2 x5 x6 x7 x8 x9 x10 x11 x12 x13 x14 : Sl} (hp : DOk p) (hl : AllPl p l) (hn : l.length = prodL p) :
    Wp ((den g1 lpA).x [x0, x1, x2, .fz (pD p), .fz (.tup (l.map pD)), x5, x6, x7, x8, x9, x10, x11, x12, x13, x14] s) fun f s' => (∃ y11 y12, f = .nx [x0, x1, x2, .fz (pD p), .fz (.tup (l.map pD)), x5, x6, x7, x8, x9, x10, y11, y12, x13, x14]) ∧ s' = s := by
  have h24 := hp.c
  have he := allPl_ends hp hl
  have hel : (endsL p l).length ≤ 24 := by rw [endsL_len hn]; exact h24
  have hll : l.length ≤ lim := by unfold lim; omega
  obtain ⟨t1, ht1⟩ := txt_pls hp he (by omega)
  obtain ⟨t2, ht2⟩ := txt_pls2 hp he (by omega)
  have ee := fun s => endsFn (F := F1) (T := txt) (fuel := 1000) (n := 17) (i := 28) (s := s) hp hl hll
  have e2 := fun s => ends_s (F := F1) (T := txt) (fuel := 1000) (n := 15) (i := 12) (s := s) hp hl hn
  simp [lpA, ee, e2, isBox, ht1, ht2]
theorem lapB {x : D} {x0 x1 x2 x4 x5 x6 x8 x9 x10 x11 x12 x13 x14 : Sl} (hp : DOk p) (hx : okM x) :
    Wp ((den g1 lpB).x [x0, x1, x2, .fz (pD p), x4, x5, x6, .fz x, x8, x9, x10, x11, x12, x13, x14] s) fun f s' => (∃ y11, f = .nx [x0, x1, x2, .fz (pD p), x4, x5, x6, .fz x, x8, x9, x10, y11, x12, x13, x14]) ∧ s' = s := by
  obtain ⟨t1, ht1⟩ := txt_bb (dealB p x)
  simp [lpB, hp, hx, ht1]
theorem movB_one {l : List (List Nat)} {j : Nat} {b : D} (hb : plB p b = false) : movB p (.tup (((l.take j).map pD ++ [b]) ++ (l.drop (j + 1)).map pD)) = false := by
  simp [movB, hb]
theorem lapC {x0 x2 x3 x4 x5 x6 x7 x8 x9 x10 x11 x12 x13 x14 : Sl} (hk : k ≤ 100000000) (g : Good k s) :
    Wp ((den g1 lpC).x [x0, .fz (.cell 1), x2, x3, x4, x5, x6, x7, x8, x9, x10, x11, x12, x13, x14] s) fun f s' => (∃ y3 y4 y5 y6 y7 y8 y9 y10 y11 y12 y13 y14, f = .nx [x0, .fz (.cell 1), x2, y3, y4, y5, y6, y7, y8, y9, y10, y11, y12, y13, y14]) ∧ Good (k + 2000) s' := by
  simp [lpC]
  refine wp_mono (lawDials_wp (F := F1) (T := txt) (fuel := 1000) (n := 17) (i := 21) (iK := 16) (iC := 20) (iD := 15) (by omega) (most := 24) (by omega) (by omega) g) fun d s1 ⟨⟨p, h1, hp, _, _⟩, g1'⟩ => ?_
  subst h1
  simp
  refine wp_mono (dealing_wp (F := F1) (T := txt) (fuel := 1000) (n := 17) (i := 27) (iP := 22) (iM := 17) (iL := 24) (iD := 15) (by omega) hp (by omega) g1') fun x s2 ⟨⟨l, h1, hl⟩, g2⟩ => ?_
  subst h1
  have h24 := hp.c
  have hn1 : 1 ≤ prodL p := by
    rw [← placesL_len]
    exact List.length_pos_iff.mpr hp.ne
  have hlen := hl.len
  simp [hp]
  refine wp_mono (P := fun acc s' => (∃ m : List (List Nat), acc = m.map pD ∧ AllPl p m ∧ m.length = prodL p) ∧ Good (k + 200) s') ?_ ?_
  · refine lc_wp pD (fun rest acc s => (∃ m : List (List Nat), acc = m.map pD ∧ AllPl p m ∧ m.length + rest.length = prodL p) ∧ Good (k + 25 + 4 * (prodL p - rest.length)) s) ?_ ?_ (placesL p) [] s2 ⟨⟨[], rfl, (by intro q hq; cases hq), by simp [placesL_len]⟩, g2.mono (by omega)⟩
    · rintro z rest acc s ⟨⟨m, rfl, hm, hlen⟩, hg⟩
      simp only [List.length_cons] at hlen hg
      simp [lcStep, lcAdd]
      refine wp_mono (place_wp (F := F1) (T := txt) (fuel := 1000) (n := 18) (i := 26) (iD := 15) inferInstance inferInstance (by omega) hp.pos2 hp.th (by have := hp.n4; omega) hg) fun a s1 ⟨q, h1, hq, g1⟩ => ?_
      subst h1
      simp
      refine ⟨by unfold lim; omega, ⟨m ++ [q], by simp, ?_, by simp; omega⟩, g1.mono (by have := hp.n4; omega)⟩
      intro r hr
      rcases List.mem_append.mp hr with hr | hr
      · exact hm r hr
      · simp at hr; rw [hr]; exact hq
    · rintro acc s ⟨⟨m, rfl, hm, hlen⟩, hg⟩
      simp at hlen hg
      exact ⟨⟨m, rfl, hm, hlen⟩, hg.mono (by omega)⟩
  rintro acc s3 ⟨⟨m, rfl, hm, hmn⟩, g3⟩
  have hml : m.length ≤ lim := by unfold lim; omega
  simp [hml]
  refine wp_mono (P := fun f s' => (∃ y4 y11 y12, f = .nx [x0, .fz (.cell 1), x2, .fz (pD p), y4, x5, x6, x7, x8, .fz (.tup (l.map pD)), .fz (.tup (m.map pD)), y11, y12, x13, x14]) ∧ s' = s3) ?_ ?_
  · have e : [D.tup (l.map pD), .tup (m.map pD)] = [l, m].map fun l => D.tup (l.map pD) := rfl
    rw [e]
    refine for_wp (fun l : List (List Nat) => D.tup (l.map pD)) (fun rest ρ s => (∀ l ∈ rest, AllPl p l ∧ l.length = prodL p) ∧ (∃ y4 y11 y12, ρ = [x0, .fz (.cell 1), x2, .fz (pD p), y4, x5, x6, x7, x8, .fz (.tup (l.map pD)), .fz (.tup (m.map pD)), y11, y12, x13, x14]) ∧ s = s3) ?_ ?_ _ _ _ ⟨by simp [hl.pl, hl.len, hm, hmn], ⟨_, _, _, rfl⟩, rfl⟩
    · rintro r rest ρ s ⟨hr, ⟨y4, y11, y12, rfl⟩, rfl⟩
      obtain ⟨hr1, hr2⟩ := hr r (by simp)
      simp
      refine wp_mono (lapA hp hr1 hr2) fun f s' ⟨⟨y11, y12, h⟩, h2⟩ => ?_
      subst h
      subst h2
      exact ⟨fun l hl => hr l (by simp [hl]), ⟨_, _, _, rfl⟩, rfl⟩
    · rintro ρ s ⟨_, ⟨y4, y11, y12, rfl⟩, rfl⟩
      exact ⟨⟨_, _, _, rfl⟩, rfl⟩
  rintro f s4 ⟨⟨y4, y11, y12, rfl⟩, h4⟩
  subst h4
  simp
  refine wp_mono (odd_wp (F := F1) (T := txt) (fuel := 1000) (n := 17) (i := 19) (iK := 16) (iD := 15) (by omega) (by omega) g3) fun od s5 ⟨hod, g5⟩ => ?_
  have hod := odd_okM hod
  simp
  refine wp_mono (badDealing_wp (F := F1) (T := txt) (fuel := 1000) (n := 15) (i := 33) (iA := 27) (iD := 15) (iC := 20) (iP := 23) (iL := 22) (iB := 31) (iK := 16) (iP2 := 26) (iK2 := 16) (iB2 := 30) (iM2 := 17) (iL2 := 24) (iP3 := 22) (by omega) hp (by omega) g5) fun b1 s6 ⟨hb1, g6⟩ => ?_
  simp
  refine wp_mono (badDealing_wp (F := F1) (T := txt) (fuel := 1000) (n := 15) (i := 33) (iA := 27) (iD := 15) (iC := 20) (iP := 23) (iL := 22) (iB := 31) (iK := 16) (iP2 := 26) (iK2 := 16) (iB2 := 30) (iM2 := 17) (iL2 := 24) (iP3 := 22) (by omega) hp (by omega) g6) fun b2 s7 ⟨hb2, g7⟩ => ?_
  simp [isBox]
  refine wp_mono (draw_wp (F := F1) (T := txt) (fuel := 1000) (n := 19) (i := 15) inferInstance (by omega) (z := l.length) (by omega) (by omega) (by omega) g7) fun j s8 ⟨j, h1, hj, g8⟩ => ?_
  subst h1
  obtain ⟨q, hq, hql⟩ := nth_ex hj
  have hsub : sub (.tup (l.map pD)) (.int (j : Int)) = some (pD q) := by
    rw [sub_tupN, if_pos (inB_nat (by omega)), nth_map', hq]
    rfl
  have hqp := hl.pl q hql
  obtain ⟨c1, _⟩ := cut_pls (l := l) (j := j) (by omega)
  obtain ⟨_, c2⟩ := cut_pls (l := l) (j := j + 1) (by omega)
  have c2' : cut (l.map pD) (some ((j : Int) + 1)) none = (l.drop (j + 1)).map pD := c2
  have bb1 : ∀ x : D, bin .add (.tup ((l.take j).map pD)) (.tup [x]) = some (.tup ((l.take j).map pD ++ [x])) := fun x => if_pos (by simp; unfold lim; omega)
  have bb2 : ∀ x : D, bin .add (.tup ((l.take j).map pD ++ [x])) (.tup ((l.drop (j + 1)).map pD)) = some (.tup (((l.take j).map pD ++ [x]) ++ (l.drop (j + 1)).map pD)) := fun x => if_pos (by simp; unfold lim; omega)
  simp [-sub_tupN, -sub_tup, -bin_addt, -List.map_take, -List.map_drop, -List.append_assoc, cutD, c1, hsub]
  refine wp_mono (bool_wp (F := F1) (T := txt) (fuel := 1000) (n := 17) (i := 30) (iK := 16) (iD := 15) inferInstance inferInstance inferInstance (by omega) hqp hp.n1 hp.th (by omega) g8) fun b s9 ⟨hb, g9⟩ => ?_
  have l5' : (5 : Nat) < lim := by decide
  simp [-sub_tupN, -sub_tup, -bin_addt, -List.map_take, -List.map_drop, -List.append_assoc, cutD, c2', bb1, bb2, l5']
  have hw := okM_tup (one_pls (l := l) (j := j) hb.okP)
  have hwb := movB_one (p := p) (l := l) (j := j) hb.plB
  generalize ((l.take j).map pD ++ [b]) ++ (l.drop (j + 1)).map pD = w at hw hwb ⊢
  refine wp_mono (P := fun f s' => (∃ y7 y11, f = .nx [x0, .fz (.cell 1), x2, .fz (pD p), y4, .fz (.lst [.tup (l.map pD), .tup (m.map pD), od, b1, b2, .tup w]), .fz (nD j), y7, x8, .fz (.tup (l.map pD)), .fz (.tup (m.map pD)), y11, y12, x13, x14]) ∧ s' = s9) ?_ ?_
  · have e : [D.tup (l.map pD), .tup (m.map pD), od, b1, b2, .tup w] = [D.tup (l.map pD), .tup (m.map pD), od, b1, b2, .tup w].map id := by simp
    conv => arg 1; rw [e]
    refine for_wp id (fun rest ρ s => (∀ x ∈ rest, okM x) ∧ (∃ y7 y11, ρ = [x0, .fz (.cell 1), x2, .fz (pD p), y4, .fz (.lst [.tup (l.map pD), .tup (m.map pD), od, b1, b2, .tup w]), .fz (nD j), y7, x8, .fz (.tup (l.map pD)), .fz (.tup (m.map pD)), y11, y12, x13, x14]) ∧ s = s9) ?_ ?_ _ _ _ ⟨by simp [hod, hb1, hb2, hw], ⟨_, _, rfl⟩, rfl⟩
    · rintro r rest ρ s ⟨hr, ⟨y7, y11, rfl⟩, rfl⟩
      have hr1 := hr r (by simp)
      simp
      refine wp_mono (lapB hp hr1) fun f s' ⟨⟨y11, h⟩, h2⟩ => ?_
      subst h
      subst h2
      exact ⟨fun l hl => hr l (by simp [hl]), ⟨_, _, rfl⟩, rfl⟩
    · rintro ρ s ⟨_, ⟨y7, y11, rfl⟩, rfl⟩
      exact ⟨⟨_, _, rfl⟩, rfl⟩
  rintro f s10 ⟨⟨y7, y11, rfl⟩, h10⟩
  subst h10
  simp
  refine wp_mono (badDials_wp (F := F1) (T := txt) (fuel := 1000) (n := 17) (i := 32) (iK := 16) (iD := 15) (by omega) (by omega) g9) fun wd s11 ⟨hwd, g11⟩ => ?_
  obtain ⟨c3, _⟩ := cut_pls (l := l) (j := 1) (by omega)
  have c3' : cut (l.map pD) none (some 1) = (l.take 1).map pD := c3
  have b3 : bin .add (.tup (l.map pD)) (.tup ((l.take 1).map pD)) = some (.tup (l.map pD ++ (l.take 1).map pD)) := if_pos (by simp; unfold lim; omega)
  have hll : l.length ≤ lim := by unfold lim; omega
  have in1 : inB (-1) = true := rfl
  have at6 : ∀ a b c d e f : D, at_ [a, b, c, d, e, f] (-1) = some f := fun a b c d e f => rfl
  simp [-bin_addt, -List.map_take, -List.map_drop, -List.append_assoc, cutD, c3', b3, hll, in1, at6]
  refine wp_mono (pick_wp (F := F1) (T := txt) (fuel := 1000) (n := 18) (i := 16) (iD := 15) inferInstance inferInstance (by omega) (by simp) (by simp) (by omega) g11 (.inl rfl)) fun y s12 ⟨hy, g12⟩ => ?_
  have hy2 : okM y ∧ movB p y = false := by
    simp only [List.mem_cons, List.not_mem_nil, or_false] at hy
    rcases hy with rfl | rfl | rfl | rfl | rfl | rfl | rfl
    · exact ⟨okM_no (okD_of rfl) (by intro xs h; cases h), rfl⟩
    · exact ⟨okM_no (okD_of rfl) (by intro xs h; cases h), rfl⟩
    · refine ⟨okM_tup okP_cut, ?_⟩
      have := cut_but (xs := l.map pD) (by rw [List.length_map]; omega)
      simp only [List.length_map] at this
      simp only [movB, this, Bool.and_eq_false_iff, decide_eq_false_iff_not]
      left; omega
    · refine ⟨okM_tup fun y hy => ?_, ?_⟩
      · rcases List.mem_append.mp hy with hy | hy
        · exact okP_pls y hy
        · exact okP_pls y hy
      · simp only [movB, List.length_append, List.length_map, List.length_take, Bool.and_eq_false_iff, decide_eq_false_iff_not]
        left; omega
    · exact ⟨okM_no (okD_of rfl) (by intro xs h; cases h), rfl⟩
    · refine ⟨okM_tup (by simp), ?_⟩
      simp only [movB, List.length_nil, Bool.and_eq_false_iff, decide_eq_false_iff_not]
      left; omega
    · exact ⟨hw, hwb⟩
  obtain ⟨hy2, hy3⟩ := hy2
  simp [sLams, sLams', hwd, hp, hy2, hy3]
  exact g12.mono (by omega)
end
theorem math_k08 (ns : List Int) (hn : ns.length ≤ 63) (hb : ∀ z ∈ ns, PySem.Builtin.Int.intBits z ≤ 1048576) : ∃ s', callN F1 txt 1000 21 34 [scrD ns] [] = .ok (.bl true) s' := by
  have H : Has F1 34 ⟨1, 15, bd34⟩ := ⟨rfl⟩
  rw [bd34_eq] at H
  refine law_top (m := 12) (A := 2) (B := 8) (C := 2000) (iBg := 14) (n := 19) H inferInstance hn (by omega) (by omega) fun k s x2 r hr hk g => ?_
  match r, hr with
  | [x3, x4, x5, x6, x7, x8, x9, x10, x11, x12, x13, x14], _ =>
    refine wp_mono (lapC (by omega) g) fun f s' ⟨⟨y3, y4, y5, y6, y7, y8, y9, y10, y11, y12, y13, y14, h⟩, hg⟩ => ?_
    exact ⟨⟨_, h, rfl⟩, hg⟩
end MR
open PySem PySem.W PyProof.Rows
set_option Elab.async false
set_option maxRecDepth 100000 in
set_option maxHeartbeats 0 in
theorem PySem.Challenge.cw_movedround_k08_ends_and_dealings_judged_holds : PySem.Challenge.rw_movedround_k08_ends_and_dealings_judged.Holds := by
  w_on; o_law; k_head; (case hw => w_witness2)
  k_fill
  refine' MR.walk_mr (tx := MR.tx) (ds := MR.ds) (dl := MR.df34) (i := 34) (m := 20) (fuel := 1000) ?n1 ?n2 ?n3 ?n4 ?n5 ?n6 ?n7 (fun w h Y => PySem.W.km_in_of Y) ?caseT ?caseM
  case n1 => exact rfl
  case n2 => decide
  case n3 => rfl
  case n4 => exact ⟨by decide +kernel, by decide +kernel, by decide +kernel⟩
  case n5 => rfl
  case n6 => rfl
  case n7 => rfl
  case caseM => exact MR.math_k08
  case caseT =>
    intro w mg fa h Y KX G hmg tabs
    refine' MR.use_dff KX (d := MR.df0) (nm := "is_between") ?d_a ?d_l ?d_c ?d_k ?d_1 ?d_2 ?d_3 ?d_4 ?cont
    (case d_a => k_is); (case d_l => k_is); (case d_c => k_is); (case d_k => k_is)
    (case d_1 => exact rfl); (case d_2 => exact rfl); (case d_3 => exact rfl); (case d_4 => exact rfl)
    case cont =>
    intro F0
    refine' MR.use_dff KX (d := MR.df1) (nm := "count_of") ?d_a ?d_l ?d_c ?d_k ?d_1 ?d_2 ?d_3 ?d_4 ?cont
    (case d_a => k_is); (case d_l => k_is); (case d_c => k_is); (case d_k => k_is)
    (case d_1 => exact rfl); (case d_2 => exact rfl); (case d_3 => exact rfl); (case d_4 => exact rfl)
    case cont =>
    intro F1
    refine' MR.use_dff KX (d := MR.df2) (nm := "are_dials") ?d_a ?d_l ?d_c ?d_k ?d_1 ?d_2 ?d_3 ?d_4 ?cont
    (case d_a => k_is); (case d_l => k_is); (case d_c => k_is); (case d_k => k_is)
    (case d_1 => exact rfl); (case d_2 => exact rfl); (case d_3 => exact rfl); (case d_4 => exact rfl)
    case cont =>
    intro F2
    refine' MR.use_dff KX (d := MR.df3) (nm := "need_dials") ?d_a ?d_l ?d_c ?d_k ?d_1 ?d_2 ?d_3 ?d_4 ?cont
    (case d_a => k_is); (case d_l => k_is); (case d_c => k_is); (case d_k => k_is)
    (case d_1 => exact rfl); (case d_2 => exact rfl); (case d_3 => exact rfl); (case d_4 => exact rfl)
    case cont =>
    intro F3
    refine' MR.use_dff KX (d := MR.df4) (nm := "is_place") ?d_a ?d_l ?d_c ?d_k ?d_1 ?d_2 ?d_3 ?d_4 ?cont
    (case d_a => k_is); (case d_l => k_is); (case d_c => k_is); (case d_k => k_is)
    (case d_1 => exact rfl); (case d_2 => exact rfl); (case d_3 => exact rfl); (case d_4 => exact rfl)
    case cont =>
    intro F4
    refine' MR.use_dff KX (d := MR.df5) (nm := "picks_of") ?d_a ?d_l ?d_c ?d_k ?d_1 ?d_2 ?d_3 ?d_4 ?cont
    (case d_a => k_is); (case d_l => k_is); (case d_c => k_is); (case d_k => k_is)
    (case d_1 => exact rfl); (case d_2 => exact rfl); (case d_3 => exact rfl); (case d_4 => exact rfl)
    case cont =>
    intro F5
    refine' MR.use_dff KX (d := MR.df6) (nm := "places_of") ?d_a ?d_l ?d_c ?d_k ?d_1 ?d_2 ?d_3 ?d_4 ?cont
    (case d_a => k_is); (case d_l => k_is); (case d_c => k_is); (case d_k => k_is)
    (case d_1 => exact rfl); (case d_2 => exact rfl); (case d_3 => exact rfl); (case d_4 => exact rfl)
    case cont =>
    intro F6
    refine' MR.use_dff KX (d := MR.df7) (nm := "plus_of") ?d_a ?d_l ?d_c ?d_k ?d_1 ?d_2 ?d_3 ?d_4 ?cont
    (case d_a => k_is); (case d_l => k_is); (case d_c => k_is); (case d_k => k_is)
    (case d_1 => exact rfl); (case d_2 => exact rfl); (case d_3 => exact rfl); (case d_4 => exact rfl)
    case cont =>
    intro F7
    refine' MR.use_dff KX (d := MR.df8) (nm := "are_moves") ?d_a ?d_l ?d_c ?d_k ?d_1 ?d_2 ?d_3 ?d_4 ?cont
    (case d_a => k_is); (case d_l => k_is); (case d_c => k_is); (case d_k => k_is)
    (case d_1 => exact rfl); (case d_2 => exact rfl); (case d_3 => exact rfl); (case d_4 => exact rfl)
    case cont =>
    intro F8
    refine' MR.use_dff KX (d := MR.df9) (nm := "need_moves") ?d_a ?d_l ?d_c ?d_k ?d_1 ?d_2 ?d_3 ?d_4 ?cont
    (case d_a => k_is); (case d_l => k_is); (case d_c => k_is); (case d_k => k_is)
    (case d_1 => exact rfl); (case d_2 => exact rfl); (case d_3 => exact rfl); (case d_4 => exact rfl)
    case cont =>
    intro F9
    refine' MR.use_dff KX (d := MR.df10) (nm := "ends_of") ?d_a ?d_l ?d_c ?d_k ?d_1 ?d_2 ?d_3 ?d_4 ?cont
    (case d_a => k_is); (case d_l => k_is); (case d_c => k_is); (case d_k => k_is)
    (case d_1 => exact rfl); (case d_2 => exact rfl); (case d_3 => exact rfl); (case d_4 => exact rfl)
    case cont =>
    intro F10
    refine' MR.use_dff KX (d := MR.df11) (nm := "deals") ?d_a ?d_l ?d_c ?d_k ?d_1 ?d_2 ?d_3 ?d_4 ?cont
    (case d_a => k_is); (case d_l => k_is); (case d_c => k_is); (case d_k => k_is)
    (case d_1 => exact rfl); (case d_2 => exact rfl); (case d_3 => exact rfl); (case d_4 => exact rfl)
    case cont =>
    intro F11
    refine' MR.use_dff KX (d := MR.df12) (nm := "ends") ?d_a ?d_l ?d_c ?d_k ?d_1 ?d_2 ?d_3 ?d_4 ?cont
    (case d_a => k_is); (case d_l => k_is); (case d_c => k_is); (case d_k => k_is)
    (case d_1 => exact rfl); (case d_2 => exact rfl); (case d_3 => exact rfl); (case d_4 => exact rfl)
    case cont =>
    intro F12
    refine' MR.use_dff KX (d := MR.df13) (nm := "is_dealing") ?d_a ?d_l ?d_c ?d_k ?d_1 ?d_2 ?d_3 ?d_4 ?cont
    (case d_a => k_is); (case d_l => k_is); (case d_c => k_is); (case d_k => k_is)
    (case d_1 => exact rfl); (case d_2 => exact rfl); (case d_3 => exact rfl); (case d_4 => exact rfl)
    case cont =>
    intro F13
    refine' MR.use_dff KX (d := MR.df14) (nm := "_law_begun") ?d_a ?d_l ?d_c ?d_k ?d_1 ?d_2 ?d_3 ?d_4 ?cont
    (case d_a => k_is); (case d_l => k_is); (case d_c => k_is); (case d_k => k_is)
    (case d_1 => exact rfl); (case d_2 => exact rfl); (case d_3 => exact rfl); (case d_4 => exact rfl)
    case cont =>
    intro F14
    refine' MR.use_dff KX (d := MR.df15) (nm := "_law_draw") ?d_a ?d_l ?d_c ?d_k ?d_1 ?d_2 ?d_3 ?d_4 ?cont
    (case d_a => k_is); (case d_l => k_is); (case d_c => k_is); (case d_k => k_is)
    (case d_1 => exact rfl); (case d_2 => exact rfl); (case d_3 => exact rfl); (case d_4 => exact rfl)
    case cont =>
    intro F15
    refine' MR.use_dff KX (d := MR.df16) (nm := "_law_pick") ?d_a ?d_l ?d_c ?d_k ?d_1 ?d_2 ?d_3 ?d_4 ?cont
    (case d_a => k_is); (case d_l => k_is); (case d_c => k_is); (case d_k => k_is)
    (case d_1 => exact rfl); (case d_2 => exact rfl); (case d_3 => exact rfl); (case d_4 => exact rfl)
    case cont =>
    intro F16
    refine' MR.use_dff KX (d := MR.df17) (nm := "_law_mixed") ?d_a ?d_l ?d_c ?d_k ?d_1 ?d_2 ?d_3 ?d_4 ?cont
    (case d_a => k_is); (case d_l => k_is); (case d_c => k_is); (case d_k => k_is)
    (case d_1 => exact rfl); (case d_2 => exact rfl); (case d_3 => exact rfl); (case d_4 => exact rfl)
    case cont =>
    intro F17
    refine' MR.use_dff KX (d := MR.df18) (nm := "_law_is_whole") ?d_a ?d_l ?d_c ?d_k ?d_1 ?d_2 ?d_3 ?d_4 ?cont
    (case d_a => k_is); (case d_l => k_is); (case d_c => k_is); (case d_k => k_is)
    (case d_1 => exact rfl); (case d_2 => exact rfl); (case d_3 => exact rfl); (case d_4 => exact rfl)
    case cont =>
    intro F18
    refine' MR.use_dff KX (d := MR.df19) (nm := "_law_odd") ?d_a ?d_l ?d_c ?d_k ?d_1 ?d_2 ?d_3 ?d_4 ?cont
    (case d_a => k_is); (case d_l => k_is); (case d_c => k_is); (case d_k => k_is)
    (case d_1 => exact rfl); (case d_2 => exact rfl); (case d_3 => exact rfl); (case d_4 => exact rfl)
    case cont =>
    intro F19
    refine' MR.use_dff KX (d := MR.df20) (nm := "_law_count") ?d_a ?d_l ?d_c ?d_k ?d_1 ?d_2 ?d_3 ?d_4 ?cont
    (case d_a => k_is); (case d_l => k_is); (case d_c => k_is); (case d_k => k_is)
    (case d_1 => exact rfl); (case d_2 => exact rfl); (case d_3 => exact rfl); (case d_4 => exact rfl)
    case cont =>
    intro F20
    refine' MR.use_dff KX (d := MR.df21) (nm := "_law_dials") ?d_a ?d_l ?d_c ?d_k ?d_1 ?d_2 ?d_3 ?d_4 ?cont
    (case d_a => k_is); (case d_l => k_is); (case d_c => k_is); (case d_k => k_is)
    (case d_1 => exact rfl); (case d_2 => exact rfl); (case d_3 => exact rfl); (case d_4 => exact rfl)
    case cont =>
    intro F21
    refine' MR.use_dff KX (d := MR.df22) (nm := "_law_places") ?d_a ?d_l ?d_c ?d_k ?d_1 ?d_2 ?d_3 ?d_4 ?cont
    (case d_a => k_is); (case d_l => k_is); (case d_c => k_is); (case d_k => k_is)
    (case d_1 => exact rfl); (case d_2 => exact rfl); (case d_3 => exact rfl); (case d_4 => exact rfl)
    case cont =>
    intro F22
    refine' MR.use_dff KX (d := MR.df23) (nm := "_law_plus") ?d_a ?d_l ?d_c ?d_k ?d_1 ?d_2 ?d_3 ?d_4 ?cont
    (case d_a => k_is); (case d_l => k_is); (case d_c => k_is); (case d_k => k_is)
    (case d_1 => exact rfl); (case d_2 => exact rfl); (case d_3 => exact rfl); (case d_4 => exact rfl)
    case cont =>
    intro F23
    refine' MR.use_dff KX (d := MR.df24) (nm := "_law_less") ?d_a ?d_l ?d_c ?d_k ?d_1 ?d_2 ?d_3 ?d_4 ?cont
    (case d_a => k_is); (case d_l => k_is); (case d_c => k_is); (case d_k => k_is)
    (case d_1 => exact rfl); (case d_2 => exact rfl); (case d_3 => exact rfl); (case d_4 => exact rfl)
    case cont =>
    intro F24
    refine' MR.use_dff KX (d := MR.df25) (nm := "_law_is_place") ?d_a ?d_l ?d_c ?d_k ?d_1 ?d_2 ?d_3 ?d_4 ?cont
    (case d_a => k_is); (case d_l => k_is); (case d_c => k_is); (case d_k => k_is)
    (case d_1 => exact rfl); (case d_2 => exact rfl); (case d_3 => exact rfl); (case d_4 => exact rfl)
    case cont =>
    intro F25
    refine' MR.use_dff KX (d := MR.df26) (nm := "_law_place") ?d_a ?d_l ?d_c ?d_k ?d_1 ?d_2 ?d_3 ?d_4 ?cont
    (case d_a => k_is); (case d_l => k_is); (case d_c => k_is); (case d_k => k_is)
    (case d_1 => exact rfl); (case d_2 => exact rfl); (case d_3 => exact rfl); (case d_4 => exact rfl)
    case cont =>
    intro F26
    refine' MR.use_dff KX (d := MR.df27) (nm := "_law_dealing") ?d_a ?d_l ?d_c ?d_k ?d_1 ?d_2 ?d_3 ?d_4 ?cont
    (case d_a => k_is); (case d_l => k_is); (case d_c => k_is); (case d_k => k_is)
    (case d_1 => exact rfl); (case d_2 => exact rfl); (case d_3 => exact rfl); (case d_4 => exact rfl)
    case cont =>
    intro F27
    refine' MR.use_dff KX (d := MR.df28) (nm := "_law_ends") ?d_a ?d_l ?d_c ?d_k ?d_1 ?d_2 ?d_3 ?d_4 ?cont
    (case d_a => k_is); (case d_l => k_is); (case d_c => k_is); (case d_k => k_is)
    (case d_1 => exact rfl); (case d_2 => exact rfl); (case d_3 => exact rfl); (case d_4 => exact rfl)
    case cont =>
    intro F28
    refine' MR.use_dff KX (d := MR.df29) (nm := "_law_deals") ?d_a ?d_l ?d_c ?d_k ?d_1 ?d_2 ?d_3 ?d_4 ?cont
    (case d_a => k_is); (case d_l => k_is); (case d_c => k_is); (case d_k => k_is)
    (case d_1 => exact rfl); (case d_2 => exact rfl); (case d_3 => exact rfl); (case d_4 => exact rfl)
    case cont =>
    intro F29
    refine' MR.use_dff KX (d := MR.df30) (nm := "_law_bool_place") ?d_a ?d_l ?d_c ?d_k ?d_1 ?d_2 ?d_3 ?d_4 ?cont
    (case d_a => k_is); (case d_l => k_is); (case d_c => k_is); (case d_k => k_is)
    (case d_1 => exact rfl); (case d_2 => exact rfl); (case d_3 => exact rfl); (case d_4 => exact rfl)
    case cont =>
    intro F30
    refine' MR.use_dff KX (d := MR.df31) (nm := "_law_bad_place") ?d_a ?d_l ?d_c ?d_k ?d_1 ?d_2 ?d_3 ?d_4 ?cont
    (case d_a => k_is); (case d_l => k_is); (case d_c => k_is); (case d_k => k_is)
    (case d_1 => exact rfl); (case d_2 => exact rfl); (case d_3 => exact rfl); (case d_4 => exact rfl)
    case cont =>
    intro F31
    refine' MR.use_dff KX (d := MR.df32) (nm := "_law_bad_dials") ?d_a ?d_l ?d_c ?d_k ?d_1 ?d_2 ?d_3 ?d_4 ?cont
    (case d_a => k_is); (case d_l => k_is); (case d_c => k_is); (case d_k => k_is)
    (case d_1 => exact rfl); (case d_2 => exact rfl); (case d_3 => exact rfl); (case d_4 => exact rfl)
    case cont =>
    intro F32
    refine' MR.use_dff KX (d := MR.df33) (nm := "_law_bad_dealing") ?d_a ?d_l ?d_c ?d_k ?d_1 ?d_2 ?d_3 ?d_4 ?cont
    (case d_a => k_is); (case d_l => k_is); (case d_c => k_is); (case d_k => k_is)
    (case d_1 => exact rfl); (case d_2 => exact rfl); (case d_3 => exact rfl); (case d_4 => exact rfl)
    case cont =>
    intro F33
    refine' MR.use_dff KX (d := MR.df34) (nm := "law") ?d_a ?d_l ?d_c ?d_k ?d_1 ?d_2 ?d_3 ?d_4 ?cont
    (case d_a => k_is); (case d_l => k_is); (case d_c => k_is); (case d_k => k_is)
    (case d_1 => exact rfl); (case d_2 => exact rfl); (case d_3 => exact rfl); (case d_4 => exact rfl)
    case cont =>
    intro F34
    refine' MR.use_xcv KX (x := "MoveError") ?g_a ?g_q ?g_k ?g_sub ?g_ty ?g_e1 ?g_e2 ?g_e4 ?g_e5 ?g_e6 ?g_e7 ?g_e8 ?g_nn ?cont
    (case g_a => k_is); (case g_q => k_exc); (case g_k => k_is); (case g_sub => k_is); (case g_ty => k_is); (case g_e1 => k_is); (case g_e2 => k_is); (case g_e4 => k_is); (case g_e5 => k_is); (case g_e6 => first | rfl | k_is); (case g_e7 => first | rfl | k_is); (case g_e8 => first | rfl | k_is); (case g_nn => kernel_rfl)
    case cont =>
    intro X0
    refine' MR.use_xcv KX (x := "BadDials") ?g_a ?g_q ?g_k ?g_sub ?g_ty ?g_e1 ?g_e2 ?g_e4 ?g_e5 ?g_e6 ?g_e7 ?g_e8 ?g_nn ?cont
    (case g_a => k_is); (case g_q => k_exc); (case g_k => k_is); (case g_sub => k_is); (case g_ty => k_is); (case g_e1 => k_is); (case g_e2 => k_is); (case g_e4 => k_is); (case g_e5 => k_is); (case g_e6 => first | rfl | k_is); (case g_e7 => first | rfl | k_is); (case g_e8 => first | rfl | k_is); (case g_nn => kernel_rfl)
    case cont =>
    intro X1
    refine' MR.use_xcv KX (x := "BadMoves") ?g_a ?g_q ?g_k ?g_sub ?g_ty ?g_e1 ?g_e2 ?g_e4 ?g_e5 ?g_e6 ?g_e7 ?g_e8 ?g_nn ?cont
    (case g_a => k_is); (case g_q => k_exc); (case g_k => k_is); (case g_sub => k_is); (case g_ty => k_is); (case g_e1 => k_is); (case g_e2 => k_is); (case g_e4 => k_is); (case g_e5 => k_is); (case g_e6 => first | rfl | k_is); (case g_e7 => first | rfl | k_is); (case g_e8 => first | rfl | k_is); (case g_nn => kernel_rfl)
    case cont =>
    intro X2
    refine' MR.use_con KX (x := "MOST_PLACES") (i := 24) ?c_a ?cont
    (case c_a => k_is)
    case cont =>
    intro C0
    refine' MR.use_con KX (x := "MOST_DIALS") (i := 4) ?c_a ?cont
    (case c_a => k_is)
    case cont =>
    intro C1
    refine' MR.use_lam KX G tabs F34 ?l_0 ?l_1 ?l_2 ?l_3 ?l_4 ?cont
    (case l_0 => kernel_rfl); (case l_1 => rfl); (case l_2 => k_is); (case l_3 => rfl); (case l_4 => kernel_rfl)
    case cont =>
    intro L34
    refine' MR.use_cg KX ?h_1 ?h_2 ?h_3 ?h_4 ?h_5 ?h_6 ?h_7 ?h_8 ?h_9 ?h_10 ?h_11 ?h_12 ?cont
    (case h_1 => k_is); (case h_2 => k_is); (case h_3 => k_is); (case h_4 => k_is)
    (case h_5 => exact fun us hl => match us, hl with | [_], _ => rfl); (case h_6 => exact ⟨rfl, rfl, rfl, by decide +kernel, rfl, by decide +kernel, by decide +kernel⟩)
    (case h_7 => rfl); (case h_8 => rfl); (case h_9 => rfl); (case h_10 => rfl); (case h_11 => k_is); (case h_12 => decide +kernel)
    case cont =>
    intro CG
    refine' MR.top_end (i := 34) (lt := [(_, _, MR.lamName "law")]) KX G hmg (MR.ad_cons F0 (MR.ad_cons F1 (MR.ad_cons F2 (MR.ad_cons F3 (MR.ad_cons F4 (MR.ad_cons F5 (MR.ad_cons F6 (MR.ad_cons F7 (MR.ad_cons F8 (MR.ad_cons F9 (MR.ad_cons F10 (MR.ad_cons F11 (MR.ad_cons F12 (MR.ad_cons F13 (MR.ad_cons F14 (MR.ad_cons F15 (MR.ad_cons F16 (MR.ad_cons F17 (MR.ad_cons F18 (MR.ad_cons F19 (MR.ad_cons F20 (MR.ad_cons F21 (MR.ad_cons F22 (MR.ad_cons F23 (MR.ad_cons F24 (MR.ad_cons F25 (MR.ad_cons F26 (MR.ad_cons F27 (MR.ad_cons F28 (MR.ad_cons F29 (MR.ad_cons F30 (MR.ad_cons F31 (MR.ad_cons F32 (MR.ad_cons F33 (MR.ad_cons F34 (MR.ad_nil)))))))))))))))))))))))))))))))))))) ⟨MR.tt0, ⟨MR.tt1, ⟨MR.tt2, ⟨MR.tt3, ⟨MR.tt4, ⟨MR.tt5, ⟨MR.tt6, ⟨MR.tt7, ⟨MR.tt8, ⟨MR.tt9, ⟨MR.tt10, ⟨MR.tt11, ⟨MR.tt12, ⟨MR.tt13, ⟨MR.tt14, ⟨MR.tt15, ⟨MR.tt16, ⟨MR.tt17, ⟨MR.tt18, ⟨MR.tt19, ⟨MR.tt20, ⟨MR.tt21, ⟨MR.tt22, ⟨MR.tt23, ⟨MR.tt24, ⟨MR.tt25, ⟨MR.tt26, ⟨MR.tt27, ⟨MR.tt28, ⟨MR.tt29, ⟨MR.tt30, ⟨MR.tt31, ⟨MR.tt32, ⟨MR.tt33, ⟨MR.tt34, trivial⟩⟩⟩⟩⟩⟩⟩⟩⟩⟩⟩⟩⟩⟩⟩⟩⟩⟩⟩⟩⟩⟩⟩⟩⟩⟩⟩⟩⟩⟩⟩⟩⟩⟩⟩ (MR.ax_cons X0 (MR.ax_cons X1 (MR.ax_cons X2 (MR.ax_nil)))) ⟨C0, ⟨C1, trivial⟩⟩ ⟨L34, trivial⟩ ?e_1 ?e_2 ?e_3 ?e_4 ?e_5 ?e_6 rfl rfl rfl rfl rfl
    (case e_1 => kernel_rfl); (case e_2 => kernel_rfl); (case e_3 => kernel_rfl); (case e_4 => kernel_rfl); (case e_5 => exact .inr CG); (case e_6 => kernel_rfl)
