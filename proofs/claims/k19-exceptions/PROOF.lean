import PyProof.Rows.All
import HandS.ForMost
import PyProof.EqLayable
import PyProof.ReprReads
import HandS.TupAny
import HandS.Deep
import HandS.ExcInit
import HandS.Lambda
import HandS.Exc
import HandS.CallSlots
import HandS.Style
import HandS.TupMul
import HandS.IsInst
import KE.SortData
import KE.KTupSum
import PyProof.TupleOfSeq
import PyProof.Transfer
import HandS.OwnEq
import HandS.HeadWalk
import HandS.ExcField
import HandS.ExcIs
import KE.KExcIs
import HandS.Defaults
import HandS.ExcValue
import HandS.ExcBuiltin
import HandS.Zip
import KE.GoesEnum
import KE.SortKeyHeap
import HandS.SetFor
import HandS.Strs
import HandS.Conv
import HandS.Remove
import HandS.TryOnly
import HandS.EndTab
import HandS.HeadHook4
import HandS.Head3
import HandS.MakeKwOnly
import HandS.Words
import HandS.Head2
import KE.KEqSeq
import KE.DataEq
import PySem.Challenge.RW_slabpins_k19_exceptions
section
set_option Elab.async false
set_option linter.all false
set_option autoImplicit false
set_option maxRecDepth 100000
namespace SP
open PySem

/-! ### values: trees; a cell is a mutable list of the frame's own -/
inductive D where
  | non | bl (b : Bool) | int (i : Int) | str (s : Str)
  | tup (xs : List D) | lst (xs : List D) | dct (ks vs : List D)
  | obj (c : Nat) (fs : List D) | exc (c : Nat) (fs : List D)
  | loc (n : Nat) | clo (l : Nat) (cap : List D) | scr (is : List Int)
inductive Cell where
  | lst (xs : List D) | dct (ks vs : List D) | ins (c : Nat) (fs : List (Option D))
abbrev Store := List (Option Cell)
abbrev Env := List (Option D)

inductive R (α : Type) where
  | ok (a : α) (S : Store) | ex (c : Nat) (fs : List D) (S : Store) | bad
def R.bind {α β : Type} : R α → (α → Store → R β) → R β
  | .ok a S, f => f a S
  | .ex c fs S, _ => .ex c fs S
  | .bad, _ => .bad
def R.opt {α : Type} (S : Store) : Option α → R α
  | some a => .ok a S
  | none => .bad
/-- nothing may be raised here -/
def R.noEx {α : Type} : R α → R α
  | .ex _ _ _ => .bad
  | r => r
inductive Fl where
  | nx (ρ : Env) (S : Store) | rt (d : D) (S : Store) | ex (c : Nat) (fs : List D) (ρ : Env) (S : Store) | bad
def R.fl {α : Type} (r : R α) (ρ : Env) (f : α → Store → Fl) : Fl := match r with
  | .ok a S => f a S
  | .ex c fs S => .ex c fs ρ S
  | .bad => .bad

/-! ### data -/
def D.py : D → Option PyData
  | .non => some .none
  | .bl b => some (.bool b)
  | .int i => some (.int i)
  | .str s => some (.str s)
  | .tup xs => (pys xs).map .tuple
  | .lst xs => (pys xs).map .list
  | _ => none
where pys : List D → Option (List PyData)
  | [] => some []
  | x :: xs => x.py.bind fun y => (pys xs).map fun ys => y :: ys
def okPy (p : PyData) : Bool := p.canLay0 && decide (p.depth ≤ 40)
def D.noLoc : D → Bool
  | .loc _ => false
  | .clo _ _ => false
  | _ => true
def D.isObj : D → Bool
  | .obj _ _ => true
  | _ => false
def eqD (a b : D) : Option Bool := a.py.bind fun x => b.py.bind fun y => if okPy x && okPy y then some (PyData.eqv x y) else none
/-- an item of a list of data equal to d -/
def inD (d : D) (xs : List D) : Option Bool := d.py.bind fun x => (D.py.pys xs).bind fun ys => if okPy x && okPy (.list ys) then some (ys.any fun z => PyData.eqv z x) else none

def lenOk (n : Nat) : Bool := decide (n ≤ 1000000)
def small64 (i : Int) : Bool := decide (-(2 ^ 64) < i) && decide (i < 2 ^ 64)

inductive Bop where
  | add | sub | mul | fdv | mod | pow
  deriving DecidableEq
inductive Cop where
  | eq | ne | lt | le | gt | ge | isIn | notIn
  deriving DecidableEq
def binD : Bop → D → D → Option D
  | .add, .int i, .int j => some (.int (i + j))
  | .add, .tup xs, .tup ys => if lenOk (xs.length + ys.length) then some (.tup (xs ++ ys)) else none
  | .add, .lst xs, .lst ys => if lenOk (xs.length + ys.length) then some (.lst (xs ++ ys)) else none
  | .add, .scr is, .lst ys => if lenOk (is.length + ys.length) then some (.lst (is.map .int ++ ys)) else none
  | .sub, .int i, .int j => some (.int (i - j))
  | .mul, .int i, .int j => if small64 i || small64 j then some (.int (i * j)) else none
  | .mul, .lst xs, .int k => if decide (k ≤ 100000) && lenOk (xs.length * k.toNat) && decide (-(2 ^ 62) < k) then some (.lst (List.replicate k.toNat xs).flatten) else none
  | .mul, .tup xs, .int k => if decide (k ≤ 1000) && decide (xs.length ≤ 1000) && decide (-(2 ^ 62) < k) then some (.tup (List.replicate k.toNat xs).flatten) else none
  | .fdv, .int i, .int j => if decide (0 < j) && decide (j < 1073741824) then some (.int (i / j)) else none
  | .mod, .int i, .int j => if decide (0 < j) then some (.int (i % j)) else none
  | .pow, .int i, .int j => if decide (0 ≤ j) && decide (j ≤ 1000) && decide (i.natAbs < 2 ^ 60) then some (.int (i ^ j.toNat)) else none
  | _, _, _ => none
def itemsD : D → Option (List D)
  | .tup xs => some xs
  | .lst xs => some xs
  | _ => none
def cmpD : Cop → D → D → Option Bool
  | .eq, a, b => eqD a b
  | .ne, a, b => (eqD a b).map (!·)
  | .lt, .int i, .int j => some (decide (i < j))
  | .le, .int i, .int j => some (decide (i ≤ j))
  | .gt, .int i, .int j => some (decide (j < i))
  | .ge, .int i, .int j => some (decide (j ≤ i))
  | .isIn, d, c => (itemsD c).bind fun xs => inD d xs
  | .notIn, d, c => (itemsD c).bind fun xs => (inD d xs).map (!·)
  | _, _, _ => none
def ixD : D → D → Option D
  | .tup xs, .int i => L2.atI xs i
  | .lst xs, .int i => L2.atI xs i
  | _, _ => none
def cutL {α : Type} (xs : List α) (lo hi : Option Int) : List α := (xs.drop (HT.sIx xs.length 0 lo)).take (HT.sIx xs.length xs.length hi - HT.sIx xs.length 0 lo)
def slD (d : D) (lo hi : Option Int) : Option D := match d with
  | .tup xs => some (.tup (cutL xs lo hi))
  | .lst xs => some (.lst (cutL xs lo hi))
  | _ => none
def revD : D → Option D
  | .lst xs => some (.lst xs.reverse)
  | .tup xs => some (.tup xs.reverse)
  | _ => none

/-! ### the store -/
/-- a cell read as it stands -/
def rdD (S : Store) (d : D) : D := match d with
  | .loc n => match S[n]? with
    | some (some (.lst xs)) => .lst xs
    | some (some (.dct ks vs)) => .dct ks vs
    | _ => .loc n
  | d => d
/-- a cell made a value for good -/
def frzD (d : D) (S : Store) : R D := match d with
  | .loc n => match S[n]? with
    | some (some (.lst xs)) => .ok (.lst xs) (S.set n none)
    | _ => .bad
  | .clo _ _ => .bad
  | d => .ok d S
def frzs : List D → Store → R (List D)
  | [], S => .ok [] S
  | d :: ds, S => (frzD d S).bind fun x S1 => (frzs ds S1).bind fun xs S2 => .ok (x :: xs) S2

def frzL (ds : List D) (S : Store) : R (List D) := if lenOk ds.length then frzs ds S else .bad

/-- a list just made, as a cell -/
def thwD (x : D) (S : Store) : R D := match x with
  | .lst xs => .ok (.loc S.length) (S ++ [some (.lst xs)])
  | _ => .bad
/-- list(x), as a cell -/
def lstD : D → Option D
  | .lst xs => some (.lst xs)
  | .tup xs => some (.lst xs)
  | _ => none

/-! ### built-ins -/
def intsD : List D → Option (List Int)
  | [] => some []
  | .int i :: ds => (intsD ds).map (i :: ·)
  | _ => none
def boolsD : List D → Option (List Bool)
  | [] => some []
  | .bl i :: ds => (boolsD ds).map (i :: ·)
  | _ => none
def maxL : List Int → Option Int
  | [] => none
  | x :: xs => some (xs.foldl max x)
def minL : List Int → Option Int
  | [] => none
  | x :: xs => some (xs.foldl min x)
def dedup : List Int → List Int
  | [] => []
  | x :: xs => if xs.contains x then dedup xs else x :: dedup xs
inductive Bf where
  | len | sum | min1 | max1 | min2 | max2 | list | tuple | all | toInt | sorted | sortedSet
  deriving DecidableEq
def sortI (xs : List Int) : List Int := xs.mergeSort (fun a b => decide (a ≤ b))
def setI (xs : List Int) : List Int := sortI (dedup xs)
def bfD : Bf → List D → Option D
  | .len, [.tup xs] => some (.int xs.length)
  | .len, [.lst xs] => some (.int xs.length)
  | .sum, [.lst xs] => (intsD xs).map fun is => .int is.sum
  | .sum, [.tup xs] => (intsD xs).map fun is => .int is.sum
  | .min1, [.lst xs] => (intsD xs).bind fun is => (minL is).map .int
  | .max1, [.lst xs] => (intsD xs).bind fun is => (maxL is).map .int
  | .min2, [.int i, .int j] => some (.int (min i j))
  | .max2, [.int i, .int j] => some (.int (max i j))
  | .list, [.lst xs] => some (.lst xs)
  | .list, [.tup xs] => some (.lst xs)
  | .tuple, [.lst xs] => some (.tup xs)
  | .tuple, [.tup xs] => some (.tup xs)
  | .all, [.lst xs] => (boolsD xs).map fun bs => .bl (bs.all id)
  | .toInt, [.int i] => some (.int i)
  | .toInt, [.bl b] => some (.int (if b then 1 else 0))
  | .sorted, [.lst xs] => (intsD xs).map fun is => .lst ((sortI is).map .int)
  | .sorted, [.tup xs] => (intsD xs).map fun is => .lst ((sortI is).map .int)
  | _, _ => none

/-- sorted(set(x)) of fewer than 64 ints -/
def ssetD : D → Option D
  | .lst xs => (intsD xs).bind fun is => if is.length < 64 then some (.lst ((setI is).map .int)) else none
  | .tup xs => (intsD xs).bind fun is => if is.length < 64 then some (.lst ((setI is).map .int)) else none
  | _ => none

/-! ### sorted by a key -/
/-- a key: a pair of ints -/
def keyP : D → Option (Int × Int)
  | .tup [.int i, .int j] => some (i, j)
  | _ => none
def keyPs : List D → Option (List (Int × Int))
  | [] => some []
  | d :: ds => (keyP d).bind fun k => (keyPs ds).map (k :: ·)
/-- the order of the keys -/
def leP (a b : Int × Int) : Bool := decide (a.1 < b.1) || (decide (a.1 = b.1) && decide (a.2 ≤ b.2))
def sortKD (ks xs : List D) : Option (List D) := (keyPs ks).bind fun ps => if lenOk xs.length && decide (ps.length = xs.length) then some (((ps.zip xs).mergeSort fun a b => leP a.1 b.1).map (·.2)) else none

/-! ### classes asked for -/
inductive Ty where
  | int | bool | list | tuple | str | ve | cls (c : Nat)
/-- class ids: 0 the base of the errors, below 100 its subclasses; from 100 on other classes -/
def excSub (c c' : Nat) : Bool := c == c' || c' == 0
def tyn : D → Option String
  | .non => some "NoneType" | .bl _ => some "bool" | .int _ => some "int" | .str _ => some "str" | .lst _ => some "list" | .tup _ => some "tuple"
  | _ => none
def tyHas : String → Ty → Bool
  | "bool", .int => true | "bool", .bool => true | "int", .int => true | "str", .str => true | "list", .list => true | "tuple", .tuple => true
  | _, _ => false
def isTy : D → Ty → Option Bool
  | .obj c _, .cls c' => if 100 ≤ c' then some (c == c') else none
  | .obj _ _, .ve => none
  | .obj _ _, _ => some false
  | .exc c _, .cls c' => if 0 < c ∧ c' < 100 then some (excSub c c') else none
  | .exc c _, .ve => if 0 < c then some true else none
  | .exc _ _, _ => none
  | _, .ve => none
  | d, .cls c' => if 100 ≤ c' then (tyn d).map fun _ => false else none
  | d, t => (tyn d).map fun s => tyHas s t
def isAny (d : D) : List Ty → Option Bool
  | [] => some false
  | t :: ts => (isTy d t).bind fun b => if b then some true else isAny d ts

/-! ### the core language: names are slots; own defs, classes are numbers -/
mutual
inductive Tg where
  | nm (i : Nat) | tp (ts : Tgs)
inductive Tgs where
  | nil | cons (t : Tg) (ts : Tgs)
end
/-- where an argument comes from: a place, a keyword, a default -/
inductive Src where
  | p (i : Nat) | k (i : Nat) | dv (v : D)
mutual
/-- expressions -/
inductive Ex where
  | var (i : Nat) | frz (e : Ex) | non | bl (b : Bool) | int (i : Int) | neg (i : Int) | str (s : Str) | cst (x : Str) (i : Int) | tt
  | bin (o : Bop) (a b : Ex) | cmp (o : Cop) (a b : Ex) | cmp2 (o o' : Cop) (a b c : Ex) | isN (a : Ex) | notN (a : Ex)
  | and (a b : Ex) | or (a b : Ex) | not (a : Ex) | ite (c a b : Ex)
  | tup (es : Exs) | lst (es : Exs) | new (es : Exs) | dic0
  | ix (a b : Ex) | slA (a lo : Ex) | slB (a hi : Ex) | slC (a lo hi : Ex) | rev (a : Ex)
  | fld (a : Ex) (f : Nat)
  | call (f : Nat) (es : Exs) | callK (f : Nat) (es : Exs) (ns : List Str) (ks : Exs) (pl : List Src) | meth (m : Nat) (o : Ex) (es : Exs)
  | mk (c : Nat) (es : Exs) | mkX (c : Nat) (e : Ex) | mkXK (c : Nat) (x : Str) (e : Ex)
  | bf (f : Bf) (es : Exs) | isi (a : Ex) (t : Ty) | isis (a : Ex) (ts : List Ty)
  | thw (e : Ex) | sset (e : Ex) | addN (a b : Ex) | lstN (e : Ex) | lrng (a : Ex) | trng (a : Ex)
  | comp (tg : Tg) (it : It) (c e : Ex)
  | sortK (p : Nat) (e key : Ex)
  | act (i : Nat) | callT (g : Nat) (e : Ex)
inductive Exs where
  | nil | cons (e : Ex) (es : Exs)
/-- what is walked -/
inductive It where
  | of (e : Ex) | enum (e : Ex) | zip (a b : Ex) | rng1 (a : Ex) | rng2 (a b : Ex) | rng3 (a b : Ex) (c : Int)
end
/-- what a handler's one statement computes: constants, the caught exception's field, a pair -/
inductive QE where
  | non | bl (b : Bool) | int (i : Int) | str (s : Str) | fld (f : Nat) | tup2 (a b : QE)
inductive Qs where
  | set (i : Nat) (e : QE) | ret (e : QE)
mutual
/-- statements -/
inductive Sm where
  | set (t : Tg) (e : Ex) | sets (ts : Tgs) (es : Exs) | aug (i : Nat) (e : Ex) | put (o k e : Ex) | sfld (o : Nat) (f : Nat) (e : Ex)
  | app (o e : Ex) | ext (o e : Ex) | rem (o e : Ex) | clr (o : Ex)
  | fz (i : Nat)
  | exp (e : Ex) | ret (e : Ex) | retN | pass
  | ife (c : Ex) (a b : Sms) | for_ (t : Tg) (it : It) (b : Sms) | whl (n : Nat) (c : Ex) (b : Sms)
  | rse (c : Nat) (e : Ex)
  | try_ (b : Sms) (c : Nat) (as : Option Nat) (h : Qs)
inductive Sms where
  | nil | cons (s : Sm) (ss : Sms)
end

/-! targets -/
mutual
def bindT : Tg → D → Env → Option Env
  | .nm i, d, ρ => some (ρ.set i (some d))
  | .tp ts, d, ρ => match d with
    | .tup xs => bindTs ts xs ρ
    | _ => none
def bindTs : Tgs → List D → Env → Option Env
  | .nil, [], ρ => some ρ
  | .cons t ts, x :: xs, ρ => (bindT t x ρ).bind fun ρ' => bindTs ts xs ρ'
  | _, _, _ => none
end
/-- the calls at hand: a def by its number; a def that takes a thunk alone; the present def's own thunk -/
structure Cf where
  call : Nat → List D → Store → R D
  callT : Nat → (Store → R D) → Store → R D
  th : Store → R D
instance : CoeFun Cf (fun _ => Nat → List D → Store → R D) := ⟨Cf.call⟩
abbrev HasNoLoc (d : D) : Prop := d.noLoc = true

mutual
def slotsT : Tg → List Nat
  | .nm i => [i]
  | .tp ts => slotsTs ts
def slotsTs : Tgs → List Nat
  | .nil => []
  | .cons t ts => slotsT t ++ slotsTs ts
end
/-- slots forgotten -/
def wipeE (ρ : Env) : List Nat → Env
  | [] => ρ
  | v :: vs => (wipeE ρ vs).set v none
/-- a comprehension's walk: f gives an element or nothing; the new list is the cell n -/
def compL (f : D → Store → R (Option D)) (n : Nat) : List D → Store → R Unit
  | [], S => .ok () S
  | x :: xs, S => (f x S).bind fun o S1 => match o with
    | some d => match S1[n]? with
      | some (some (.lst acc)) => if lenOk (acc.length + 1) then compL f n xs (S1.set n (some (.lst (acc ++ [d])))) else .bad
      | _ => .bad
    | none => compL f n xs S1
def compE (n : Nat) (S : Store) : R D := match S[n]? with
  | some (some (.lst ys)) => .ok (.lst ys) (S.take n)
  | _ => .bad
def forL (b : Env → Store → Fl) (tg : Tg) : List D → Env → Store → Fl
  | [], ρ, S => .nx ρ S
  | x :: xs, ρ, S => match bindT tg x ρ with
    | none => .bad
    | some ρ1 => match b ρ1 S with
      | .nx ρ2 S2 => forL b tg xs ρ2 S2
      | r => r
def whlL (c : Env → Store → R D) (b : Env → Store → Fl) : Nat → Env → Store → Fl
  | 0, _, _ => .bad
  | n + 1, ρ, S => (c ρ S).fl ρ fun d S1 => match d with
    | .bl true => match b ρ S1 with
      | .nx ρ2 S2 => whlL c b n ρ2 S2
      | r => r
    | .bl false => .nx ρ S1
    | _ => .bad
def enumD : Nat → List D → List D
  | _, [] => []
  | n, x :: xs => .tup [.int n, x] :: enumD (n + 1) xs
def zipD : List D → List D → List D
  | x :: xs, y :: ys => .tup [x, y] :: zipD xs ys
  | _, _ => []
def rngD (lo c : Int) : Nat → List D
  | 0 => []
  | n + 1 => .int lo :: rngD (lo + c) c n
def rngOk (i j : Int) : Bool := decide (-(2 ^ 40) < i) && decide (i < 2 ^ 40) && decide (-(2 ^ 40) < j) && decide (j < 2 ^ 40)
/-- how many turns from i to j by c -/
def rngN (i j c : Int) : Nat := if 0 < c then ((j - i + c - 1) / c).toNat else ((i - j - c - 1) / (-c)).toNat
/-- the arguments by a plan -/
def Src.get (xs ys : List D) : Src → Option D
  | .p i => xs[i]?
  | .k i => ys[i]?
  | .dv v => some v
/-- how many -/
def lenEs : Exs → Nat
  | .nil => 0
  | .cons _ es => lenEs es + 1
def planD (xs ys : List D) : List Src → Option (List D)
  | [] => some []
  | p :: ps => (p.get xs ys).bind fun d => (planD xs ys ps).map (d :: ·)
def isNon : D → Bool
  | .non => true
  | _ => false
def truth : D → Option Bool
  | .bl b => some b
  | _ => none
/-- the methods, fields and equality of own classes -/
structure Cls where
  init : Nat → Nat            -- a class's number: its __init__
  eq : Nat → Option Nat       -- a class's __eq__
  len : Nat → Option Nat      -- .. __len__
  fields : Nat → Nat          -- how many fields
  fpos : Nat → Nat → Option Nat  -- a class's field's place
def R.non {α : Type} : R α := .bad

def nots : R D → R D
  | .ok (.bl b) S => .ok (.bl (!b)) S
  | .ok _ _ => .bad
  | r => r
section
variable (cf : Cf) (G : Cls)
def cmpO (o : Cop) (x y : D) (S : Store) : R D := .opt S ((cmpD o (rdD S x) (rdD S y)).map .bl)
def bfO (f : Bf) (xs : List D) (S : Store) : R D := match f, xs with
  | .len, [.obj c fs] => match G.len c with
    | some g => (cf g [.obj c fs] S).noEx.bind fun d S1 => match d with
      | .int i => if 0 ≤ i ∧ i < 2 ^ 63 then .ok (.int i) S1 else .bad
      | _ => .bad
    | none => .bad
  | f, xs => .opt S (bfD f (xs.map (rdD S)))
/-- all fields are there -/
def allFs : List (Option D) → Option (List D)
  | [] => some []
  | some d :: r => (allFs r).map (d :: ·)
  | none :: _ => none
def mkO (c : Nat) (args : List D) (S : Store) : R D :=
  (cf (G.init c) (.loc S.length :: args) (S ++ [some (.ins c (List.replicate (G.fields c) none))])).bind fun d S1 => match S1[S.length]?, d with
    | some (some (.ins c' fs)), .non => if c = c' then (match allFs fs with
      | some ds => .ok (.obj c ds) (S1.take S.length)
      | none => .bad) else .bad
    | _, _ => .bad
end
section
variable (cf : Cf) (G : Cls)
mutual
def evE : Ex → Env → Store → R D
  | .var i, ρ, S => match ρ[i]? with
    | some (some d) => .ok d S
    | _ => .bad
  | .frz e, ρ, S => (evE e ρ S).bind frzD
  | .non, _, S => .ok .non S
  | .bl b, _, S => .ok (.bl b) S
  | .int i, _, S => .ok (.int i) S
  | .neg i, _, S => .ok (.int (-i)) S
  | .str s, _, S => .ok (.str s) S
  | .cst _ i, _, S => .ok (.int i) S
  | .tt, _, S => .ok (.bl true) S
  | .bin o a b, ρ, S => (evE a ρ S).bind fun x S1 => (evE b ρ S1).bind fun y S2 => .opt S2 (binD o (rdD S2 x) (rdD S2 y))
  | .cmp o a b, ρ, S => (evE a ρ S).bind fun x S1 => (evE b ρ S1).bind fun y S2 => cmpO o x y S2
  | .cmp2 o o' a b c, ρ, S => (evE a ρ S).bind fun x S1 => (evE b ρ S1).bind fun y S2 => match cmpD o (rdD S2 x) (rdD S2 y) with
    | some true => (evE c ρ S2).bind fun z S3 => .opt S3 ((cmpD o' (rdD S3 y) (rdD S3 z)).map .bl)
    | some false => .ok (.bl false) S2
    | none => .bad
  | .isN a, ρ, S => (evE a ρ S).bind fun x S1 => .ok (.bl (isNon x)) S1
  | .notN a, ρ, S => (evE a ρ S).bind fun x S1 => .ok (.bl (!isNon x)) S1
  | .and a b, ρ, S => (evE a ρ S).bind fun x S1 => match x with
    | .bl true => evE b ρ S1
    | .bl false => .ok (.bl false) S1
    | _ => .bad
  | .or a b, ρ, S => (evE a ρ S).bind fun x S1 => match x with
    | .bl false => evE b ρ S1
    | .bl true => .ok (.bl true) S1
    | _ => .bad
  | .not a, ρ, S => (evE a ρ S).bind fun x S1 => match x with
    | .bl b => .ok (.bl (!b)) S1
    | _ => .bad
  | .ite c a b, ρ, S => (evE c ρ S).bind fun x S1 => match x with
    | .bl true => evE a ρ S1
    | .bl false => evE b ρ S1
    | _ => .bad
  | .tup es, ρ, S => (evEs es ρ S).bind fun xs S1 => (frzL xs S1).bind fun ys S2 => .ok (.tup ys) S2
  | .lst es, ρ, S => (evEs es ρ S).bind fun xs S1 => (frzL xs S1).bind fun ys S2 => .ok (.lst ys) S2
  | .new es, ρ, S => (evEs es ρ S).bind fun xs S1 => (frzL xs S1).bind fun ys S2 => .ok (.loc S2.length) (S2 ++ [some (.lst ys)])
  | .dic0, _, S => .ok (.dct [] []) S
  | .ix a b, ρ, S => (evE a ρ S).bind fun x S1 => (evE b ρ S1).bind fun y S2 => .opt S2 (ixD (rdD S2 x) y)
  | .slA a lo, ρ, S => (evE a ρ S).bind fun x S1 => (evE lo ρ S1).bind fun y S2 => match y with
    | .int i => .opt S2 (slD (rdD S2 x) (some i) none)
    | _ => .bad
  | .slB a hi, ρ, S => (evE a ρ S).bind fun x S1 => (evE hi ρ S1).bind fun y S2 => match y with
    | .int i => .opt S2 (slD (rdD S2 x) none (some i))
    | _ => .bad
  | .slC a lo hi, ρ, S => (evE a ρ S).bind fun x S1 => (evE lo ρ S1).bind fun y S2 => match y with
    | .int i => (evE hi ρ S2).bind fun z S3 => match z with
      | .int j => .opt S3 (slD (rdD S3 x) (some i) (some j))
      | _ => .bad
    | _ => .bad
  | .rev a, ρ, S => (evE a ρ S).bind fun x S1 => .opt S1 (revD (rdD S1 x))
  | .fld a f, ρ, S => (evE a ρ S).bind fun x S1 => match x with
    | .obj c fs => .opt S1 ((G.fpos c f).bind fun j => fs[j]?)
    | .exc c fs => if 0 < c then .opt S1 ((G.fpos c f).bind fun j => fs[j]?) else .bad
    | _ => .bad
  | .call f es, ρ, S => (evEs es ρ S).bind fun xs S1 => cf f xs S1
  | .callK f es _ ks pl, ρ, S => (evEs es ρ S).bind fun xs S1 => (evEs ks ρ S1).bind fun ys S2 => match planD xs ys pl with
    | some zs => cf f zs S2
    | none => .bad
  | .meth m o es, ρ, S => (evE o ρ S).bind fun x S1 => match x with
    | .obj c fs => (evEs es ρ S1).bind fun xs S2 => cf m (.obj c fs :: xs) S2
    | _ => .bad
  | .mk c es, ρ, S => (evEs es ρ S).bind fun xs S1 => mkO cf G c xs S1
  | .mkX c e, ρ, S => (evE e ρ S).bind fun x S1 => (frzD x S1).bind fun y S2 => .ok (.exc c [y]) S2
  | .mkXK c _ e, ρ, S => (evE e ρ S).bind fun x S1 => (frzD x S1).bind fun y S2 => .ok (.exc c [y]) S2
  | .thw e, ρ, S => (evE e ρ S).bind thwD
  | .sset e, ρ, S => (evE e ρ S).bind fun x S1 => .opt S1 (ssetD (rdD S1 x))
  | .addN a b, ρ, S => (evE a ρ S).bind fun x S1 => (evE b ρ S1).bind fun y S2 => (R.opt S2 (binD .add (rdD S2 x) (rdD S2 y))).bind thwD
  | .lstN e, ρ, S => (evE e ρ S).bind fun x S1 => (R.opt S1 (lstD (rdD S1 x))).bind thwD
  | .lrng a, ρ, S => (evE a ρ S).bind fun x S1 => match x with
    | .int n => if n ≤ 1000 ∧ -1000 ≤ n then .ok (.lst (rngD 0 1 n.toNat)) S1 else .bad
    | _ => .bad
  | .trng a, ρ, S => (evE a ρ S).bind fun x S1 => match x with
    | .int n => if n ≤ 1000 ∧ -1000 ≤ n then .ok (.tup (rngD 0 1 n.toNat)) S1 else .bad
    | _ => .bad
  | .bf f es, ρ, S => (evEs es ρ S).bind fun xs S1 => bfO cf G f xs S1
  | .isi a t, ρ, S => (evE a ρ S).bind fun x S1 => .opt S1 ((isTy (rdD S1 x) t).map .bl)
  | .isis a ts, ρ, S => (evE a ρ S).bind fun x S1 => .opt S1 ((isAny (rdD S1 x) ts).map .bl)
  | .comp tg it c e, ρ, S => (evI it ρ S).bind fun xs S1 => (compL (fun x S => match bindT tg x (wipeE ρ (slotsT tg)) with
      | none => .bad
      | some ρ1 => (evE c ρ1 S).bind fun b S1 => match b with
        | .bl true => (evE e ρ1 S1).bind fun d S2 => (frzD d S2).bind fun y S3 => .ok (some y) S3
        | .bl false => .ok none S1
        | _ => .bad) S1.length xs (S1 ++ [some (.lst [])])).noEx.bind fun _ S2 => compE S1.length S2
  | .sortK p e key, ρ, S => (evE e ρ S).bind fun x S1 => match rdD S1 x with
    | .lst xs => (compL (fun x S => (evE key (ρ.set p (some x)) S).bind fun d S2 => (frzD d S2).bind fun y S3 => .ok (some y) S3) S1.length xs (S1 ++ [some (.lst [])])).noEx.bind fun _ S2 => (compE S1.length S2).bind fun ks S3 => match ks with
      | .lst ks => .opt S3 ((sortKD ks xs).map .lst)
      | _ => .bad
    | _ => .bad
  | .act i, ρ, S => match ρ[i]? with
    | some (some (.clo _ _)) => cf.th S
    | _ => .bad
  | .callT g e, ρ, S => cf.callT g (fun S => evE e ρ S) S
def evEs : Exs → Env → Store → R (List D)
  | .nil, _, S => .ok [] S
  | .cons e es, ρ, S => (evE e ρ S).bind fun x S1 => (evEs es ρ S1).bind fun xs S2 => .ok (x :: xs) S2
def evI : It → Env → Store → R (List D)
  | .of e, ρ, S => (evE e ρ S).bind fun x S1 => .opt S1 (itemsD x)
  | .enum e, ρ, S => (evE e ρ S).bind fun x S1 => match x with
    | .lst xs => .ok (enumD 0 xs) S1
    | .tup xs => .ok (enumD 0 xs) S1
    | _ => .bad
  | .zip a b, ρ, S => (evE a ρ S).bind fun x S1 => (evE b ρ S1).bind fun y S2 => match x, y with
    | .lst xs, .lst ys => .ok (zipD xs ys) S2
    | .tup xs, .tup ys => .ok (zipD xs ys) S2
    | .lst xs, .tup ys => .ok (zipD xs ys) S2
    | .tup xs, .lst ys => .ok (zipD xs ys) S2
    | _, _ => .bad
  | .rng1 a, ρ, S => (evE a ρ S).bind fun x S1 => match x with
    | .int n => if rngOk 0 n then .ok (rngD 0 1 n.toNat) S1 else .bad
    | _ => .bad
  | .rng2 a b, ρ, S => (evE a ρ S).bind fun x S1 => (evE b ρ S1).bind fun y S2 => match x, y with
    | .int m, .int n => if rngOk m n then .ok (rngD m 1 (n - m).toNat) S2 else .bad
    | _, _ => .bad
  | .rng3 a b _, ρ, S => (evE a ρ S).bind fun x S1 => (evE b ρ S1).bind fun y S2 => match x, y with
    | .int m, .int n => if rngOk m n then .ok (rngD m (-1) (m - n).toNat) S2 else .bad
    | _, _ => .bad
end
/-- a list's cell -/
def isCL (S : Store) : D → Bool
  | .loc n => match S[n]? with
    | some (some (.lst _)) => true
    | _ => false
  | _ => false
/-- the cell that a value is -/
def cellOf (S : Store) : D → Option (Nat × Cell)
  | .loc n => match S[n]? with
    | some (some c) => some (n, c)
    | _ => none
  | _ => none
def toCell (x : D) (S : Store) (f : List D → Option (List D)) : Option Store := match cellOf S x with
  | some (n, .lst xs) => (f xs).map fun ys => S.set n (some (.lst ys))
  | _ => none
def Fl.opt (ρ : Env) : Option Store → Fl
  | some S => .nx ρ S
  | none => .bad
def qD (c : Nat) (fs : List D) : QE → Option D
  | .non => some .non
  | .bl b => some (.bl b)
  | .int i => some (.int i)
  | .str s => some (.str s)
  | .fld f => (G.fpos c f).bind fun j => fs[j]?
  | .tup2 a b => (qD c fs a).bind fun x => (qD c fs b).map fun y => .tup [x, y]
def unAs (ρ : Env) : Option Nat → Env
  | none => ρ
  | some i => ρ.set i none
def exQ (c : Nat) (fs : List D) (as : Option Nat) (ρ : Env) (S : Store) : Qs → Fl
  | .set i e => match qD G c fs e with
    | some d => if as = some i then .bad else .nx (unAs (ρ.set i (some d)) as) S
    | none => .bad
  | .ret e => match qD G c fs e with
    | some d => .rt d S
    | none => .bad
mutual
def exS : Sm → Env → Store → Fl
  | .set t e, ρ, S => (evE cf G e ρ S).fl ρ fun d S1 => match bindT t d ρ with
    | some ρ1 => .nx ρ1 S1
    | none => .bad
  | .sets ts es, ρ, S => (evEs cf G es ρ S).fl ρ fun ds S1 => match bindTs ts ds ρ with
    | some ρ1 => .nx ρ1 S1
    | none => .bad
  | .aug i e, ρ, S => match ρ[i]? with
    | some (some (.int a)) => (evE cf G e ρ S).fl ρ fun d S1 => match d with
      | .int b => .nx (ρ.set i (some (.int (a + b)))) S1
      | _ => .bad
    | _ => .bad
  | .put o k e, ρ, S => ((evE cf G e ρ S).bind frzD).fl ρ fun d S1 => (evE cf G o ρ S1).fl ρ fun x S2 => (evE cf G k ρ S2).fl ρ fun y S3 => match y with
    | .int i => .opt ρ (toCell x S3 fun xs => (L2.ixN xs.length i).map fun j => xs.set j d)
    | _ => .bad
  | .sfld o f e, ρ, S => ((evE cf G e ρ S).bind frzD).fl ρ fun d S2 => match ρ[o]? with
    | some (some x) => match cellOf S2 x with
      | some (n, .ins c fs) => match G.fpos c f with
        | some j => if j < fs.length ∧ (∀ i, i < fs.length → (fs[i]?.any (·.isSome) ↔ i < j)) then .nx ρ (S2.set n (some (.ins c (fs.set j (some d))))) else .bad
        | none => .bad
      | _ => .bad
    | _ => .bad
  | .app o e, ρ, S => (evE cf G o ρ S).fl ρ fun x S1 => if isCL S1 x then ((evE cf G e ρ S1).bind frzD).fl ρ fun d S2 => .opt ρ (toCell x S2 fun xs => if lenOk (xs.length + 1) then some (xs ++ [d]) else none) else .bad
  | .ext o e, ρ, S => (evE cf G o ρ S).fl ρ fun x S1 => if isCL S1 x then (evE cf G e ρ S1).fl ρ fun d S2 => (match d with
    | .lst ys => .opt ρ (toCell x S2 fun xs => if lenOk (xs.length + ys.length) then some (xs ++ ys) else none)
    | _ => .bad) else .bad
  | .rem o e, ρ, S => (evE cf G o ρ S).fl ρ fun x S1 => if isCL S1 x then (evE cf G e ρ S1).fl ρ fun d S2 => (match d with
    | .int k => .opt ρ (toCell x S2 fun xs => (intsD xs).bind fun is => if is.contains k then some ((is.erase k).map .int) else none)
    | _ => .bad) else .bad
  | .clr o, ρ, S => (evE cf G o ρ S).fl ρ fun x S1 => if isCL S1 x then .opt ρ (toCell x S1 fun _ => some []) else .bad
  | .fz i, ρ, S => match ρ[i]? with
    | some (some d) => (frzD d S).fl ρ fun d S1 => .nx (ρ.set i (some d)) S1
    | _ => .bad
  | .exp e, ρ, S => (evE cf G e ρ S).fl ρ fun _ S1 => .nx ρ S1
  | .ret e, ρ, S => (evE cf G e ρ S).fl ρ fun d S1 => .rt d S1
  | .retN, _, S => .rt .non S
  | .pass, ρ, S => .nx ρ S
  | .ife c a b, ρ, S => (evE cf G c ρ S).fl ρ fun d S1 => match d with
    | .bl true => exSs a ρ S1
    | .bl false => exSs b ρ S1
    | _ => .bad
  | .for_ t it b, ρ, S => (evI cf G it ρ S).fl ρ fun xs S1 => forL (fun ρ S => exSs b ρ S) t xs ρ S1
  | .whl n c b, ρ, S => whlL (fun ρ S => evE cf G c ρ S) (fun ρ S => exSs b ρ S) n ρ S
  | .rse c e, ρ, S => ((evE cf G e ρ S).bind frzD).fl ρ fun d S2 => .ex c [d] ρ S2
  | .try_ b c as h, ρ, S => match exSs b ρ S with
    | .ex c' fs ρ1 S1 => if excSub c' c then (if as.all (fun i => decide (i < ρ1.length)) then exQ G c' fs as ρ1 S1 h else .bad) else .ex c' fs ρ1 S1
    | r => r
def exSs : Sms → Env → Store → Fl
  | .nil, ρ, S => .nx ρ S
  | .cons s ss, ρ, S => match exS s ρ S with
    | .nx ρ1 S1 => exSs ss ρ1 S1
    | r => r
end
end

/-! ### defs -/
structure Fn where
  np : Nat
  n : Nat
  body : Sms
def Cell.noLoc : Cell → Bool
  | .lst _ => true
  | _ => false
/-- behind a def: its own cells go; a cell that it hands back stays -/
def retD (n : Nat) (d : D) (S : Store) : R D := match d with
  | .loc m => if m < n then .ok (.loc m) (S.take n) else match S[m]? with
    | some (some c) => if c.noLoc then .ok (.loc n) (S.take n ++ [some c]) else .bad
    | _ => .bad
  | .clo _ _ => .bad
  | d => .ok d (S.take n)
def retF (n : Nat) : Fl → R D
  | .nx _ S => .ok .non (S.take n)
  | .rt d S => retD n d S
  | .ex c fs _ S => .ex c fs (S.take n)
  | .bad => .bad
/-- the calls at a level: defs, defs that take a thunk alone -/
def cfK (F : Nat → Option Fn) (G : Cls) : Nat → (Nat → List D → Store → R D) × (Nat → (Store → R D) → Store → R D)
  | 0 => (fun _ _ _ => .bad, fun _ _ _ => .bad)
  | k + 1 => (fun f vs S => match F f with
      | none => .bad
      | some fn => if vs.length = fn.np then retF S.length (exSs ⟨(cfK F G k).1, (cfK F G k).2, fun _ => .bad⟩ G fn.body (vs.map some ++ List.replicate (fn.n - fn.np) none) S) else .bad,
    fun f th S => match F f with
      | none => .bad
      | some fn => if fn.np = 1 then retF S.length (exSs ⟨(cfK F G k).1, (cfK F G k).2, th⟩ G fn.body (some (.clo 0 []) :: List.replicate (fn.n - 1) none) S) else .bad)
abbrev callF (F : Nat → Option Fn) (G : Cls) (k : Nat) : Nat → List D → Store → R D := (cfK F G k).1
abbrev callT (F : Nat → Option Fn) (G : Cls) (k : Nat) : Nat → (Store → R D) → Store → R D := (cfK F G k).2
abbrev cfAt (F : Nat → Option Fn) (G : Cls) (k : Nat) (th : Store → R D) : Cf := ⟨callF F G k, callT F G k, th⟩
abbrev cf0 (F : Nat → Option Fn) (G : Cls) (k : Nat) : Cf := cfAt F G k fun _ => .bad
end SP
end
section
set_option Elab.async false
set_option linter.all false
set_option autoImplicit false
set_option maxRecDepth 100000
namespace SP
open PySem

/-- is_int(value): value -/
def b_is_int : Sms := (.cons (.ret (.and (.isi (.var 0) .int) (.not (.isi (.var 0) .bool)))) .nil)
def f_is_int : Fn := ⟨1, 1, b_is_int⟩
abbrev i_is_int : Nat := 0
def n_is_int : List Str := ["value"]
abbrev p_is_int : List Str := ["value"]
/-- is_from(value, low, high): value, low, high -/
def b_is_from : Sms := (.cons (.ret (.and (.call 0 (.cons (.var 0) .nil)) (.cmp2 .le .le (.var 1) (.var 0) (.var 2)))) .nil)
def f_is_from : Fn := ⟨3, 3, b_is_from⟩
abbrev i_is_from : Nat := 1
def n_is_from : List Str := ["value", "low", "high"]
abbrev p_is_from : List Str := ["value", "low", "high"]
/-- is_class(value): value -/
def b_is_class : Sms := (.cons (.ife (.or (.not (.isi (.var 0) .tuple)) (.cmp .ne (.bf .len (.cons (.var 0) .nil)) (.int 2))) (.cons (.ret (.bl false)) .nil) .nil) (.cons (.ret (.and (.call 1 (.cons (.ix (.var 0) (.int 0)) (.cons (.int 1) (.cons (.cst "MAX_BYTES" 1000) .nil)))) (.call 1 (.cons (.ix (.var 0) (.int 1)) (.cons (.int 1) (.cons (.cst "MAX_SLOTS" 60) .nil)))))) .nil))
def f_is_class : Fn := ⟨1, 1, b_is_class⟩
abbrev i_is_class : Nat := 2
def n_is_class : List Str := ["value"]
abbrev p_is_class : List Str := ["value"]
/-- Slab.__init__(self, classes, limit): self, classes, limit, index, value -/
def b_Slab___init__ : Sms := (.cons (.ife (.or (.not (.isi (.var 1) .list)) (.or (.not (.cmp2 .le .le (.int 1) (.bf .len (.cons (.var 1) .nil)) (.cst "MAX_CLASSES" 6))) (.not (.call 1 (.cons (.var 2) (.cons (.int 0) (.cons (.cst "MAX_LIMIT" 1000000) .nil))))))) (.cons (.rse 1 (.neg 1)) .nil) .nil) (.cons (.for_ (.tp (.cons (.nm 3) (.cons (.nm 4) .nil))) (.enum (.var 1)) (.cons (.ife (.not (.call 2 (.cons (.var 4) .nil))) (.cons (.rse 1 (.var 3)) .nil) .nil) .nil)) (.cons (.sfld 0 6 (.bf .tuple (.cons (.var 1) .nil))) (.cons (.sfld 0 5 (.var 2)) .nil))))
def f_Slab___init__ : Fn := ⟨3, 5, b_Slab___init__⟩
abbrev i_Slab___init__ : Nat := 3
def n_Slab___init__ : List Str := ["self", "classes", "limit", "index", "value"]
abbrev p_Slab___init__ : List Str := ["self", "classes", "limit"]
/-- Slab.__eq__(self, other): self, other -/
def b_Slab___eq__ : Sms := (.cons (.ret (.and (.isi (.var 1) (.cls 100)) (.cmp .eq (.tup (.cons (.fld (.var 0) 6) (.cons (.fld (.var 0) 5) .nil))) (.tup (.cons (.fld (.var 1) 6) (.cons (.fld (.var 1) 5) .nil)))))) .nil)
def f_Slab___eq__ : Fn := ⟨2, 2, b_Slab___eq__⟩
abbrev i_Slab___eq__ : Nat := 4
def n_Slab___eq__ : List Str := ["self", "other"]
abbrev p_Slab___eq__ : List Str := ["self", "other"]
/-- Slab.__len__(self): self -/
def b_Slab___len__ : Sms := (.cons (.ret (.bf .len (.cons (.fld (.var 0) 6) .nil))) .nil)
def f_Slab___len__ : Fn := ⟨1, 1, b_Slab___len__⟩
abbrev i_Slab___len__ : Nat := 5
def n_Slab___len__ : List Str := ["self"]
abbrev p_Slab___len__ : List Str := ["self"]
/-- Slab.classes(self): self -/
def b_Slab_classes : Sms := (.cons (.ret (.bf .list (.cons (.fld (.var 0) 6) .nil))) .nil)
def f_Slab_classes : Fn := ⟨1, 1, b_Slab_classes⟩
abbrev i_Slab_classes : Nat := 6
def n_Slab_classes : List Str := ["self"]
abbrev p_Slab_classes : List Str := ["self"]
/-- Slab.limit(self): self -/
def b_Slab_limit : Sms := (.cons (.ret (.fld (.var 0) 5)) .nil)
def f_Slab_limit : Fn := ⟨1, 1, b_Slab_limit⟩
abbrev i_Slab_limit : Nat := 7
def n_Slab_limit : List Str := ["self"]
abbrev p_Slab_limit : List Str := ["self"]
/-- Slab.bytes_of(self, number): self, number -/
def b_Slab_bytes_of : Sms := (.cons (.exp (.meth 10 (.var 0) (.cons (.var 1) .nil))) (.cons (.ret (.ix (.ix (.fld (.var 0) 6) (.var 1)) (.int 0))) .nil))
def f_Slab_bytes_of : Fn := ⟨2, 2, b_Slab_bytes_of⟩
abbrev i_Slab_bytes_of : Nat := 8
def n_Slab_bytes_of : List Str := ["self", "number"]
abbrev p_Slab_bytes_of : List Str := ["self", "number"]
/-- Slab.slots_of(self, number): self, number -/
def b_Slab_slots_of : Sms := (.cons (.exp (.meth 10 (.var 0) (.cons (.var 1) .nil))) (.cons (.ret (.ix (.ix (.fld (.var 0) 6) (.var 1)) (.int 1))) .nil))
def f_Slab_slots_of : Fn := ⟨2, 2, b_Slab_slots_of⟩
abbrev i_Slab_slots_of : Nat := 9
def n_Slab_slots_of : List Str := ["self", "number"]
abbrev p_Slab_slots_of : List Str := ["self", "number"]
/-- Slab.check_class(self, number): self, number -/
def b_Slab_check_class : Sms := (.cons (.ife (.not (.call 1 (.cons (.var 1) (.cons (.int 0) (.cons (.bin .sub (.bf .len (.cons (.fld (.var 0) 6) .nil)) (.int 1)) .nil))))) (.cons (.rse 2 (.var 1)) .nil) .nil) .nil)
def f_Slab_check_class : Fn := ⟨2, 2, b_Slab_check_class⟩
abbrev i_Slab_check_class : Nat := 10
def n_Slab_check_class : List Str := ["self", "number"]
abbrev p_Slab_check_class : List Str := ["self", "number"]
/-- live_bytes(slab, table): slab, table, number, counts -/
def b_live_bytes : Sms := (.cons (.ret (.bf .sum (.cons (.comp (.tp (.cons (.nm 2) (.cons (.nm 3) .nil))) (.enum (.var 1)) .tt (.bin .mul (.bf .sum (.cons (.var 3) .nil)) (.ix (.ix (.fld (.var 0) 6) (.var 2)) (.int 0)))) .nil))) .nil)
def f_live_bytes : Fn := ⟨2, 4, b_live_bytes⟩
abbrev i_live_bytes : Nat := 11
def n_live_bytes : List Str := ["slab", "table", "number", "counts"]
abbrev p_live_bytes : List Str := ["slab", "table"]
/-- check_table(slab, table): slab, table, number, counts, count -/
def b_check_table : Sms := (.cons (.ife (.or (.not (.isi (.var 1) .tuple)) (.cmp .ne (.bf .len (.cons (.var 1) .nil)) (.bf .len (.cons (.var 0) .nil)))) (.cons (.rse 3 (.neg 1)) .nil) .nil) (.cons (.for_ (.tp (.cons (.nm 2) (.cons (.nm 3) .nil))) (.enum (.var 1)) (.cons (.ife (.or (.not (.isi (.var 3) .tuple)) (.not (.bf .all (.cons (.comp (.nm 4) (.of (.var 3)) .tt (.call 1 (.cons (.var 4) (.cons (.int 1) (.cons (.ix (.ix (.fld (.var 0) 6) (.var 2)) (.int 1)) .nil))))) .nil)))) (.cons (.rse 3 (.var 2)) .nil) .nil) (.cons (.ife (.cmp .ne (.bf .list (.cons (.var 3) .nil)) (.bf .sorted (.cons (.var 3) .nil))) (.cons (.rse 3 (.var 2)) .nil) .nil) .nil))) (.cons (.ife (.cmp .gt (.bf .sum (.cons (.comp (.nm 3) (.of (.var 1)) .tt (.bf .len (.cons (.var 3) .nil))) .nil)) (.cst "MAX_PAGES" 60)) (.cons (.rse 3 (.bf .len (.cons (.var 0) .nil))) .nil) .nil) (.cons (.ife (.cmp .gt (.call 11 (.cons (.var 0) (.cons (.var 1) .nil))) (.fld (.var 0) 5)) (.cons (.rse 3 (.bin .add (.bf .len (.cons (.var 0) .nil)) (.int 1))) .nil) .nil) .nil))))
def f_check_table : Fn := ⟨2, 5, b_check_table⟩
abbrev i_check_table : Nat := 12
def n_check_table : List Str := ["slab", "table", "number", "counts", "count"]
abbrev p_check_table : List Str := ["slab", "table"]
/-- is_table(slab, value): slab, value, found -/
def b_is_table : Sms := (.cons (.set (.nm 2) (.bl true)) (.cons (.try_ (.cons (.exp (.call 12 (.cons (.var 0) (.cons (.var 1) .nil)))) .nil) 3 none (.set 2 (.bl false))) (.cons (.ret (.var 2)) .nil)))
def f_is_table : Fn := ⟨2, 3, b_is_table⟩
abbrev i_is_table : Nat := 13
def n_is_table : List Str := ["slab", "value", "found"]
abbrev p_is_table : List Str := ["slab", "value"]
/-- empty(slab): slab -/
def b_empty : Sms := (.cons (.ret (.bin .mul (.tup (.cons (.tup .nil) .nil)) (.bf .len (.cons (.var 0) .nil)))) .nil)
def f_empty : Fn := ⟨1, 1, b_empty⟩
abbrev i_empty : Nat := 14
def n_empty : List Str := ["slab"]
abbrev p_empty : List Str := ["slab"]
/-- live(slab, table): slab, table -/
def b_live : Sms := (.cons (.exp (.call 12 (.cons (.var 0) (.cons (.var 1) .nil)))) (.cons (.ret (.call 11 (.cons (.var 0) (.cons (.var 1) .nil)))) .nil))
def f_live : Fn := ⟨2, 2, b_live⟩
abbrev i_live : Nat := 15
def n_live : List Str := ["slab", "table"]
abbrev p_live : List Str := ["slab", "table"]
/-- pages(slab, table): slab, table, counts -/
def b_pages : Sms := (.cons (.exp (.call 12 (.cons (.var 0) (.cons (.var 1) .nil)))) (.cons (.ret (.comp (.nm 2) (.of (.var 1)) .tt (.bf .len (.cons (.var 2) .nil)))) .nil))
def f_pages : Fn := ⟨2, 3, b_pages⟩
abbrev i_pages : Nat := 16
def n_pages : List Str := ["slab", "table", "counts"]
abbrev p_pages : List Str := ["slab", "table"]
/-- with_counts(table, number, counts): table, number, counts -/
def b_with_counts : Sms := (.cons (.ret (.bin .add (.bin .add (.slB (.var 0) (.var 1)) (.tup (.cons (.bf .tuple (.cons (.bf .sorted (.cons (.var 2) .nil)) .nil)) .nil))) (.slA (.var 0) (.bin .add (.var 1) (.int 1))))) .nil)
def f_with_counts : Fn := ⟨3, 3, b_with_counts⟩
abbrev i_with_counts : Nat := 17
def n_with_counts : List Str := ["table", "number", "counts"]
abbrev p_with_counts : List Str := ["table", "number", "counts"]
/-- choices(slab, table, number): slab, table, number, size, slots, some, count, counts -/
def b_choices : Sms := (.cons (.set (.tp (.cons (.nm 3) (.cons (.nm 4) .nil))) (.ix (.fld (.var 0) 6) (.var 2))) (.cons (.ife (.cmp .gt (.bin .add (.call 11 (.cons (.var 0) (.cons (.var 1) .nil))) (.var 3)) (.fld (.var 0) 5)) (.cons (.ret (.lst .nil)) .nil) .nil) (.cons (.set (.nm 5) (.sset (.comp (.nm 6) (.of (.ix (.var 1) (.var 2))) (.cmp .lt (.var 6) (.var 4)) (.var 6)))) (.cons (.ife (.and (.cmp .eq (.var 5) (.lst .nil)) (.cmp .lt (.bf .sum (.cons (.comp (.nm 7) (.of (.var 1)) .tt (.bf .len (.cons (.var 7) .nil))) .nil)) (.cst "MAX_PAGES" 60))) (.cons (.set (.nm 5) (.lst (.cons (.int 0) .nil))) .nil) .nil) (.cons (.ret (.var 5)) .nil)))))
def f_choices : Fn := ⟨3, 8, b_choices⟩
abbrev i_choices : Nat := 18
def n_choices : List Str := ["slab", "table", "number", "size", "slots", "some", "count", "counts"]
abbrev p_choices : List Str := ["slab", "table", "number"]
/-- steps(slab, table): slab, table, found, number, count -/
def b_steps : Sms := (.cons (.exp (.call 12 (.cons (.var 0) (.cons (.var 1) .nil)))) (.cons (.set (.nm 2) (.new .nil)) (.cons (.for_ (.nm 3) (.rng1 (.bf .len (.cons (.var 0) .nil))) (.cons (.ext (.var 2) (.comp (.nm 4) (.of (.sset (.ix (.var 1) (.var 3)))) .tt (.tup (.cons (.str "free") (.cons (.var 3) (.cons (.var 4) .nil)))))) (.cons (.ext (.var 2) (.comp (.nm 4) (.of (.call 18 (.cons (.var 0) (.cons (.var 1) (.cons (.var 3) .nil))))) .tt (.tup (.cons (.str "put") (.cons (.var 3) (.cons (.var 4) .nil)))))) .nil))) (.cons (.ret (.bf .sorted (.cons (.var 2) .nil))) .nil))))
def f_steps : Fn := ⟨2, 5, b_steps⟩
abbrev i_steps : Nat := 19
def n_steps : List Str := ["slab", "table", "found", "number", "count"]
abbrev p_steps : List Str := ["slab", "table"]
/-- is_step(slab, table, step): slab, table, step -/
def b_is_step : Sms := (.cons (.ife (.or (.not (.isi (.var 2) .tuple)) (.or (.cmp .ne (.bf .len (.cons (.var 2) .nil)) (.int 3)) (.cmp .notIn (.ix (.var 2) (.int 0)) (.tup (.cons (.str "free") (.cons (.str "put") .nil)))))) (.cons (.ret (.bl false)) .nil) .nil) (.cons (.ife (.or (.not (.call 1 (.cons (.ix (.var 2) (.int 1)) (.cons (.int 0) (.cons (.bin .sub (.bf .len (.cons (.var 0) .nil)) (.int 1)) .nil))))) (.not (.call 1 (.cons (.ix (.var 2) (.int 2)) (.cons (.int 0) (.cons (.ix (.ix (.fld (.var 0) 6) (.ix (.var 2) (.int 1))) (.int 1)) .nil)))))) (.cons (.ret (.bl false)) .nil) .nil) (.cons (.ife (.cmp .eq (.ix (.var 2) (.int 0)) (.str "free")) (.cons (.ret (.cmp .isIn (.ix (.var 2) (.int 2)) (.ix (.var 1) (.ix (.var 2) (.int 1))))) .nil) .nil) (.cons (.ret (.cmp .isIn (.ix (.var 2) (.int 2)) (.call 18 (.cons (.var 0) (.cons (.var 1) (.cons (.ix (.var 2) (.int 1)) .nil)))))) .nil))))
def f_is_step : Fn := ⟨3, 3, b_is_step⟩
abbrev i_is_step : Nat := 20
def n_is_step : List Str := ["slab", "table", "step"]
abbrev p_is_step : List Str := ["slab", "table", "step"]
/-- after_step(table, step): table, step, word, number, count, counts, later -/
def b_after_step : Sms := (.cons (.set (.tp (.cons (.nm 2) (.cons (.nm 3) (.cons (.nm 4) .nil)))) (.var 1)) (.cons (.set (.nm 5) (.lstN (.ix (.var 0) (.var 3)))) (.cons (.ife (.cmp .isIn (.var 4) (.var 5)) (.cons (.rem (.var 5) (.var 4)) .nil) .nil) (.cons (.set (.nm 6) (.ite (.cmp .eq (.var 2) (.str "put")) (.bin .add (.var 4) (.int 1)) (.bin .sub (.var 4) (.int 1)))) (.cons (.ret (.call 17 (.cons (.var 0) (.cons (.var 3) (.cons (.bin .add (.var 5) (.bin .mul (.lst (.cons (.var 6) .nil)) (.bf .toInt (.cons (.cmp .gt (.var 6) (.int 0)) .nil)))) .nil))))) .nil)))))
def f_after_step : Fn := ⟨2, 7, b_after_step⟩
abbrev i_after_step : Nat := 21
def n_after_step : List Str := ["table", "step", "word", "number", "count", "counts", "later"]
abbrev p_after_step : List Str := ["table", "step"]
/-- played(slab, table, row): slab, table, row, index, step -/
def b_played : Sms := (.cons (.exp (.call 12 (.cons (.var 0) (.cons (.var 1) .nil)))) (.cons (.ife (.not (.isi (.var 2) .list)) (.cons (.rse 4 (.neg 1)) .nil) .nil) (.cons (.for_ (.tp (.cons (.nm 3) (.cons (.nm 4) .nil))) (.enum (.var 2)) (.cons (.ife (.not (.call 20 (.cons (.var 0) (.cons (.var 1) (.cons (.var 4) .nil))))) (.cons (.rse 4 (.var 3)) .nil) .nil) (.cons (.set (.nm 1) (.call 21 (.cons (.var 1) (.cons (.var 4) .nil)))) .nil))) (.cons (.ret (.var 1)) .nil))))
def f_played : Fn := ⟨3, 5, b_played⟩
abbrev i_played : Nat := 22
def n_played : List Str := ["slab", "table", "row", "index", "step"]
abbrev p_played : List Str := ["slab", "table", "row"]
/-- has_pins(table, pins): table, pins, counts, some, count, pin -/
def b_has_pins : Sms := (.cons (.for_ (.tp (.cons (.nm 2) (.cons (.nm 3) .nil))) (.zip (.var 0) (.var 1)) (.cons (.ife (.cmp .gt (.bf .len (.cons (.var 3) .nil)) (.bf .len (.cons (.var 2) .nil))) (.cons (.ret (.bl false)) .nil) .nil) (.cons (.ife (.cmp .ne (.comp (.tp (.cons (.nm 4) (.cons (.nm 5) .nil))) (.zip (.rev (.var 2)) (.rev (.var 3))) (.cmp .lt (.var 4) (.var 5)) (.var 4)) (.lst .nil)) (.cons (.ret (.bl false)) .nil) .nil) .nil))) (.cons (.ret (.bl true)) .nil))
def f_has_pins : Fn := ⟨2, 6, b_has_pins⟩
abbrev i_has_pins : Nat := 23
def n_has_pins : List Str := ["table", "pins", "counts", "some", "count", "pin"]
abbrev p_has_pins : List Str := ["table", "pins"]
/-- check_pins(slab, table, pins): slab, table, pins -/
def b_check_pins : Sms := (.cons (.ife (.isN (.var 2)) (.cons (.ret (.call 14 (.cons (.var 0) .nil))) .nil) .nil) (.cons (.ife (.or (.not (.call 13 (.cons (.var 0) (.cons (.var 2) .nil)))) (.not (.call 23 (.cons (.var 1) (.cons (.var 2) .nil))))) (.cons (.rse 6 (.var 2)) .nil) .nil) (.cons (.ret (.var 2)) .nil)))
def f_check_pins : Fn := ⟨3, 3, b_check_pins⟩
abbrev i_check_pins : Nat := 24
def n_check_pins : List Str := ["slab", "table", "pins"]
abbrev p_check_pins : List Str := ["slab", "table", "pins"]
/-- pinned(slab, pins, number): slab, pins, number -/
def b_pinned : Sms := (.cons (.ret (.bin .mul (.bf .sum (.cons (.ix (.var 1) (.var 2)) .nil)) (.ix (.ix (.fld (.var 0) 6) (.var 2)) (.int 0)))) .nil)
def f_pinned : Fn := ⟨3, 3, b_pinned⟩
abbrev i_pinned : Nat := 25
def n_pinned : List Str := ["slab", "pins", "number"]
abbrev p_pinned : List Str := ["slab", "pins", "number"]
/-- held(slab, table, pins, number): slab, table, pins, number -/
def b_held : Sms := (.cons (.ret (.bin .mul (.bin .sub (.bf .len (.cons (.ix (.var 1) (.var 3)) .nil)) (.bf .len (.cons (.ix (.var 2) (.var 3)) .nil))) (.ix (.ix (.fld (.var 0) 6) (.var 3)) (.int 0)))) .nil)
def f_held : Fn := ⟨4, 4, b_held⟩
abbrev i_held : Nat := 26
def n_held : List Str := ["slab", "table", "pins", "number"]
abbrev p_held : List Str := ["slab", "table", "pins", "number"]
/-- filled(slab, table, pins, number): slab, table, pins, number, size, slots -/
def b_filled : Sms := (.cons (.set (.tp (.cons (.nm 4) (.cons (.nm 5) .nil))) (.ix (.fld (.var 0) 6) (.var 3))) (.cons (.ret (.bin .sub (.bin .mul (.bin .add (.bin .mul (.bin .sub (.bf .len (.cons (.ix (.var 1) (.var 3)) .nil)) (.int 1)) (.var 5)) (.int 1)) (.var 4)) (.call 25 (.cons (.var 0) (.cons (.var 2) (.cons (.var 3) .nil)))))) .nil))
def f_filled : Fn := ⟨4, 6, b_filled⟩
abbrev i_filled : Nat := 27
def n_filled : List Str := ["slab", "table", "pins", "number", "size", "slots"]
abbrev p_filled : List Str := ["slab", "table", "pins", "number"]
/-- spare(slab, table, pins, number): slab, table, pins, number -/
def b_spare : Sms := (.cons (.ret (.bin .sub (.call 27 (.cons (.var 0) (.cons (.var 1) (.cons (.var 2) (.cons (.var 3) .nil))))) (.call 26 (.cons (.var 0) (.cons (.var 1) (.cons (.var 2) (.cons (.var 3) .nil))))))) .nil)
def f_spare : Fn := ⟨4, 4, b_spare⟩
abbrev i_spare : Nat := 28
def n_spare : List Str := ["slab", "table", "pins", "number"]
abbrev p_spare : List Str := ["slab", "table", "pins", "number"]
/-- grown_classes(table, pins): table, pins, number -/
def b_grown_classes : Sms := (.cons (.ret (.comp (.nm 2) (.rng1 (.bf .len (.cons (.var 0) .nil))) (.cmp .gt (.bf .len (.cons (.ix (.var 0) (.var 2)) .nil)) (.bf .len (.cons (.ix (.var 1) (.var 2)) .nil))) (.var 2))) .nil)
def f_grown_classes : Fn := ⟨2, 3, b_grown_classes⟩
abbrev i_grown_classes : Nat := 29
def n_grown_classes : List Str := ["table", "pins", "number"]
abbrev p_grown_classes : List Str := ["table", "pins"]
/-- order_of(slab, table, pins): slab, table, pins, order, number, total, index -/
def b_order_of : Sms := (.cons (.exp (.call 12 (.cons (.var 0) (.cons (.var 1) .nil)))) (.cons (.set (.nm 2) (.call 24 (.cons (.var 0) (.cons (.var 1) (.cons (.var 2) .nil))))) (.cons (.set (.nm 3) (.sortK 4 (.call 29 (.cons (.var 1) (.cons (.var 2) .nil))) (.tup (.cons (.bin .sub (.int 0) (.call 28 (.cons (.var 0) (.cons (.var 1) (.cons (.var 2) (.cons (.var 4) .nil)))))) (.cons (.var 4) .nil))))) (.cons (.set (.nm 5) (.call 11 (.cons (.var 0) (.cons (.var 2) .nil)))) (.cons (.for_ (.tp (.cons (.nm 6) (.cons (.nm 4) .nil))) (.enum (.var 3)) (.cons (.aug 5 (.call 26 (.cons (.var 0) (.cons (.var 1) (.cons (.var 2) (.cons (.var 4) .nil)))))) (.cons (.ife (.cmp .gt (.bin .add (.var 5) (.call 28 (.cons (.var 0) (.cons (.var 1) (.cons (.var 2) (.cons (.var 4) .nil)))))) (.fld (.var 0) 5)) (.cons (.ret (.tup (.cons (.str "stuck") (.cons (.bf .tuple (.cons (.bf .sorted (.cons (.slB (.var 3) (.bin .add (.var 6) (.int 1))) .nil)) .nil)) .nil)))) .nil) .nil) .nil))) (.cons (.ret (.tup (.cons (.str "order") (.cons (.bf .tuple (.cons (.var 3) .nil)) .nil)))) .nil))))))
def f_order_of : Fn := ⟨3, 7, b_order_of⟩
abbrev i_order_of : Nat := 30
def n_order_of : List Str := ["slab", "table", "pins", "order", "number", "total", "index"]
abbrev p_order_of : List Str := ["slab", "table", "pins"]
/-- first_short(slab, table, pins, order): slab, table, pins, order, total, index, number -/
def b_first_short : Sms := (.cons (.set (.nm 4) (.call 11 (.cons (.var 0) (.cons (.var 2) .nil)))) (.cons (.for_ (.tp (.cons (.nm 5) (.cons (.nm 6) .nil))) (.enum (.var 3)) (.cons (.ife (.cmp .gt (.bin .add (.var 4) (.call 27 (.cons (.var 0) (.cons (.var 1) (.cons (.var 2) (.cons (.var 6) .nil)))))) (.fld (.var 0) 5)) (.cons (.ret (.var 5)) .nil) .nil) (.cons (.aug 4 (.call 26 (.cons (.var 0) (.cons (.var 1) (.cons (.var 2) (.cons (.var 6) .nil)))))) .nil))) (.cons (.ret .non) .nil)))
def f_first_short : Fn := ⟨4, 7, b_first_short⟩
abbrev i_first_short : Nat := 31
def n_first_short : List Str := ["slab", "table", "pins", "order", "total", "index", "number"]
abbrev p_first_short : List Str := ["slab", "table", "pins", "order"]
/-- cannot(slab, table, pins, some): slab, table, pins, some, total, number -/
def b_cannot : Sms := (.cons (.ife (.cmp .eq (.var 3) (.tup .nil)) (.cons (.ret (.bl false)) .nil) .nil) (.cons (.set (.nm 4) (.bin .add (.call 11 (.cons (.var 0) (.cons (.var 2) .nil))) (.bf .sum (.cons (.comp (.nm 5) (.of (.var 3)) .tt (.call 26 (.cons (.var 0) (.cons (.var 1) (.cons (.var 2) (.cons (.var 5) .nil)))))) .nil)))) (.cons (.ret (.cmp .gt (.bin .add (.var 4) (.bf .min1 (.cons (.comp (.nm 5) (.of (.var 3)) .tt (.call 28 (.cons (.var 0) (.cons (.var 1) (.cons (.var 2) (.cons (.var 5) .nil)))))) .nil))) (.fld (.var 0) 5))) .nil)))
def f_cannot : Fn := ⟨4, 6, b_cannot⟩
abbrev i_cannot : Nat := 32
def n_cannot : List Str := ["slab", "table", "pins", "some", "total", "number"]
abbrev p_cannot : List Str := ["slab", "table", "pins", "some"]
/-- check_numbers(table, pins, some): table, pins, some, grown, index, number -/
def b_check_numbers : Sms := (.cons (.set (.nm 3) (.call 29 (.cons (.var 0) (.cons (.var 1) .nil)))) (.cons (.for_ (.tp (.cons (.nm 4) (.cons (.nm 5) .nil))) (.enum (.var 2)) (.cons (.ife (.or (.not (.call 1 (.cons (.var 5) (.cons (.int 0) (.cons (.bin .sub (.bf .len (.cons (.var 0) .nil)) (.int 1)) .nil))))) (.or (.cmp .isIn (.var 5) (.slB (.var 2) (.var 4))) (.cmp .notIn (.var 5) (.var 3)))) (.cons (.rse 5 (.var 4)) .nil) .nil) .nil)) .nil))
def f_check_numbers : Fn := ⟨3, 6, b_check_numbers⟩
abbrev i_check_numbers : Nat := 33
def n_check_numbers : List Str := ["table", "pins", "some", "grown", "index", "number"]
abbrev p_check_numbers : List Str := ["table", "pins", "some"]
/-- check_order(slab, table, answer, pins): slab, table, answer, pins, many, index -/
def b_check_order : Sms := (.cons (.exp (.call 12 (.cons (.var 0) (.cons (.var 1) .nil)))) (.cons (.set (.nm 3) (.call 24 (.cons (.var 0) (.cons (.var 1) (.cons (.var 3) .nil))))) (.cons (.ife (.or (.not (.isi (.var 2) .tuple)) (.or (.cmp .ne (.bf .len (.cons (.var 2) .nil)) (.int 2)) (.cmp .notIn (.ix (.var 2) (.int 0)) (.tup (.cons (.str "order") (.cons (.str "stuck") .nil)))))) (.cons (.rse 5 (.neg 1)) .nil) .nil) (.cons (.ife (.not (.isi (.ix (.var 2) (.int 1)) .tuple)) (.cons (.rse 5 (.neg 1)) .nil) .nil) (.cons (.exp (.call 33 (.cons (.var 1) (.cons (.var 3) (.cons (.ix (.var 2) (.int 1)) .nil))))) (.cons (.set (.nm 4) (.bf .len (.cons (.ix (.var 2) (.int 1)) .nil))) (.cons (.ife (.cmp .eq (.ix (.var 2) (.int 0)) (.str "stuck")) (.cons (.ife (.not (.call 32 (.cons (.var 0) (.cons (.var 1) (.cons (.var 3) (.cons (.ix (.var 2) (.int 1)) .nil)))))) (.cons (.rse 5 (.var 4)) .nil) .nil) (.cons .retN .nil)) .nil) (.cons (.set (.nm 5) (.call 31 (.cons (.var 0) (.cons (.var 1) (.cons (.var 3) (.cons (.ix (.var 2) (.int 1)) .nil)))))) (.cons (.ife (.notN (.var 5)) (.cons (.rse 5 (.bin .add (.var 4) (.var 5))) .nil) .nil) (.cons (.ife (.cmp .lt (.var 4) (.bf .len (.cons (.call 29 (.cons (.var 1) (.cons (.var 3) .nil))) .nil))) (.cons (.rse 5 (.bin .mul (.int 2) (.var 4))) .nil) .nil) .nil))))))))))
def f_check_order : Fn := ⟨4, 6, b_check_order⟩
abbrev i_check_order : Nat := 34
def n_check_order : List Str := ["slab", "table", "answer", "pins", "many", "index"]
abbrev p_check_order : List Str := ["slab", "table", "answer", "pins"]
/-- raised(number, low, high): number, low, high, count -/
def b_raised : Sms := (.cons (.ret (.comp (.nm 3) (.rng2 (.var 1) (.var 2)) .tt (.tup (.cons (.str "put") (.cons (.var 0) (.cons (.var 3) .nil)))))) .nil)
def f_raised : Fn := ⟨3, 4, b_raised⟩
abbrev i_raised : Nat := 35
def n_raised : List Str := ["number", "low", "high", "count"]
abbrev p_raised : List Str := ["number", "low", "high"]
/-- lowered(number, high, low): number, high, low, count -/
def b_lowered : Sms := (.cons (.ret (.comp (.nm 3) (.rng3 (.var 1) (.var 2) (-1)) .tt (.tup (.cons (.str "free") (.cons (.var 0) (.cons (.var 3) .nil)))))) .nil)
def f_lowered : Fn := ⟨3, 4, b_lowered⟩
abbrev i_lowered : Nat := 36
def n_lowered : List Str := ["number", "high", "low", "count"]
abbrev p_lowered : List Str := ["number", "high", "low"]
/-- filling(number, pins, many, slots): number, pins, many, slots, found, count, page -/
def b_filling : Sms := (.cons (.set (.nm 4) (.new .nil)) (.cons (.for_ (.nm 5) (.of (.var 1)) (.cons (.set (.nm 4) (.addN (.var 4) (.call 35 (.cons (.var 0) (.cons (.var 5) (.cons (.var 3) .nil)))))) .nil)) (.cons (.for_ (.nm 6) (.rng2 (.bf .len (.cons (.var 1) .nil)) (.var 2)) (.cons (.app (.var 4) (.tup (.cons (.str "put") (.cons (.var 0) (.cons (.int 0) .nil))))) (.cons (.ife (.cmp .lt (.var 6) (.bin .sub (.var 2) (.int 1))) (.cons (.set (.nm 4) (.addN (.var 4) (.call 35 (.cons (.var 0) (.cons (.int 1) (.cons (.var 3) .nil)))))) .nil) .nil) .nil))) (.cons (.fz 4) (.cons (.ret (.var 4)) .nil)))))
def f_filling : Fn := ⟨4, 7, b_filling⟩
abbrev i_filling : Nat := 37
def n_filling : List Str := ["number", "pins", "many", "slots", "found", "count", "page"]
abbrev p_filling : List Str := ["number", "pins", "many", "slots"]
/-- thinning(number, pins, many, slots): number, pins, many, slots, found, count, page -/
def b_thinning : Sms := (.cons (.set (.nm 4) (.lst .nil)) (.cons (.for_ (.nm 5) (.of (.rev (.var 1))) (.cons (.set (.nm 4) (.bin .add (.var 4) (.call 36 (.cons (.var 0) (.cons (.var 3) (.cons (.var 5) .nil)))))) .nil)) (.cons (.for_ (.nm 6) (.rng1 (.bin .sub (.bin .sub (.var 2) (.int 1)) (.bf .len (.cons (.var 1) .nil)))) (.cons (.set (.nm 4) (.bin .add (.var 4) (.call 36 (.cons (.var 0) (.cons (.var 3) (.cons (.int 1) .nil)))))) .nil)) (.cons (.ret (.var 4)) .nil))))
def f_thinning : Fn := ⟨4, 7, b_thinning⟩
abbrev i_thinning : Nat := 38
def n_thinning : List Str := ["number", "pins", "many", "slots", "found", "count", "page"]
abbrev p_thinning : List Str := ["number", "pins", "many", "slots"]
/-- topping(number, counts, pins): number, counts, pins, found, low, count, pin -/
def b_topping : Sms := (.cons (.set (.nm 3) (.lst .nil)) (.cons (.set (.nm 4) (.bin .add (.bin .mul (.tup (.cons (.int 1) .nil)) (.bin .sub (.bf .len (.cons (.var 1) .nil)) (.bf .len (.cons (.var 2) .nil)))) (.var 2))) (.cons (.for_ (.tp (.cons (.nm 5) (.cons (.nm 6) .nil))) (.zip (.rev (.var 1)) (.rev (.var 4))) (.cons (.set (.nm 3) (.bin .add (.var 3) (.call 35 (.cons (.var 0) (.cons (.var 6) (.cons (.var 5) .nil)))))) .nil)) (.cons (.ret (.var 3)) .nil))))
def f_topping : Fn := ⟨3, 7, b_topping⟩
abbrev i_topping : Nat := 39
def n_topping : List Str := ["number", "counts", "pins", "found", "low", "count", "pin"]
abbrev p_topping : List Str := ["number", "counts", "pins"]
/-- schedule(slab, table, pins): slab, table, pins, answer, found, number, slots, many -/
def b_schedule : Sms := (.cons (.exp (.call 12 (.cons (.var 0) (.cons (.var 1) .nil)))) (.cons (.set (.nm 2) (.call 24 (.cons (.var 0) (.cons (.var 1) (.cons (.var 2) .nil))))) (.cons (.set (.nm 3) (.callK 30 (.cons (.var 0) (.cons (.var 1) .nil)) ["pins"] (.cons (.var 2) .nil) [.p 0, .p 1, .k 0])) (.cons (.ife (.cmp .eq (.ix (.var 3) (.int 0)) (.str "stuck")) (.cons (.rse 7 (.ix (.var 3) (.int 1))) .nil) .nil) (.cons (.set (.nm 4) (.lst .nil)) (.cons (.for_ (.nm 5) (.of (.ix (.var 3) (.int 1))) (.cons (.sets (.cons (.nm 6) (.cons (.nm 7) .nil)) (.cons (.ix (.ix (.fld (.var 0) 6) (.var 5)) (.int 1)) (.cons (.bf .len (.cons (.ix (.var 1) (.var 5)) .nil)) .nil))) (.cons (.set (.nm 4) (.bin .add (.bin .add (.var 4) (.call 37 (.cons (.var 5) (.cons (.ix (.var 2) (.var 5)) (.cons (.var 7) (.cons (.var 6) .nil)))))) (.call 38 (.cons (.var 5) (.cons (.ix (.var 2) (.var 5)) (.cons (.var 7) (.cons (.var 6) .nil))))))) .nil))) (.cons (.for_ (.nm 5) (.rng1 (.bf .len (.cons (.var 0) .nil))) (.cons (.set (.nm 4) (.bin .add (.var 4) (.call 39 (.cons (.var 5) (.cons (.ix (.var 1) (.var 5)) (.cons (.ix (.var 2) (.var 5)) .nil)))))) .nil)) (.cons (.ret (.var 4)) .nil))))))))
def f_schedule : Fn := ⟨3, 8, b_schedule⟩
abbrev i_schedule : Nat := 40
def n_schedule : List Str := ["slab", "table", "pins", "answer", "found", "number", "slots", "many"]
abbrev p_schedule : List Str := ["slab", "table", "pins"]
/-- shown_by(slab, table, pins, some): slab, table, pins, some, total, number -/
def b_shown_by : Sms := (.cons (.set (.nm 4) (.bin .add (.call 11 (.cons (.var 0) (.cons (.var 2) .nil))) (.bf .sum (.cons (.comp (.nm 5) (.of (.var 3)) .tt (.call 26 (.cons (.var 0) (.cons (.var 1) (.cons (.var 2) (.cons (.var 5) .nil)))))) .nil)))) (.cons (.ret (.bin .add (.var 4) (.bf .min1 (.cons (.comp (.nm 5) (.of (.var 3)) .tt (.call 28 (.cons (.var 0) (.cons (.var 1) (.cons (.var 2) (.cons (.var 5) .nil)))))) .nil)))) .nil))
def f_shown_by : Fn := ⟨4, 6, b_shown_by⟩
abbrev i_shown_by : Nat := 41
def n_shown_by : List Str := ["slab", "table", "pins", "some", "total", "number"]
abbrev p_shown_by : List Str := ["slab", "table", "pins", "some"]
/-- least_bytes(slab, table, pins): slab, table, pins, best, some, number, one, needed -/
def b_least_bytes : Sms := (.cons (.set (.nm 3) (.tup (.cons (.call 11 (.cons (.var 0) (.cons (.var 1) .nil))) (.cons (.tup .nil) .nil)))) (.cons (.set (.nm 4) (.tup .nil)) (.cons (.for_ (.nm 5) (.of (.sortK 6 (.call 29 (.cons (.var 1) (.cons (.var 2) .nil))) (.tup (.cons (.bin .sub (.int 0) (.call 28 (.cons (.var 0) (.cons (.var 1) (.cons (.var 2) (.cons (.var 6) .nil)))))) (.cons (.var 6) .nil))))) (.cons (.set (.nm 4) (.bin .add (.var 4) (.tup (.cons (.var 5) .nil)))) (.cons (.set (.nm 7) (.call 41 (.cons (.var 0) (.cons (.var 1) (.cons (.var 2) (.cons (.var 4) .nil)))))) (.cons (.ife (.cmp .gt (.var 7) (.ix (.var 3) (.int 0))) (.cons (.set (.nm 3) (.tup (.cons (.var 7) (.cons (.bf .tuple (.cons (.bf .sorted (.cons (.var 4) .nil)) .nil)) .nil)))) .nil) .nil) .nil)))) (.cons (.ret (.var 3)) .nil))))
def f_least_bytes : Fn := ⟨3, 8, b_least_bytes⟩
abbrev i_least_bytes : Nat := 42
def n_least_bytes : List Str := ["slab", "table", "pins", "best", "some", "number", "one", "needed"]
abbrev p_least_bytes : List Str := ["slab", "table", "pins"]
/-- least_limit(classes, table, pins): classes, table, pins, slab -/
def b_least_limit : Sms := (.cons (.set (.nm 3) (.mk 100 (.cons (.var 0) (.cons (.cst "MAX_LIMIT" 1000000) .nil)))) (.cons (.exp (.call 12 (.cons (.var 3) (.cons (.var 1) .nil)))) (.cons (.ret (.call 42 (.cons (.var 3) (.cons (.var 1) (.cons (.call 24 (.cons (.var 3) (.cons (.var 1) (.cons (.var 2) .nil)))) .nil))))) .nil)))
def f_least_limit : Fn := ⟨3, 4, b_least_limit⟩
abbrev i_least_limit : Nat := 43
def n_least_limit : List Str := ["classes", "table", "pins", "slab"]
abbrev p_least_limit : List Str := ["classes", "table", "pins"]
/-- check_limit(classes, table, answer, pins): classes, table, answer, pins, slab, limit, some, shown -/
def b_check_limit : Sms := (.cons (.set (.nm 4) (.mk 100 (.cons (.var 0) (.cons (.cst "MAX_LIMIT" 1000000) .nil)))) (.cons (.exp (.call 12 (.cons (.var 4) (.cons (.var 1) .nil)))) (.cons (.set (.nm 3) (.call 24 (.cons (.var 4) (.cons (.var 1) (.cons (.var 3) .nil))))) (.cons (.ife (.or (.not (.isi (.var 2) .tuple)) (.or (.cmp .ne (.bf .len (.cons (.var 2) .nil)) (.int 2)) (.or (.not (.call 0 (.cons (.ix (.var 2) (.int 0)) .nil))) (.not (.isi (.ix (.var 2) (.int 1)) .tuple))))) (.cons (.rse 5 (.neg 1)) .nil) .nil) (.cons (.set (.tp (.cons (.nm 5) (.cons (.nm 6) .nil))) (.var 2)) (.cons (.exp (.call 33 (.cons (.var 1) (.cons (.var 3) (.cons (.var 6) .nil))))) (.cons (.ife (.cmp .lt (.var 5) (.ix (.call 42 (.cons (.var 4) (.cons (.var 1) (.cons (.var 3) .nil)))) (.int 0))) (.cons (.rse 5 (.bf .len (.cons (.var 6) .nil))) .nil) .nil) (.cons (.set (.nm 7) (.ite (.cmp .eq (.var 6) (.tup .nil)) (.call 11 (.cons (.var 4) (.cons (.var 1) .nil))) (.call 41 (.cons (.var 4) (.cons (.var 1) (.cons (.var 3) (.cons (.var 6) .nil))))))) (.cons (.ife (.cmp .gt (.var 5) (.var 7)) (.cons (.rse 5 (.bin .add (.bf .len (.cons (.var 6) .nil)) (.int 1))) .nil) .nil) .nil)))))))))
def f_check_limit : Fn := ⟨4, 8, b_check_limit⟩
abbrev i_check_limit : Nat := 44
def n_check_limit : List Str := ["classes", "table", "answer", "pins", "slab", "limit", "some", "shown"]
abbrev p_check_limit : List Str := ["classes", "table", "answer", "pins"]
/-- with_thin_pages(table, pins, number, many): table, pins, number, many, found, one, counts, pages -/
def b_with_thin_pages : Sms := (.cons (.set (.nm 4) (.new .nil)) (.cons (.for_ (.tp (.cons (.nm 5) (.cons (.nm 6) .nil))) (.enum (.var 0)) (.cons (.set (.nm 7) (.ite (.cmp .eq (.var 5) (.var 2)) (.var 3) (.bf .len (.cons (.var 6) .nil)))) (.cons (.app (.var 4) (.bin .add (.bin .mul (.tup (.cons (.int 1) .nil)) (.bin .sub (.var 7) (.bf .len (.cons (.ix (.var 1) (.var 5)) .nil)))) (.ix (.var 1) (.var 5)))) .nil))) (.cons (.ret (.bf .tuple (.cons (.var 4) .nil))) .nil)))
def f_with_thin_pages : Fn := ⟨4, 8, b_with_thin_pages⟩
abbrev i_with_thin_pages : Nat := 45
def n_with_thin_pages : List Str := ["table", "pins", "number", "many", "found", "one", "counts", "pages"]
abbrev p_with_thin_pages : List Str := ["table", "pins", "number", "many"]
/-- can_have(slab, table, pins, number, many): slab, table, pins, number, many, later, counts -/
def b_can_have : Sms := (.cons (.set (.nm 5) (.call 45 (.cons (.var 1) (.cons (.var 2) (.cons (.var 3) (.cons (.var 4) .nil)))))) (.cons (.ife (.or (.cmp .gt (.bf .sum (.cons (.comp (.nm 6) (.of (.var 5)) .tt (.bf .len (.cons (.var 6) .nil))) .nil)) (.cst "MAX_PAGES" 60)) (.cmp .gt (.call 11 (.cons (.var 0) (.cons (.var 5) .nil))) (.fld (.var 0) 5))) (.cons (.ret (.bl false)) .nil) .nil) (.cons (.ret (.cmp .eq (.ix (.callK 30 (.cons (.var 0) (.cons (.var 5) .nil)) ["pins"] (.cons (.var 2) .nil) [.p 0, .p 1, .k 0]) (.int 0)) (.str "order"))) .nil)))
def f_can_have : Fn := ⟨5, 7, b_can_have⟩
abbrev i_can_have : Nat := 46
def n_can_have : List Str := ["slab", "table", "pins", "number", "many", "later", "counts"]
abbrev p_can_have : List Str := ["slab", "table", "pins", "number", "many"]
/-- most_beside(slab, table, pins): slab, table, pins, found, number, many, most -/
def b_most_beside : Sms := (.cons (.exp (.call 12 (.cons (.var 0) (.cons (.var 1) .nil)))) (.cons (.set (.nm 2) (.call 24 (.cons (.var 0) (.cons (.var 1) (.cons (.var 2) .nil))))) (.cons (.set (.nm 3) (.new .nil)) (.cons (.for_ (.nm 4) (.rng1 (.bf .len (.cons (.var 0) .nil))) (.cons (.set (.nm 5) (.bf .len (.cons (.ix (.var 2) (.var 4)) .nil))) (.cons (.set (.nm 6) .non) (.cons (.whl 1000000 (.call 46 (.cons (.var 0) (.cons (.var 1) (.cons (.var 2) (.cons (.var 4) (.cons (.var 5) .nil)))))) (.cons (.set (.nm 6) (.var 5)) (.cons (.aug 5 (.int 1)) .nil))) (.cons (.app (.var 3) (.var 6)) .nil))))) (.cons (.fz 3) (.cons (.ret (.var 3)) .nil))))))
def f_most_beside : Fn := ⟨3, 7, b_most_beside⟩
abbrev i_most_beside : Nat := 47
def n_most_beside : List Str := ["slab", "table", "pins", "found", "number", "many", "most"]
abbrev p_most_beside : List Str := ["slab", "table", "pins"]
/-- with_class(slab, size, slots): slab, size, slots -/
def b_with_class : Sms := (.cons (.ret (.mk 100 (.cons (.bin .add (.meth 6 (.var 0) .nil) (.lst (.cons (.tup (.cons (.var 1) (.cons (.var 2) .nil))) .nil))) (.cons (.fld (.var 0) 5) .nil)))) .nil)
def f_with_class : Fn := ⟨3, 3, b_with_class⟩
abbrev i_with_class : Nat := 48
def n_with_class : List Str := ["slab", "size", "slots"]
abbrev p_with_class : List Str := ["slab", "size", "slots"]
/-- with_limit(slab, limit): slab, limit -/
def b_with_limit : Sms := (.cons (.ret (.mk 100 (.cons (.meth 6 (.var 0) .nil) (.cons (.var 1) .nil)))) .nil)
def f_with_limit : Fn := ⟨2, 2, b_with_limit⟩
abbrev i_with_limit : Nat := 49
def n_with_limit : List Str := ["slab", "limit"]
abbrev p_with_limit : List Str := ["slab", "limit"]
/-- scaled(slab, factor): slab, factor, size, slots -/
def b_scaled : Sms := (.cons (.ife (.or (.not (.call 0 (.cons (.var 1) .nil))) (.not (.cmp2 .le .le (.int 1) (.var 1) (.cst "MAX_LIMIT" 1000000)))) (.cons (.rse 1 (.neg 1)) .nil) .nil) (.cons (.ret (.mk 100 (.cons (.comp (.tp (.cons (.nm 2) (.cons (.nm 3) .nil))) (.of (.fld (.var 0) 6)) .tt (.tup (.cons (.bin .mul (.var 2) (.var 1)) (.cons (.var 3) .nil)))) (.cons (.bin .mul (.fld (.var 0) 5) (.var 1)) .nil)))) .nil))
def f_scaled : Fn := ⟨2, 4, b_scaled⟩
abbrev i_scaled : Nat := 50
def n_scaled : List Str := ["slab", "factor", "size", "slots"]
abbrev p_scaled : List Str := ["slab", "factor"]
/-- check_names(slab, order): slab, order, index, number -/
def b_check_names : Sms := (.cons (.ife (.or (.not (.isi (.var 1) .list)) (.cmp .ne (.bf .len (.cons (.var 1) .nil)) (.bf .len (.cons (.var 0) .nil)))) (.cons (.rse 2 (.var 1)) .nil) .nil) (.cons (.for_ (.tp (.cons (.nm 2) (.cons (.nm 3) .nil))) (.enum (.var 1)) (.cons (.ife (.or (.not (.call 1 (.cons (.var 3) (.cons (.int 0) (.cons (.bin .sub (.bf .len (.cons (.var 0) .nil)) (.int 1)) .nil))))) (.cmp .isIn (.var 3) (.slB (.var 1) (.var 2)))) (.cons (.rse 2 (.var 1)) .nil) .nil) .nil)) .nil))
def f_check_names : Fn := ⟨2, 4, b_check_names⟩
abbrev i_check_names : Nat := 51
def n_check_names : List Str := ["slab", "order", "index", "number"]
abbrev p_check_names : List Str := ["slab", "order"]
/-- renamed(slab, order): slab, order, number -/
def b_renamed : Sms := (.cons (.exp (.call 51 (.cons (.var 0) (.cons (.var 1) .nil)))) (.cons (.ret (.mk 100 (.cons (.comp (.nm 2) (.of (.var 1)) .tt (.ix (.fld (.var 0) 6) (.var 2))) (.cons (.fld (.var 0) 5) .nil)))) .nil))
def f_renamed : Fn := ⟨2, 3, b_renamed⟩
abbrev i_renamed : Nat := 52
def n_renamed : List Str := ["slab", "order", "number"]
abbrev p_renamed : List Str := ["slab", "order"]
/-- renamed_table(slab, table, order): slab, table, order, number -/
def b_renamed_table : Sms := (.cons (.exp (.call 12 (.cons (.var 0) (.cons (.var 1) .nil)))) (.cons (.exp (.call 51 (.cons (.var 0) (.cons (.var 2) .nil)))) (.cons (.ret (.bf .tuple (.cons (.comp (.nm 3) (.of (.var 2)) .tt (.ix (.var 1) (.var 3))) .nil))) .nil)))
def f_renamed_table : Fn := ⟨3, 4, b_renamed_table⟩
abbrev i_renamed_table : Nat := 53
def n_renamed_table : List Str := ["slab", "table", "order", "number"]
abbrev p_renamed_table : List Str := ["slab", "table", "order"]
/-- merged(slab, table, one, other): slab, table, one, other -/
def b_merged : Sms := (.cons (.exp (.call 12 (.cons (.var 0) (.cons (.var 1) .nil)))) (.cons (.exp (.meth 10 (.var 0) (.cons (.var 2) .nil))) (.cons (.exp (.meth 10 (.var 0) (.cons (.var 3) .nil))) (.cons (.ife (.or (.cmp .eq (.var 2) (.var 3)) (.cmp .ne (.ix (.fld (.var 0) 6) (.var 2)) (.ix (.fld (.var 0) 6) (.var 3)))) (.cons (.rse 2 (.var 3)) .nil) .nil) (.cons (.ret (.call 17 (.cons (.call 17 (.cons (.var 1) (.cons (.var 2) (.cons (.bin .add (.ix (.var 1) (.var 2)) (.ix (.var 1) (.var 3))) .nil)))) (.cons (.var 3) (.cons (.tup .nil) .nil))))) .nil)))))
def f_merged : Fn := ⟨4, 4, b_merged⟩
abbrev i_merged : Nat := 54
def n_merged : List Str := ["slab", "table", "one", "other"]
abbrev p_merged : List Str := ["slab", "table", "one", "other"]
/-- thinned(slab, table): slab, table, counts -/
def b_thinned : Sms := (.cons (.exp (.call 12 (.cons (.var 0) (.cons (.var 1) .nil)))) (.cons (.ret (.bf .tuple (.cons (.comp (.nm 2) (.of (.var 1)) .tt (.bin .mul (.tup (.cons (.int 1) .nil)) (.bf .len (.cons (.var 2) .nil)))) .nil))) .nil))
def f_thinned : Fn := ⟨2, 3, b_thinned⟩
abbrev i_thinned : Nat := 55
def n_thinned : List Str := ["slab", "table", "counts"]
abbrev p_thinned : List Str := ["slab", "table"]
/-- without_page(slab, table, number): slab, table, number -/
def b_without_page : Sms := (.cons (.exp (.call 12 (.cons (.var 0) (.cons (.var 1) .nil)))) (.cons (.exp (.meth 10 (.var 0) (.cons (.var 2) .nil))) (.cons (.ife (.cmp .eq (.ix (.var 1) (.var 2)) (.tup .nil)) (.cons (.rse 2 (.var 2)) .nil) .nil) (.cons (.ret (.call 17 (.cons (.var 1) (.cons (.var 2) (.cons (.slA (.ix (.var 1) (.var 2)) (.int 1)) .nil))))) .nil))))
def f_without_page : Fn := ⟨3, 3, b_without_page⟩
abbrev i_without_page : Nat := 56
def n_without_page : List Str := ["slab", "table", "number"]
abbrev p_without_page : List Str := ["slab", "table", "number"]
/-- pins_of(slab, pins): slab, pins -/
def b_pins_of : Sms := (.cons (.ife (.isN (.var 1)) (.cons (.ret (.call 14 (.cons (.var 0) .nil))) .nil) .nil) (.cons (.ife (.not (.call 13 (.cons (.var 0) (.cons (.var 1) .nil)))) (.cons (.rse 6 (.var 1)) .nil) .nil) (.cons (.ret (.var 1)) .nil)))
def f_pins_of : Fn := ⟨2, 2, b_pins_of⟩
abbrev i_pins_of : Nat := 57
def n_pins_of : List Str := ["slab", "pins"]
abbrev p_pins_of : List Str := ["slab", "pins"]
/-- count_of(table): table, counts -/
def b_count_of : Sms := (.cons (.ret (.bf .sum (.cons (.comp (.nm 1) (.of (.var 0)) .tt (.bf .len (.cons (.var 1) .nil))) .nil))) .nil)
def f_count_of : Fn := ⟨1, 2, b_count_of⟩
abbrev i_count_of : Nat := 58
def n_count_of : List Str := ["table", "counts"]
abbrev p_count_of : List Str := ["table"]
/-- need(slab, pins, number, more): slab, pins, number, more, size, slots -/
def b_need : Sms := (.cons (.set (.tp (.cons (.nm 4) (.cons (.nm 5) .nil))) (.ix (.fld (.var 0) 6) (.var 2))) (.cons (.ret (.bin .sub (.bin .mul (.bin .add (.bin .mul (.bin .sub (.bin .add (.bf .len (.cons (.ix (.var 1) (.var 2)) .nil)) (.var 3)) (.int 1)) (.var 5)) (.int 1)) (.var 4)) (.call 25 (.cons (.var 0) (.cons (.var 1) (.cons (.var 2) .nil)))))) .nil))
def f_need : Fn := ⟨4, 6, b_need⟩
abbrev i_need : Nat := 59
def n_need : List Str := ["slab", "pins", "number", "more", "size", "slots"]
abbrev p_need : List Str := ["slab", "pins", "number", "more"]
/-- additions(slab, pins, number, total, room): slab, pins, number, total, room, found, more -/
def b_additions : Sms := (.cons (.set (.nm 5) (.new .nil)) (.cons (.set (.nm 6) (.int 1)) (.cons (.whl 1000000 (.and (.cmp .le (.var 6) (.var 4)) (.cmp .le (.bin .add (.var 3) (.call 59 (.cons (.var 0) (.cons (.var 1) (.cons (.var 2) (.cons (.var 6) .nil)))))) (.fld (.var 0) 5))) (.cons (.app (.var 5) (.var 6)) (.cons (.aug 6 (.int 1)) .nil))) (.cons (.fz 5) (.cons (.ret (.var 5)) .nil)))))
def f_additions : Fn := ⟨5, 7, b_additions⟩
abbrev i_additions : Nat := 60
def n_additions : List Str := ["slab", "pins", "number", "total", "room", "found", "more"]
abbrev p_additions : List Str := ["slab", "pins", "number", "total", "room"]
-- NO CORE FORM least_held: dict display
/-- table_of(slab, pins, found, key): slab, pins, found, key, table, held, number, more, one -/
def b_table_of : Sms := (.cons (.set (.nm 4) (.var 1)) (.cons (.whl 1000000 (.cmp .ne (.var 3) (.tup (.cons (.tup .nil) (.cons (.int 0) .nil)))) (.cons (.set (.tp (.cons (.nm 5) (.cons (.nm 6) (.cons (.nm 7) .nil)))) (.ix (.var 2) (.var 3))) (.cons (.set (.nm 4) (.bin .add (.bin .add (.slB (.var 4) (.var 6)) (.tup (.cons (.bin .add (.bin .mul (.tup (.cons (.int 1) .nil)) (.var 7)) (.ix (.var 4) (.var 6))) .nil))) (.slA (.var 4) (.bin .add (.var 6) (.int 1))))) (.cons (.set (.nm 3) (.tup (.cons (.bf .tuple (.cons (.comp (.nm 8) (.of (.ix (.var 3) (.int 0))) (.cmp .ne (.var 8) (.var 6)) (.var 8)) .nil)) (.cons (.bin .sub (.ix (.var 3) (.int 1)) (.var 7)) .nil)))) .nil)))) (.cons (.ret (.var 4)) .nil)))
def f_table_of : Fn := ⟨4, 9, b_table_of⟩
abbrev i_table_of : Nat := 62
def n_table_of : List Str := ["slab", "pins", "found", "key", "table", "held", "number", "more", "one"]
abbrev p_table_of : List Str := ["slab", "pins", "found", "key"]
-- NO CORE FORM most_pages: keywords of max
/-- check_pages(slab, pins, pages): slab, pins, pages -/
def b_check_pages : Sms := (.cons (.ife (.not (.call 1 (.cons (.var 2) (.cons (.call 58 (.cons (.var 1) .nil)) (.cons (.cst "MAX_PAGES" 60) .nil))))) (.cons (.rse 8 (.var 2)) .nil) .nil) .nil)
def f_check_pages : Fn := ⟨3, 3, b_check_pages⟩
abbrev i_check_pages : Nat := 64
def n_check_pages : List Str := ["slab", "pins", "pages"]
abbrev p_check_pages : List Str := ["slab", "pins", "pages"]
/-- refusing_table(slab, pins, pages, number): slab, pins, pages, number, size, slots, others, one, room, found, rest, key, many, table -/
def b_refusing_table : Sms := (.cons (.set (.tp (.cons (.nm 4) (.cons (.nm 5) .nil))) (.ix (.fld (.var 0) 6) (.var 3))) (.cons (.set (.nm 6) (.comp (.nm 7) (.rng1 (.bf .len (.cons (.var 0) .nil))) (.cmp .ne (.var 7) (.var 3)) (.var 7))) (.cons (.set (.nm 8) (.bin .sub (.var 2) (.call 58 (.cons (.var 1) .nil)))) (.cons (.set (.nm 9) (.call 61 (.cons (.var 0) (.cons (.var 1) (.cons (.var 6) (.cons (.var 8) .nil)))))) (.cons (.set (.nm 10) (.bin .sub (.call 11 (.cons (.var 0) (.cons (.var 1) .nil))) (.call 25 (.cons (.var 0) (.cons (.var 1) (.cons (.var 3) .nil)))))) (.cons (.for_ (.nm 11) (.of (.bf .sorted (.cons (.var 9) .nil))) (.cons (.set (.nm 12) (.bin .sub (.bin .add (.bf .len (.cons (.ix (.var 1) (.var 3)) .nil)) (.var 8)) (.ix (.var 11) (.int 1)))) (.cons (.ife (.cmp .le (.bin .add (.bin .add (.var 10) (.ix (.ix (.var 9) (.var 11)) (.int 0))) (.bin .mul (.bin .add (.bin .mul (.var 12) (.var 5)) (.int 1)) (.var 4))) (.fld (.var 0) 5)) (.cons (.set (.nm 13) (.call 62 (.cons (.var 0) (.cons (.var 1) (.cons (.var 9) (.cons (.var 11) .nil)))))) (.cons (.ret (.bin .add (.bin .add (.slB (.var 13) (.var 3)) (.tup (.cons (.bin .mul (.tup (.cons (.var 5) .nil)) (.var 12)) .nil))) (.slA (.var 13) (.bin .add (.var 3) (.int 1))))) .nil)) .nil) .nil))) (.cons (.ret .non) .nil)))))))
def f_refusing_table : Fn := ⟨4, 14, b_refusing_table⟩
abbrev i_refusing_table : Nat := 65
def n_refusing_table : List Str := ["slab", "pins", "pages", "number", "size", "slots", "others", "one", "room", "found", "rest", "key", "many", "table"]
abbrev p_refusing_table : List Str := ["slab", "pins", "pages", "number"]
/-- refused_at(slab, pages, number, pins): slab, pages, number, pins -/
def b_refused_at : Sms := (.cons (.set (.nm 3) (.call 57 (.cons (.var 0) (.cons (.var 3) .nil)))) (.cons (.exp (.call 64 (.cons (.var 0) (.cons (.var 3) (.cons (.var 1) .nil))))) (.cons (.exp (.meth 10 (.var 0) (.cons (.var 2) .nil))) (.cons (.ret (.call 65 (.cons (.var 0) (.cons (.var 3) (.cons (.var 1) (.cons (.var 2) .nil)))))) .nil))))
def f_refused_at : Fn := ⟨4, 4, b_refused_at⟩
abbrev i_refused_at : Nat := 66
def n_refused_at : List Str := ["slab", "pages", "number", "pins"]
abbrev p_refused_at : List Str := ["slab", "pages", "number", "pins"]
/-- least_pages(slab, pins): slab, pins, count, number -/
def b_least_pages : Sms := (.cons (.set (.nm 1) (.call 57 (.cons (.var 0) (.cons (.var 1) .nil)))) (.cons (.set (.nm 2) (.ix (.callK 63 (.cons (.var 0) .nil) ["pins"] (.cons (.var 1) .nil) [.p 0, .k 0]) (.int 0))) (.cons (.ife (.cmp .ne (.comp (.nm 3) (.rng1 (.bf .len (.cons (.var 0) .nil))) (.notN (.call 65 (.cons (.var 0) (.cons (.var 1) (.cons (.var 2) (.cons (.var 3) .nil)))))) (.var 3)) (.lst .nil)) (.cons (.ret .non) .nil) .nil) (.cons (.ret (.var 2)) .nil))))
def f_least_pages : Fn := ⟨2, 4, b_least_pages⟩
abbrev i_least_pages : Nat := 67
def n_least_pages : List Str := ["slab", "pins", "count", "number"]
abbrev p_least_pages : List Str := ["slab", "pins"]
/-- page_rows(slab, pins): slab, pins, found, key -/
def b_page_rows : Sms := (.cons (.set (.nm 1) (.call 57 (.cons (.var 0) (.cons (.var 1) .nil)))) (.cons (.set (.nm 2) (.call 61 (.cons (.var 0) (.cons (.var 1) (.cons (.lrng (.bf .len (.cons (.var 0) .nil))) (.cons (.bin .sub (.cst "MAX_PAGES" 60) (.call 58 (.cons (.var 1) .nil))) .nil)))))) (.cons (.ret (.comp (.nm 3) (.of (.bf .sorted (.cons (.var 2) .nil))) .tt (.bin .add (.var 3) (.tup (.cons (.ix (.ix (.var 2) (.var 3)) (.int 0)) .nil))))) .nil)))
def f_page_rows : Fn := ⟨2, 4, b_page_rows⟩
abbrev i_page_rows : Nat := 68
def n_page_rows : List Str := ["slab", "pins", "found", "key"]
abbrev p_page_rows : List Str := ["slab", "pins"]
/-- is_row(slab, row): slab, row, number -/
def b_is_row : Sms := (.cons (.ife (.or (.not (.isi (.var 1) .tuple)) (.or (.cmp .ne (.bf .len (.cons (.var 1) .nil)) (.int 3)) (.not (.isi (.ix (.var 1) (.int 0)) .tuple)))) (.cons (.ret (.bl false)) .nil) .nil) (.cons (.ife (.or (.not (.bf .all (.cons (.comp (.nm 2) (.of (.ix (.var 1) (.int 0))) .tt (.call 1 (.cons (.var 2) (.cons (.int 0) (.cons (.bin .sub (.bf .len (.cons (.var 0) .nil)) (.int 1)) .nil))))) .nil))) (.cmp .ne (.bf .list (.cons (.ix (.var 1) (.int 0)) .nil)) (.sset (.ix (.var 1) (.int 0))))) (.cons (.ret (.bl false)) .nil) .nil) (.cons (.ret (.and (.call 1 (.cons (.ix (.var 1) (.int 1)) (.cons (.int 0) (.cons (.cst "MAX_PAGES" 60) .nil)))) (.call 0 (.cons (.ix (.var 1) (.int 2)) .nil)))) .nil)))
def f_is_row : Fn := ⟨2, 3, b_is_row⟩
abbrev i_is_row : Nat := 69
def n_is_row : List Str := ["slab", "row", "number"]
abbrev p_is_row : List Str := ["slab", "row"]
/-- row_holds(slab, pins, known, row): slab, pins, known, row, some, count, total, room, number, one, more, key -/
def b_row_holds : Sms := (.cons (.set (.tp (.cons (.nm 4) (.cons (.nm 5) (.cons (.nm 6) .nil)))) (.var 3)) (.cons (.set (.nm 7) (.bin .sub (.bin .sub (.cst "MAX_PAGES" 60) (.call 58 (.cons (.var 1) .nil))) (.var 5))) (.cons (.for_ (.nm 8) (.of (.comp (.nm 9) (.rng1 (.bf .len (.cons (.var 0) .nil))) (.cmp .notIn (.var 9) (.var 4)) (.var 9))) (.cons (.for_ (.nm 10) (.of (.call 60 (.cons (.var 0) (.cons (.var 1) (.cons (.var 8) (.cons (.bin .add (.call 11 (.cons (.var 0) (.cons (.var 1) .nil))) (.var 6)) (.cons (.var 7) .nil))))))) (.cons (.set (.nm 11) (.tup (.cons (.bf .tuple (.cons (.bf .sorted (.cons (.bin .add (.var 4) (.tup (.cons (.var 8) .nil))) .nil)) .nil)) (.cons (.bin .add (.var 5) (.var 10)) .nil)))) (.cons (.ife (.or (.cmp .notIn (.var 11) (.var 2)) (.cmp .gt (.ix (.var 2) (.var 11)) (.bin .add (.var 6) (.bin .mul (.var 10) (.ix (.ix (.fld (.var 0) 6) (.var 8)) (.int 0)))))) (.cons (.ret (.bl false)) .nil) .nil) .nil))) .nil)) (.cons (.ret (.bl true)) .nil))))
def f_row_holds : Fn := ⟨4, 12, b_row_holds⟩
abbrev i_row_holds : Nat := 70
def n_row_holds : List Str := ["slab", "pins", "known", "row", "some", "count", "total", "room", "number", "one", "more", "key"]
abbrev p_row_holds : List Str := ["slab", "pins", "known", "row"]
-- NO CORE FORM check_page_rows: method get
-- NO CORE FORM first_steps: dict display
/-- all_arising(slab, pins, most): slab, pins, most -/
def b_all_arising : Sms := (.cons (.ret (.bf .sorted (.cons (.call 72 (.cons (.var 0) (.cons (.call 57 (.cons (.var 0) (.cons (.var 1) .nil))) (.cons (.var 2) .nil)))) .nil))) .nil)
def f_all_arising : Fn := ⟨3, 3, b_all_arising⟩
abbrev i_all_arising : Nat := 73
def n_all_arising : List Str := ["slab", "pins", "most"]
abbrev p_all_arising : List Str := ["slab", "pins", "most"]
/-- fewest_steps(slab, table, pins, most): slab, table, pins, most, found, row, step -/
def b_fewest_steps : Sms := (.cons (.exp (.call 12 (.cons (.var 0) (.cons (.var 1) .nil)))) (.cons (.set (.nm 4) (.call 72 (.cons (.var 0) (.cons (.call 24 (.cons (.var 0) (.cons (.var 1) (.cons (.var 2) .nil)))) (.cons (.var 3) .nil))))) (.cons (.ife (.cmp .notIn (.var 1) (.var 4)) (.cons (.ret .non) .nil) .nil) (.cons (.set (.nm 5) (.new .nil)) (.cons (.whl 1000000 (.notN (.ix (.var 4) (.var 1))) (.cons (.set (.tp (.cons (.nm 1) (.cons (.nm 6) .nil))) (.ix (.var 4) (.var 1))) (.cons (.app (.var 5) (.var 6)) .nil))) (.cons (.ret (.rev (.var 5))) .nil))))))
def f_fewest_steps : Fn := ⟨4, 7, b_fewest_steps⟩
abbrev i_fewest_steps : Nat := 74
def n_fewest_steps : List Str := ["slab", "table", "pins", "most", "found", "row", "step"]
abbrev p_fewest_steps : List Str := ["slab", "table", "pins", "most"]
/-- page_numbers(slab, pins, most): slab, pins, most, found, counts, table -/
def b_page_numbers : Sms := (.cons (.set (.nm 3) (.call 72 (.cons (.var 0) (.cons (.call 57 (.cons (.var 0) (.cons (.var 1) .nil))) (.cons (.var 2) .nil))))) (.cons (.ret (.sset (.comp (.nm 5) (.of (.var 3)) .tt (.bf .tuple (.cons (.comp (.nm 4) (.of (.var 5)) .tt (.bf .len (.cons (.var 4) .nil))) .nil))))) .nil))
def f_page_numbers : Fn := ⟨3, 6, b_page_numbers⟩
abbrev i_page_numbers : Nat := 75
def n_page_numbers : List Str := ["slab", "pins", "most", "found", "counts", "table"]
abbrev p_page_numbers : List Str := ["slab", "pins", "most"]
/-- the program's defs -/
def progF : Nat → Option Fn
  | 0 => some f_is_int
  | 1 => some f_is_from
  | 2 => some f_is_class
  | 3 => some f_Slab___init__
  | 4 => some f_Slab___eq__
  | 5 => some f_Slab___len__
  | 6 => some f_Slab_classes
  | 7 => some f_Slab_limit
  | 8 => some f_Slab_bytes_of
  | 9 => some f_Slab_slots_of
  | 10 => some f_Slab_check_class
  | 11 => some f_live_bytes
  | 12 => some f_check_table
  | 13 => some f_is_table
  | 14 => some f_empty
  | 15 => some f_live
  | 16 => some f_pages
  | 17 => some f_with_counts
  | 18 => some f_choices
  | 19 => some f_steps
  | 20 => some f_is_step
  | 21 => some f_after_step
  | 22 => some f_played
  | 23 => some f_has_pins
  | 24 => some f_check_pins
  | 25 => some f_pinned
  | 26 => some f_held
  | 27 => some f_filled
  | 28 => some f_spare
  | 29 => some f_grown_classes
  | 30 => some f_order_of
  | 31 => some f_first_short
  | 32 => some f_cannot
  | 33 => some f_check_numbers
  | 34 => some f_check_order
  | 35 => some f_raised
  | 36 => some f_lowered
  | 37 => some f_filling
  | 38 => some f_thinning
  | 39 => some f_topping
  | 40 => some f_schedule
  | 41 => some f_shown_by
  | 42 => some f_least_bytes
  | 43 => some f_least_limit
  | 44 => some f_check_limit
  | 45 => some f_with_thin_pages
  | 46 => some f_can_have
  | 47 => some f_most_beside
  | 48 => some f_with_class
  | 49 => some f_with_limit
  | 50 => some f_scaled
  | 51 => some f_check_names
  | 52 => some f_renamed
  | 53 => some f_renamed_table
  | 54 => some f_merged
  | 55 => some f_thinned
  | 56 => some f_without_page
  | 57 => some f_pins_of
  | 58 => some f_count_of
  | 59 => some f_need
  | 60 => some f_additions
  | 62 => some f_table_of
  | 64 => some f_check_pages
  | 65 => some f_refusing_table
  | 66 => some f_refused_at
  | 67 => some f_least_pages
  | 68 => some f_page_rows
  | 69 => some f_is_row
  | 70 => some f_row_holds
  | 73 => some f_all_arising
  | 74 => some f_fewest_steps
  | 75 => some f_page_numbers
  | _ => none
/-- its classes: 100 Slab, below the exceptions -/
def progG : Cls where
  init := fun _ => 3
  eq := fun c => if c = 100 then some 4 else none
  len := fun c => if c = 100 then some 5 else none
  fields := fun c => if c = 100 then 2 else 1
  fpos := fun c f => match c, f with
    | 100, 6 => some 0
    | 100, 5 => some 1
    | 1, 0 => some 0
    | 2, 1 => some 0
    | 3, 0 => some 0
    | 4, 0 => some 0
    | 5, 0 => some 0
    | 6, 2 => some 0
    | 7, 3 => some 0
    | 8, 4 => some 0
    | 9, 0 => some 0
    | 10, 5 => some 0
    | _, _ => none
/-- field names of a class, in the order in which they are stored -/
def progN : Nat → List Str
  | 100 => ["kept", "most"]
  | 1 => ["index"]
  | 2 => ["number"]
  | 3 => ["index"]
  | 4 => ["index"]
  | 5 => ["index"]
  | 6 => ["pins"]
  | 7 => ["numbers"]
  | 8 => ["pages"]
  | 9 => ["index"]
  | 10 => ["most"]
  | _ => []
def excNames : List Str := ["SlabError", "NoSlab", "NoClass", "NoTable", "NoSteps", "NoCertificate", "NoPins", "Stuck", "NoPages", "NoRows", "TooMany"]
def fldNames : List Str := ["index", "number", "pins", "numbers", "pages", "most", "kept"]
end SP
end
section
set_option Elab.async false
set_option linter.all false
set_option autoImplicit false
set_option maxRecDepth 100000
namespace SP
open PySem L2

/-- a list of the module -/
def KL (K : PySem.W.Frag) (a : Addr) (xs : List V) : Prop := ∃ (o : Obj) (its : Array Value) (n : Nat), K.lookup a = some o ∧ o.cls = .type "list" ∧ o.dict = none ∧ o.data = .seq its n ∧ its.size ≤ sizeLine ∧ Vals xs its.toList
/-- a world of the simulation: the cells' addresses, the addresses that never change any more, the abstract heap -/
structure Wd where
  A : List Addr
  F : Addr → Prop
  H : Hp
/-- the next world -/
structure Wd.le (w w' : Wd) : Prop where
  A : ∃ l, w'.A = w.A ++ l
  F : ∀ a, w.F a → w'.F a
  H : ∀ a, w.F a → w'.H a = w.H a
theorem Wd.le.refl (w : Wd) : w.le w := ⟨⟨[], by simp⟩, fun _ h => h, fun _ _ => rfl⟩
theorem Wd.le.trans {a b c : Wd} (h : a.le b) (k : b.le c) : a.le c := by
  obtain ⟨l, e⟩ := h.A
  obtain ⟨m, e'⟩ := k.A
  exact ⟨⟨l ++ m, by rw [e', e, List.append_assoc]⟩, fun x q => k.F x (h.F x q), fun x q => (k.H x (h.F x q)).trans (h.H x q)⟩
/-- the present def's thunk: the function at f, its code object c of the name q, the world in which it was made -/
structure Th where
  f : Addr
  c : Addr
  q : Str
  w0 : Wd
/-- what is known of the classes: a class's address, its fields' names; T: the tables of code objects with the names, cs: code objects with their tables -/
structure Kx where
  K : PySem.W.Frag
  ca : Nat → Option Addr
  oa : Nat → Option Addr
  fnm : Nat → List Str
  T : List (Addr × Str)
  cs : List (Addr × Addr)
  th : Option Th

mutual
/-- v stands for the tree d, all of it frozen -/
def Rep (κ : Kx) (F : Addr → Prop) (H : Hp) : D → V → Prop
  | .non, v => v = .non
  | .bl b, v => v = .bl b
  | .int i, v => v = .int i
  | .str s, v => v = .str s
  | .tup xs, v => ∃ a vs, v = .ref a ∧ F a ∧ H a = some (.tup vs) ∧ Reps κ F H xs vs
  | .lst xs, v => ∃ a vs, v = .ref a ∧ F a ∧ H a = some (.lst vs) ∧ Reps κ F H xs vs
  | .dct ks vs, v => ks = [] ∧ vs = [] ∧ ∃ a, v = .ref a ∧ F a ∧ H a = some (.dK [])
  | .obj c fs, v => ∃ a C dx gs, v = .ref a ∧ F a ∧ F dx ∧ κ.oa c = some C ∧ H a = some (.ins C dx gs) ∧ H dx = some (.own a) ∧ gs.map (·.1) = κ.fnm c ∧ Reps κ F H fs (gs.map (·.2))
  | .exc c fs, v => ∃ a C dx gs, v = .ref a ∧ F a ∧ F dx ∧ κ.ca c = some C ∧ H a = some (exo a C (some dx)) ∧ H dx = some (exd dx gs) ∧ gs.map (·.1) = κ.fnm c ∧ Reps κ F H fs (gs.map (·.2))
  | .loc _, _ => False
  | .clo _ _, _ => False
  | .scr is, v => ∃ a, v = .ref a ∧ ((F a ∧ Rd H a (.lst (is.map V.int))) ∨ KL κ.K a (is.map V.int))
def Reps (κ : Kx) (F : Addr → Prop) (H : Hp) : List D → List V → Prop
  | [], vs => vs = []
  | d :: ds, vs => ∃ v r, vs = v :: r ∧ Rep κ F H d v ∧ Reps κ F H ds r
end
/-- .. or a cell's address -/
def RepL (κ : Kx) (w : Wd) (d : D) (v : V) : Prop := match d with
  | .loc n => ∃ a, w.A[n]? = some a ∧ v = .ref a
  | .clo _ _ => ∃ t, κ.th = some t ∧ v = .ref t.f ∧ t.w0.le w ∧ t.w0.F t.c ∧ t.w0.H t.c = some (LamX.CodeO t.c t.q)
  | d => Rep κ w.F w.H d v
def RepLs (κ : Kx) (w : Wd) : List D → List V → Prop
  | [], vs => vs = []
  | d :: ds, vs => ∃ v r, vs = v :: r ∧ RepL κ w d v ∧ RepLs κ w ds r
theorem rd_eq {H H' : Hp} {a : Addr} {u : HO} (e : H' a = H a) (r : Rd H a u) : Rd H' a u := by
  rcases r with r | ⟨o, r⟩
  · exact .inl (e.trans r)
  · exact .inr ⟨o, e.trans r⟩
section
variable {κ : Kx}
mutual
theorem Rep.mono {F F' : Addr → Prop} {H H' : Hp} (hF : ∀ a, F a → F' a) (hH : ∀ a, F a → H' a = H a) : ∀ (d : D) (v : V), Rep κ F H d v → Rep κ F' H' d v
  | .non, _, h => by simpa [Rep] using h
  | .bl b, _, h => by simpa [Rep] using h
  | .int i, _, h => by simpa [Rep] using h
  | .str s, _, h => by simpa [Rep] using h
  | .tup xs, _, h => by
    simp only [Rep] at h ⊢
    obtain ⟨a, vs, e, f, r, q⟩ := h
    exact ⟨a, vs, e, hF a f, (hH a f).trans r, Reps.mono hF hH xs vs q⟩
  | .lst xs, _, h => by
    simp only [Rep] at h ⊢
    obtain ⟨a, vs, e, f, r, q⟩ := h
    exact ⟨a, vs, e, hF a f, (hH a f).trans r, Reps.mono hF hH xs vs q⟩
  | .dct ks vs, _, h => by
    simp only [Rep] at h ⊢
    obtain ⟨e1, e2, a, e, f, r⟩ := h
    exact ⟨e1, e2, a, e, hF a f, (hH a f).trans r⟩
  | .obj c fs, _, h => by
    simp only [Rep] at h ⊢
    obtain ⟨a, C, dx, gs, e, f, f2, hc, h1, h2, h3, q⟩ := h
    exact ⟨a, C, dx, gs, e, hF a f, hF dx f2, hc, (hH a f).trans h1, (hH dx f2).trans h2, h3, Reps.mono hF hH fs _ q⟩
  | .exc c fs, _, h => by
    simp only [Rep] at h ⊢
    obtain ⟨a, C, dx, gs, e, f, f2, hc, h1, h2, h3, q⟩ := h
    exact ⟨a, C, dx, gs, e, hF a f, hF dx f2, hc, (hH a f).trans h1, (hH dx f2).trans h2, h3, Reps.mono hF hH fs _ q⟩
  | .loc _, _, h => by simp only [Rep] at h
  | .clo _ _, _, h => by simp only [Rep] at h
  | .scr is, _, h => by
    simp only [Rep] at h ⊢
    obtain ⟨a, e, ⟨f, r⟩ | r⟩ := h
    · exact ⟨a, e, .inl ⟨hF a f, rd_eq (hH a f) r⟩⟩
    · exact ⟨a, e, .inr r⟩
theorem Reps.mono {F F' : Addr → Prop} {H H' : Hp} (hF : ∀ a, F a → F' a) (hH : ∀ a, F a → H' a = H a) : ∀ (ds : List D) (vs : List V), Reps κ F H ds vs → Reps κ F' H' ds vs
  | [], _, h => by simpa [Reps] using h
  | d :: ds, _, h => by
    simp only [Reps] at h ⊢
    obtain ⟨v, r, e, q, t⟩ := h
    exact ⟨v, r, e, Rep.mono hF hH d v q, Reps.mono hF hH ds r t⟩
end
theorem RepL.mono {w w' : Wd} (h : w.le w') {d : D} {v : V} (r : RepL κ w d v) : RepL κ w' d v := by
  cases d with
  | loc n =>
    obtain ⟨a, e, q⟩ := r
    obtain ⟨l, el⟩ := h.A
    refine ⟨a, ?_, q⟩
    rw [el, List.getElem?_append_left (by have := List.getElem?_eq_some_iff.mp e; exact this.1)]
    exact e
  | clo l cap =>
    obtain ⟨t, e1, e2, e3, e4, e5⟩ := r
    exact ⟨t, e1, e2, e3.trans h, e4, e5⟩
  | _ => exact Rep.mono h.F h.H _ _ r
theorem RepLs.mono {w w' : Wd} (h : w.le w') : ∀ {ds : List D} {vs : List V}, RepLs κ w ds vs → RepLs κ w' ds vs
  | [], _, r => r
  | _ :: _, _, ⟨v, r, e, q, t⟩ => ⟨v, r, e, q.mono h, RepLs.mono h t⟩
theorem Rep.toL {w : Wd} {d : D} {v : V} (r : Rep κ w.F w.H d v) : RepL κ w d v := by
  cases d with
  | loc n => simp only [Rep] at r
  | clo l cap => simp only [Rep] at r
  | _ => exact r
theorem RepL.rep {w : Wd} {d : D} {v : V} (r : RepL κ w d v) (h : d.noLoc = true) : Rep κ w.F w.H d v := by
  cases d with
  | loc n => simp [D.noLoc] at h
  | clo l cap => simp [D.noLoc] at h
  | _ => exact r
theorem Reps.toL {w : Wd} : ∀ {ds : List D} {vs : List V}, Reps κ w.F w.H ds vs → RepLs κ w ds vs
  | [], _, r => by simpa [Reps, RepLs] using r
  | _ :: _, _, r => by
    simp only [Reps] at r
    obtain ⟨v, t, e, q, z⟩ := r
    exact ⟨v, t, e, q.toL, z.toL⟩
theorem RepLs.reps {w : Wd} : ∀ {ds : List D} {vs : List V}, RepLs κ w ds vs → ds.all D.noLoc = true → Reps κ w.F w.H ds vs
  | [], _, r, _ => by simpa [Reps, RepLs] using r
  | d :: ds, _, ⟨v, t, e, q, z⟩, h => by
    simp only [List.all_cons, Bool.and_eq_true] at h
    simp only [Reps]
    exact ⟨v, t, e, q.rep h.1, z.reps h.2⟩
theorem Reps.length : ∀ {F : Addr → Prop} {H : Hp} {ds : List D} {vs : List V}, Reps κ F H ds vs → vs.length = ds.length
  | _, _, [], _, r => by
    simp only [Reps] at r
    rw [r] <;> rfl
  | _, _, _ :: _, _, r => by
    simp only [Reps] at r
    obtain ⟨v, t, e, _, z⟩ := r
    rw [e, List.length_cons, List.length_cons, z.length]
theorem RepLs.length {w : Wd} : ∀ {ds : List D} {vs : List V}, RepLs κ w ds vs → vs.length = ds.length
  | [], _, r => by
    have r : _ = _ := r
    rw [r] <;> rfl
  | _ :: _, _, ⟨v, t, e, _, z⟩ => by rw [e, List.length_cons, List.length_cons, z.length]
theorem RepLs.get {w : Wd} : ∀ {ds : List D} {vs : List V} {i : Nat} {d : D}, RepLs κ w ds vs → ds[i]? = some d → ∃ v, vs[i]? = some v ∧ RepL κ w d v
  | [], _, _, _, _, e => by simp at e
  | _ :: _, _, 0, _, ⟨v, t, e, q, _⟩, e' => by
    simp at e'
    subst e'
    exact ⟨v, by rw [e] <;> rfl, q⟩
  | _ :: _, _, i + 1, d, ⟨v, t, e, _, z⟩, e' => by
    obtain ⟨u, h1, h2⟩ := z.get (i := i) (d := d) (by simpa using e')
    exact ⟨u, by rw [e]; simpa using h1, h2⟩
theorem Reps.append {F : Addr → Prop} {H : Hp} : ∀ {ds es : List D} {vs us : List V}, Reps κ F H ds vs → Reps κ F H es us → Reps κ F H (ds ++ es) (vs ++ us)
  | [], _, _, _, r, s => by
    simp only [Reps] at r
    rw [r]
    exact s
  | _ :: _, _, _, us, r, s => by
    simp only [Reps] at r
    obtain ⟨v, t, e, q, z⟩ := r
    simp only [List.cons_append, Reps]
    exact ⟨v, t ++ us, by rw [e] <;> rfl, q, z.append s⟩
theorem Reps.get {F : Addr → Prop} {H : Hp} : ∀ {ds : List D} {vs : List V} {i : Nat} {d : D}, Reps κ F H ds vs → ds[i]? = some d → ∃ v, vs[i]? = some v ∧ Rep κ F H d v
  | [], _, _, _, _, e => by simp at e
  | _ :: _, _, 0, _, r, e' => by
    simp only [Reps] at r
    obtain ⟨v, t, e, q, _⟩ := r
    simp at e'
    subst e'
    exact ⟨v, by rw [e] <;> rfl, q⟩
  | _ :: _, _, i + 1, d, r, e' => by
    simp only [Reps] at r
    obtain ⟨v, t, e, _, z⟩ := r
    obtain ⟨u, h1, h2⟩ := z.get (i := i) (d := d) (by simpa using e')
    exact ⟨u, by rw [e]; simpa using h1, h2⟩
theorem Reps.drop {F : Addr → Prop} {H : Hp} : ∀ {ds : List D} {vs : List V} (n : Nat), Reps κ F H ds vs → Reps κ F H (ds.drop n) (vs.drop n)
  | _, _, 0, r => r
  | [], _, n + 1, r => by
    simp only [Reps] at r
    rw [r]
    simp [Reps]
  | _ :: _, _, n + 1, r => by
    simp only [Reps] at r
    obtain ⟨v, t, e, _, z⟩ := r
    rw [e]
    exact z.drop n
theorem Reps.take {F : Addr → Prop} {H : Hp} : ∀ {ds : List D} {vs : List V} (n : Nat), Reps κ F H ds vs → Reps κ F H (ds.take n) (vs.take n)
  | _, _, 0, r => by simp [Reps]
  | [], _, n + 1, r => by
    simp only [Reps] at r
    rw [r]
    simp [Reps]
  | _ :: _, _, n + 1, r => by
    simp only [Reps] at r
    obtain ⟨v, t, e, q, z⟩ := r
    rw [e]
    simp only [List.take_succ_cons, Reps]
    exact ⟨v, t.take n, rfl, q, z.take n⟩
theorem Reps.cut {F : Addr → Prop} {H : Hp} {ds : List D} {vs : List V} (lo hi : Option Int) (r : Reps κ F H ds vs) : Reps κ F H (cutL ds lo hi) (cutV vs lo hi) := by
  unfold cutL cutV
  rw [r.length]
  exact (r.drop _).take _
theorem Reps.set {F : Addr → Prop} {H : Hp} {d : D} {v : V} (q : Rep κ F H d v) : ∀ {ds : List D} {vs : List V} (i : Nat), Reps κ F H ds vs → Reps κ F H (ds.set i d) (vs.set i v)
  | [], _, _, r => by
    simp only [Reps] at r
    rw [r]
    simp [Reps]
  | _ :: _, _, 0, r => by
    simp only [Reps] at r
    obtain ⟨u, t, e, _, z⟩ := r
    rw [e]
    simp only [List.set_cons_zero, Reps]
    exact ⟨v, t, rfl, q, z⟩
  | _ :: _, _, i + 1, r => by
    simp only [Reps] at r
    obtain ⟨u, t, e, p, z⟩ := r
    rw [e]
    simp only [List.set_cons_succ, Reps]
    exact ⟨u, t.set i v, rfl, p, z.set q i⟩
theorem Reps.cons {F : Addr → Prop} {H : Hp} {d : D} {v : V} {ds : List D} {vs : List V} (q : Rep κ F H d v) (r : Reps κ F H ds vs) : Reps κ F H (d :: ds) (v :: vs) := by
  simp only [Reps]
  exact ⟨v, vs, rfl, q, r⟩
theorem Reps.nil {F : Addr → Prop} {H : Hp} : Reps κ F H [] [] := by simp [Reps]
theorem Reps.rev {F : Addr → Prop} {H : Hp} : ∀ {ds : List D} {vs : List V}, Reps κ F H ds vs → Reps κ F H ds.reverse vs.reverse
  | [], _, r => by
    simp only [Reps] at r
    rw [r]
    exact .nil
  | _ :: _, _, r => by
    simp only [Reps] at r
    obtain ⟨v, t, e, q, z⟩ := r
    rw [e, List.reverse_cons, List.reverse_cons]
    exact z.rev.append (.cons q .nil)
theorem Reps.rep {F : Addr → Prop} {H : Hp} {ds : List D} {vs : List V} (r : Reps κ F H ds vs) : ∀ n : Nat, Reps κ F H (List.replicate n ds).flatten (List.replicate n vs).flatten
  | 0 => by simp [Reps]
  | n + 1 => by
    simp only [List.replicate_succ, List.flatten_cons]
    exact r.append (Reps.rep r n)
theorem Reps.nil_iff {F : Addr → Prop} {H : Hp} {ds : List D} {vs : List V} (r : Reps κ F H ds vs) : vs = [] ↔ ds = [] := by
  have := r.length
  constructor
  · intro e; rw [e] at this; exact List.eq_nil_of_length_eq_zero this.symm
  · intro e; rw [e] at this; exact List.eq_nil_of_length_eq_zero this
theorem RepLs.nil {w : Wd} : RepLs κ w [] [] := rfl
theorem RepLs.cons {w : Wd} {d : D} {v : V} {ds : List D} {vs : List V} (q : RepL κ w d v) (r : RepLs κ w ds vs) : RepLs κ w (d :: ds) (v :: vs) := ⟨v, vs, rfl, q, r⟩
/-- ints -/
theorem Reps.intsD {F : Addr → Prop} {H : Hp} : ∀ {ds : List D} {vs : List V} {is : List Int}, Reps κ F H ds vs → SP.intsD ds = some is → vs = is.map V.int
  | [], _, _, r, e => by
    simp only [Reps] at r
    simp only [SP.intsD, Option.some.injEq] at e
    rw [r, ← e] <;> rfl
  | d :: ds, _, is, r, e => by
    simp only [Reps] at r
    obtain ⟨v, t, e1, q, z⟩ := r
    cases d with
    | int i =>
      simp only [SP.intsD] at e
      cases h : SP.intsD ds with
      | none => rw [h] at e; cases e
      | some js =>
        rw [h] at e
        simp only [Option.map_some, Option.some.injEq] at e
        have q' : v = .int i := by simpa [Rep] using q
        rw [e1, q', ← e, z.intsD h] <;> rfl
    | _ => simp [SP.intsD] at e
theorem Reps.boolsD {F : Addr → Prop} {H : Hp} : ∀ {ds : List D} {vs : List V} {is : List Bool}, Reps κ F H ds vs → SP.boolsD ds = some is → vs = is.map V.bl
  | [], _, _, r, e => by
    simp only [Reps] at r
    simp only [SP.boolsD, Option.some.injEq] at e
    rw [r, ← e] <;> rfl
  | d :: ds, _, is, r, e => by
    simp only [Reps] at r
    obtain ⟨v, t, e1, q, z⟩ := r
    cases d with
    | bl i =>
      simp only [SP.boolsD] at e
      cases h : SP.boolsD ds with
      | none => rw [h] at e; cases e
      | some js =>
        rw [h] at e
        simp only [Option.map_some, Option.some.injEq] at e
        have q' : v = .bl i := by simpa [Rep] using q
        rw [e1, q', ← e, z.boolsD h] <;> rfl
    | _ => simp [SP.boolsD] at e
theorem Reps.ofInts {F : Addr → Prop} {H : Hp} : ∀ is : List Int, Reps κ F H (is.map .int) (is.map V.int)
  | [] => by simp [Reps]
  | i :: is => by
    simp only [List.map_cons, Reps]
    exact ⟨_, _, rfl, by simp [Rep], Reps.ofInts is⟩

/-! ### cells -/
/-- what a cell is in the heap -/
def CellR (κ : Kx) (w : Wd) (c : Cell) (a : Addr) : Prop := match c with
  | .lst xs => ∃ vs, w.H a = some (.lst vs) ∧ Reps κ w.F w.H xs vs
  | .dct _ _ => False
  | .ins c fs => ∃ C dx gs, κ.oa c = some C ∧ w.H a = some (.ins C dx gs) ∧ w.H dx = some (.own a) ∧ ¬ w.F dx ∧ fs.length = (κ.fnm c).length ∧
      ∃ ds, fs = ds.map some ++ List.replicate (fs.length - ds.length) none ∧ ds.length ≤ fs.length ∧ gs.map (·.1) = (κ.fnm c).take ds.length ∧ Reps κ w.F w.H ds (gs.map (·.2))
def NotOT (o : HO) : Prop := (∀ b, o ≠ HO.own b) ∧ ∀ ps, o ≠ HO.tbl ps
structure HRel (κ : Kx) (w : Wd) (S : Store) : Prop where
  tab : LamX.Tabs κ.T w.H
  ntb : ∀ a ps, w.F a → w.H a ≠ some (.tbl ps)
  len : w.A.length = S.length
  nd : w.A.Nodup
  here : ∀ a ∈ w.A, ∃ o, w.H a = some o ∧ NotOT o
  fr : ∀ a, w.F a → ∃ o, w.H a = some o
  cl : ∀ (n : Nat) (c : Cell), S[n]? = some (some c) → ∃ a, w.A[n]? = some a ∧ ¬ w.F a ∧ CellR κ w c a
/-- the slots -/
structure SRel (κ : Kx) (w : Wd) (ρ : Env) (σ : St) : Prop where
  len : σ.length = ρ.length
  at_ : ∀ (i : Nat) (d : D), ρ[i]? = some (some d) → ∃ v, σ[i]? = some (some v) ∧ RepL κ w d v
theorem SRel.mono {w w' : Wd} {ρ : Env} {σ : St} (r : SRel κ w ρ σ) (h : w.le w') : SRel κ w' ρ σ := ⟨r.len, fun i d e => let ⟨v, a, b⟩ := r.at_ i d e; ⟨v, a, b.mono h⟩⟩
theorem SRel.set {w : Wd} {ρ : Env} {σ : St} (r : SRel κ w ρ σ) {d : D} {v : V} (q : RepL κ w d v) (i : Nat) : SRel κ w (ρ.set i (some d)) (σ.set i (some v)) := by
  refine ⟨by simp [r.len], fun j e h => ?_⟩
  by_cases hj : i = j
  · subst hj
    by_cases hi : i < ρ.length
    · rw [List.getElem?_set_self hi] at h
      cases h
      exact ⟨v, List.getElem?_set_self (by rw [r.len]; exact hi), q⟩
    · rw [List.getElem?_eq_none (by simpa using hi)] at h
      cases h
  · rw [List.getElem?_set_ne hj] at h ⊢
    exact r.at_ j e h
theorem SRel.unset {w : Wd} {ρ : Env} {σ : St} (r : SRel κ w ρ σ) (i : Nat) (o : Option V) : SRel κ w (ρ.set i none) (σ.set i o) := by
  refine ⟨by simp [r.len], fun j e h => ?_⟩
  by_cases hj : i = j
  · subst hj
    by_cases hi : i < ρ.length
    · rw [List.getElem?_set_self hi] at h
      cases h
    · rw [List.getElem?_eq_none (by simpa using hi)] at h
      cases h
  · rw [List.getElem?_set_ne hj] at h ⊢
    exact r.at_ j e h
end
end SP
end
section
set_option Elab.async false
set_option linter.all false
set_option autoImplicit false
set_option maxRecDepth 100000
namespace SP
open PySem PySem.Spec L2
section
variable {κ : Kx}
/-! ### steps of the world -/
theorem CellR.mono {w w' : Wd} {c : Cell} {a : Addr} (h : CellR κ w c a) (le : w.le w') (same : ∀ b o, w.H b = some o → ¬ w.F b → w'.H b = some o) (nf : ∀ b o, w.H b = some o → ¬ w.F b → ¬ w'.F b) (ha : ¬ w.F a) : CellR κ w' c a := by
  cases c with
  | lst xs =>
    obtain ⟨vs, e, r⟩ := h
    exact ⟨vs, same a _ e ha, Reps.mono le.F le.H _ _ r⟩
  | dct ks vs => exact h
  | ins c fs =>
    obtain ⟨C, dx, gs, hc, e1, e2, f, hl, ds, h1, h2, h3, h4⟩ := h
    exact ⟨C, dx, gs, hc, same a _ e1 ha, same dx _ e2 f, nf dx _ e2 f, hl, ds, h1, h2, h3, Reps.mono le.F le.H _ _ h4⟩
/-- the heap grows, F grows by new things -/
theorem HRel.ext {w w' : Wd} {S : Store} (h : HRel κ w S) (eA : w'.A = w.A) (le : w.le w') (same : ∀ b o, w.H b = some o → w'.H b = some o) (nf : ∀ b o, w.H b = some o → ¬ w.F b → ¬ w'.F b) (fr : ∀ a, w'.F a → ∃ o, w'.H a = some o) (nt : ∀ a ps, w'.F a → w'.H a ≠ some (.tbl ps)) : HRel κ w' S where
  tab := h.tab.ext same
  ntb := nt
  len := by rw [eA]; exact h.len
  nd := by rw [eA]; exact h.nd
  here := fun a ha => by
    rw [eA] at ha
    obtain ⟨o, e, n⟩ := h.here a ha
    exact ⟨o, same a o e, n⟩
  fr := fr
  cl := fun n c e => by
    obtain ⟨a, e1, e2, e3⟩ := h.cl n c e
    obtain ⟨o, eo, _⟩ := h.here a (List.mem_of_getElem? e1)
    exact ⟨a, by rw [eA]; exact e1, nf a o eo e2, e3.mono le (fun b o q _ => same b o q) nf e2⟩
def Wd.tree (w : Wd) (p : Addr) (o : HO) : Wd := ⟨w.A, fun a => w.F a ∨ a = p, upd w.H p o⟩
theorem upd_old {H : Hp} {p b : Addr} {o u : HO} (hp : H p = none) (e : H b = some u) : upd H p o b = some u := by
  rw [upd_ne (ne_of_none e hp)]
  exact e
theorem HRel.freshF {w : Wd} {S : Store} (h : HRel κ w S) {p : Addr} (hp : w.H p = none) : ¬ w.F p := fun f => by
  obtain ⟨o, e⟩ := h.fr p f
  rw [hp] at e
  cases e
theorem HRel.le_tree {w : Wd} {S : Store} (h : HRel κ w S) {p : Addr} (hp : w.H p = none) (o : HO) : w.le (w.tree p o) :=
  ⟨⟨[], by simp [Wd.tree]⟩, fun _ f => .inl f, fun a f => upd_ne fun z => h.freshF hp (z ▸ f)⟩
theorem HRel.tree {w : Wd} {S : Store} (h : HRel κ w S) {p : Addr} (hp : w.H p = none) (o : HO) (no : ∀ ps, o ≠ .tbl ps := by intro _ z; cases z) : HRel κ (w.tree p o) S :=
  h.ext rfl (h.le_tree hp o) (fun b u e => upd_old hp e) (fun b u e nb z => z.elim nb fun z => by rw [z, hp] at e; cases e) (fun a f => by
    rcases f with f | f
    · obtain ⟨u, e⟩ := h.fr a f
      exact ⟨u, upd_old hp e⟩
    · rw [f]
      exact ⟨o, upd_same⟩) (fun a ps f e => by
    rcases f with f | f
    · exact h.ntb a ps f (((h.le_tree hp o).H a f).symm.trans e)
    · subst f
      have e2 : upd w.H a o a = some (.tbl ps) := e
      rw [upd_same] at e2
      exact no ps (Option.some.inj e2))
def Wd.cell (w : Wd) (p : Addr) (o : HO) : Wd := ⟨w.A ++ [p], w.F, upd w.H p o⟩
theorem HRel.le_cell {w : Wd} {S : Store} (h : HRel κ w S) {p : Addr} (hp : w.H p = none) (o : HO) : w.le (w.cell p o) :=
  ⟨⟨[p], rfl⟩, fun _ f => f, fun a f => upd_ne fun z => h.freshF hp (z ▸ f)⟩
theorem HRel.freshA {w : Wd} {S : Store} (h : HRel κ w S) {p : Addr} (hp : w.H p = none) : p ∉ w.A := fun z => by
  obtain ⟨o, e, _⟩ := h.here p z
  rw [hp] at e
  cases e
theorem HRel.cell {w : Wd} {S : Store} (h : HRel κ w S) {p : Addr} (hp : w.H p = none) {o : HO} {c : Cell} (hc : CellR κ (w.cell p o) c p) : HRel κ (w.cell p o) (S ++ [some c]) where
  tab := h.tab.ext fun b u e => upd_old hp e
  ntb := fun a ps f e => h.ntb a ps f (((h.le_cell hp o).H a f).symm.trans e)
  len := by simp [Wd.cell, h.len]
  nd := List.nodup_append.mpr ⟨h.nd, by simp, fun a ha b hb => by
    simp only [List.mem_singleton] at hb
    subst hb
    exact fun z => h.freshA hp (z ▸ ha)⟩
  here := fun a ha => by
    rcases List.mem_append.mp ha with q | q
    · obtain ⟨u, e, n⟩ := h.here a q
      exact ⟨u, upd_old hp e, n⟩
    · simp only [List.mem_singleton] at q
      rw [q]
      have e0 : (w.cell p o).H p = some o := upd_same
      refine ⟨o, upd_same, ?_⟩
      cases c with
      | lst xs =>
        obtain ⟨vs, q1, _⟩ := hc
        rw [e0] at q1
        cases q1
        exact ⟨nofun, nofun⟩
      | dct ks vs => exact hc.elim
      | ins c fs =>
        obtain ⟨C, dx, gs, _, q1, _⟩ := hc
        rw [e0] at q1
        cases q1
        exact ⟨nofun, nofun⟩
  fr := fun a f => by
    obtain ⟨u, e⟩ := h.fr a f
    exact ⟨u, upd_old hp e⟩
  cl := fun n c' e => by
    by_cases hn : n < S.length
    · rw [List.getElem?_append_left hn] at e
      obtain ⟨a, e1, e2, e3⟩ := h.cl n c' e
      refine ⟨a, ?_, e2, e3.mono (h.le_cell hp o) (fun b u q _ => upd_old hp q) (fun _ _ _ z => z) e2⟩
      show (w.A ++ [p])[n]? = some a
      rw [List.getElem?_append_left (by rw [h.len]; exact hn)]
      exact e1
    · have hlt : n < (S ++ [some c]).length := (List.getElem?_eq_some_iff.mp e).1
      have hn2 : n = S.length := by simp at hlt; omega
      subst hn2
      rw [List.getElem?_append_right (Nat.le_refl _)] at e
      simp at e
      subst e
      refine ⟨p, ?_, h.freshF hp, hc⟩
      show (w.A ++ [p])[S.length]? = some p
      rw [List.getElem?_append_right (by rw [h.len]; exact Nat.le_refl _), h.len]
      simp
def Wd.frz (w : Wd) (a : Addr) : Wd := ⟨w.A, fun b => w.F b ∨ b = a, w.H⟩
theorem Wd.le_frz (w : Wd) (a : Addr) : w.le (w.frz a) := ⟨⟨[], by simp [Wd.frz]⟩, fun _ f => .inl f, fun _ _ => rfl⟩
/-- a list cell is frozen -/
theorem HRel.frz {w : Wd} {S : Store} (h : HRel κ w S) {n : Nat} {a : Addr} {vs : List V} (ea : w.A[n]? = some a) (el : w.H a = some (.lst vs)) : HRel κ (w.frz a) (S.set n none) where
  tab := h.tab
  ntb := fun b ps f e => by
    rcases f with f | f
    · exact h.ntb b ps f e
    · subst f
      have e : w.H b = _ := e
      rw [el] at e
      cases e
  len := by simp [Wd.frz, h.len]
  nd := h.nd
  here := h.here
  fr := fun b f => by
    rcases f with f | f
    · exact h.fr b f
    · rw [f]
      exact ⟨_, el⟩
  cl := fun m c e => by
    by_cases hm : n = m
    · subst hm
      by_cases hn : n < S.length
      · rw [List.getElem?_set_self hn] at e; cases e
      · rw [List.getElem?_eq_none (by simpa using hn)] at e; cases e
    · rw [List.getElem?_set_ne hm] at e
      obtain ⟨b, e1, e2, e3⟩ := h.cl m c e
      have hab : b ≠ a := fun z => by
        subst z
        exact hm ((List.getElem?_inj (i := n) (j := m) (List.getElem?_eq_some_iff.mp ea).1 h.nd).mp (by rw [ea, e1]))
      refine ⟨b, e1, fun z => z.elim e2 hab, ?_⟩
      cases c with
      | lst xs =>
        obtain ⟨us, q1, q2⟩ := e3
        exact ⟨us, q1, Reps.mono (w.le_frz a).F (w.le_frz a).H _ _ q2⟩
      | dct ks us => exact e3
      | ins c fs =>
        obtain ⟨C, dx, gs, hc, q1, q2, f, hl, ds, h1, h2, h3, h4⟩ := e3
        refine ⟨C, dx, gs, hc, q1, q2, fun z => z.elim f fun z => ?_, hl, ds, h1, h2, h3, Reps.mono (w.le_frz a).F (w.le_frz a).H _ _ h4⟩
        have q2' : w.H dx = some (.own b) := q2
        rw [z, el] at q2'
        cases q2'
theorem tabs_write {H : Hp} {T : List (Addr × Str)} {a : Addr} {o u : HO} (t : LamX.Tabs T H) (e : H a = some o) (n1 : ∀ ps, o ≠ .tbl ps) (n2 : ∀ c q, o ≠ LamX.CodeO c q) : LamX.Tabs T (upd H a u) := fun p hp => by
  obtain ⟨ps, h1, h2, h3⟩ := t p hp
  have k : ∀ b v, H b = some v → (∃ ps, v = .tbl ps) ∨ (∃ c q, v = LamX.CodeO c q) → upd H a u b = some v := fun b v ev hv => by
    rw [upd_ne]
    · exact ev
    · rintro rfl
      rw [e] at ev
      cases ev
      rcases hv with ⟨ps, z⟩ | ⟨c, q, z⟩
      · exact n1 ps z
      · exact n2 c q z
  refine ⟨ps, k _ _ h1 (.inl ⟨_, rfl⟩), h2, fun pos cv hc => ?_⟩
  obtain ⟨c, e1, e2⟩ := h3 pos cv hc
  exact ⟨c, e1, k _ _ e2 (.inr ⟨_, _, rfl⟩)⟩
def Wd.write (w : Wd) (a : Addr) (o : HO) : Wd := ⟨w.A, w.F, upd w.H a o⟩
theorem Wd.le_write {w : Wd} {a : Addr} (o : HO) (ha : ¬ w.F a) : w.le (w.write a o) := ⟨⟨[], by simp [Wd.write]⟩, fun _ f => f, fun b f => upd_ne fun z => ha (z ▸ f)⟩
/-- a list cell gets another content -/
theorem HRel.write {w : Wd} {S : Store} (h : HRel κ w S) {n : Nat} {a : Addr} {vs us : List V} {c : Cell} (ea : w.A[n]? = some a) (ha : ¬ w.F a) (el : w.H a = some (.lst vs)) (hc : CellR κ (w.write a (.lst us)) c a) : HRel κ (w.write a (.lst us)) (S.set n (some c)) where
  tab := tabs_write h.tab el (fun _ => nofun) (fun _ _ => nofun)
  ntb := fun b ps f e => h.ntb b ps f ((upd_ne fun z => by rw [z] at f; exact ha f).symm.trans e)
  len := by simp [Wd.write, h.len]
  nd := h.nd
  here := fun b hb => by
    by_cases e : b = a
    · rw [e]; exact ⟨_, upd_same, nofun, nofun⟩
    · obtain ⟨o, q, n⟩ := h.here b hb
      exact ⟨o, (upd_ne e).trans q, n⟩
  fr := fun b f => by
    obtain ⟨o, q⟩ := h.fr b f
    exact ⟨o, (upd_ne fun z => by rw [z] at f; exact ha f).trans q⟩
  cl := fun m c' e => by
    by_cases hm : n = m
    · subst hm
      have hn : n < S.length := by
        have := (List.getElem?_eq_some_iff.mp ea).1
        rw [h.len] at this
        exact this
      rw [List.getElem?_set_self hn] at e
      cases e
      exact ⟨a, ea, ha, hc⟩
    · rw [List.getElem?_set_ne hm] at e
      obtain ⟨b, e1, e2, e3⟩ := h.cl m c' e
      have hab : b ≠ a := fun z => by
        subst z
        exact hm ((List.getElem?_inj (i := n) (j := m) (List.getElem?_eq_some_iff.mp ea).1 h.nd).mp (by rw [ea, e1]))
      refine ⟨b, e1, e2, ?_⟩
      have le := Wd.le_write (w := w) (.lst us) ha
      cases c' with
      | lst xs =>
        obtain ⟨us', q1, q2⟩ := e3
        exact ⟨us', (upd_ne hab).trans q1, Reps.mono le.F le.H _ _ q2⟩
      | dct ks us => exact e3
      | ins c fs =>
        obtain ⟨C, dx, gs, hc, q1, q2, f, hl, ds, h1, h2, h3, h4⟩ := e3
        refine ⟨C, dx, gs, hc, (upd_ne hab).trans q1, (upd_ne fun z => ?_).trans q2, f, hl, ds, h1, h2, h3, Reps.mono le.F le.H _ _ h4⟩
        rw [z, el] at q2
        cases q2

/-! ### what an evaluation leaves -/
/-- an exception: its class, its dict -/
def ExR (κ : Kx) (w : Wd) (c : Nat) (fs : List D) (cls : Value) (dd : Option Addr) : Prop :=
  0 < c ∧ ∃ C d gs, κ.ca c = some C ∧ cls = .ref C ∧ dd = some d ∧ w.F d ∧ w.H d = some (.xd gs) ∧ gs.map (·.1) = κ.fnm c ∧ Reps κ w.F w.H fs (gs.map (·.2))
def Aft {α : Type} (κ : Kx) (W : WX) (σ : St) (w : Wd) (r : R α) (P : Wd → Store → α → Prop) : Prop := match r with
  | .ok a S => ∀ w', w.le w' → HRel κ w' S → P w' S a
  | .ex c fs S => ∀ w', w.le w' → HRel κ w' S → ∀ cls dd, ExR κ w' c fs cls dd → W cls dd σ w'.H
  | .bad => False
theorem Aft.mono {α : Type} {W : WX} {σ : St} {w w' : Wd} {r : R α} {P : Wd → Store → α → Prop} (h : Aft κ W σ w r P) (le : w.le w') : Aft κ W σ w' r P := by
  cases r with
  | ok a S => exact fun w2 l2 hr => h w2 (le.trans l2) hr
  | ex c fs S => exact fun w2 l2 hr => h w2 (le.trans l2) hr
  | bad => exact h
theorem Aft.imp {α : Type} {W : WX} {σ : St} {w : Wd} {r : R α} {P P' : Wd → Store → α → Prop} (h : Aft κ W σ w r P) (hp : ∀ w' S a, w.le w' → HRel κ w' S → r = .ok a S → P w' S a → P' w' S a) : Aft κ W σ w r P' := by
  cases r with
  | ok a S => exact fun w2 l2 hr => hp w2 S a l2 hr rfl (h w2 l2 hr)
  | ex c fs S => exact h
  | bad => exact h
theorem Aft.bind {α β : Type} {W : WX} {σ : St} {w : Wd} {r : R α} {f : α → Store → R β} {P : Wd → Store → β → Prop} (h : Aft κ W σ w (r.bind f) P) : Aft κ W σ w r (fun w' S a => Aft κ W σ w' (f a S) P) := by
  cases r with
  | ok a S => exact fun w2 l2 _ => Aft.mono (r := f a S) h l2
  | ex c fs S => exact h
  | bad => exact h
def Fin_ (κ : Kx) (Q : VK) : Wd → Store → D → Prop := fun w _ d => ∀ v, RepL κ w d v → Q v w.H
def FinL (κ : Kx) (Q : List V → Hp → Prop) : Wd → Store → List D → Prop := fun w _ ds => ∀ vs, RepLs κ w ds vs → Q vs w.H
/-- the reading of an expression that f evaluates -/
def tX (κ : Kx) (W : WX) (f : Env → Store → R D) : TE := fun σ H Q => ∃ w ρ S, w.H = H ∧ HRel κ w S ∧ SRel κ w ρ σ ∧ Aft κ W σ w (f ρ S) (Fin_ κ Q)
def tXs (κ : Kx) (W : WX) (f : Env → Store → R (List D)) : TA := fun σ H Q => ∃ w ρ S, w.H = H ∧ HRel κ w S ∧ SRel κ w ρ σ ∧ Aft κ W σ w (f ρ S) (FinL κ Q)
theorem tX_imp {W : WX} {f : Env → Store → R D} {σ : St} {H : Hp} {Q Q' : VK} (h : tX κ W f σ H Q) (hq : ∀ v H, Q v H → Q' v H) : tX κ W f σ H Q' := by
  obtain ⟨w, ρ, S, e, hr, sr, a⟩ := h
  exact ⟨w, ρ, S, e, hr, sr, a.imp fun w' S' d _ _ _ p v rv => hq v _ (p v rv)⟩
theorem tX_bind {α : Type} {W : WX} {fa : Env → Store → R D} {g : D → Store → R α} {w : Wd} {ρ : Env} {S : Store} {σ : St} {P : Wd → Store → α → Prop} {Q' : VK} (hr : HRel κ w S) (sr : SRel κ w ρ σ) (h : Aft κ W σ w ((fa ρ S).bind g) P)
    (hq : ∀ w' S' d v, w.le w' → HRel κ w' S' → fa ρ S = .ok d S' → RepL κ w' d v → Aft κ W σ w' (g d S') P → Q' v w'.H) : tX κ W fa σ w.H Q' :=
  ⟨w, ρ, S, rfl, hr, sr, h.bind.imp fun w' S' d le hr' e a v rv => hq w' S' d v le hr' e rv a⟩
theorem pe_imp {X : Cx} {e : Expr} {t t' : TE} (h : PE X e t) (hi : ∀ σ H Q, t' σ H Q → t σ H Q) : PE X e t' := ⟨fun pins s σ H Q I q => h.run pins s σ H Q I (hi σ H Q q)⟩
theorem pt_imp {X : Cx} {e : Expr} {t t' : TT} (h : PT X e t) (hi : ∀ σ H Q, t' σ H Q → t σ H Q) : PT X e t' := ⟨fun pins s σ H Q I q => h.run pins s σ H Q I (hi σ H Q q)⟩
theorem pa_imp {X : Cx} {e : List Expr} {t t' : TA} (h : PA X e t) (hi : ∀ σ H Q, t' σ H Q → t σ H Q) : PA X e t' := ⟨fun pos pins s σ H Q I q => h.run pos pins s σ H Q I (hi σ H Q q)⟩
/-- the judgement: e is evaluated by f -/
def JE (κ : Kx) (X : Cx) (e : Expr) (f : Env → Store → R D) : Prop := ∀ W, Takes X W → PE X e (tX κ W f)
def JA (κ : Kx) (X : Cx) (es : List Expr) (f : Env → Store → R (List D)) : Prop := ∀ W, Takes X W → PA X es (tXs κ W f)

/-! ### two-place operations by values -/
def rD2 (κ : Kx) (g : Store → D → D → Option D) : R2 := fun x y H Q => ∃ w S d1 d2, w.H = H ∧ HRel κ w S ∧ RepL κ w d1 x ∧ RepL κ w d2 y ∧ ∃ d, g S d1 d2 = some d ∧ ∀ w', w.le w' → HRel κ w' S → Fin_ κ Q w' S d
theorem pe_op2 {X : Cx} {a b e : Expr} {op : Value → Value → Sem Value} {fa fb : Env → Store → R D} {g : Store → D → D → Option D} (ha : JE κ X a fa) (hb : JE κ X b fb)
    (h : ∀ {r : R2} {ta tb : TE}, OpR X op r → PE X a ta → PE X b tb → PE X e (tOp r ta tb)) (ho : OpR X op (rD2 κ g)) :
    JE κ X e (fun ρ S => (fa ρ S).bind fun x S1 => (fb ρ S1).bind fun y S2 => .opt S2 (g S2 x y)) := by
  intro W tk
  refine pe_imp (h ho (ha W tk) (hb W tk)) fun σ H Q q => ?_
  obtain ⟨w, ρ, S, rfl, hr, sr, a⟩ := q
  refine tX_bind hr sr a fun w1 S1 d1 v1 le1 hr1 _ r1 a1 => ?_
  refine tX_bind hr1 (sr.mono le1) a1 fun w2 S2 d2 v2 le2 hr2 _ r2 a2 => ?_
  cases e : g S2 d1 d2 with
  | none => rw [e] at a2; exact a2.elim
  | some d =>
    rw [e] at a2
    exact ⟨w2, S2, d1, d2, rfl, hr2, r1.mono le2, r2, d, e, fun w' le hr' => a2 w' le hr'⟩

/-- a value's content as it may be read -/
def See (κ : Kx) (w : Wd) (d : D) (x : V) : Prop := match d with
  | .lst xs => ∃ a vs, x = .ref a ∧ w.H a = some (.lst vs) ∧ Reps κ w.F w.H xs vs
  | d => RepL κ w d x
theorem RepL.see {w : Wd} {d : D} {x : V} (r : RepL κ w d x) : See κ w d x := by
  cases d with
  | lst xs =>
    have r' : Rep κ w.F w.H (.lst xs) x := r
    simp only [Rep] at r'
    obtain ⟨a, vs, e, _, rd, q⟩ := r'
    exact ⟨a, vs, e, rd, q⟩
  | _ => exact r
theorem see_rd {w : Wd} {S : Store} {d : D} {x : V} (h : HRel κ w S) (r : RepL κ w d x) : See κ w (rdD S d) x := by
  cases d with
  | loc n =>
    obtain ⟨a, ea, ex⟩ := r
    simp only [rdD]
    cases e : S[n]? with
    | none => exact ⟨a, ea, ex⟩
    | some o =>
      cases o with
      | none => exact ⟨a, ea, ex⟩
      | some c =>
        obtain ⟨b, e1, e2, e3⟩ := h.cl n c e
        rw [ea] at e1
        cases e1
        cases c with
        | lst xs =>
          obtain ⟨vs, q1, q2⟩ := e3
          exact ⟨a, vs, ex, q1, q2⟩
        | dct ks vs => exact e3.elim
        | ins c fs => exact ⟨a, ea, ex⟩
  | _ => exact r.see
theorem See.tup {w : Wd} {xs : List D} {x : V} (r : See κ w (.tup xs) x) : ∃ a vs, x = .ref a ∧ w.F a ∧ w.H a = some (.tup vs) ∧ Reps κ w.F w.H xs vs := by
  have r' : Rep κ w.F w.H (.tup xs) x := r
  simp only [Rep] at r'
  exact r'
/-- a new tree -/
theorem fin_tree {w : Wd} {S : Store} {Q : VK} {d : D} {p : Addr} {o : HO} (hr : HRel κ w S) (q : ∀ w', w.le w' → HRel κ w' S → Fin_ κ Q w' S d) (hp : w.H p = none) (hd : Rep κ (w.tree p o).F (w.tree p o).H d (.ref p)) (no : ∀ ps, o ≠ .tbl ps := by intro _ z; cases z) : Q (.ref p) (upd w.H p o) :=
  q (w.tree p o) (hr.le_tree hp o) (hr.tree hp o no) _ hd.toL
theorem fin_here {w : Wd} {S : Store} {Q : VK} {d : D} {v : V} (hr : HRel κ w S) (q : ∀ w', w.le w' → HRel κ w' S → Fin_ κ Q w' S d) (hd : RepL κ w d v) : Q v w.H := q w (.refl w) hr v hd
theorem rep_tup {w : Wd} {S : Store} (hr : HRel κ w S) {p : Addr} (hp : w.H p = none) {xs : List D} {vs : List V} (r : Reps κ w.F w.H xs vs) : Rep κ (w.tree p (.tup vs)).F (w.tree p (.tup vs)).H (.tup xs) (.ref p) := by
  simp only [Rep]
  exact ⟨p, vs, rfl, .inr rfl, upd_same, Reps.mono (hr.le_tree hp _).F (hr.le_tree hp _).H _ _ r⟩
theorem rep_lst {w : Wd} {S : Store} (hr : HRel κ w S) {p : Addr} (hp : w.H p = none) {xs : List D} {vs : List V} (r : Reps κ w.F w.H xs vs) : Rep κ (w.tree p (.lst vs)).F (w.tree p (.lst vs)).H (.lst xs) (.ref p) := by
  simp only [Rep]
  exact ⟨p, vs, rfl, .inr rfl, upd_same, Reps.mono (hr.le_tree hp _).F (hr.le_tree hp _).H _ _ r⟩
end
end SP
end
section
set_option Elab.async false
set_option linter.all false
set_option autoImplicit false
set_option maxRecDepth 100000
set_option maxHeartbeats 2000000
namespace L2
open PySem PySem.Spec PyProof.Rows
theorem tuple_mul_same (l : Addr) (items : Array Value) (n : Nat) (dd : Option Addr) (sl : Array (Option Value)) (x : Int) (u : Tok) (c0 : (decide (x < -(2 ^ 63)) || decide (x ≥ 2 ^ 63)) = false) (c1 : (items.isEmpty || x == 1) = true) :
    Meets (Builtin.«tuple.__mul__» ⟨[.ref l, .int x u], []⟩) (fun _ R s => s.heap.get? l = some { cls := .type "tuple", dict := dd, data := .seq items n, slots := sl } ∧ R (.ok (.ret (Value.ref l))) s) :=
  .of_wp fun prog w A R s h => by
    obtain ⟨hp, g, d, tk, os⟩ := s
    obtain ⟨hl, h⟩ := h
    have f1 := AutoSeq1.idx_int
    wp_walk using wpAny_loadPart' hl
    repeat (first
      | (refine wpAny_ite_false (decide_eq_false (by rw [c0]; exact Bool.false_ne_true)) ?_; wp_walk using wpAny_loadPart' hl)
      | (refine wpAny_ite_true (decide_eq_true c1) ?_; wp_walk using wpAny_loadPart' hl))
    exact ⟨_, rfl, h⟩
theorem tuple_mul_zero (l : Addr) (items : Array Value) (n : Nat) (dd : Option Addr) (sl : Array (Option Value)) (x : Int) (u : Tok) (c0 : (decide (x < -(2 ^ 63)) || decide (x ≥ 2 ^ 63)) = false) (c1 : (items.isEmpty || x == 1) = false) (c2 : (decide (x ≤ 0) || items.isEmpty) = true) :
    Meets (Builtin.«tuple.__mul__» ⟨[.ref l, .int x u], []⟩) (fun _ R s => s.heap.get? l = some { cls := .type "tuple", dict := dd, data := .seq items n, slots := sl } ∧
      R (.ok (.ret (Value.ref s.heap.objs.size))) { s with heap := s.heap.push { cls := Value.type "tuple", data := Data.seq #[] }, toks := s.toks }) :=
  .of_wp fun prog w A R s h => by
    obtain ⟨hp, g, d, tk, os⟩ := s
    obtain ⟨hl, h⟩ := h
    have f1 := AutoSeq1.idx_int
    wp_walk using wpAny_loadPart' hl
    repeat (first
      | (refine wpAny_ite_false (decide_eq_false (by rw [c0]; exact Bool.false_ne_true)) ?_; wp_walk using wpAny_loadPart' hl)
      | (refine wpAny_ite_false (decide_eq_false (by rw [c1]; exact Bool.false_ne_true)) ?_; wp_walk using wpAny_loadPart' hl)
      | (refine wpAny_ite_true (decide_eq_true c2) ?_; wp_walk using wpAny_loadPart' hl))
    exact ⟨_, rfl, h⟩
end L2

namespace L2
open PySem PySem.Spec PyProof.Rows
section
variable {X : Cx} {pins : List (Addr × Obj)} {σ : L2.St} {H : Hp} {s : Shared} {l : Addr} {xs : List V}
theorem Inv.lstR (I : Inv X pins σ H s) (hH : Rd H l (.lst xs)) : xs.length ≤ sizeLine ∧ ∃ (its : List Value) (n : Nat), Vals xs its ∧ xs.length = its.length ∧ s.heap.get? l = some { cls := .type "list", data := .seq its.toArray n } := by
  obtain ⟨z, its, n, r, e⟩ := hH.ok I.hok
  exact ⟨z, its, n, r, r.length, e⟩
def rCatR (K : PySem.W.Frag) : R2 := fun x y H Q => ∃ l b xs zs, x = .ref l ∧ y = .ref b ∧ SqL K H l xs ∧ SqL K H b zs ∧ xs.length + zs.length ≤ sizeLine ∧ ∀ p, H p = none → Q (.ref p) (upd H p (.lst (xs ++ zs)))
theorem op_catR : OpR X (binaryOp .Add) (rCatR X.K) := by
  intro pins s σ H x y v u Q I rx ry h
  obtain ⟨l, b, xs, zs, rfl, rfl, hH, hB, hz, q⟩ := h
  cases rx
  cases ry
  obtain ⟨its, r, ⟨⟨c1, d1, t1, sl1⟩, n, g1, k1, _, k2⟩, z⟩ := I.list hH
  obtain ⟨its2, r2, ⟨⟨c2, d2, t2, sl2⟩, n2, g2, k3, _, k4⟩, z2⟩ := I.list hB
  simp only at k1 k2 k3 k4
  subst k1 k2 k3 k4
  have l1 := r.length
  have l2 := r2.length
  refine PySem.concat_meets ⟨_, g1, rfl⟩ ⟨_, g2, rfl⟩ PySem.noFill_list_add PySem.seq_list_add PySem.F.slot_list_add PySem.F.entry_list_add (PySem.F.args_list_add_2 _ _) (PyProof.Rows.list_addW l b its.toArray its2.toArray n n2 d1 d2 sl1 sl2 (by rw [List.size_toArray, List.size_toArray]; omega)) ⟨g1, g2, ?_⟩
  have ea : its.toArray ++ its2.toArray = (its ++ its2).toArray := by simp
  rw [ea]
  exact ⟨.ref _, _, I.lnew (t' := s.toks) (r.append r2) (by rw [List.length_append]; omega), rfl, q _ I.fresh⟩
/-- tuple * int, all cases -/
def rRepA (K : PySem.W.Frag) : R2 := fun x y H Q => ∃ l k xs, x = .ref l ∧ y = .int k ∧ SqT K H l xs ∧ -(2 ^ 62) < k ∧ k ≤ 1000 ∧ xs.length ≤ 1000 ∧
  (xs = [] ∨ k = 1 → Q (.ref l) H) ∧ (xs ≠ [] → k ≠ 1 → ∀ p, H p = none → Q (.ref p) (upd H p (.tup (List.replicate k.toNat xs).flatten)))
theorem op_repA : OpR X (binaryOp .Mult) (rRepA X.K) := by
  intro pins s σ H x y v u Q I rx ry h
  obtain ⟨l, k, xs, rfl, rfl, hT, h0, h2, hz, q1, q2⟩ := h
  by_cases hs : xs = [] ∨ k = 1
  · have q := q1 hs
    cases rx
    obtain ⟨t, rfl⟩ := ry
    obtain ⟨its, r, ⟨⟨cls, dd, data, sl⟩, ho, hc, n, hd⟩, hs'⟩ := I.tuple hT
    simp only at hc hd
    subst hc hd
    have c0 : (decide (k < -(2 ^ 63)) || decide (k ≥ 2 ^ 63)) = false := by
      rw [decide_eq_false (by omega), decide_eq_false (by omega)] <;> rfl
    have c1 : (its.toArray.isEmpty || k == 1) = true := by
      rcases hs with e | e
      · subst e
        cases r
        rfl
      · subst e
        simp
    refine wpAny_binaryOp_repeat_ref (T := "tuple") (U := "int") (by decide) ⟨_, ho, rfl⟩ (fun s' => typeIs_int s' k t) noFill_tuple_mul F.fills_int_mul F.slot_int_rmul repeat_tuple F.slot_int_index.lookup
      (call_meets F.slot_int_rmul (typeIs_int s k t) F.entry_int_rmul (F.args_int_rmul_2 _ _) (int_rmul_tuple k t l its.toArray n dd sl)
        ⟨ho, rfl, ⟨_, ho, rfl⟩, call_meets F.slot_tuple_mul ⟨_, ho, rfl⟩ F.entry_tuple_mul (F.args_tuple_mul_2 _ _) (tuple_mul_same l its.toArray n dd sl k t c0 c1) ⟨ho, ?_⟩⟩)
    exact ⟨.ref l, H, I, rfl, q⟩
  · have hne : xs ≠ [] := fun e => hs (.inl e)
    have hk : k ≠ 1 := fun e => hs (.inr e)
    have q := q2 hne hk
    by_cases hk2 : 2 ≤ k
    · exact op_repT pins s σ H _ _ v u Q I rx ry ⟨l, k, xs, rfl, rfl, hT, hne, hk2, h2, hz, q⟩
    · have hk0 : k ≤ 0 := by omega
      cases rx
      obtain ⟨t, rfl⟩ := ry
      obtain ⟨its, r, ⟨⟨cls, dd, data, sl⟩, ho, hc, n, hd⟩, hs'⟩ := I.tuple hT
      simp only at hc hd
      subst hc hd
      have hle : its.length = xs.length := r.length.symm
      have hn : its ≠ [] := fun e => hne (by
        rw [e] at hle
        exact List.eq_nil_of_length_eq_zero hle.symm)
      have hi : its.toArray.isEmpty = false := by
        cases its with
        | nil => exact absurd rfl hn
        | cons a b => rfl
      have c0 : (decide (k < -(2 ^ 63)) || decide (k ≥ 2 ^ 63)) = false := by
        rw [decide_eq_false (by omega), decide_eq_false (by omega)] <;> rfl
      have c1 : (its.toArray.isEmpty || k == 1) = false := by
        rw [hi, Bool.false_or]
        exact beq_eq_false_iff_ne.mpr (by omega)
      have c2 : (decide (k ≤ 0) || its.toArray.isEmpty) = true := by
        rw [decide_eq_true hk0] <;> rfl
      refine wpAny_binaryOp_repeat_ref (T := "tuple") (U := "int") (by decide) ⟨_, ho, rfl⟩ (fun s' => typeIs_int s' k t) noFill_tuple_mul F.fills_int_mul F.slot_int_rmul repeat_tuple F.slot_int_index.lookup
        (call_meets F.slot_int_rmul (typeIs_int s k t) F.entry_int_rmul (F.args_int_rmul_2 _ _) (int_rmul_tuple k t l its.toArray n dd sl)
          ⟨ho, rfl, ⟨_, ho, rfl⟩, call_meets F.slot_tuple_mul ⟨_, ho, rfl⟩ F.entry_tuple_mul (F.args_tuple_mul_2 _ _) (tuple_mul_zero l its.toArray n dd sl k t c0 c1 c2) ⟨ho, ?_⟩⟩)
      have e0 : (List.replicate k.toNat xs).flatten = [] := by
        have : k.toNat = 0 := by omega
        rw [this] <;> rfl
      rw [e0] at q
      refine ⟨.ref s.heap.objs.size, _, I.laid (t' := s.toks) (o := .tup []) (fun b ob q => Heap.get?_push_of_some _ q) (Nat.le_refl _) ?_, rfl, q _ (I.hok.fresh (Nat.le_refl _))⟩
      exact ⟨Nat.zero_le _, [], .nil, IsTup.new _ _⟩
end
end L2
namespace SP
open PySem PySem.Spec L2
section
variable {κ : Kx} {X : Cx}
theorem lenOk_le {n : Nat} (h : lenOk n = true) : n ≤ sizeLine := by
  have := of_decide_eq_true h
  rw [sizeLine_eq]
  omega
theorem rep_int {w : Wd} {i : Int} : RepL κ w (.int i) (.int i) := by
  show Rep κ w.F w.H (.int i) (.int i)
  simp [Rep]
theorem rep_bl {w : Wd} {i : Bool} : RepL κ w (.bl i) (.bl i) := by
  show Rep κ w.F w.H (.bl i) (.bl i)
  simp [Rep]
theorem rep_non {w : Wd} : RepL κ w .non .non := by
  show Rep κ w.F w.H .non .non
  simp [Rep]
theorem rep_str {w : Wd} {i : Str} : RepL κ w (.str i) (.str i) := by
  show Rep κ w.F w.H (.str i) (.str i)
  simp [Rep]
theorem r_of {w : Wd} {xs : List D} {x : V} (r : See κ w (.tup xs) x) : RepL κ w (.tup xs) x := r
def opB : Bop → Operator
  | .add => .Add | .sub => .Sub | .mul => .Mult | .fdv => .FloorDiv | .mod => .Mod | .pow => .Pow
end
end SP
end
section
set_option Elab.async false
set_option linter.all false
set_option autoImplicit false
set_option maxRecDepth 100000
set_option maxHeartbeats 2000000
namespace SP
open PySem PySem.Spec L2
section
variable {κ : Kx} {X : Cx}
theorem See.int {w : Wd} {i : Int} {x : V} (r : See κ w (.int i) x) : x = .int i := by
  have r' : Rep κ w.F w.H (.int i) x := r
  simpa [Rep] using r'
theorem See.bl {w : Wd} {i : Bool} {x : V} (r : See κ w (.bl i) x) : x = .bl i := by
  have r' : Rep κ w.F w.H (.bl i) x := r
  simpa [Rep] using r'
theorem See.str {w : Wd} {i : Str} {x : V} (r : See κ w (.str i) x) : x = .str i := by
  have r' : Rep κ w.F w.H (.str i) x := r
  simpa [Rep] using r'
theorem See.lst {w : Wd} {xs : List D} {x : V} (r : See κ w (.lst xs) x) : ∃ a vs, x = .ref a ∧ w.H a = some (.lst vs) ∧ Reps κ w.F w.H xs vs := r
theorem dec_and {a b : Bool} (h : (a && b) = true) : a = true ∧ b = true := by simpa using h
/-- + - * // % ** -/
theorem op_bin (hK : X.K = κ.K) (o : Bop) : OpR X (binaryOp (opB o)) (rD2 κ fun S x y => binD o (rdD S x) (rdD S y)) := by
  intro pins s σ H x y v u Q I rx ry h
  obtain ⟨w, S, d1, d2, rfl, hr, r1, r2, d, e, q⟩ := h
  replace e : binD o (rdD S d1) (rdD S d2) = some d := e
  have s1 := see_rd hr r1
  have s2 := see_rd hr r2
  generalize rdD S d1 = e1 at s1 e
  generalize rdD S d2 = e2 at s2 e
  cases o with
  | add =>
    cases e1 <;> cases e2 <;> simp only [binD, reduceCtorEq, Option.some.injEq] at e
    · subst e
      (obtain rfl := s1.int); (obtain rfl := s2.int)
      exact op_add pins s σ w.H _ _ v u Q I rx ry ⟨_, _, rfl, rfl, fin_here hr q rep_int⟩
    · split at e
      · rename_i xs ys hl
        simp only [Option.some.injEq] at e
        subst e
        obtain ⟨a, vs, rfl, fa, ra, pa⟩ := s1.tup
        obtain ⟨b, us, rfl, fb, rb, pb⟩ := s2.tup
        refine op_catA pins s σ w.H _ _ v u Q I rx ry ⟨a, b, vs, us, rfl, rfl, .inl (.inl ra), .inl (.inl rb), by rw [pa.length, pb.length]; exact lenOk_le hl, fun z => ?_, fun _ z => ?_, fun _ _ p hp => ?_⟩
        · refine fin_here hr q ?_
          rw [pa.nil_iff.mp z, List.nil_append]
          exact r_of s2
        · refine fin_here hr q ?_
          rw [pb.nil_iff.mp z, List.append_nil]
          exact r_of s1
        · exact fin_tree hr q hp (rep_tup hr hp (pa.append pb))
      · cases e
    · split at e
      · rename_i xs ys hl
        simp only [Option.some.injEq] at e
        subst e
        obtain ⟨a, vs, rfl, ra, pa⟩ := s1.lst
        obtain ⟨b, us, rfl, rb, pb⟩ := s2.lst
        exact op_cat pins s σ w.H _ _ v u Q I rx ry ⟨a, b, vs, us, rfl, rfl, ra, rb, by rw [pa.length, pb.length]; exact lenOk_le hl, fun p hp => fin_tree hr q hp (rep_lst hr hp (pa.append pb))⟩
      · cases e
    · split at e
      · rename_i xs ys hl
        simp only [Option.some.injEq] at e
        subst e
        have s1' : Rep κ w.F w.H (.scr xs) x := s1
        simp only [Rep] at s1'
        obtain ⟨a, rfl, ra⟩ := s1'
        have ra' : SqL X.K w.H a (xs.map V.int) := by
          rcases ra with ⟨_, ra⟩ | ra
          · exact .inl ra
          · rw [hK]; exact .inr ra
        obtain ⟨b, us, rfl, rb, pb⟩ := s2.lst
        exact op_catR pins s σ w.H _ _ v u Q I rx ry ⟨a, b, xs.map V.int, us, rfl, rfl, ra', .of rb, by rw [List.length_map, pb.length]; exact lenOk_le hl, fun p hp => fin_tree hr q hp (rep_lst hr hp ((Reps.ofInts xs).append pb))⟩
      · cases e
  | sub =>
    cases e1 <;> cases e2 <;> simp only [binD, reduceCtorEq, Option.some.injEq] at e
    subst e
    (obtain rfl := s1.int); (obtain rfl := s2.int)
    exact op_sub pins s σ w.H _ _ v u Q I rx ry ⟨_, _, rfl, rfl, fin_here hr q rep_int⟩
  | mul =>
    cases e1 <;> cases e2 <;> simp only [binD, reduceCtorEq, Option.some.injEq] at e
    · split at e
      · rename_i i j hl
        simp only [Option.some.injEq] at e
        subst e
        (obtain rfl := s1.int); (obtain rfl := s2.int)
        refine op_mul pins s σ w.H _ _ v u Q I rx ry ⟨_, _, rfl, rfl, ?_, fin_here hr q rep_int⟩
        simp only [small64, Bool.or_eq_true, Bool.and_eq_true, decide_eq_true_eq] at hl
        exact hl
      · cases e
    · split at e
      · rename_i xs k hl
        simp only [Option.some.injEq] at e
        subst e
        simp only [Bool.and_eq_true, decide_eq_true_eq] at hl
        obtain ⟨⟨h1, h2⟩, h3⟩ := hl
        obtain rfl := s2.int
        obtain ⟨a, vs, rfl, fa, ra, pa⟩ := s1.tup
        refine op_repA pins s σ w.H _ _ v u Q I rx ry ⟨a, k, vs, rfl, rfl, .inl (.inl ra), h3, h1, by rw [pa.length]; exact h2, fun z => ?_, fun z1 z2 p hp => ?_⟩
        · refine fin_here hr q ?_
          have er : (List.replicate k.toNat xs).flatten = xs := by
            rcases z with z | z
            · rw [pa.nil_iff.mp z]; simp
            · subst z; simp
          rw [er]
          exact r_of s1
        · exact fin_tree hr q hp (rep_tup hr hp (pa.rep _))
      · cases e
    · split at e
      · rename_i xs k hl
        simp only [Option.some.injEq] at e
        subst e
        simp only [Bool.and_eq_true, decide_eq_true_eq] at hl
        obtain ⟨⟨h1, h2⟩, h3⟩ := hl
        obtain rfl := s2.int
        obtain ⟨a, vs, rfl, ra, pa⟩ := s1.lst
        refine op_rep pins s σ w.H _ _ v u Q I rx ry ⟨a, k, vs, rfl, rfl, ra, by omega, by omega, by rw [pa.length]; exact lenOk_le h2, fun p hp => fin_tree hr q hp (rep_lst hr hp (pa.rep _))⟩
      · cases e
  | fdv =>
    cases e1 <;> cases e2 <;> simp only [binD, reduceCtorEq, Option.some.injEq] at e
    split at e
    · rename_i i j hl
      simp only [Option.some.injEq] at e
      subst e
      simp only [Bool.and_eq_true, decide_eq_true_eq] at hl
      (obtain rfl := s1.int); (obtain rfl := s2.int)
      exact op_fdiv pins s σ w.H _ _ v u Q I rx ry ⟨_, _, rfl, rfl, hl, fin_here hr q rep_int⟩
    · cases e
  | mod =>
    cases e1 <;> cases e2 <;> simp only [binD, reduceCtorEq, Option.some.injEq] at e
    split at e
    · rename_i i j hl
      simp only [Option.some.injEq] at e
      subst e
      simp only [decide_eq_true_eq] at hl
      (obtain rfl := s1.int); (obtain rfl := s2.int)
      exact op_mod pins s σ w.H _ _ v u Q I rx ry ⟨_, _, rfl, rfl, hl, fin_here hr q rep_int⟩
    · cases e
  | pow =>
    cases e1 <;> cases e2 <;> simp only [binD, reduceCtorEq, Option.some.injEq] at e
    split at e
    · rename_i i j hl
      simp only [Option.some.injEq] at e
      subst e
      simp only [Bool.and_eq_true, decide_eq_true_eq] at hl
      (obtain rfl := s1.int); (obtain rfl := s2.int)
      exact op_pow pins s σ w.H _ _ v u Q I rx ry ⟨_, _, rfl, rfl, ⟨by omega, by omega, by omega⟩, fin_here hr q rep_int⟩
    · cases e
end
end SP
end
section
set_option Elab.async false
set_option linter.all false
set_option autoImplicit false
set_option maxRecDepth 100000
set_option maxHeartbeats 2000000
namespace SP
open PySem PySem.Spec L2
section
variable {κ : Kx} {X : Cx}
/-! ### data -/
mutual
theorem rep_dp {K : PySem.W.Frag} {F : Addr → Prop} {H : Hp} : ∀ (d : D) (v : V) (p : PyData), Rep κ F H d v → d.py = some p → Dp K H v p
  | .non, v, p, r, e => by
    simp only [Rep] at r
    simp only [D.py, Option.some.injEq] at e
    subst r e
    exact .non
  | .bl b, v, p, r, e => by
    simp only [Rep] at r
    simp only [D.py, Option.some.injEq] at e
    subst r e
    exact .bl b
  | .int b, v, p, r, e => by
    simp only [Rep] at r
    simp only [D.py, Option.some.injEq] at e
    subst r e
    exact .int b
  | .str b, v, p, r, e => by
    simp only [Rep] at r
    simp only [D.py, Option.some.injEq] at e
    subst r e
    exact .str b
  | .tup xs, v, p, r, e => by
    simp only [Rep] at r
    simp only [D.py, Option.map_eq_some_iff] at e
    obtain ⟨a, vs, rfl, _, h, q⟩ := r
    obtain ⟨ps, e1, rfl⟩ := e
    exact .tup (.inl (.inl h)) (reps_dp xs vs ps q e1)
  | .lst xs, v, p, r, e => by
    simp only [Rep] at r
    simp only [D.py, Option.map_eq_some_iff] at e
    obtain ⟨a, vs, rfl, _, h, q⟩ := r
    obtain ⟨ps, e1, rfl⟩ := e
    exact .lst (.inl (.inl h)) (reps_dp xs vs ps q e1)
  | .dct _ _, _, _, _, e => by simp [D.py] at e
  | .obj _ _, _, _, _, e => by simp [D.py] at e
  | .exc _ _, _, _, _, e => by simp [D.py] at e
  | .loc _, _, _, _, e => by simp [D.py] at e
  | .clo _ _, _, _, _, e => by simp [D.py] at e
  | .scr _, _, _, _, e => by simp [D.py] at e
theorem reps_dp {K : PySem.W.Frag} {F : Addr → Prop} {H : Hp} : ∀ (ds : List D) (vs : List V) (ps : List PyData), Reps κ F H ds vs → D.py.pys ds = some ps → DpAll K H vs ps
  | [], vs, ps, r, e => by
    simp only [Reps] at r
    simp only [D.py.pys, Option.some.injEq] at e
    subst r e
    exact .nil
  | d :: ds, vs, ps, r, e => by
    simp only [Reps] at r
    simp only [D.py.pys, Option.bind_eq_some_iff, Option.map_eq_some_iff] at e
    obtain ⟨v, t, rfl, q, z⟩ := r
    obtain ⟨p, e1, qs, e2, rfl⟩ := e
    exact .cons (rep_dp d v p q e1) (reps_dp ds t qs z e2)
end
theorem see_dp {K : PySem.W.Frag} {w : Wd} {d : D} {x : V} {p : PyData} (r : See κ w d x) (e : d.py = some p) : Dp K w.H x p := by
  cases d with
  | lst xs =>
    obtain ⟨a, vs, rfl, h, q⟩ := r
    simp only [D.py, Option.map_eq_some_iff] at e
    obtain ⟨ps, e1, rfl⟩ := e
    exact .lst (.inl (.inl h)) (reps_dp xs vs ps q e1)
  | loc n => simp [D.py] at e
  | clo l cap => simp [D.py] at e
  | _ => exact rep_dp _ _ _ r e
theorem okPy_shaped {p : PyData} (h : okPy p = true) : SeqAt.shaped p = true := by
  unfold okPy at h
  unfold SeqAt.shaped
  simp only [Bool.and_eq_true, decide_eq_true_eq] at h ⊢
  exact ⟨h.1, by omega⟩
theorem okPy_lay {p : PyData} (h : okPy p = true) : p.canLay0 = true := by
  unfold okPy at h
  simp only [Bool.and_eq_true, decide_eq_true_eq] at h
  exact h.1
theorem okPy_depth {p : PyData} (h : okPy p = true) : p.depth ≤ 40 := by
  unfold okPy at h
  simp only [Bool.and_eq_true, decide_eq_true_eq] at h
  exact h.2
theorem eqD_some {a b : D} {r : Bool} (h : eqD a b = some r) : ∃ x y, a.py = some x ∧ b.py = some y ∧ okPy x = true ∧ okPy y = true ∧ r = PyData.eqv x y := by
  unfold eqD at h
  simp only [Option.bind_eq_some_iff] at h
  obtain ⟨x, e1, y, e2, h⟩ := h
  split at h
  · rename_i hh
    simp only [Bool.and_eq_true] at hh
    exact ⟨x, y, e1, e2, hh.1, hh.2, (Option.some.inj h).symm⟩
  · cases h
theorem inD_some {d : D} {xs : List D} {r : Bool} (h : inD d xs = some r) : ∃ x ys, d.py = some x ∧ D.py.pys xs = some ys ∧ okPy x = true ∧ okPy (.list ys) = true ∧ r = ys.any fun z => PyData.eqv z x := by
  unfold inD at h
  simp only [Option.bind_eq_some_iff] at h
  obtain ⟨x, e1, y, e2, h⟩ := h
  split at h
  · rename_i hh
    simp only [Bool.and_eq_true] at hh
    exact ⟨x, y, e1, e2, hh.1, hh.2, (Option.some.inj h).symm⟩
  · cases h
def opC : Cop → CmpOp
  | .eq => .Eq | .ne => .NotEq | .lt => .Lt | .le => .LtE | .gt => .Gt | .ge => .GtE | .isIn => .In | .notIn => .NotIn
theorem op_cmp (hu : X.A.units + 200 < cLine) (o : Cop) : OpR X (compareOp (opC o)) (rD2 κ fun S x y => (cmpD o (rdD S x) (rdD S y)).map .bl) := by
  intro pins s σ H x y v u Q I rx ry h
  obtain ⟨w, S, d1, d2, rfl, hr, r1, r2, d, e, q⟩ := h
  replace e : (cmpD o (rdD S d1) (rdD S d2)).map D.bl = some d := e
  have s1 := see_rd hr r1
  have s2 := see_rd hr r2
  generalize rdD S d1 = e1 at s1 e
  generalize rdD S d2 = e2 at s2 e
  rw [Option.map_eq_some_iff] at e; obtain ⟨b, e, rfl⟩ := e
  have fin : EP X pins σ Q (.bool b) s := ⟨.bl b, w.H, I, rfl, fin_here hr q rep_bl⟩
  cases o with
  | eq =>
    obtain ⟨p1, p2, h1, h2, k1, k2, rfl⟩ := eqD_some e
    obtain ⟨as, ra⟩ := Dp.reads I p1 x v (see_dp s1 h1) rx
    obtain ⟨bs, rb⟩ := Dp.reads I p2 y u (see_dp s2 h2) ry
    exact PyProof.Rows.eq_dataH ra rb (okPy_shaped k1) (okPy_shaped k2) (by omega) fin
  | ne =>
    replace e : (eqD e1 e2).map (!·) = some b := e
    rw [Option.map_eq_some_iff] at e; obtain ⟨c, e, rfl⟩ := e
    obtain ⟨p1, p2, h1, h2, k1, k2, rfl⟩ := eqD_some e
    obtain ⟨as, ra⟩ := Dp.reads I p1 x v (see_dp s1 h1) rx
    obtain ⟨bs, rb⟩ := Dp.reads I p2 y u (see_dp s2 h2) ry
    exact PyProof.Rows.ne_dataH ra rb (okPy_shaped k1) (okPy_shaped k2) (by omega) fin
  | lt =>
    cases e1 <;> cases e2 <;> simp only [cmpD, reduceCtorEq, Option.some.injEq] at e
    subst e
    (obtain rfl := s1.int); (obtain rfl := s2.int)
    exact op_lt pins s σ w.H _ _ v u Q I rx ry ⟨_, _, rfl, rfl, fin_here hr q rep_bl⟩
  | le =>
    cases e1 <;> cases e2 <;> simp only [cmpD, reduceCtorEq, Option.some.injEq] at e
    subst e
    (obtain rfl := s1.int); (obtain rfl := s2.int)
    exact op_le pins s σ w.H _ _ v u Q I rx ry ⟨_, _, rfl, rfl, fin_here hr q rep_bl⟩
  | gt =>
    cases e1 <;> cases e2 <;> simp only [cmpD, reduceCtorEq, Option.some.injEq] at e
    subst e
    (obtain rfl := s1.int); (obtain rfl := s2.int)
    exact op_gt pins s σ w.H _ _ v u Q I rx ry ⟨_, _, rfl, rfl, fin_here hr q rep_bl⟩
  | ge =>
    cases e1 <;> cases e2 <;> simp only [cmpD, reduceCtorEq, Option.some.injEq] at e
    subst e
    (obtain rfl := s1.int); (obtain rfl := s2.int)
    exact op_ge pins s σ w.H _ _ v u Q I rx ry ⟨_, _, rfl, rfl, fin_here hr q rep_bl⟩
  | isIn =>
    replace e : (itemsD e2).bind (fun xs => inD e1 xs) = some b := e
    rw [Option.bind_eq_some_iff] at e; obtain ⟨xs, e3, e⟩ := e
    obtain ⟨p, ps, h1, h2, k1, k2, rfl⟩ := inD_some e
    obtain ⟨as, ra⟩ := Dp.reads I p x v (see_dp s1 h1) rx
    have k3 : PyData.canLayAll0 ps = true := by simpa [PyData.canLay0] using okPy_lay k2
    have k4 := okPy_depth k1
    have k5 : X.A.units + 1 + min (PyData.depthAll ps) p.depth < cLine := by omega
    cases e2 <;> simp only [itemsD, reduceCtorEq, Option.some.injEq] at e3
    · subst e3
      obtain ⟨bs, rb⟩ := Dp.reads I (.tuple ps) y u (see_dp s2 (by simp [D.py, h2])) ry
      exact SeqAt.in_tuple_reads rb ra k3 (okPy_lay k1) k5 fin
    · subst e3
      obtain ⟨bs, rb⟩ := Dp.reads I (.list ps) y u (see_dp s2 (by simp [D.py, h2])) ry
      exact SeqAt.in_list_reads rb ra k3 (okPy_lay k1) k5 fin
  | notIn =>
    replace e : (itemsD e2).bind (fun xs => (inD e1 xs).map (!·)) = some b := e
    rw [Option.bind_eq_some_iff] at e; obtain ⟨xs, e3, e⟩ := e
    rw [Option.map_eq_some_iff] at e; obtain ⟨c, e, rfl⟩ := e
    obtain ⟨p, ps, h1, h2, k1, k2, rfl⟩ := inD_some e
    obtain ⟨as, ra⟩ := Dp.reads I p x v (see_dp s1 h1) rx
    have k3 : PyData.canLayAll0 ps = true := by simpa [PyData.canLay0] using okPy_lay k2
    have k4 := okPy_depth k1
    have k5 : X.A.units + 1 + min (PyData.depthAll ps) p.depth < cLine := by omega
    cases e2 <;> simp only [itemsD, reduceCtorEq, Option.some.injEq] at e3
    · subst e3
      obtain ⟨bs, rb⟩ := Dp.reads I (.tuple ps) y u (see_dp s2 (by simp [D.py, h2])) ry
      exact SeqAt.notIn_tuple_reads rb ra k3 (okPy_lay k1) k5 fin
    · subst e3
      obtain ⟨bs, rb⟩ := Dp.reads I (.list ps) y u (see_dp s2 (by simp [D.py, h2])) ry
      exact SeqAt.notIn_list_reads rb ra k3 (okPy_lay k1) k5 fin
/-! ### items, slices -/
theorem ix_D : IxR X (rD2 κ fun S x y => ixD (rdD S x) y) := by
  intro value slice pins s σ H x y v u Q I rx ry h hsub
  obtain ⟨w, S, d1, d2, rfl, hr, r1, r2, d, e, q⟩ := h
  replace e : ixD (rdD S d1) d2 = some d := e
  have s1 := see_rd hr r1
  have s2 := r2.see
  generalize rdD S d1 = e1 at s1 e
  cases e1 <;> cases d2 <;> simp only [ixD, reduceCtorEq] at e
  · (obtain rfl := s2.int)
    obtain ⟨a, vs, rfl, fa, ra, pa⟩ := s1.tup
    unfold atI at e
    rw [Option.bind_eq_some_iff] at e; obtain ⟨j, ej, e⟩ := e
    obtain ⟨z, ez, rz⟩ := pa.get e
    exact ix_tup value slice pins s σ w.H _ _ v u Q I rx ry ⟨a, vs, _, z, rfl, rfl, .inl (.inl ra), by unfold atI; rw [pa.length, ej]; exact ez, fin_here hr q rz.toL⟩ hsub
  · (obtain rfl := s2.int)
    obtain ⟨a, vs, rfl, ra, pa⟩ := s1.lst
    unfold atI at e
    rw [Option.bind_eq_some_iff] at e; obtain ⟨j, ej, e⟩ := e
    obtain ⟨z, ez, rz⟩ := pa.get e
    exact ix_list value slice pins s σ w.H _ _ v u Q I rx ry ⟨a, vs, _, z, rfl, rfl, .inl (.inl ra), by unfold atI; rw [pa.length, ej]; exact ez, fin_here hr q rz.toL⟩ hsub
def rDsl (κ : Kx) : V → Option Int → Option Int → Hp → VK → Prop := fun x lo hi H Q => ∃ w S d1, w.H = H ∧ HRel κ w S ∧ RepL κ w d1 x ∧ ∃ d, slD (rdD S d1) lo hi = some d ∧ ∀ w', w.le w' → HRel κ w' S → Fin_ κ Q w' S d
theorem cut_all {α : Type} {xs : List α} {lo hi : Option Int} (h1 : HT.sIx xs.length 0 lo = 0) (h2 : HT.sIx xs.length xs.length hi = xs.length) : cutL xs lo hi = xs := by
  unfold cutL
  rw [h1, h2]
  simp
theorem sl_D : SlR X (rDsl κ) := by
  intro pins s σ H x v vl vu lo hi sl Q I rx hs pl pu h
  obtain ⟨w, S, d1, rfl, hr, r1, d, e, q⟩ := h
  have s1 := see_rd hr r1
  generalize rdD S d1 = e1 at s1 e
  cases e1 <;> simp only [slD, reduceCtorEq, Option.some.injEq] at e
  · subst e
    obtain ⟨a, vs, rfl, fa, ra, pa⟩ := s1.tup
    refine sl_tupA pins s σ w.H _ v vl vu lo hi sl Q I rx hs pl pu ⟨a, vs, rfl, .inl (.inl ra), fun z => ?_, fun _ p hp => fin_tree hr q hp (rep_tup hr hp (pa.cut lo hi))⟩
    refine fin_here hr q ?_
    rw [pa.length] at z
    rw [cut_all z.1 z.2]
    exact r_of s1
  · subst e
    obtain ⟨a, vs, rfl, ra, pa⟩ := s1.lst
    exact sl_list pins s σ w.H _ v vl vu lo hi sl Q I rx hs pl pu ⟨a, vs, rfl, .inl (.inl ra), fun p hp => fin_tree hr q hp (rep_lst hr hp (pa.cut lo hi))⟩
end
end SP
end
section
set_option Elab.async false
set_option linter.all false
set_option autoImplicit false
set_option maxRecDepth 100000
set_option maxHeartbeats 2000000
namespace SP
open PySem PySem.Spec L2 PySem.W
open PyProof.Rows (seqObj)
section
variable {prog : Program} {w : World} {A : Around} {E : Value → Shared → Prop} {s : Shared}
/-- the items of a list or a tuple, in a new list that is let go -/
theorem collect_items {Q : List Value → Shared → Prop} (l : Addr) {T : String} {o : Obj} {items : Array Value} {n : Nat} (hT : T = "list" ∨ T = "tuple") (ho : s.heap.get? l = some o) (hc : o.cls = .type T) (hd : o.data = .seq items n) (hz : items.size ≤ sizeLine)
    (hq : ∀ h', s.heap.objs.size ≤ h'.objs.size → (∀ b o', s.heap.get? b = some o' → h'.get? b = some o') → Q items.toList { s with heap := h' }) : wpAny (model prog w) A (collect (.ref l)) Q E s := by
  unfold collect
  refine wpAny_bind (wpAny_runValue (codeAny_builtin PySem.F.entry_proto_collect ?_))
  rw [Around.under_plainId PySem.F.plain_proto_collect _]
  show wpAny _ A.in1 (do let x ← newList []; again (.builtin "list.__iadd__" ⟨[x, .ref l], []⟩)) _ _ s
  refine wpAny_bind (wpAny_newObj_type (wpAny_pure ⟨plainId_quiet PySem.F.plain_list_iadd _, codeAny_builtin PySem.F.entry_list_iadd ?_⟩))
  rw [Around.under_plainId PySem.F.plain_list_iadd _]
  obtain ⟨g, hg⟩ : ∃ g, g = s.heap.push { cls := .type "list", data := .seq ([] : List Value).toArray } := ⟨_, rfl⟩
  have at0 : g.get? s.heap.objs.size = some { cls := .type "list", data := .seq #[] 0 } := by rw [hg]; exact Heap.get?_push_size _ rfl
  have at1 := Heap.get?_update_self (Obj.mapSeq (· ++ items)) at0 rfl
  have old : ∀ b o', s.heap.get? b = some o' → g.get? b = some o' := fun b o' q => by rw [hg]; exact Heap.get?_push_of_some _ q
  have done_ : wpAny (model prog w) A (do
      let ob ← load s.heap.objs.size
      match ob.data with
      | .seq xs _ => pure xs.toList
      | _ => unsupported "internal:collect") Q E { s with heap := g.update s.heap.objs.size (Obj.mapSeq (· ++ items)) } := by
    refine wpAny_bind (wpAny_load at1 (wpAny_pure ?_))
    show Q ((#[] : Array Value) ++ items).toList _
    have e0 : ((#[] : Array Value) ++ items).toList = items.toList := by simp
    rw [e0]
    refine hq _ ?_ fun b o' q => (Heap.get?_update_other _ _ (Nat.ne_of_gt (Heap.lt_size q))).trans (old b o' q)
    rw [Heap.size_update, hg, Heap.size_push]
    exact Nat.le_succ _
  rw [← hg]
  refine wpAny_mono (wpAny_extend_seq (hsz := hz) (A := A) (R := fun r s' => r = .ok (.ret (.ref s.heap.objs.size)) ∧ s' = { s with heap := g.update s.heap.objs.size (Obj.mapSeq (· ++ items)) }) (s := { s with heap := g }) _ l _ 0 hT at0 (old l o ho) hc hd ⟨rfl, rfl⟩)
    (fun fin s' h => ?_) fun e s' h => absurd h.1 (by simp)
  cases fin with
  | done f =>
    obtain ⟨e, rfl⟩ := h
    cases e
    exact done_
  | again c =>
    refine ⟨h.1, codeAny_mono h.2 fun r s2 hr => ?_⟩
    obtain ⟨rfl, rfl⟩ := hr
    exact done_
/-- sorted of a list or a tuple, any data -/
theorem sorted_seq {β : Type} {l : Addr} {T : String} {o : Obj} {items : Array Value} {n : Nat} {bs : List β} {enc : β → PyData} {R : Value → β → Prop} {Q : Value → Shared → Prop} (hT : T = "list" ∨ T = "tuple") (ho : s.heap.get? l = some o) (hc : o.cls = .type T) (hd : o.data = .seq items n)
    (e : EachIs R items.toList bs) (er : EachIs (fun v b => ∃ as, Reads s.heap v (enc b) as) items.toList bs) (hal : AllAlike (bs.map enc)) (hk : Sortable (bs.map enc)) (hL : bs.length ≤ sizeLine) (hu : ∀ b, b ∈ bs → A.units + 3 + (enc b).depth < cLine)
    (h : ∀ (p : Addr) (h' : Heap) (out : List Value) (c : Nat), s.heap.objs.size ≤ p → (∀ b o', s.heap.get? b = some o' → h'.get? b = some o') → h'.get? p = some (listOf out.toArray c) → out.length = bs.length → EachIs R out (bs.mergeSort (dataLe false enc)) → Q (.ref p) { s with heap := h' }) :
    wpAny (model prog w) A (call (.builtin "sorted") [.ref l]) Q E s := by
  have hsz : items.size ≤ sizeLine := by
    have := e.length
    simp only [Array.length_toList] at this
    omega
  refine PyProof.Rows.call_function_entry_kw (kw := []) PyProof.Rows.kind_sorted PyProof.Rows.plain_sorted PyProof.Rows.entry_sorted (PyProof.Rows.args_sorted1 _) ?_
  unfold Builtin.«sorted»
  refine wpAny_bind (m := checkCount "sorted" 1 1 _) (wpAny_pure ?_)
  refine wpAny_bind (collect_items l hT ho hc hd hsz (fun h1 ge k1 => ?_))
  refine wpAny_bind (wpAny_newList ?_ (by simpa using hsz))
  have kp : ∀ b o', s.heap.get? b = some o' → (h1.push (seqObj "list" items 0)).get? b = some o' := fun b o' q => Heap.get?_push_of_some _ (k1 b o' q)
  have hp : (h1.push (seqObj "list" items.toList.toArray 0)).get? h1.objs.size = some (seqObj "list" items.toList.toArray 0) := Heap.get?_push_size _ rfl
  have er1 : EachIs (fun v b => ∃ as, Reads (h1.push (seqObj "list" items.toList.toArray 0)) v (enc b) as ∧ h1.objs.size ∉ as) items.toList bs := er.mono fun v b r => by
    obtain ⟨as, r⟩ := r
    refine ⟨as, PyProof.Rows.Reads.keeps kp r, fun z => ?_⟩
    obtain ⟨o', ho'⟩ := PyProof.On.reads_mem_get r _ z
    exact absurd (Heap.lt_size ho') (Nat.not_lt.mpr ge)
  refine wpAny_bind (wpAny_holding (list_sort_data (R := R) hp e er1 hal hk hL (fun b hb => by have := hu b hb; show A.units + 1 + 1 + _ < _; omega) fun out hlen eo => ?_))
  obtain ⟨c, hc'⟩ := PyProof.Rows.sortedHeap_at (out := out.toArray) hp
  refine wpAny_pure ⟨_, rfl, h _ _ out c ge (fun b o' q => ?_) hc' hlen eo⟩
  have lt : b < h1.objs.size := Nat.lt_of_lt_of_le (Heap.lt_size q) ge
  exact (PyProof.Rows.sortedHeap_old (Nat.ne_of_lt lt) (Nat.lt_of_lt_of_le lt (by rw [Heap.size_push]; exact Nat.le_succ _))).trans (kp b o' q)
end
end SP
end
section
set_option Elab.async false
set_option linter.all false
set_option autoImplicit false
set_option maxRecDepth 100000
set_option maxHeartbeats 2000000
namespace L2
open PySem PySem.Spec PySem.Calls PyProof.Rows PyProof.V PySem.W
section
variable {X : Cx}
/-- sum of a tuple of ints -/
theorem cr_sumT (hc : X.calm = true) : CallR X (.builtin "sum") (fun vs H Q => ∃ (a : Addr) (ns : List Int), vs = [V.ref a] ∧ SqT X.K H a (ns.map V.int) ∧ Q (.int ns.sum) H) := by
  intro pins s σ H vs us Q I r h
  obtain ⟨a, ns, rfl, hs, q⟩ := h
  obtain ⟨its, rv, ht, _⟩ := I.tuple hs
  have hi := rv.ints
  obtain ⟨xs, hx⟩ := hi.allInts.items
  have hn : numsOf its.toArray.toList = ns := by rw [show its.toArray.toList = its from rfl, hi.numsOf]
  have ht' : s.heap.IsTuple a its.toArray := ht
  rw [hx] at ht' hn
  rw [nums_intItems] at hn
  rw [Vals.ref1 r]
  refine ktm_sumG (I.ok.hd hc) ht' fun h' tk t' hk => ⟨.int _, H, I.kept hk, ⟨t', ?_⟩, q⟩
  rw [preSum_eq, List.take_of_length_le (by simp), hn]
end
end L2
namespace SP
open PySem PySem.Spec L2
section
variable {κ : Kx} {X : Cx}
/-- a call by values -/
def rDc (κ : Kx) (g : Store → List D → Option D) : List V → Hp → VK → Prop := fun xs H Q => ∃ w S ds, w.H = H ∧ HRel κ w S ∧ RepLs κ w ds xs ∧ ∃ d, g S ds = some d ∧ ∀ w', w.le w' → HRel κ w' S → Fin_ κ Q w' S d
def bfV : Bf → Value
  | .len => .builtin "len" | .sum => .builtin "sum" | .min1 => .builtin "min" | .min2 => .builtin "min" | .max1 => .builtin "max" | .max2 => .builtin "max"
  | .list => .type "list" | .tuple => .type "tuple" | .all => .builtin "all" | .toInt => .type "int" | .sorted => .builtin "sorted" | .sortedSet => .none
/-- one argument, read -/
theorem see1 {w : Wd} {S : Store} {ds : List D} {xs : List V} {e : D} (hr : HRel κ w S) (r : RepLs κ w ds xs) (h : ds.map (rdD S) = [e]) : ∃ x, xs = [x] ∧ See κ w e x := by
  match ds, r, h with
  | [d], ⟨v, t, e1, q, z⟩, h =>
    simp only [List.map_cons, List.map_nil, List.cons.injEq, and_true] at h
    have z' : t = [] := z
    subst z'
    exact ⟨v, e1, h ▸ see_rd hr q⟩
theorem see2 {w : Wd} {S : Store} {ds : List D} {xs : List V} {e f : D} (hr : HRel κ w S) (r : RepLs κ w ds xs) (h : ds.map (rdD S) = [e, f]) : ∃ x y, xs = [x, y] ∧ See κ w e x ∧ See κ w f y := by
  match ds, r, h with
  | [d, d'], ⟨v, t, e1, q, v', t', e2, q', z⟩, h =>
    simp only [List.map_cons, List.map_nil, List.cons.injEq, and_true] at h
    have z' : t' = [] := z
    subst z'
    subst e2
    exact ⟨v, v', e1, h.1 ▸ see_rd hr q, h.2 ▸ see_rd hr q'⟩
theorem min_fold : ∀ (l : List Int) (a : Int), l.foldl min a ∈ a :: l ∧ ∀ y ∈ a :: l, l.foldl min a ≤ y
  | [], a => by simp
  | b :: l, a => by
    obtain ⟨h1, h2⟩ := min_fold l (min a b)
    refine ⟨?_, fun y hy => ?_⟩
    · rcases List.mem_cons.mp h1 with e | e
      · show l.foldl min (min a b) ∈ _
        rw [e]
        rcases Int.le_total a b with q | q
        · rw [Int.min_eq_left q]; simp
        · rw [Int.min_eq_right q]; simp
      · exact List.mem_cons_of_mem _ (List.mem_cons_of_mem _ e)
    · show l.foldl min (min a b) ≤ y
      have h3 := h2 (min a b) (List.mem_cons_self ..)
      rcases List.mem_cons.mp hy with e | e
      · omega
      · rcases List.mem_cons.mp e with e | e
        · omega
        · exact h2 y (List.mem_cons_of_mem _ e)
theorem max_fold : ∀ (l : List Int) (a : Int), l.foldl max a ∈ a :: l ∧ ∀ y ∈ a :: l, y ≤ l.foldl max a
  | [], a => by simp
  | b :: l, a => by
    obtain ⟨h1, h2⟩ := max_fold l (max a b)
    refine ⟨?_, fun y hy => ?_⟩
    · rcases List.mem_cons.mp h1 with e | e
      · show l.foldl max (max a b) ∈ _
        rw [e]
        rcases Int.le_total a b with q | q
        · rw [Int.max_eq_right q]; simp
        · rw [Int.max_eq_left q]; simp
      · exact List.mem_cons_of_mem _ (List.mem_cons_of_mem _ e)
    · show y ≤ l.foldl max (max a b)
      have h3 := h2 (max a b) (List.mem_cons_self ..)
      rcases List.mem_cons.mp hy with e | e
      · omega
      · rcases List.mem_cons.mp e with e | e
        · omega
        · exact h2 y (List.mem_cons_of_mem _ e)
theorem minL_spec {l : List Int} {m : Int} (h : minL l = some m) : 0 < l.length ∧ m ∈ l ∧ ∀ y ∈ l, m ≤ y := by
  cases l with
  | nil => cases h
  | cons a l =>
    simp only [minL, Option.some.injEq] at h
    subst h
    exact ⟨by simp, (min_fold l a).1, (min_fold l a).2⟩
theorem maxL_spec {l : List Int} {m : Int} (h : maxL l = some m) : 0 < l.length ∧ m ∈ l ∧ ∀ y ∈ l, y ≤ m := by
  cases l with
  | nil => cases h
  | cons a l =>
    simp only [maxL, Option.some.injEq] at h
    subst h
    exact ⟨by simp, (max_fold l a).1, (max_fold l a).2⟩
theorem see_ints {w : Wd} {xs : List D} {x : V} {is : List Int} (r : See κ w (.lst xs) x) (h : intsD xs = some is) : ∃ a, x = .ref a ∧ w.H a = some (.lst (is.map V.int)) := by
  obtain ⟨a, vs, rfl, ra, pa⟩ := r.lst
  rw [pa.intsD h] at ra
  exact ⟨a, rfl, ra⟩
theorem each_ints {us : List Value} {is : List Int} (r : Vals (is.map V.int) us) : PySem.W.EachIs (fun v b => ∃ t, v = Value.int b t) us is := by
  induction is generalizing us with
  | nil => cases r; exact .nil
  | cons i is ih =>
    cases r with
    | cons r1 r2 => exact .cons r1 (ih r2)
theorem vals_each : ∀ {us : List Value} {is : List Int}, PySem.W.EachIs (fun v b => ∃ t, v = Value.int b t) us is → Vals (is.map V.int) us
  | _, _, .nil => .nil
  | _, _, .cons h t => .cons h (vals_each t)
theorem sorted_ints {pins : List (Addr × Obj)} {s : Shared} {σ : L2.St} {H : Hp} {l : Addr} {T : String} {o : Obj} {its : List Value} {n : Nat} {is : List Int} {Q : VK} {E : Value → Shared → Prop} (hu : X.A.units + 200 < cLine) (I : L2.Inv X pins σ H s) (hT : T = "list" ∨ T = "tuple") (ho : s.heap.get? l = some o) (hc : o.cls = .type T)
    (hd : o.data = .seq its.toArray n) (rv : Vals (is.map V.int) its) (hz : is.length ≤ sizeLine) (q : ∀ p, H p = none → Q (.ref p) (upd H p (.lst ((sortI is).map V.int)))) :
    wpAny (model X.prog X.w) X.A (call (.builtin "sorted") [.ref l]) (EP X pins σ Q) E s := by
  have e0 := each_ints rv
  refine sorted_seq (R := fun v b => ∃ t, v = Value.int b t) (enc := fun i : Int => PyData.int i) (bs := is) hT ho hc hd (by simpa using e0) (by
      have : PySem.W.EachIs (fun v b => ∃ as, Reads s.heap v (PyData.int b) as) its is := e0.mono fun v b h => by
        obtain ⟨t, rfl⟩ := h
        exact ⟨[], .int b t⟩
      simpa using this) (PySem.W.AllAlike.of fun b b' => by simp [PySem.W.alike]) (PySem.W.Sortable.others fun b => ⟨by simp, by simp⟩) hz (fun b _ => by simp only [PyData.depth]; omega) fun p h' out c ge kp hp hl eo => ?_
  have eL : is.mergeSort (PySem.W.dataLe false fun i : Int => PyData.int i) = sortI is := by
    rw [PySem.W.dataLe_int fun i : Int => i] <;> rfl
  rw [eL] at eo
  have lenE : (sortI is).length = is.length := by unfold sortI; exact List.length_mergeSort ..
  refine ⟨.ref p, _, I.laid (t' := s.toks) (a := p) (o := .lst ((sortI is).map V.int)) kp ge ?_, rfl, q p (I.hok.fresh ge)⟩
  exact ⟨by rw [List.length_map, lenE]; exact hz, out, c, vals_each eo, hp⟩
/-- the built-ins -/
theorem cr_bf (hc : X.calm = true) (hu : X.A.units + 200 < cLine) (f : Bf) (hf : f ≠ .sortedSet) : CallR X (bfV f) (rDc κ fun S ds => bfD f (ds.map (rdD S))) := by
  intro pins s σ H xs us Q I rv h
  obtain ⟨w, S, ds, rfl, hr, r, d, e, q⟩ := h
  replace e : bfD f (ds.map (rdD S)) = some d := e
  obtain ⟨es, hes⟩ : ∃ es, es = ds.map (rdD S) := ⟨_, rfl⟩
  rw [← hes] at e
  cases f with
  | len =>
    match es, hes, e with
    | [.tup zs], hes, e =>
      simp only [bfD, Option.some.injEq] at e
      subst e
      obtain ⟨x, rfl, sx⟩ := see1 hr r hes.symm
      obtain ⟨a, vs, rfl, fa, ra, pa⟩ := sx.tup
      exact call_len_seq pins s σ w.H _ us Q I rv ⟨a, vs, rfl, .inr (.inl (.inl ra)), fin_here hr q (by rw [pa.length]; exact rep_int)⟩
    | [.lst zs], hes, e =>
      simp only [bfD, Option.some.injEq] at e
      subst e
      obtain ⟨x, rfl, sx⟩ := see1 hr r hes.symm
      obtain ⟨a, vs, rfl, ra, pa⟩ := sx.lst
      exact call_len_seq pins s σ w.H _ us Q I rv ⟨a, vs, rfl, .inl (.inl (.inl ra)), fin_here hr q (by rw [pa.length]; exact rep_int)⟩
  | sum =>
    match es, hes, e with
    | [.tup zs], hes, e =>
      simp only [bfD, Option.map_eq_some_iff] at e
      obtain ⟨is, hi, rfl⟩ := e
      obtain ⟨x, rfl, sx⟩ := see1 hr r hes.symm
      obtain ⟨a, vs, rfl, fa, ra, pa⟩ := sx.tup
      rw [pa.intsD hi] at ra
      exact cr_sumT hc pins s σ w.H _ us Q I rv ⟨a, is, rfl, .inl (.inl ra), fin_here hr q rep_int⟩
    | [.lst zs], hes, e =>
      simp only [bfD, Option.map_eq_some_iff] at e
      obtain ⟨is, hi, rfl⟩ := e
      obtain ⟨x, rfl, sx⟩ := see1 hr r hes.symm
      obtain ⟨a, rfl, ra⟩ := see_ints sx hi
      exact cr_sum hc pins s σ w.H _ us Q I rv ⟨a, is, rfl, .inl (.inl ra), fin_here hr q rep_int⟩
  | min1 =>
    match es, hes, e with
    | [.lst zs], hes, e =>
      simp only [bfD, Option.bind_eq_some_iff, Option.map_eq_some_iff] at e
      obtain ⟨is, hi, m, hm, rfl⟩ := e
      obtain ⟨x, rfl, sx⟩ := see1 hr r hes.symm
      obtain ⟨a, rfl, ra⟩ := see_ints sx hi
      obtain ⟨h1, h2, h3⟩ := minL_spec hm
      refine cr_min hc pins s σ w.H _ us Q I rv ⟨a, is, rfl, .inl (.inl ra), h1, fun m' k1 k2 => ?_⟩
      have : m' = m := Int.le_antisymm (k2 m h2) (h3 m' k1)
      subst this
      exact fin_here hr q rep_int
  | max1 =>
    match es, hes, e with
    | [.lst zs], hes, e =>
      simp only [bfD, Option.bind_eq_some_iff, Option.map_eq_some_iff] at e
      obtain ⟨is, hi, m, hm, rfl⟩ := e
      obtain ⟨x, rfl, sx⟩ := see1 hr r hes.symm
      obtain ⟨a, rfl, ra⟩ := see_ints sx hi
      obtain ⟨h1, h2, h3⟩ := maxL_spec hm
      refine cr_max hc pins s σ w.H _ us Q I rv ⟨a, is, rfl, .inl (.inl ra), h1, fun m' k1 k2 => ?_⟩
      have : m' = m := Int.le_antisymm (h3 m' k1) (k2 m h2)
      subst this
      exact fin_here hr q rep_int
  | min2 =>
    match es, hes, e with
    | [.int i, .int j], hes, e =>
      simp only [bfD, Option.some.injEq] at e
      subst e
      obtain ⟨x, y, rfl, sx, sy⟩ := see2 hr r hes.symm
      obtain rfl := sx.int
      obtain rfl := sy.int
      refine call_min2 hc pins s σ w.H _ us Q I rv ⟨i, j, rfl, ?_⟩
      have e0 : (if j < i then j else i) = min i j := by
        by_cases hj : j < i
        · rw [if_pos hj, Int.min_eq_right (by omega)]
        · rw [if_neg hj, Int.min_eq_left (by omega)]
      rw [e0]
      exact fin_here hr q rep_int
  | max2 =>
    match es, hes, e with
    | [.int i, .int j], hes, e =>
      simp only [bfD, Option.some.injEq] at e
      subst e
      obtain ⟨x, y, rfl, sx, sy⟩ := see2 hr r hes.symm
      obtain rfl := sx.int
      obtain rfl := sy.int
      refine call_max2 hc pins s σ w.H _ us Q I rv ⟨i, j, rfl, ?_⟩
      have e0 : (if j > i then j else i) = max i j := by
        by_cases hj : j > i
        · rw [if_pos hj, Int.max_eq_right (by omega)]
        · rw [if_neg hj, Int.max_eq_left (by omega)]
      rw [e0]
      exact fin_here hr q rep_int
  | list =>
    match es, hes, e with
    | [.tup zs], hes, e =>
      simp only [bfD, Option.some.injEq] at e
      subst e
      obtain ⟨x, rfl, sx⟩ := see1 hr r hes.symm
      obtain ⟨a, vs, rfl, fa, ra, pa⟩ := sx.tup
      exact call_list_of pins s σ w.H _ us Q I rv ⟨a, vs, rfl, .inr (.inl (.inl ra)), fun p hp => fin_tree hr q hp (rep_lst hr hp pa)⟩
    | [.lst zs], hes, e =>
      simp only [bfD, Option.some.injEq] at e
      subst e
      obtain ⟨x, rfl, sx⟩ := see1 hr r hes.symm
      obtain ⟨a, vs, rfl, ra, pa⟩ := sx.lst
      exact call_list_of pins s σ w.H _ us Q I rv ⟨a, vs, rfl, .inl (.inl (.inl ra)), fun p hp => fin_tree hr q hp (rep_lst hr hp pa)⟩
  | tuple =>
    match es, hes, e with
    | [.tup zs], hes, e =>
      simp only [bfD, Option.some.injEq] at e
      subst e
      obtain ⟨x, rfl, sx⟩ := see1 hr r hes.symm
      obtain ⟨a, vs, rfl, fa, ra, pa⟩ := sx.tup
      exact call_tuple_of pins s σ w.H _ us Q I rv ⟨a, vs, rfl, .inr ⟨.inl (.inl ra), fin_here hr q (r_of sx)⟩⟩
    | [.lst zs], hes, e =>
      simp only [bfD, Option.some.injEq] at e
      subst e
      obtain ⟨x, rfl, sx⟩ := see1 hr r hes.symm
      obtain ⟨a, vs, rfl, ra, pa⟩ := sx.lst
      exact call_tuple_of pins s σ w.H _ us Q I rv ⟨a, vs, rfl, .inl ⟨.inl (.inl ra), fun p hp => fin_tree hr q hp (rep_tup hr hp pa)⟩⟩
  | all =>
    match es, hes, e with
    | [.lst zs], hes, e =>
      simp only [bfD, Option.map_eq_some_iff] at e
      obtain ⟨is, hi, rfl⟩ := e
      obtain ⟨x, rfl, sx⟩ := see1 hr r hes.symm
      obtain ⟨a, vs, rfl, ra, pa⟩ := sx.lst
      rw [pa.boolsD hi] at ra
      exact cr_all hc pins s σ w.H _ us Q I rv ⟨a, is, rfl, .inl (.inl ra), fin_here hr q rep_bl⟩
  | toInt =>
    match es, hes, e with
    | [.int i], hes, e =>
      simp only [bfD, Option.some.injEq] at e
      subst e
      obtain ⟨x, rfl, sx⟩ := see1 hr r hes.symm
      obtain rfl := sx.int
      exact call_int1 pins s σ w.H _ us Q I rv (.inl ⟨i, rfl, fin_here hr q rep_int⟩)
    | [.bl b], hes, e =>
      simp only [bfD, Option.some.injEq] at e
      subst e
      obtain ⟨x, rfl, sx⟩ := see1 hr r hes.symm
      obtain rfl := sx.bl
      exact call_int1 pins s σ w.H _ us Q I rv (.inr ⟨b, rfl, fin_here hr q rep_int⟩)
  | sorted =>
    match es, hes, e with
    | [.tup zs], hes, e =>
      simp only [bfD, Option.map_eq_some_iff] at e
      obtain ⟨is, hi, rfl⟩ := e
      obtain ⟨x, rfl, sx⟩ := see1 hr r hes.symm
      obtain ⟨a, vs, rfl, fa, ra, pa⟩ := sx.tup
      rw [pa.intsD hi] at ra
      obtain ⟨its, rv2, ⟨ob, ho, hcl, n, hd⟩, hz⟩ := I.tuple (.inl (.inl ra))
      rw [List.length_map] at hz
      rw [Vals.ref1 rv]
      exact sorted_ints hu I (.inr rfl) ho hcl hd rv2 hz fun p hp => fin_tree hr q hp (rep_lst hr hp (Reps.ofInts _))
    | [.lst zs], hes, e =>
      simp only [bfD, Option.map_eq_some_iff] at e
      obtain ⟨is, hi, rfl⟩ := e
      obtain ⟨x, rfl, sx⟩ := see1 hr r hes.symm
      obtain ⟨a, rfl, ra⟩ := see_ints sx hi
      obtain ⟨its, rv2, ⟨ob, n, ho, hcl, _, hd⟩, hz⟩ := I.list (.inl (.inl ra))
      rw [List.length_map] at hz
      rw [Vals.ref1 rv]
      exact sorted_ints hu I (.inl rfl) ho hcl hd rv2 hz fun p hp => fin_tree hr q hp (rep_lst hr hp (Reps.ofInts _))
  | sortedSet => exact absurd rfl hf
end
end SP
end
section
set_option Elab.async false
set_option linter.all false
set_option autoImplicit false
set_option maxRecDepth 100000
set_option maxHeartbeats 2000000
namespace SP
open PySem
/-! ### the check: a core term against the text -/
/-- a block: its slots' names, its scope -/
structure CC where
  N : List Str
  sc : Scope
  lam : Bool
/-- the program: its defs, classes, names -/
structure Pg where
  F : Nat → Option Fn
  G : Cls
  fn : Nat → Option Str
  fk : Nat → Option Str
  cn : Nat → Option Str
  mn : Nat → Option Str
  fld : Nat → Option Str
  cst : Str → Option Int
  par : Nat → Option Str
  shp : Nat → Nat → List Str → List Src → Bool
def beqS (a b : Str) : Bool := decide (a = b)
def isK : Option NameKind → NameKind → Bool
  | some k, k' => decide (k = k')
  | none, _ => false
def CC.vis (c : CC) (x : Str) : Bool := isK (c.sc.names.lookup x) .local || isK (c.sc.names.lookup x) .cell || isK (c.sc.names.lookup x) .free
def CC.own (c : CC) (x : Str) : Bool := isK (c.sc.names.lookup x) .local || isK (c.sc.names.lookup x) .cell
def CC.glob (c : CC) (x : Str) : Bool := isK (c.sc.names.lookup x) .globalImplicit
def nmOk (x : Str) : Bool := !beqS x "__debug__" && !beqS x "__classdict__" && !beqS x "__name__"
def CC.at_ (c : CC) (i : Nat) (x : Str) : Bool := match c.N[i]? with
  | some y => beqS y x
  | none => false
def optIs (o : Option Str) (x : Str) : Bool := match o with
  | some y => beqS y x
  | none => false
/-- no star, no slice, no set display -/
def plainX : Expr → Bool
  | .Starred _ _ => false
  | .Slice _ _ _ _ => false
  | .Set _ _ _ => false
  | _ => true
def plainO : Expr → Bool
  | .Name _ _ => true
  | .Subscript _ _ _ => true
  | .Attribute _ _ _ => true
  | _ => false
def tyName : Ty → Option Str
  | .int => some "int" | .bool => some "bool" | .list => some "list" | .tuple => some "tuple" | .str => some "str" | .ve => some "ValueError" | .cls _ => none
def bfName : Bf → Str
  | .len => "len" | .sum => "sum" | .min1 => "min" | .max1 => "max" | .min2 => "min" | .max2 => "max" | .list => "list" | .tuple => "tuple" | .all => "all" | .toInt => "int" | .sorted => "sorted" | .sortedSet => "sorted"
def bfAr : Bf → Nat
  | .min2 => 2 | .max2 => 2 | _ => 1
def ownOf (c : CC) (tg : Tg) : List (Str × Nat) := (slotsT tg).map fun i => (c.N.getD i "", i)
mutual
/-- a target; loc: local names alone -/
def chkT (loc : Bool) (c : CC) : Tg → Expr → Bool
  | .nm i, .Name x _ => c.at_ i x && (if loc then isK (c.sc.names.lookup x) .local else c.own x)
  | .tp ts, .Tuple es _ _ => chkTs loc c ts es
  | _, _ => false
def chkTs (loc : Bool) (c : CC) : Tgs → List Expr → Bool
  | .nil, [] => true
  | .cons t ts, e :: es => chkT loc c t e && chkTs loc c ts es
  | _, _ => false
end
/-- a lambda of the one parameter n, else captured names and globals alone -/
def lam1B (n : Str) (sc scope : Scope) : Bool :=
  decide (scope.kind = .function) && !scope.isCoroutine && !scope.isGenerator && decide (scope.names.lookup n = some .local) && scope.names.all fun y => (!decide (y.2 = .local) || decide (y.1 = n)) && !decide (y.2 = .cell) && (!decide (y.2 = .free) || decide (sc.names.lookup y.1 = some .cell) || decide (sc.names.lookup y.1 = some .free))
def isTupE : Expr → Bool
  | .Tuple _ _ _ => true
  | _ => false
def isTT : Ex → Bool
  | .tt => true
  | _ => false
section
variable (pg : Pg)
def chkTy (t : Ty) (x : Str) : Bool := match t with
  | .cls k => optIs (pg.cn k) x
  | t => optIs (tyName t) x
def chkTys : List Ty → List Expr → Bool
  | [], [] => true
  | t :: ts, e :: es => chkTyE t e && chkTys ts es
  | _, _ => false
where chkTyE (t : Ty) (e : Expr) : Bool := match e with
  | .Name y _ => nmOk y && chkTy pg t y
  | _ => false
def globs (c : CC) : List Expr → Bool
  | [] => true
  | .Name y _ :: es => c.glob y && globs c es
  | _ => false
/-- the one parameter of an exception's __init__ -/
def isParam (k : Nat) (n : Str) : Bool := optIs (pg.par k) n
mutual
def chkE : Ex → CC → Expr → Bool
  | .var i, c, e' => match e' with
    | .Name x _ => c.at_ i x && c.vis x && nmOk x
    | _ => false
  | .frz e, c, e' => chkE e c e'
  | .non, _, e' => match e' with
    | .Constant .none _ _ => true
    | _ => false
  | .bl b, c, e' => match e' with
    | .Constant (.bool b') _ _ => b == b'
    | .Call (.Name x _) [.Call (.Name z _) [.Constant (.str _) _ _] [] _, .Name y _] [] _ => !b && beqS x "isinstance" && beqS z "ValueError" && c.glob x && c.glob z && c.glob y && nmOk y && optIs (pg.cn 0) y && (pg.cn 1).isSome
    | _ => false
  | .int i, _, e' => match e' with
    | .Constant (.int j) _ _ => decide (i = j)
    | _ => false
  | .neg i, _, e' => match e' with
    | .UnaryOp .USub (.Constant (.int j) _ _) _ => decide (i = j)
    | _ => false
  | .str s, _, e' => match e' with
    | .Constant (.str t) _ _ => beqS s t
    | _ => false
  | .cst x i, c, e' => match e' with
    | .Name y _ => beqS x y && c.glob x && nmOk x && decide (pg.cst x = some i)
    | _ => false
  | .tt, _, _ => false
  | .bin o a b, c, e' => match e' with
    | .BinOp l op r _ => decide (op = opB o) && chkE a c l && chkE b c r
    | _ => false
  | .cmp o a b, c, e' => match e' with
    | .Compare l [op] [r] _ => decide (op = opC o) && plainX r && chkE a c l && chkE b c r
    | _ => false
  | .cmp2 o o' a b d, c, e' => match e' with
    | .Compare l [op, op'] [m, r] _ => decide (op = opC o) && decide (op' = opC o') && plainX m && plainX r && chkE a c l && chkE b c m && chkE d c r
    | _ => false
  | .isN a, c, e' => match e' with
    | .Compare l [.Is] [.Constant .none _ _] _ => chkE a c l
    | _ => false
  | .notN a, c, e' => match e' with
    | .Compare l [.IsNot] [.Constant .none _ _] _ => chkE a c l
    | _ => false
  | .and a b, c, e' => match e' with
    | .BoolOp .And [x, y] _ => chkE a c x && chkE b c y
    | .BoolOp .And (x :: y :: z :: rest) p => chkE a c x && chkE b c (.BoolOp .And (y :: z :: rest) p)
    | _ => false
  | .or a b, c, e' => match e' with
    | .BoolOp .Or [x, y] _ => chkE a c x && chkE b c y
    | .BoolOp .Or (x :: y :: z :: rest) p => chkE a c x && chkE b c (.BoolOp .Or (y :: z :: rest) p)
    | _ => false
  | .not a, c, e' => match e' with
    | .UnaryOp .Not x _ => chkE a c x
    | _ => false
  | .ite d a b, c, e' => match e' with
    | .IfExp t x y _ => chkE d c t && chkE a c x && chkE b c y
    | _ => false
  | .tup es, c, e' => match e' with
    | .Tuple xs _ _ => chkEs es c xs
    | _ => false
  | .lst es, c, e' => match e' with
    | .List xs _ => chkEs es c xs
    | _ => false
  | .new es, c, e' => match e' with
    | .List xs _ => chkEs es c xs
    | _ => false
  | .dic0, _, _ => false
  | .ix a b, c, e' => match e' with
    | .Subscript x y _ => plainX y && chkE a c x && chkE b c y
    | _ => false
  | .slA a l, c, e' => match e' with
    | .Subscript x (.Slice (some y) none none _) _ => chkE a c x && chkE l c y
    | _ => false
  | .slB a h, c, e' => match e' with
    | .Subscript x (.Slice none (some y) none _) _ => chkE a c x && chkE h c y
    | _ => false
  | .slC a l h, c, e' => match e' with
    | .Subscript x (.Slice (some y) (some z) none _) _ => chkE a c x && chkE l c y && chkE h c z
    | _ => false
  | .rev a, c, e' => match e' with
    | .Subscript x (.Slice none none (some (.UnaryOp .USub (.Constant (.int 1) _ _) _)) _) _ => chkE a c x
    | _ => false
  | .fld a f, c, e' => match e' with
    | .Attribute x n _ => plainO x && optIs (pg.fld f) n && chkE a c x
    | _ => false
  | .call f es, c, e' => match e' with
    | .Call (.Name x _) (a :: as) [] _ => optIs (pg.fn f) x && c.glob x && nmOk x && (a :: as).all plainX && chkEs es c (a :: as)
    | _ => false
  | .callK f es ns ks pl, c, e' => match e' with
    | .Call (.Name x _) (a :: as) kws _ => optIs (pg.fk f) x && c.glob x && nmOk x && (a :: as).all plainX && pg.shp f (lenEs es) ns pl && chkEs es c (a :: as) && chkKs ks c ns kws
    | .Call (.Name x _) [] kws _ => optIs (pg.fk f) x && c.glob x && nmOk x && pg.shp f (lenEs es) ns pl && chkEs es c [] && chkKs ks c ns kws
    | _ => false
  | .meth m o es, c, e' => match e' with
    | .Call (.Attribute x n ap) as [] p => plainO x && optIs (pg.mn m) n && (ap.endLine == p.line) && decide (as.length < 20) && as.all plainX && chkE o c x && chkEs es c as
    | _ => false
  | .mk k es, c, e' => match e' with
    | .Call (.Name x _) (a :: as) [] _ => optIs (pg.cn k) x && decide (100 ≤ k) && c.glob x && nmOk x && (a :: as).all plainX && chkEs es c (a :: as)
    | _ => false
  | .bf f es, c, e' => match e' with
    | .Call (.Name x _) (a :: as) [] _ => beqS x (bfName f) && c.glob x && decide (f ≠ .sortedSet) && (a :: as).all plainX && chkEs es c (a :: as)
    | _ => false
  | .isi a t, c, e' => match e' with
    | .Call (.Name x _) [e, .Name y _] [] _ => beqS x "isinstance" && c.glob x && plainX e && chkE a c e && c.glob y && nmOk y && chkTy pg t y
    | _ => false
  | .isis a ts, c, e' => match e' with
    | .Call (.Name x _) [e, .Tuple es _ _] [] _ => beqS x "isinstance" && c.glob x && plainX e && chkE a c e && globs c es && chkTys pg ts es && decide (es.length ≤ 1000) && !ts.isEmpty
    | _ => false
  | .thw e, _, _ => false
  | .sset e, c, e' => match e' with
    | .Call (.Name x _) [.Call (.Name y _) [a] [] _] [] _ => beqS x "sorted" && beqS y "set" && c.glob x && c.glob y && plainX a && chkE e c a
    | _ => false
  | .addN a b, c, e' => match e' with
    | .BinOp l op r _ => decide (op = .Add) && chkE a c l && chkE b c r
    | _ => false
  | .lstN e, c, e' => match e' with
    | .Call (.Name x _) [a] [] _ => beqS x "list" && c.glob x && plainX a && chkE e c a
    | _ => false
  | .lrng e, c, e' => match e' with
    | .Call (.Name x _) [.Call (.Name y _) [a] [] _] [] _ => beqS x "list" && beqS y "range" && c.glob x && c.glob y && plainX a && chkE e c a
    | _ => false
  | .trng e, c, e' => match e' with
    | .Call (.Name x _) [.Call (.Name y _) [a] [] _] [] _ => beqS x "tuple" && beqS y "range" && c.glob x && c.glob y && plainX a && chkE e c a
    | _ => false
  | .mkX k e, c, e' => match e' with
    | .Call (.Name x _) [a] [] _ => optIs (pg.cn k) x && decide (0 < k) && decide (k < 100) && c.glob x && nmOk x && plainX a && chkE e c a
    | _ => false
  | .mkXK k n e, c, e' => match e' with
    | .Call (.Name x _) [] [⟨some y, a, _⟩] _ => optIs (pg.cn k) x && decide (0 < k) && decide (k < 100) && c.glob x && nmOk x && beqS y n && ((List.range 16).any fun f => (pg.G.fpos k f).isSome && optIs (pg.fld f) n) && chkE e c a
    | _ => false
  | .comp tg it d e, c, e' => match e' with
    | .ListComp elt [⟨t, iter, [], 0⟩] scope _ => L2.blkC c.N c.sc scope (ownOf c tg) && plainX iter && chkT true ⟨c.N, L2.relS scope c.sc, false⟩ tg t && chkI it c (isTupE t) iter && isTT d && chkE e ⟨c.N, L2.relS scope c.sc, false⟩ elt
    | .ListComp elt [⟨t, iter, [i], 0⟩] scope _ => L2.blkC c.N c.sc scope (ownOf c tg) && plainX iter && chkT true ⟨c.N, L2.relS scope c.sc, false⟩ tg t && chkI it c (isTupE t) iter && chkE d ⟨c.N, L2.relS scope c.sc, false⟩ i && chkE e ⟨c.N, L2.relS scope c.sc, false⟩ elt
    | _ => false
  | .sortK p a key, c, e' => match e' with
    | .Call (.Name x _) [a'] [⟨some kx, .Lambda ⟨[], [⟨n, none, _⟩], none, [], [], none, []⟩ body scope _, _⟩] _ => beqS x "sorted" && c.glob x && plainX a' && c.lam && beqS kx "key" && c.at_ p n && lam1B n c.sc scope && chkE a c a' && chkE key ⟨c.N, scope, false⟩ body
    | _ => false
  | .act i, c, e' => false
  | .callT g e, c, e' => false
def chkEs : Exs → CC → List Expr → Bool
  | .nil, _, xs => xs.isEmpty
  | .cons e es, c, xs => match xs with
    | x :: xs => plainX x && chkE e c x && chkEs es c xs
    | _ => false
def chkKs : Exs → CC → List Str → List Keyword → Bool
  | .nil, _, ns, kws => ns.isEmpty && kws.isEmpty
  | .cons e es, c, ns, kws => match ns, kws with
    | n :: ns, ⟨some y, v, _⟩ :: kws => beqS y n && chkE e c v && chkKs es c ns kws
    | _, _ => false
def chkI : It → CC → Bool → Expr → Bool
  | .of e, c, _, x => chkE e c x
  | .enum e, c, b, e' => match e' with
    | .Call (.Name n _) [x] [] _ => b && beqS n "enumerate" && c.glob n && plainX x && chkE e c x
    | _ => false
  | .zip d e, c, b, e' => match e' with
    | .Call (.Name n _) [x, y] [] _ => b && beqS n "zip" && c.glob n && plainX x && plainX y && chkE d c x && chkE e c y
    | _ => false
  | .rng1 a, c, _, e' => match e' with
    | .Call (.Name n _) [x] [] _ => beqS n "range" && c.glob n && plainX x && chkE a c x
    | _ => false
  | .rng2 a b, c, _, e' => match e' with
    | .Call (.Name n _) [x, y] [] _ => beqS n "range" && c.glob n && plainX x && plainX y && chkE a c x && chkE b c y
    | _ => false
  | .rng3 a b d, c, _, e' => match e' with
    | .Call (.Name n _) [x, y, .UnaryOp .USub (.Constant (.int 1) _ _) _] [] _ => decide (d = -1) && beqS n "range" && c.glob n && plainX x && plainX y && chkE a c x && chkE b c y
    | _ => false
end
end
end SP
end
section
set_option Elab.async false
set_option linter.all false
set_option autoImplicit false
set_option maxRecDepth 100000
set_option maxHeartbeats 2000000
namespace SP
open PySem PySem.Spec L2
section
variable {κ : Kx} {X : Cx}
/-- .. as a test -/
def tT (κ : Kx) (W : WX) (f : Env → Store → R D) : TT := fun σ H Q => ∃ w ρ S, w.H = H ∧ HRel κ w S ∧ SRel κ w ρ σ ∧ Aft κ W σ w (f ρ S) (fun w' _ d => ∃ b, d = .bl b ∧ Q b w'.H)
def JT (κ : Kx) (X : Cx) (e : Expr) (f : Env → Store → R D) : Prop := ∀ W, Takes X W → PT X e (tT κ W f)
theorem tT_tB {W : WX} {f : Env → Store → R D} {σ : L2.St} {H : Hp} {Q : Bool → Hp → Prop} (h : tT κ W f σ H Q) : tB (tX κ W f) σ H Q := by
  obtain ⟨w, ρ, S, e, hr, sr, a⟩ := h
  refine ⟨w, ρ, S, e, hr, sr, a.imp fun w' S' d _ _ _ p v rv => ?_⟩
  obtain ⟨b, rfl, q⟩ := p
  exact ⟨b, by have := rv.see.bl; exact this, q⟩
theorem j_test {e : Expr} {f : Env → Store → R D} (h : JE κ X e f) (he : ∀ whole, isTrue e X.env whole = (do let v ← whole; standAt e.pos; holding [v] (truthy v))) : JT κ X e f := fun W tk =>
  pt_imp (pt_val (h W tk) he) fun σ H Q q => tT_tB q
theorem tT_bind {α : Type} {W : WX} {fa : Env → Store → R D} {g : D → Store → R α} {w : Wd} {ρ : Env} {S : Store} {σ : L2.St} {P : Wd → Store → α → Prop} {Q' : Bool → Hp → Prop} (hr : HRel κ w S) (sr : SRel κ w ρ σ) (h : Aft κ W σ w ((fa ρ S).bind g) P)
    (hq : ∀ w' S' d, w.le w' → HRel κ w' S' → fa ρ S = .ok d S' → Aft κ W σ w' (g d S') P → ∃ b, d = .bl b ∧ Q' b w'.H) : tT κ W fa σ w.H Q' :=
  ⟨w, ρ, S, rfl, hr, sr, h.bind.imp fun w' S' d le hr' e a => hq w' S' d le hr' e a⟩

/-! ### constants, names -/
theorem j_const {e : Expr} {d : D} {v : V} (h : PE X e (tC v)) (hv : ∀ w, RepL κ w d v) : JE κ X e (fun _ S => .ok d S) := fun W tk => pe_imp h fun σ H Q q => by
  obtain ⟨w, ρ, S, rfl, hr, sr, a⟩ := q
  exact a w (.refl w) hr v (hv w)
theorem j_var {i : Nat} {x : Str} {pos : Pos} (hN : X.N[i]? = some x) (hv : Vis X.env.scope x) (h1 : (x == ("__debug__" : Str)) = false) (h2 : (x == ("__classdict__" : Str)) = false) :
    JE κ X (.Name x pos) (fun ρ S => match ρ[i]? with | some (some d) => .ok d S | _ => .bad) := fun W tk => pe_imp (pe_var (i := i) hN hv h1 h2) fun σ H Q q => by
  obtain ⟨w, ρ, S, rfl, hr, sr, a⟩ := q
  dsimp only at a
  split at a
  · rename_i d e
    obtain ⟨v, e1, r⟩ := sr.at_ i d e
    exact ⟨v, e1, a w (.refl w) hr v r⟩
  · exact a.elim
theorem frz_ok {w : Wd} {S : Store} {d : D} {v : V} (hr : HRel κ w S) (r : RepL κ w d v) {d' : D} {S' : Store} (e : frzD d S = .ok d' S') : ∃ w', w.le w' ∧ w'.H = w.H ∧ HRel κ w' S' ∧ Rep κ w'.F w'.H d' v := by
  cases d with
  | loc n =>
    obtain ⟨a, ea, rfl⟩ := r
    unfold frzD at e
    simp only at e
    split at e
    · rename_i xs es
      cases e
      obtain ⟨b, e1, e2, e3⟩ := hr.cl n _ es
      rw [ea] at e1
      cases e1
      obtain ⟨vs, q1, q2⟩ := e3
      refine ⟨w.frz a, w.le_frz a, rfl, hr.frz ea q1, ?_⟩
      simp only [Rep]
      exact ⟨a, vs, rfl, .inr rfl, q1, Reps.mono (w.le_frz a).F (w.le_frz a).H _ _ q2⟩
    · cases e
  | clo l cap => cases e
  | _ =>
    unfold frzD at e
    cases e
    exact ⟨w, .refl w, rfl, hr, r⟩
theorem frz_not_ex {d : D} {S : Store} {c : Nat} {fs : List D} {S' : Store} : frzD d S ≠ .ex c fs S' := by
  unfold frzD
  split
  · split <;> intro h <;> cases h
  · intro h; cases h
  · intro h; cases h
/-- behind a freezing -/
theorem aft_frz {W : WX} {σ : L2.St} {w : Wd} {S : Store} {d : D} {v : V} {P : Wd → Store → D → Prop} (hr : HRel κ w S) (r : RepL κ w d v) (h : Aft κ W σ w (frzD d S) P) : ∃ w' d' S', frzD d S = .ok d' S' ∧ w.le w' ∧ w'.H = w.H ∧ HRel κ w' S' ∧ Rep κ w'.F w'.H d' v ∧ P w' S' d' := by
  cases e : frzD d S with
  | ok d' S' =>
    rw [e] at h
    obtain ⟨w', le, eH, hr', r'⟩ := frz_ok hr r e
    exact ⟨w', d', S', rfl, le, eH, hr', r', h w' le hr'⟩
  | ex c fs S' => exact absurd e frz_not_ex
  | bad => rw [e] at h; exact h.elim
theorem j_frz {e : Expr} {f : Env → Store → R D} (h : JE κ X e f) : JE κ X e (fun ρ S => (f ρ S).bind frzD) := fun W tk => pe_imp (h W tk) fun σ H Q q => by
  obtain ⟨w, ρ, S, rfl, hr, sr, a⟩ := q
  refine tX_bind hr sr a fun w1 S1 d v le hr1 _ r a1 => ?_
  obtain ⟨w2, d', S2, e2, le2, eH, hr2, r2, p⟩ := aft_frz hr1 r a1
  rw [← eH]
  exact p v r2.toL

/-! ### operators -/
theorem opsD {f : Store → D → D → Option D} : True := trivial
theorem j_bin (hK : X.K = κ.K) {a b : Expr} {o : Bop} {pos : Pos} {fa fb : Env → Store → R D} (ha : JE κ X a fa) (hb : JE κ X b fb) :
    JE κ X (.BinOp a (opB o) b pos) (fun ρ S => (fa ρ S).bind fun x S1 => (fb ρ S1).bind fun y S2 => .opt S2 (binD o (rdD S2 x) (rdD S2 y))) :=
  pe_op2 (g := fun S x y => binD o (rdD S x) (rdD S y)) ha hb (fun ho h1 h2 => pe_op ho h1 h2) (op_bin hK o)
theorem behind_plain {op : CmpOp} {e : Expr} (h : plainX e = true) : behindInMarks op e = false := by
  cases e <;> first | rfl | (simp [plainX] at h)
theorem j_ix {a b : Expr} {pos : Pos} {fa fb : Env → Store → R D} (ha : JE κ X a fa) (hb : JE κ X b fb) (hs : PlainIx b) :
    JE κ X (.Subscript a b pos) (fun ρ S => (fa ρ S).bind fun x S1 => (fb ρ S1).bind fun y S2 => .opt S2 (ixD (rdD S2 x) y)) := by
  intro W tk
  have hh := pe_ix (X := X) (pos := pos) (ix_D (κ := κ)) (ha W tk) (hb W tk) hs
  refine pe_imp hh fun σ H Q q => ?_
  obtain ⟨w, ρ, S, rfl, hr, sr, a⟩ := q
  refine tX_bind hr sr a fun w1 S1 d1 v1 le1 hr1 _ r1 a1 => ?_
  refine tX_bind hr1 (sr.mono le1) a1 fun w2 S2 d2 v2 le2 hr2 _ r2 a2 => ?_
  cases e : ixD (rdD S2 d1) d2 with
  | none => rw [e] at a2; exact a2.elim
  | some d =>
    rw [e] at a2
    exact ⟨w2, S2, d1, d2, rfl, hr2, r1.mono le2, r2, d, e, fun w' le hr' => a2 w' le hr'⟩
theorem plainIx_of {b : Expr} (h : plainX b = true) : PlainIx b := by
  intro o i
  cases b <;> first | rfl | (simp [plainX] at h)
end
end SP
end
section
set_option Elab.async false
set_option linter.all false
set_option autoImplicit false
set_option maxRecDepth 100000
set_option maxHeartbeats 2000000
namespace SP
open PySem PySem.Spec L2
section
variable {κ : Kx} {X : Cx}
theorem noEx_ok {α : Type} {W : WX} {σ : L2.St} {w : Wd} {r : R α} {P : Wd → Store → α → Prop} (h : Aft κ W σ w r.noEx P) : ∃ a S, r = .ok a S ∧ ∀ w', w.le w' → HRel κ w' S → P w' S a := by
  cases r with
  | ok a S => exact ⟨a, S, rfl, h⟩
  | ex c fs S => exact h.elim
  | bad => exact h.elim
/-- a result by values that raises nothing -/
def rR2 (κ : Kx) (g : Store → D → D → R D) : R2 := fun x y H Q => ∃ w S d1 d2, w.H = H ∧ HRel κ w S ∧ RepL κ w d1 x ∧ RepL κ w d2 y ∧ ∃ d S', g S d1 d2 = .ok d S' ∧ ∀ w', w.le w' → HRel κ w' S' → Fin_ κ Q w' S' d
def NoX (g : Store → D → D → R D) : Prop := ∀ S x y c fs S', g S x y ≠ .ex c fs S'
theorem tX_op2 {W : WX} {fa fb : Env → Store → R D} {g : Store → D → D → R D} (hg : NoX g) {σ : L2.St} {H : Hp} {Q : VK} (q : tX κ W (fun ρ S => (fa ρ S).bind fun x S1 => (fb ρ S1).bind fun y S2 => g S2 x y) σ H Q) : tOp (rR2 κ g) (tX κ W fa) (tX κ W fb) σ H Q := by
  obtain ⟨w, ρ, S, rfl, hr, sr, a⟩ := q
  refine tX_bind hr sr a fun w1 S1 d1 v1 le1 hr1 _ r1 a1 => ?_
  refine tX_bind hr1 (sr.mono le1) a1 fun w2 S2 d2 v2 le2 hr2 _ r2 a2 => ?_
  cases e : g S2 d1 d2 with
  | bad => rw [e] at a2; exact a2.elim
  | ex c fs S' => exact absurd e (hg _ _ _ _ _ _)
  | ok d S' =>
    rw [e] at a2
    exact ⟨w2, S2, d1, d2, rfl, hr2, r1.mono le2, r2, d, S', e, fun w' le hr' => a2 w' le hr'⟩
theorem tT_op2 {W : WX} {fa fb : Env → Store → R D} {g : Store → D → D → R D} (hg : NoX g) {σ : L2.St} {H : Hp} {Q : Bool → Hp → Prop} (q : tT κ W (fun ρ S => (fa ρ S).bind fun x S1 => (fb ρ S1).bind fun y S2 => g S2 x y) σ H Q) : tTest (tOp (rR2 κ g) (tX κ W fa) (tX κ W fb)) σ H Q := by
  have := tT_tB q
  have h2 : tX κ W (fun ρ S => (fa ρ S).bind fun x S1 => (fb ρ S1).bind fun y S2 => g S2 x y) σ H (fun x H' => ∃ k, x = .bl k ∧ Q k H') := this
  exact tX_op2 hg h2
theorem noX_opt {f : Store → D → D → Option D} : NoX fun S x y => .opt S (f S x y) := fun S x y c fs S' h => by
  cases e : f S x y with
  | none => simp only [e, R.opt] at h; cases h
  | some d => simp only [e, R.opt] at h; cases h
theorem rR2_opt {X : Cx} {op : Value → Value → Sem Value} {f : Store → D → D → Option D} (h : OpR X op (rD2 κ f)) : OpR X op (rR2 κ fun S x y => .opt S (f S x y)) := by
  intro pins s σ H x y v u Q I rx ry ⟨w, S, d1, d2, eH, hr, r1, r2, d, S', e, q⟩
  refine h pins s σ H x y v u Q I rx ry ⟨w, S, d1, d2, eH, hr, r1, r2, ?_⟩
  cases e' : f S d1 d2 with
  | none => simp only [e', R.opt] at e; cases e
  | some d' =>
    simp only [e', R.opt] at e
    cases e
    exact ⟨_, rfl, q⟩
theorem j_cmp {a b : Expr} {op : CmpOp} {pos : Pos} {fa fb : Env → Store → R D} {g : Store → D → D → R D} (ha : JE κ X a fa) (hb : JE κ X b fb) (hg : NoX g) (ho : OpR X (compareOp op) (rR2 κ g)) (hm : behindInMarks op b = false) :
    JE κ X (.Compare a [op] [b] pos) (fun ρ S => (fa ρ S).bind fun x S1 => (fb ρ S1).bind fun y S2 => g S2 x y) ∧ JT κ X (.Compare a [op] [b] pos) (fun ρ S => (fa ρ S).bind fun x S1 => (fb ρ S1).bind fun y S2 => g S2 x y) :=
  ⟨fun W tk => pe_imp (pe_cmpR ho (ha W tk) (hb W tk) hm) fun σ H Q q => tX_op2 hg q, fun W tk => pt_imp (pt_cmpR ho (ha W tk) (hb W tk) hm) fun σ H Q q => tT_op2 hg q⟩
/-- a op b op' c -/
def gC (o : Cop) : Store → D → D → Option D := fun S x y => (cmpD o (rdD S x) (rdD S y)).map .bl
theorem tX_chain {o o' : Cop} {W : WX} {fa fb fc : Env → Store → R D} {σ : L2.St} {H : Hp} {Q : VK}
    (q : tX κ W (fun ρ S => (fa ρ S).bind fun x S1 => (fb ρ S1).bind fun y S2 => match cmpD o (rdD S2 x) (rdD S2 y) with
      | some true => (fc ρ S2).bind fun z S3 => .opt S3 ((cmpD o' (rdD S3 y) (rdD S3 z)).map .bl)
      | some false => .ok (.bl false) S2
      | none => .bad) σ H Q) : tChain (rD2 κ (gC o)) (rD2 κ (gC o')) (tX κ W fa) (tX κ W fb) (tX κ W fc) σ H Q := by
  obtain ⟨w, ρ, S, rfl, hr, sr, a⟩ := q
  refine tX_bind hr sr a fun w1 S1 d1 v1 le1 hr1 _ r1 a1 => ?_
  refine tX_bind hr1 (sr.mono le1) a1 fun w2 S2 d2 v2 le2 hr2 _ r2 a2 => ?_
  cases e : cmpD o (rdD S2 d1) (rdD S2 d2) with
  | none => rw [e] at a2; exact a2.elim
  | some b =>
    rw [e] at a2
    refine ⟨w2, S2, d1, d2, rfl, hr2, r1.mono le2, r2, .bl b, by simp [gC, e], fun w3 le3 hr3 v rv => ?_⟩
    have ev : v = .bl b := rv.see.bl
    subst ev
    refine ⟨b, rfl, ?_⟩
    cases b with
    | false => exact a2 w3 le3 hr3 _ rep_bl
    | true =>
      rw [if_pos rfl]
      have a2' : Aft κ W σ w2 ((fc ρ S2).bind fun z S3 => .opt S3 ((cmpD o' (rdD S3 d2) (rdD S3 z)).map D.bl)) (Fin_ κ Q) := a2
      have a3 := a2'.mono le3
      refine tX_bind hr3 ((sr.mono le1).mono (le2.trans le3)) a3 fun w4 S4 d4 v4 le4 hr4 _ r4 a4 => ?_
      cases e4 : cmpD o' (rdD S4 d2) (rdD S4 d4) with
      | none => rw [e4] at a4; exact a4.elim
      | some b4 =>
        rw [e4] at a4
        exact ⟨w4, S4, d2, d4, rfl, hr4, (r2.mono le3).mono le4, r4, .bl b4, by simp [gC, e4], fun w' le hr' => a4 w' le hr'⟩
theorem j_cmp2 {a b c : Expr} {o o' : Cop} {pos : Pos} {fa fb fc : Env → Store → R D} (hu : X.A.units + 200 < cLine) (ha : JE κ X a fa) (hb : JE κ X b fb) (hc : JE κ X c fc) (hm : lastMarks [opC o, opC o'] [b, c] = false) :
    JE κ X (.Compare a [opC o, opC o'] [b, c] pos) (fun ρ S => (fa ρ S).bind fun x S1 => (fb ρ S1).bind fun y S2 => match cmpD o (rdD S2 x) (rdD S2 y) with
      | some true => (fc ρ S2).bind fun z S3 => .opt S3 ((cmpD o' (rdD S3 y) (rdD S3 z)).map .bl)
      | some false => .ok (.bl false) S2
      | none => .bad) ∧
    JT κ X (.Compare a [opC o, opC o'] [b, c] pos) (fun ρ S => (fa ρ S).bind fun x S1 => (fb ρ S1).bind fun y S2 => match cmpD o (rdD S2 x) (rdD S2 y) with
      | some true => (fc ρ S2).bind fun z S3 => .opt S3 ((cmpD o' (rdD S3 y) (rdD S3 z)).map .bl)
      | some false => .ok (.bl false) S2
      | none => .bad) :=
  ⟨fun W tk => pe_imp (pe_chain (op_cmp hu o) (op_cmp hu o') (ha W tk) (hb W tk) (hc W tk) hm) fun σ H Q q => tX_chain q,
    fun W tk => pt_imp (pt_chain (op_cmp hu o) (op_cmp hu o') (ha W tk) (hb W tk) (hc W tk) hm) fun σ H Q q => tX_chain (Q := fun x H' => ∃ k, x = .bl k ∧ Q k H') (tT_tB q)⟩
/-! ### is None -/
theorem rep_none {w : Wd} {d : D} {v : V} (r : RepL κ w d v) : decide (v = .non) = isNon d := by
  cases d with
  | non =>
    have e : v = .non := by
      have r' : Rep κ w.F w.H .non v := r
      simpa [Rep] using r'
    subst e
    rfl
  | bl b => have e := r.see.bl; subst e; rfl
  | int b => have e := r.see.int; subst e; rfl
  | str b => have e := r.see.str; subst e; rfl
  | tup xs => obtain ⟨a, vs, rfl, _⟩ := r.see.tup; rfl
  | lst xs => obtain ⟨a, vs, rfl, _⟩ := r.see.lst; rfl
  | dct ks vs =>
    have r' : Rep κ w.F w.H (.dct ks vs) v := r
    simp only [Rep] at r'
    obtain ⟨_, _, a, rfl, _⟩ := r'
    rfl
  | obj c fs =>
    have r' : Rep κ w.F w.H (.obj c fs) v := r
    simp only [Rep] at r'
    obtain ⟨a, C, dx, gs, rfl, _⟩ := r'
    rfl
  | exc c fs =>
    have r' : Rep κ w.F w.H (.exc c fs) v := r
    simp only [Rep] at r'
    obtain ⟨a, C, dx, gs, rfl, _⟩ := r'
    rfl
  | loc n => obtain ⟨a, _, rfl⟩ := r; rfl
  | clo l cap => obtain ⟨t, _, rfl, _⟩ := r; rfl
  | scr is =>
    have r' : Rep κ w.F w.H (.scr is) v := r
    simp only [Rep] at r'
    obtain ⟨a, rfl, _⟩ := r'
    rfl
theorem tX_isN {W : WX} {fa : Env → Store → R D} {σ : L2.St} {H : Hp} {Q : VK} (q : tX κ W (fun ρ S => (fa ρ S).bind fun x S1 => .ok (.bl (isNon x)) S1) σ H Q) : tIsN (tX κ W fa) σ H Q := by
  obtain ⟨w, ρ, S, rfl, hr, sr, a⟩ := q
  refine tX_bind hr sr a fun w1 S1 d1 v1 le1 hr1 _ r1 a1 => ?_
  have := a1 w1 (.refl w1) hr1 _ rep_bl
  rw [← rep_none r1] at this
  exact this
theorem tX_notN {W : WX} {fa : Env → Store → R D} {σ : L2.St} {H : Hp} {Q : VK} (q : tX κ W (fun ρ S => (fa ρ S).bind fun x S1 => .ok (.bl (!isNon x)) S1) σ H Q) : tNotN (tX κ W fa) σ H Q := by
  obtain ⟨w, ρ, S, rfl, hr, sr, a⟩ := q
  refine tX_bind hr sr a fun w1 S1 d1 v1 le1 hr1 _ r1 a1 => ?_
  have h1 := a1 w1 (.refl w1) hr1 _ rep_bl
  rw [← rep_none r1] at h1
  exact h1
theorem j_isN {a : Expr} {j : Nat} {p p' : Pos} {fa : Env → Store → R D} (ha : JE κ X a fa) :
    JE κ X (.Compare a [.Is] [.Constant .none j p] p') (fun ρ S => (fa ρ S).bind fun x S1 => .ok (.bl (isNon x)) S1) ∧ JT κ X (.Compare a [.Is] [.Constant .none j p] p') (fun ρ S => (fa ρ S).bind fun x S1 => .ok (.bl (isNon x)) S1) :=
  ⟨fun W tk => pe_imp (pe_cmp (pc_isN (ha W tk))) fun σ H Q q => tX_isN q, fun W tk => pt_imp (pt_cmp (pc_isN (ha W tk))) fun σ H Q q => tX_isN (Q := fun x H' => ∃ k, x = .bl k ∧ Q k H') (tT_tB q)⟩
theorem j_notN {a : Expr} {j : Nat} {p p' : Pos} {fa : Env → Store → R D} (ha : JE κ X a fa) :
    JE κ X (.Compare a [.IsNot] [.Constant .none j p] p') (fun ρ S => (fa ρ S).bind fun x S1 => .ok (.bl (!isNon x)) S1) ∧ JT κ X (.Compare a [.IsNot] [.Constant .none j p] p') (fun ρ S => (fa ρ S).bind fun x S1 => .ok (.bl (!isNon x)) S1) :=
  ⟨fun W tk => pe_imp (pe_cmp (pc_notN (ha W tk))) fun σ H Q q => tX_notN q, fun W tk => pt_imp (pt_cmp (pc_notN (ha W tk))) fun σ H Q q => tX_notN (Q := fun x H' => ∃ k, x = .bl k ∧ Q k H') (tT_tB q)⟩
end
end SP
end
section
set_option Elab.async false
set_option linter.all false
set_option autoImplicit false
set_option maxRecDepth 100000
set_option maxHeartbeats 4000000
/-! t[::-1] of a tuple -/
namespace HT
open PySem PySem.Calls PyProof.Rows
section
variable {prog : Program} {w : World} {A : Around} {E : Value → Shared → Prop} {s : Shared}
theorem fm_congr {α β : Type} {f g : α → Option β} : ∀ {l : List α}, (∀ x ∈ l, f x = g x) → l.filterMap f = l.filterMap g
  | [], _ => rfl
  | a :: l, h => by
    rw [List.filterMap_cons, List.filterMap_cons, h a (by simp), fm_congr fun x hx => h x (by simp [hx])]
theorem rev_range {α : Type} (xs : Array α) : (List.range xs.size).filterMap (fun (m : Nat) => xs[((xs.size : Int) - 1 + (m : Int) * (-1)).toNat]?) = xs.toList.reverse := by
  have h1 : ((List.range xs.size).map fun k => xs.size - 1 - k).filterMap (xs[·]?) = xs.toList.reverse := by
    rw [PySem.W.krv_range, List.filterMap_reverse, PySem.W.krv_all]
  rw [← h1, List.filterMap_map]
  refine fm_congr fun k hk => ?_
  have hk2 := List.mem_range.mp hk
  have e : ((xs.size : Int) - 1 + (k : Int) * (-1)).toNat = xs.size - 1 - k := by omega
  rw [e]
  rfl
theorem sliceApplied_rev {sl : Addr} {vs : Value} {n : Nat} {Q : Int × Int × Nat → Shared → Prop} (hs : s.heap.IsSliceOf sl .none .none vs) (ps : IsPart vs (some (-1)))
    (h : Q ((n : Int) - 1, -1, n) s) : wpAny (model prog w) A (Builtin.Slice.sliceApplied (.ref sl) (pure (n : Int))) Q E s := by
  obtain ⟨os, hos, hcs, hds⟩ := id hs
  unfold Builtin.Slice.sliceApplied Builtin.Slice.sliceFields
  refine wpAny_bind (wpAny_bind (wpAny_field hos hds (x := .none) rfl (wpAny_bind (wpAny_field hos hds (x := .none) rfl (wpAny_bind (wpAny_field hos hds (x := vs) rfl (wpAny_pure ?_)))))))
  refine wpAny_bind (slicePart_ ps ?_)
  show wpAny _ _ (if ((-1 : Int) == 0) = true then _ else _) _ _ s
  rw [if_neg (by decide)]
  refine wpAny_bind (slicePart_none (wpAny_bind (slicePart_none (wpAny_bind (wpAny_pure ?_)))))
  show wpAny _ _ (match Builtin.Slice.sliceAdjust none none (-1) (n : Int) with | (lo, hi) => pure (lo, (-1 : Int), Builtin.Slice.slicePlaces lo hi (-1))) _ _ s
  have e : Builtin.Slice.sliceAdjust none none (-1) (n : Int) = ((n : Int) - 1, -1) := by
    unfold Builtin.Slice.sliceAdjust
    simp
  rw [e]
  show wpAny _ _ (pure ((n : Int) - 1, (-1 : Int), Builtin.Slice.slicePlaces ((n : Int) - 1) (-1) (-1))) _ _ s
  have e2 : Builtin.Slice.slicePlaces ((n : Int) - 1) (-1) (-1) = n := by
    unfold Builtin.Slice.slicePlaces
    simp
    omega
  rw [e2]
  exact wpAny_pure h
theorem getItem_tuple_rev {t sl : Addr} {items : Array Value} {vs : Value} {Q : Value → Shared → Prop} (ht : IsTup s.heap t items) (hs : s.heap.IsSliceOf sl .none .none vs) (ps : IsPart vs (some (-1)))
    (h : Q (.ref s.heap.objs.size) { s with heap := s.heap.push { cls := .type "tuple", data := .seq items.toList.reverse.toArray } })
    (hsz : items.size ≤ sizeLine) : wpAny (model prog w) A (getItem (.ref t) (.ref sl)) Q E s := by
  have htake : sizeOk (.seq items.toList.reverse.toArray) := by
    show items.toList.reverse.toArray.size ≤ sizeLine
    simpa using hsz
  obtain ⟨os, hos, hcs, hds⟩ := id hs
  have hTs : s.TypeIs (.ref sl) "slice" := ⟨os, hos, hcs⟩
  unfold getItem
  try with_reducible refine wpAny_holding ?_
  first | refine wpAny_bind (wpAny_pure ?_) | skip
  refine wpAny_bind (wpAny_sequenceKey ht.typeIs (by decide) ?_)
  refine wpAny_bind (wpAny_callSpecial?_slot (name := Str.ofString "__getitem__") ht.typeIs PyProof.Rows.slot_tuple_getitem
    (wpAny_call_entry PyProof.Rows.slot_tuple_getitem ht.typeIs entry_tuple_getitem ?_ (args_tuple_getitem _ _)))
  show wpAny _ _ (Builtin.Tuple.tupleItemsOf (.ref t) >>= _) _ _ s
  refine wpAny_bind (tupleItemsOf_ ht ?_)
  refine wpAny_bind (wpAny_typeOf hTs ?_)
  rw [if_pos (by decide)]
  refine wpAny_bind (sliceApplied_rev hs ps ?_)
  have hno : ¬ ((((items.size : Int) - 1) == 0 && (-1 : Int) == 1 && items.size == items.size) = true) := by
    simp
  show wpAny _ _ (if (((items.size : Int) - 1) == 0 && (-1 : Int) == 1 && items.size == items.size) = true then _ else _) _ _ s
  rw [if_neg hno, rev_range]
  first
    | exact wpAny_bind (m := Builtin.Tuple.tupleExact _) (wpAny_newObj_type (wpAny_pure ⟨_, rfl, wpAny_pure h⟩) htake)
    | exact wpAny_bind (m := Builtin.Tuple.tupleExact _) (wpAny_newObj_type (wpAny_bind (wpAny_pure (wpAny_pure ⟨_, rfl, wpAny_pure h⟩))) htake)
    | exact wpAny_bind (wpAny_bind (m := Builtin.Tuple.tupleExact _) (wpAny_newObj_type (wpAny_pure (wpAny_pure ⟨_, rfl, wpAny_pure h⟩)) htake))
    | exact wpAny_bind (wpAny_bind (m := Builtin.Tuple.tupleExact _) (wpAny_newObj_type (wpAny_pure ⟨_, rfl, wpAny_pure h⟩) htake))
end
end HT
namespace L2
open PySem PySem.Spec PyProof.Rows
def tRevT (K : PySem.W.Frag) (te : TE) : TE := fun σ H Q => te σ H fun x H1 => ∃ a xs, x = .ref a ∧ SqT K H1 a xs ∧ ∀ p, H1 p = none → Q (.ref p) (upd H1 p (.tup xs.reverse))
theorem pe_revT {X : Cx} {e : Expr} {te : TE} {k : Nat} {p1 p2 p3 pos : Pos} (he : PE X e te) : PE X (.Subscript e (.Slice none none (some (.UnaryOp .USub (.Constant (.int 1) k p1) p2)) p3) pos) (tRevT X.K te) := by
  refine ⟨fun pins s σ H Q I h => ?_⟩
  refine Subscript_ (thn (he.run pins s σ H _ I h) fun v s1 ⟨x, H1, I1, r1, q1⟩ => ?_)
  obtain ⟨a, xs, ex, hx, q⟩ := q1
  subst ex
  cases r1
  have hst : PO X (some (.UnaryOp .USub (.Constant (.int 1) k p1) p2)) (tPart (tUn (rU fun i => .int (-i)) (tC (.int 1)))) := po_some (pe_un un_neg pe_int)
  refine wpAny_Slice (thn (po_none.run pins s1 σ H1 (fun o H2 => o = none ∧ H2 = H1) I1 ⟨rfl, rfl⟩) fun vl s2 ⟨l, H2, I2, pl, el, e2⟩ => ?_)
  subst el e2
  refine thn (po_none.run pins s2 σ H2 (fun o H3 => o = none ∧ H3 = H2) I2 ⟨rfl, rfl⟩) fun vu s3 ⟨u, H3, I3, pu, eu, e3⟩ => ?_
  subst eu e3
  refine thn (hst.run pins s3 σ H3 (fun o H4 => o = some (-1) ∧ H4 = H3) I3 ⟨1, rfl, -1, rfl, rfl, rfl⟩) fun vs s4 ⟨o, H4, I4, ps, eo, e4⟩ => ?_
  subst eo e4
  cases pl
  cases pu
  have I5 : Inv X pins σ H4 { s4 with heap := s4.heap.push { cls := .type "slice", data := .fields #[.none, .none, vs] } } := I4.kept (t' := s4.toks) fun b ob q => Heap.get?_push_of_some _ q
  obtain ⟨its, r, ht, hz⟩ := I5.tuple hx
  have hlen := r.length
  show wpAny (model X.prog X.w) X.A (subscriptTail e (.Slice none none (some (.UnaryOp .USub (.Constant (.int 1) k p1) p2)) p3) (.ref a) (.ref s4.heap.objs.size)) (EP X pins σ Q) X.xe { s4 with heap := s4.heap.push { cls := .type "slice", data := .fields #[.none, .none, vs] } }
  refine tail_any (ops := [.ref a, .ref s4.heap.objs.size]) ht.typeIs (PyProof.Rows.slot_tuple_getitem.lookup) ?_ (by with_unfolding_all rfl)
  refine HT.getItem_tuple_rev ht (Heap.IsSliceOf.new _ .none .none vs) ps ?_ (by rw [List.size_toArray]; omega)
  refine ⟨.ref _, _, I5.laid (t' := s4.toks) (o := .tup xs.reverse) (fun b ob q => Heap.get?_push_of_some _ q) (Nat.le_refl _) ?_, rfl, q _ (I5.hok.fresh (Nat.le_refl _))⟩
  exact ⟨by rw [List.length_reverse]; exact hz, its.reverse, r.reverse, ⟨_, Heap.get?_push_size _ rfl, rfl, _, rfl⟩⟩
end L2
end
section
set_option Elab.async false
set_option linter.all false
set_option autoImplicit false
set_option maxRecDepth 100000
set_option maxHeartbeats 2000000
namespace SP
open PySem PySem.Spec L2
section
variable {κ : Kx} {X : Cx}
/-! ### and, or, not, if -/
theorem isTrue_bo {op : BoolOp} {es : List Expr} {pos : Pos} {env : PySem.Env} (w1 w2 : Sem Value) : isTrue (.BoolOp op es pos) env w1 = isTrue (.BoolOp op es pos) env w2 := by
  cases op <;> rfl
theorem pw_of {op : BoolOp} {es : List Expr} {pos : Pos} {t : TT} (h : PT X (.BoolOp op es pos) t) : PW X (.BoolOp op es pos) t := ⟨fun wh pins s σ H Q I q => by
  rw [isTrue_bo wh (eval (.BoolOp op es pos) X.env)]
  exact h.run pins s σ H Q I q⟩
theorem tX_and {W : WX} {fa fb : Env → Store → R D} {σ : L2.St} {H : Hp} {Q : VK} (q : tX κ W (fun ρ S => (fa ρ S).bind fun x S1 => match x with
    | .bl true => fb ρ S1
    | .bl false => .ok (.bl false) S1
    | _ => .bad) σ H Q) : tAndV (tX κ W fa) (tX κ W fb) σ H Q := by
  obtain ⟨w, ρ, S, rfl, hr, sr, a⟩ := q
  refine tX_bind hr sr a fun w1 S1 d1 v1 le1 hr1 _ r1 a1 => ?_
  cases d1 with
  | bl b =>
    refine ⟨b, r1.see.bl, ?_⟩
    cases b with
    | true => exact ⟨w1, ρ, S1, rfl, hr1, sr.mono le1, a1⟩
    | false => exact a1 w1 (.refl w1) hr1 _ rep_bl
  | _ => exact a1.elim
theorem tX_or {W : WX} {fa fb : Env → Store → R D} {σ : L2.St} {H : Hp} {Q : VK} (q : tX κ W (fun ρ S => (fa ρ S).bind fun x S1 => match x with
    | .bl false => fb ρ S1
    | .bl true => .ok (.bl true) S1
    | _ => .bad) σ H Q) : tOrV (tX κ W fa) (tX κ W fb) σ H Q := by
  obtain ⟨w, ρ, S, rfl, hr, sr, a⟩ := q
  refine tX_bind hr sr a fun w1 S1 d1 v1 le1 hr1 _ r1 a1 => ?_
  cases d1 with
  | bl b =>
    refine ⟨b, r1.see.bl, ?_⟩
    cases b with
    | false => exact ⟨w1, ρ, S1, rfl, hr1, sr.mono le1, a1⟩
    | true => exact a1 w1 (.refl w1) hr1 _ rep_bl
  | _ => exact a1.elim
theorem tX_not {W : WX} {fa : Env → Store → R D} {σ : L2.St} {H : Hp} {Q : VK} (q : tX κ W (fun ρ S => (fa ρ S).bind fun x S1 => match x with
    | .bl b => .ok (.bl (!b)) S1
    | _ => .bad) σ H Q) : tNotV (tX κ W fa) σ H Q := by
  obtain ⟨w, ρ, S, rfl, hr, sr, a⟩ := q
  refine tX_bind hr sr a fun w1 S1 d1 v1 le1 hr1 _ r1 a1 => ?_
  cases d1 with
  | bl b => exact ⟨b, r1.see.bl, a1 w1 (.refl w1) hr1 _ rep_bl⟩
  | _ => exact a1.elim
theorem tT_and {W : WX} {fa fb : Env → Store → R D} {σ : L2.St} {H : Hp} {Q : Bool → Hp → Prop} (q : tT κ W (fun ρ S => (fa ρ S).bind fun x S1 => match x with
    | .bl true => fb ρ S1
    | .bl false => .ok (.bl false) S1
    | _ => .bad) σ H Q) : tAnd (tT κ W fa) (tT κ W fb) σ H Q := by
  obtain ⟨w, ρ, S, rfl, hr, sr, a⟩ := q
  refine tT_bind hr sr a fun w1 S1 d1 le1 hr1 _ a1 => ?_
  cases d1 with
  | bl b =>
    refine ⟨b, rfl, ?_⟩
    cases b with
    | true =>
      rw [if_pos rfl]
      exact ⟨w1, ρ, S1, rfl, hr1, sr.mono le1, a1⟩
    | false =>
      obtain ⟨c, e, q⟩ := a1 w1 (.refl w1) hr1
      cases e
      exact q
  | _ => exact a1.elim
theorem tT_or {W : WX} {fa fb : Env → Store → R D} {σ : L2.St} {H : Hp} {Q : Bool → Hp → Prop} (q : tT κ W (fun ρ S => (fa ρ S).bind fun x S1 => match x with
    | .bl false => fb ρ S1
    | .bl true => .ok (.bl true) S1
    | _ => .bad) σ H Q) : tOr (tT κ W fa) (tT κ W fb) σ H Q := by
  obtain ⟨w, ρ, S, rfl, hr, sr, a⟩ := q
  refine tT_bind hr sr a fun w1 S1 d1 le1 hr1 _ a1 => ?_
  cases d1 with
  | bl b =>
    refine ⟨b, rfl, ?_⟩
    cases b with
    | false => exact ⟨w1, ρ, S1, rfl, hr1, sr.mono le1, a1⟩
    | true =>
      obtain ⟨c, e, q⟩ := a1 w1 (.refl w1) hr1
      cases e
      exact q
  | _ => exact a1.elim
theorem tT_not {W : WX} {fa : Env → Store → R D} {σ : L2.St} {H : Hp} {Q : Bool → Hp → Prop} (q : tT κ W (fun ρ S => (fa ρ S).bind fun x S1 => match x with
    | .bl b => .ok (.bl (!b)) S1
    | _ => .bad) σ H Q) : tNot (tT κ W fa) σ H Q := by
  obtain ⟨w, ρ, S, rfl, hr, sr, a⟩ := q
  refine tT_bind hr sr a fun w1 S1 d1 le1 hr1 _ a1 => ?_
  cases d1 with
  | bl b =>
    obtain ⟨c, e, q⟩ := a1 w1 (.refl w1) hr1
    cases e
    exact ⟨b, rfl, q⟩
  | _ => exact a1.elim
theorem j_and1 {a b : Expr} {pos : Pos} {fa fb : Env → Store → R D} (ha : JE κ X a fa ∧ JT κ X a fa) (hb : JE κ X b fb ∧ JT κ X b fb) :
    JE κ X (.BoolOp .And [a, b] pos) (fun ρ S => (fa ρ S).bind fun x S1 => match x with
      | .bl true => fb ρ S1
      | .bl false => .ok (.bl false) S1
      | _ => .bad) ∧ JT κ X (.BoolOp .And [a, b] pos) (fun ρ S => (fa ρ S).bind fun x S1 => match x with
      | .bl true => fb ρ S1
      | .bl false => .ok (.bl false) S1
      | _ => .bad) :=
  ⟨fun W tk => pe_imp (pe_and (ha.1 W tk) (pe_one (hb.1 W tk))) fun σ H Q q => tX_and q, fun W tk => pt_imp (pw_and (ha.2 W tk) (pw_and1 (hb.2 W tk))).pt fun σ H Q q => tT_and q⟩
theorem j_and2 {a b c : Expr} {rest : List Expr} {pos : Pos} {fa fb : Env → Store → R D} (ha : JE κ X a fa ∧ JT κ X a fa) (hb : JE κ X (.BoolOp .And (b :: c :: rest) pos) fb ∧ JT κ X (.BoolOp .And (b :: c :: rest) pos) fb) :
    JE κ X (.BoolOp .And (a :: b :: c :: rest) pos) (fun ρ S => (fa ρ S).bind fun x S1 => match x with
      | .bl true => fb ρ S1
      | .bl false => .ok (.bl false) S1
      | _ => .bad) ∧ JT κ X (.BoolOp .And (a :: b :: c :: rest) pos) (fun ρ S => (fa ρ S).bind fun x S1 => match x with
      | .bl true => fb ρ S1
      | .bl false => .ok (.bl false) S1
      | _ => .bad) :=
  ⟨fun W tk => pe_imp (pe_and (ha.1 W tk) (hb.1 W tk)) fun σ H Q q => tX_and q, fun W tk => pt_imp (pw_and (ha.2 W tk) (pw_of (hb.2 W tk))).pt fun σ H Q q => tT_and q⟩
theorem j_or1 {a b : Expr} {pos : Pos} {fa fb : Env → Store → R D} (ha : JE κ X a fa ∧ JT κ X a fa) (hb : JE κ X b fb ∧ JT κ X b fb) :
    JE κ X (.BoolOp .Or [a, b] pos) (fun ρ S => (fa ρ S).bind fun x S1 => match x with
      | .bl false => fb ρ S1
      | .bl true => .ok (.bl true) S1
      | _ => .bad) ∧ JT κ X (.BoolOp .Or [a, b] pos) (fun ρ S => (fa ρ S).bind fun x S1 => match x with
      | .bl false => fb ρ S1
      | .bl true => .ok (.bl true) S1
      | _ => .bad) :=
  ⟨fun W tk => pe_imp (pe_or (ha.1 W tk) (pe_one (hb.1 W tk))) fun σ H Q q => tX_or q, fun W tk => pt_imp (pw_or (ha.2 W tk) (pw_or1 (hb.2 W tk))).pt fun σ H Q q => tT_or q⟩
theorem j_or2 {a b c : Expr} {rest : List Expr} {pos : Pos} {fa fb : Env → Store → R D} (ha : JE κ X a fa ∧ JT κ X a fa) (hb : JE κ X (.BoolOp .Or (b :: c :: rest) pos) fb ∧ JT κ X (.BoolOp .Or (b :: c :: rest) pos) fb) :
    JE κ X (.BoolOp .Or (a :: b :: c :: rest) pos) (fun ρ S => (fa ρ S).bind fun x S1 => match x with
      | .bl false => fb ρ S1
      | .bl true => .ok (.bl true) S1
      | _ => .bad) ∧ JT κ X (.BoolOp .Or (a :: b :: c :: rest) pos) (fun ρ S => (fa ρ S).bind fun x S1 => match x with
      | .bl false => fb ρ S1
      | .bl true => .ok (.bl true) S1
      | _ => .bad) :=
  ⟨fun W tk => pe_imp (pe_or (ha.1 W tk) (hb.1 W tk)) fun σ H Q q => tX_or q, fun W tk => pt_imp (pw_or (ha.2 W tk) (pw_of (hb.2 W tk))).pt fun σ H Q q => tT_or q⟩
theorem j_not {a : Expr} {pos : Pos} {fa : Env → Store → R D} (ha : JE κ X a fa ∧ JT κ X a fa) :
    JE κ X (.UnaryOp .Not a pos) (fun ρ S => (fa ρ S).bind fun x S1 => match x with
      | .bl b => .ok (.bl (!b)) S1
      | _ => .bad) ∧ JT κ X (.UnaryOp .Not a pos) (fun ρ S => (fa ρ S).bind fun x S1 => match x with
      | .bl b => .ok (.bl (!b)) S1
      | _ => .bad) :=
  ⟨fun W tk => pe_imp (pe_not (ha.1 W tk)) fun σ H Q q => tX_not q, fun W tk => pt_imp (pt_not (ha.2 W tk)) fun σ H Q q => tT_not q⟩
theorem j_ite {c a b : Expr} {pos : Pos} {fc fa fb : Env → Store → R D} (hc : JT κ X c fc) (ha : JE κ X a fa) (hb : JE κ X b fb) :
    JE κ X (.IfExp c a b pos) (fun ρ S => (fc ρ S).bind fun x S1 => match x with
      | .bl true => fa ρ S1
      | .bl false => fb ρ S1
      | _ => .bad) := fun W tk => pe_imp (pe_ifExp (hc W tk) (ha W tk) (hb W tk)) fun σ H Q q => by
  obtain ⟨w, ρ, S, rfl, hr, sr, a⟩ := q
  refine tT_bind hr sr a fun w1 S1 d1 le1 hr1 _ a1 => ?_
  cases d1 with
  | bl b =>
    refine ⟨b, rfl, ?_⟩
    cases b with
    | true =>
      rw [if_pos rfl]
      exact ⟨w1, ρ, S1, rfl, hr1, sr.mono le1, a1⟩
    | false => exact ⟨w1, ρ, S1, rfl, hr1, sr.mono le1, a1⟩
  | _ => exact a1.elim

/-! ### argument lists, displays -/
theorem star_plain {e : Expr} {es : List Expr} {env : PySem.Env} (h : plainX e = true) : starEach (e :: es) env = (false, eval e env) :: starEach es env := by
  cases e <;> first | rfl | (simp [plainX] at h)
theorem j_nil : JA κ X [] (fun _ S => .ok [] S) := fun W tk => pa_imp pa_nil fun σ H Q q => by
  obtain ⟨w, ρ, S, rfl, hr, sr, a⟩ := q
  exact a w (.refl w) hr _ .nil
theorem j_cons {e : Expr} {es : List Expr} {fe : Env → Store → R D} {fs : Env → Store → R (List D)} (he : JE κ X e fe) (hs : JA κ X es fs) (h : plainX e = true) :
    JA κ X (e :: es) (fun ρ S => (fe ρ S).bind fun x S1 => (fs ρ S1).bind fun xs S2 => .ok (x :: xs) S2) := fun W tk => pa_imp (pa_cons (he W tk) (hs W tk) (star_plain h)) fun σ H Q q => by
  obtain ⟨w, ρ, S, rfl, hr, sr, a⟩ := q
  refine tX_bind hr sr a fun w1 S1 d1 v1 le1 hr1 _ r1 a1 => ?_
  refine ⟨w1, ρ, S1, rfl, hr1, sr.mono le1, a1.bind.imp fun w2 S2 ds le2 hr2 _ a2 vs rv => ?_⟩
  exact a2 w2 (.refl w2) hr2 _ (.cons (r1.mono le2) rv)
theorem frzs_ok {W : WX} {σ : L2.St} : ∀ {ds : List D} {w : Wd} {S : Store} {vs : List V} {P : Wd → Store → List D → Prop} (hr : HRel κ w S) (r : RepLs κ w ds vs) (h : Aft κ W σ w (frzs ds S) P),
    ∃ w' ds' S', frzs ds S = .ok ds' S' ∧ w.le w' ∧ w'.H = w.H ∧ HRel κ w' S' ∧ Reps κ w'.F w'.H ds' vs ∧ P w' S' ds'
  | [], w, S, vs, P, hr, r, h => by
    have r : vs = [] := r
    subst r
    exact ⟨w, [], S, rfl, .refl w, rfl, hr, .nil, h w (.refl w) hr⟩
  | d :: ds, w, S, vs, P, hr, r, h => by
    obtain ⟨v, t, rfl, r1, r2⟩ := r
    obtain ⟨w1, d1, S1, e1, le1, eH1, hr1, rr1, p1⟩ := aft_frz hr r1 (Aft.bind (r := frzD d S) h)
    obtain ⟨w2, ds2, S2, e2, le2, eH2, hr2, rr2, p2⟩ := frzs_ok hr1 (r2.mono le1) p1.bind
    refine ⟨w2, d1 :: ds2, S2, ?_, le1.trans le2, eH2.trans eH1, hr2, .cons (Rep.mono le2.F le2.H _ _ rr1) rr2, p2 w2 (.refl w2) hr2⟩
    show (frzD d S).bind _ = _
    rw [e1]
    show (frzs ds S1).bind _ = _
    rw [e2]
    rfl
theorem frzL_ok {W : WX} {σ : L2.St} {ds : List D} {w : Wd} {S : Store} {vs : List V} {P : Wd → Store → List D → Prop} (hr : HRel κ w S) (r : RepLs κ w ds vs) (h : Aft κ W σ w (frzL ds S) P) :
    vs.length ≤ sizeLine ∧ ∃ w' ds' S', w.le w' ∧ w'.H = w.H ∧ HRel κ w' S' ∧ Reps κ w'.F w'.H ds' vs ∧ P w' S' ds' := by
  unfold frzL at h
  split at h
  · rename_i hl
    obtain ⟨w', ds', S', _, a, b, c, d, e⟩ := frzs_ok hr r h
    exact ⟨by rw [r.length]; exact lenOk_le hl, w', ds', S', a, b, c, d, e⟩
  · exact h.elim
theorem tXs_frz {W : WX} {fs : Env → Store → R (List D)} {g : List D → Store → R D} {σ : L2.St} {H : Hp} {Q : VK} {Q' : List V → Hp → Prop} (q : tX κ W (fun ρ S => (fs ρ S).bind fun xs S1 => (frzL xs S1).bind g) σ H Q)
    (hq : ∀ w' S' ds vs, HRel κ w' S' → Reps κ w'.F w'.H ds vs → vs.length ≤ sizeLine → Aft κ W σ w' (g ds S') (Fin_ κ Q) → Q' vs w'.H) : tXs κ W fs σ H Q' := by
  obtain ⟨w, ρ, S, rfl, hr, sr, a⟩ := q
  refine ⟨w, ρ, S, rfl, hr, sr, a.bind.imp fun w1 S1 ds le1 hr1 _ a1 vs rv => ?_⟩
  obtain ⟨hl, w2, ds2, S2, le2, eH, hr2, rr, p⟩ := frzL_ok hr1 rv a1.bind
  rw [← eH]
  exact hq w2 S2 ds2 vs hr2 rr hl p
theorem j_tup {es : List Expr} {x1 : _} {pos : Pos} {fs : Env → Store → R (List D)} (hs : JA κ X es fs) : JE κ X (.Tuple es x1 pos) (fun ρ S => (fs ρ S).bind fun xs S1 => (frzL xs S1).bind fun ys S2 => .ok (.tup ys) S2) :=
  fun W tk => pe_imp (pe_tup (hs W tk)) fun σ H Q q => tXs_frz q fun w' S' ds vs hr rr hl a => ⟨hl, fun p hp => fin_tree hr (fun w2 le h2 => a w2 le h2) hp (rep_tup hr hp rr)⟩
theorem j_lst {es : List Expr} {pos : Pos} {fs : Env → Store → R (List D)} (hs : JA κ X es fs) : JE κ X (.List es pos) (fun ρ S => (fs ρ S).bind fun xs S1 => (frzL xs S1).bind fun ys S2 => .ok (.lst ys) S2) :=
  fun W tk => pe_imp (pe_lst (hs W tk)) fun σ H Q q => tXs_frz q fun w' S' ds vs hr rr hl a => ⟨hl, fun p hp => fin_tree hr (fun w2 le h2 => a w2 le h2) hp (rep_lst hr hp rr)⟩
theorem fin_cell {W : WX} {σ : L2.St} {w : Wd} {S : Store} {Q : VK} {ds : List D} {vs : List V} {p : Addr} (hr : HRel κ w S) (rr : Reps κ w.F w.H ds vs) (hp : w.H p = none) (a : Aft κ W σ w (.ok (.loc S.length) (S ++ [some (.lst ds)])) (Fin_ κ Q)) : Q (.ref p) (upd w.H p (.lst vs)) :=
  a (w.cell p (.lst vs)) (hr.le_cell hp _) (hr.cell hp ⟨vs, upd_same, Reps.mono (hr.le_cell hp _).F (hr.le_cell hp _).H _ _ rr⟩) _ ⟨p, by
    show (w.A ++ [p])[S.length]? = some p
    rw [← hr.len, List.getElem?_append_right (Nat.le_refl _)]
    simp, rfl⟩
theorem j_new {es : List Expr} {pos : Pos} {fs : Env → Store → R (List D)} (hs : JA κ X es fs) : JE κ X (.List es pos) (fun ρ S => (fs ρ S).bind fun xs S1 => (frzL xs S1).bind fun ys S2 => .ok (.loc S2.length) (S2 ++ [some (.lst ys)])) :=
  fun W tk => pe_imp (pe_lst (hs W tk)) fun σ H Q q => tXs_frz q fun w' S' ds vs hr rr hl a => ⟨hl, fun p hp => fin_cell hr rr hp a⟩

/-! ### slices -/
theorem j_slA {a lo : Expr} {pos p2 : Pos} {fa fl : Env → Store → R D} (ha : JE κ X a fa) (hl : JE κ X lo fl) :
    JE κ X (.Subscript a (.Slice (some lo) none none p2) pos) (fun ρ S => (fa ρ S).bind fun x S1 => (fl ρ S1).bind fun y S2 => match y with
      | .int i => .opt S2 (slD (rdD S2 x) (some i) none)
      | _ => .bad) := fun W tk => pe_imp (pe_slice sl_D (ha W tk) (po_some (hl W tk)) po_none) fun σ H Q q => by
  obtain ⟨w, ρ, S, rfl, hr, sr, a⟩ := q
  refine tX_bind hr sr a fun w1 S1 d1 v1 le1 hr1 _ r1 a1 => ?_
  refine tX_bind hr1 (sr.mono le1) a1 fun w2 S2 d2 v2 le2 hr2 _ r2 a2 => ?_
  cases d2 with
  | int i =>
    cases e : slD (rdD S2 d1) (some i) none with
    | none => simp only [e] at a2; exact a2.elim
    | some d =>
      simp only [e] at a2
      exact ⟨i, r2.see.int, w2, S2, d1, rfl, hr2, r1.mono le2, d, e, fun w' le hr' => a2 w' le hr'⟩
  | _ => exact a2.elim
theorem j_slB {a hi : Expr} {pos p2 : Pos} {fa fl : Env → Store → R D} (ha : JE κ X a fa) (hl : JE κ X hi fl) :
    JE κ X (.Subscript a (.Slice none (some hi) none p2) pos) (fun ρ S => (fa ρ S).bind fun x S1 => (fl ρ S1).bind fun y S2 => match y with
      | .int i => .opt S2 (slD (rdD S2 x) none (some i))
      | _ => .bad) := fun W tk => pe_imp (pe_slice sl_D (ha W tk) po_none (po_some (hl W tk))) fun σ H Q q => by
  obtain ⟨w, ρ, S, rfl, hr, sr, a⟩ := q
  refine tX_bind hr sr a fun w1 S1 d1 v1 le1 hr1 _ r1 a1 => ?_
  refine tX_bind hr1 (sr.mono le1) a1 fun w2 S2 d2 v2 le2 hr2 _ r2 a2 => ?_
  cases d2 with
  | int i =>
    cases e : slD (rdD S2 d1) none (some i) with
    | none => simp only [e] at a2; exact a2.elim
    | some d =>
      simp only [e] at a2
      exact ⟨i, r2.see.int, w2, S2, d1, rfl, hr2, r1.mono le2, d, e, fun w' le hr' => a2 w' le hr'⟩
  | _ => exact a2.elim
theorem j_slC {a lo hi : Expr} {pos p2 : Pos} {fa fl fh : Env → Store → R D} (ha : JE κ X a fa) (hl : JE κ X lo fl) (hh : JE κ X hi fh) :
    JE κ X (.Subscript a (.Slice (some lo) (some hi) none p2) pos) (fun ρ S => (fa ρ S).bind fun x S1 => (fl ρ S1).bind fun y S2 => match y with
      | .int i => (fh ρ S2).bind fun z S3 => match z with
        | .int j => .opt S3 (slD (rdD S3 x) (some i) (some j))
        | _ => .bad
      | _ => .bad) := fun W tk => pe_imp (pe_slice sl_D (ha W tk) (po_some (hl W tk)) (po_some (hh W tk))) fun σ H Q q => by
  obtain ⟨w, ρ, S, rfl, hr, sr, a⟩ := q
  refine tX_bind hr sr a fun w1 S1 d1 v1 le1 hr1 _ r1 a1 => ?_
  refine tX_bind hr1 (sr.mono le1) a1 fun w2 S2 d2 v2 le2 hr2 _ r2 a2 => ?_
  cases d2 with
  | int i =>
    refine ⟨i, r2.see.int, ?_⟩
    refine tX_bind hr2 ((sr.mono le1).mono le2) a2 fun w3 S3 d3 v3 le3 hr3 _ r3 a3 => ?_
    cases d3 with
    | int j =>
      cases e : slD (rdD S3 d1) (some i) (some j) with
      | none => simp only [e] at a3; exact a3.elim
      | some d =>
        simp only [e] at a3
        exact ⟨j, r3.see.int, w3, S3, d1, rfl, hr3, (r1.mono le2).mono le3, d, e, fun w' le hr' => a3 w' le hr'⟩
    | _ => exact a3.elim
  | _ => exact a2.elim
theorem j_rev {a : Expr} {k : Nat} {p1 p2 p3 pos : Pos} {fa : Env → Store → R D} (ha : JE κ X a fa) :
    JE κ X (.Subscript a (.Slice none none (some (.UnaryOp .USub (.Constant (.int 1) k p1) p2)) p3) pos) (fun ρ S => (fa ρ S).bind fun x S1 => .opt S1 (revD (rdD S1 x))) := fun W tk => ⟨fun pins s σ H Q I q => by
  obtain ⟨w, ρ, S, rfl, hr, sr, a⟩ := q
  by_cases hex : ∃ d S' xs, fa ρ S = .ok d S' ∧ rdD S' d = .tup xs
  · obtain ⟨d, S', xs, ef, ed⟩ := hex
    refine (pe_revT (ha W tk)).run pins s σ w.H Q I (tX_bind hr sr a fun w1 S1 d1 v1 le1 hr1 e1 r1 a1 => ?_)
    rw [ef] at e1
    cases e1
    have s1 := see_rd hr1 r1
    simp only [ed, revD, R.opt] at a1 s1
    obtain ⟨b, vs, rfl, _, hb, rr⟩ := s1.tup
    exact ⟨b, vs, rfl, .of hb, fun p hp => fin_tree hr1 (fun w' le h' => a1 w' le h') hp (rep_tup hr1 hp rr.rev)⟩
  · refine (pe_revL (ha W tk)).run pins s σ w.H Q I (tX_bind hr sr a fun w1 S1 d1 v1 le1 hr1 e0 r1 a1 => ?_)
    have s1 := see_rd hr1 r1
    cases e : rdD S1 d1 with
    | lst xs =>
      simp only [e, revD, R.opt] at a1 s1
      obtain ⟨b, vs, rfl, hb, rr⟩ := s1.lst
      exact ⟨b, vs, rfl, .of hb, fun p hp => fin_tree hr1 (fun w' le h' => a1 w' le h') hp (rep_lst hr1 hp rr.rev)⟩
    | tup xs => exact absurd ⟨d1, S1, xs, e0, e⟩ hex
    | _ => simp only [e, revD, R.opt] at a1; exact a1.elim⟩
end
end SP
end
section
set_option Elab.async false
set_option linter.all false
set_option autoImplicit false
set_option maxRecDepth 100000
set_option maxHeartbeats 2000000
namespace SP
open PySem PySem.Spec PyProof.Rows L2
/-! ### an exception's __init__: Base.__init__(self, text); self.f = par -/
theorem star_plain' {e : Expr} {es : List Expr} {env : PySem.Env} (h : plainX e = true) : starEach (e :: es) env = (false, eval e env) :: starEach es env := by
  cases e <;> first | rfl | (simp [plainX] at h)
theorem attr_plain' {o : Expr} {f : Str} {env : PySem.Env} (h : plainO o = true) : attributeBase o f env (eval o env) = eval o env := by
  cases o <;> first | rfl | (simp [plainO] at h)
/-- what it promises -/
def spX (C : Addr) (f : Str) : Sp := fun vs H Q _ => ∃ a y, vs = [.ref a, y] ∧ H a = some (exo a C none) ∧ ∀ dx, H dx = none → dx ≠ a → Q .non (upd (upd H dx (exd dx [(f, y)])) a (exo a C (some dx)))
/-- the one parameter by its name -/
def BindK (fd : FuncData) (ps : List Str) (f : Str) : Prop := ∀ (s : Shared) (a : Value) (ws : List Value), ws.length = 1 → BindsTo s fd ⟨[a], [f].zip ws⟩ (ps.zip (a :: ws))
def FnX (P : Program) (wo : World) (K : PySem.W.Frag) (mg : Str → Option Value) (base : Heap) (k : Nat) (fI C : Addr) (f : Str) : Prop := ∃ fd ps, Binds K fd ps [] ∧ BindK fd ps f ∧ FnOk P wo K mg base (L2.CX P wo) k fI fd ps (spX C f)
theorem FnX.up {P : Program} {wo : World} {K : PySem.W.Frag} {mg : Str → Option Value} {base : Heap} {j k : Nat} {fI C : Addr} {f : Str} (h : FnX P wo K mg base j fI C f) (hjk : j ≤ k) : FnX P wo K mg base k fI C f :=
  let ⟨fd, ps, hb, hb2, F⟩ := h
  ⟨fd, ps, hb, hb2, F.mono hjk⟩
def DefX (K : PySem.W.Frag) (mg : Str → Option Value) (fI C : Addr) (f : Str) : Prop := ∃ (name qual self par b t : Str) (params : Arguments) (scope : Scope) (dV kV doc pm cdv ct oc mc : Value) (an od : Option Addr) (osl : Array (Option Value)) (B : Addr) (j : Nat) (p1 p2 p3 p4 p5 p6 p7 p8 p9 p10 : Pos),
  K.lookup fI = some ⟨oc, od, .func (PySem.W.fnOf name qual params [.Expr (.Call (.Attribute (.Name b p1) "__init__" p2) [.Name self p3, .Constant (.str t) j p4] [] p5) p6, .Assign [.Attribute (.Name self p7) f p8] (.Name par p9) p10] scope dV kV doc pm an cdv ct), osl⟩ ∧
  PySem.W.codeIn K cdv qual = true ∧ FnScope [self, par] [self, par] scope ∧ Binds K (PySem.W.fnOf name qual params [.Expr (.Call (.Attribute (.Name b p1) "__init__" p2) [.Name self p3, .Constant (.str t) j p4] [] p5) p6, .Assign [.Attribute (.Name self p7) f p8] (.Name par p9) p10] scope dV kV doc pm an cdv ct) [self, par] [] ∧ BindK (PySem.W.fnOf name qual params [.Expr (.Call (.Attribute (.Name b p1) "__init__" p2) [.Name self p3, .Constant (.str t) j p4] [] p5) p6, .Assign [.Attribute (.Name self p7) f p8] (.Name par p9) p10] scope dV kV doc pm an cdv ct) [self, par] f ∧
  scope.names.lookup b = some .globalImplicit ∧ nmOk b = true ∧ nmOk self = true ∧ nmOk par = true ∧ (p2.endLine == p5.line) = true ∧ mg b = some (.ref B) ∧ PySem.W.specialIn K (.ref B) "__getattribute__" = some (some (.builtin "type.__getattribute__")) ∧
  PySem.W.readsIn K B mc = true ∧ PySem.W.findCls K (.ref B) mc "__init__" = some (.val (.builtin "ValueError.__init__")) ∧ OexC K C ∧ PySem.W.findIn K (.ref C) f = some none
theorem nmOk_11 {x : Str} (h : nmOk x = true) : (x == ("__debug__" : Str)) = false ∧ (x == ("__classdict__" : Str)) = false := by
  unfold nmOk beqS at h
  simp at h
  exact ⟨by simpa using h.1.1, by simpa using h.1.2⟩
theorem pe_seinit {X : Cx} {b : Str} {B : Addr} {mc : Value} {e e2 : Expr} {ta : TA} {p1 p2 pos : Pos} (hg : Gl X b) (hdb : (b == ("__debug__" : Str)) = false) (hm : X.mg b = some (.ref B)) (hga : PySem.W.specialIn X.K (.ref B) "__getattribute__" = some (some (.builtin "type.__getattribute__")))
    (hrd : PySem.W.readsIn X.K B mc = true) (hf : PySem.W.findCls X.K (.ref B) mc "__init__" = some (.val (.builtin "ValueError.__init__"))) (hl : (p2.endLine == pos.line) = true) (h1 : plainX e = true) (h2 : plainX e2 = true) (ha : PA X [e, e2] ta) :
    PE X (.Call (.Attribute (.Name b p1) "__init__" p2) [e, e2] [] pos) (tVeI X.K ta) := by
  refine ⟨fun pins s σ H Q I h => ?_⟩
  have hform : methodCallForm ([e, e2].length + ([] : List Keyword).length) (backTo pos (starEach [e, e2] X.env)) (backToKw pos (keywordEach [] X.env)) = true := by
    rw [star_plain' h1, star_plain' h2]
    rfl
  have hc : eval (.Call (.Attribute (.Name b p1) "__init__" p2) [e, e2] [] pos) X.env = (do
      let ov ← eval (.Name b p1) X.env
      standAt p2.atName
      let (f, first) ← holding [ov] (getMethod ov "__init__" (plainOf (.Name b p1) X.env))
      callWith pos f first (backTo pos (starEach [e, e2] X.env)) (backToKw pos (keywordEach [] X.env))) := by
    rw [arm_eval_Call, attr_plain' (by rfl)]
    simp only [mcall_line hform hl]
  refine PySem.W.methodCall_KW (ld_glob I hg hm ?_ hdb) hc
  refine PySem.W.method_cls I.kIn hga (PySem.W.cls_value I.kIn hrd hf (by rfl) ?_)
  show wpAny _ _ (callWith pos (Value.builtin "ValueError.__init__") [] (backTo pos (starEach [e, e2] X.env)) []) _ _ _
  refine PyProof.Rows.callWith_method1 (thn (ha.run pos pins _ σ H _ (I.tok _) h) fun us s1 ⟨vs, H1, I1, r1, a, C, ws, ev, hlen, T, ea, q⟩ => ?_) (star_plain' h1) (by rw [star_plain' h2] <;> rfl)
  subst ev
  cases r1 with
  | @cons _ u0 _ ur ra rw' =>
    obtain rfl : u0 = Value.ref a := ra
    have hlen' : ur.length ≤ sizeLine := by
      rw [← Paired.length rw', sizeLine_eq]
      omega
    exact oinit_ok T I1 ea hlen' fun s' J => ⟨.non, H1, J, rfl, q⟩
theorem fnX {P : Program} {wo : World} {K : PySem.W.Frag} {mg : Str → Option Value} {base : Heap} {fI C : Addr} {f : Str} (h : DefX K mg fI C f) : FnX P wo K mg base 1 fI C f := by
  obtain ⟨name, qual, self, par, b, t, params, scope, dV, kV, doc, pm, cdv, ct, oc, mc, an, od, osl, B, j, p1, p2, p3, p4, p5, p6, p7, p8, p9, p10, lk, hcd, hS, hb, hbk, hgb, n1, n2, n3, hl, hm, hga, hrd, hf, T, hno⟩ := h
  refine ⟨_, _, hb, hbk, fn_of (k := 0) lk hcd hS (fun vs H Q E q => ?_) fun A outer s H vs Q E hr q => ?_⟩
  · obtain ⟨a, y, rfl, _⟩ := q
    rfl
  · obtain ⟨a, y, rfl, ea, hq⟩ := q
    have v0 : Vis scope self := (hS.par self (by simp)).elim .inl fun z => .inr (.inl z)
    have v1 : Vis scope par := (hS.par par (by simp)).elim .inl fun z => .inr (.inl z)
    refine ⟨_, pss_cons (ps_expr (pe_seinit (X := cxOf (L2.CX P wo) P wo K mg base [self, par] qual scope fI cdv A outer s H E) hgb (nmOk_11 n1).1 hm hga hrd hf hl (by rfl) (by rfl) (pa_cons (pe_var (i := 0) rfl v0 (nmOk_11 n2).1 (nmOk_11 n2).2) (pa_cons pe_str pa_nil (by rfl)) (by rfl))) (by rfl))
      (pss_one (ps_ost (pe_var (i := 0) rfl v0 (nmOk_11 n2).1 (nmOk_11 n2).2) (pe_var (i := 1) rfl v1 (nmOk_11 n3).1 (nmOk_11 n3).2) (by rfl))), ?_⟩
    refine ⟨.ref a, rfl, a, C, [.str t], rfl, by show 1 ≤ 1000; omega, T, ea, ?_⟩
    exact ⟨y, rfl, .ref a, rfl, a, C, rfl, T, hno, .inl ⟨ea, fun dx hdx hne => hq dx hdx hne⟩⟩
end SP
end
section
set_option Elab.async false
set_option linter.all false
set_option maxRecDepth 100000
set_option maxHeartbeats 2000000
/-! an own exception class called with keywords -/
namespace SP
open PySem PySem.HandSPX
open Builtin Builtin.ObjectAttr
section
variable {M : Model} {A : Around} {E : Value → Shared → Prop} {h : Heap} {g : Array GenState} {d : Drawn} {t : Nat} {os : OsState}
variable {nm q : Str} {C N : Addr} {bs bm bmB : List Value} {hdct : Bool} {sn : List Str} {sub : List Value} {ab : Bool} {col : Option Bool} {dd : Option Addr} {k0 k1 k2 k3 k5 : Option Value} {B newId initId : String}

theorem new_check_k (F : ExcBaseFacts B newId initId bmB) (hT : ∀ X : String, bm.contains (.type X) = bmB.contains (.type X)) {rest : List Value} {kw : List (Str × Value)} {Q : Unit → Shared → Prop}
    (hC : h.get? C = some (excClassObj nm q C N bs bm hdct sn sub ab col dd k0 k1 k2 k3 k5 newId)) (hq : Q () ⟨h, g, d, t, os⟩) : wpAny M A (checkBuiltinCall newId ⟨.ref C :: rest, kw⟩) Q E ⟨h, g, d, t, os⟩ := by
  have hcont : (Value.ref C :: bm).contains (.type B) = true := by rw [List.contains_cons, hT, F.hasB, Bool.or_true]
  have hstar := F.noStar
  simp only [checkBuiltinCall, F.newKind, F.newSplit, F.newRow]
  repeat (first | refine wpAny_loadPart_at hC ?_ | (refine wpAny_isSubtype_exc hC ?_; rw [hcont]) | refine wpAny_staticBase_exc hC ?_ | refine wpAny_madeBy_exc hC ?_ | simp only [bne_self_eq_false, Bool.false_eq_true, if_false] | wp_step)
  exact hq
end

section
variable {prog : Program} {w : World} {A : Around} {E : Value → Shared → Prop} {R : Result → Shared → Prop} {h : Heap} {g : Array GenState} {d : Drawn} {t : Nat} {os : OsState}
variable {nm q : Str} {C N : Addr} {bs bm bmB : List Value} {hdct : Bool} {sn : List Str} {sub : List Value} {ab : Bool} {col : Option Bool} {dd : Option Addr} {k0 k1 k2 k3 k5 : Option Value} {B newId initId : String}

theorem new_own_k (F : ExcBaseFacts B newId initId bmB) (hT : ∀ X : String, bm.contains (.type X) = bmB.contains (.type X)) {rest : List Value} {kw : List (Str × Value)}
    (hC : h.get? C = some (excClassObj nm q C N bs bm hdct sn sub ab col dd k0 k1 k2 k3 k5 newId))
    (hq : R (.ok (.ret (.ref (h.objs.size + 1)))) ⟨(h.push { cls := .type "tuple", data := .seq rest.toArray }).push
      { cls := .ref C, data := .fields #[.ref h.objs.size, .none, .none, .none, .bool false, .none] }, g, d, t, os⟩) (hrest : rest.length ≤ sizeLine) :
    codeAny (model prog w) A (.builtin newId ⟨.ref C :: rest, kw⟩) R ⟨h, g, d, t, os⟩ := by
  have hends := F.ends
  have hcB : (Value.ref C :: bm).contains (.type B) = true := by rw [List.contains_cons, hT, F.hasB, Bool.or_true]
  have hcA : (Value.ref C :: bm).contains (.type "AttributeError") = false := by rw [List.contains_cons, hT, F.noAttr]; rfl
  have hcN : (Value.ref C :: bm).contains (.type "NameError") = false := by rw [List.contains_cons, hT, F.noName]; rfl
  refine codeAny_builtinAt F.entry ?_
  unfold Builtin.«BaseException.__new__»
  refine wpAt_bind ?_
  show wpAt _ _ _ (stack >>= _) _ _ _
  refine wpAt_bind (wpAt_stack fun p below => wpAt_of_wpAny ?_)
  wp_walk
  refine wpAt_of_wpAny ?_
  rw [F.owner]
  repeat (first | with_reducible refine wpAny_madeHere_exc F.canon hC ?_ | with_reducible refine wpAny_loadPart_at hC ?_ | (with_reducible refine wpAny_isSubtype_exc hC ?_; first | rw [hcB] | rw [hcA] | rw [hcN]) | wp_step)
  show R _ _
  rw [Heap.size_push]
  exact hq

theorem type_call_k (F : ExcBaseFacts B newId initId bmB) (hT : ∀ X : String, bm.contains (.type X) = bmB.contains (.type X)) {rest : List Value} {kw : List (Str × Value)} {fI : Addr} {Q : Fin → Shared → Prop}
    (hC : h.get? C = some (excClassObj nm q C N bs bm hdct sn sub ab col dd k0 k1 k2 k3 k5 newId))
    (hi : W.Looks (model prog w) h (typeLookup (.ref C) "__init__") (some (.ref fI))) (hb : ∀ self, W.Looks (model prog w) h (bindSpecial (.ref fI) self) (.ref fI, [self])) (hrest : rest.length ≤ sizeLine)
    (hq : codeAny (model prog w) A (.call (.ref fI) ⟨.ref (h.objs.size + 1) :: rest, kw⟩)
      (fun r s' => match r with | .ok (.ret v) => v = .none ∧ Q (.done (.ret (.ref (h.objs.size + 1)))) s' | .ok _ => False | .error e => E e s')
      ⟨(h.push (W.kdv_tup rest)).push (excO C h.objs.size), g, d, t, os⟩) :
    wpAny (model prog w) A (Builtin.«type.__call__» ⟨.ref C :: rest, kw⟩) Q E ⟨h, g, d, t, os⟩ := by
  repeat (first | with_reducible refine wpAny_loadPart_at hC ?_ | with_reducible refine wpAny_madeBy_exc hC ?_ | wp_step)
  refine codeAny_call_builtin_code (Code.quiet_builtin _ F.quiet) (new_check_k F hT hC ?_)
  refine new_own_k F hT hC ?_ hrest
  show wpAny _ _ _ _ _ _
  have k : ∀ b o, h.get? b = some o → ((h.push (W.kdv_tup rest)).push (excO C h.objs.size)).get? b = some o := fun b o e => Heap.get?_push_of_some _ (Heap.get?_push_of_some _ e)
  have hC₁ := k _ _ hC
  have hget : ((h.push (W.kdv_tup rest)).push (excO C h.objs.size)).get? (h.objs.size + 1) = some (excO C h.objs.size) := by heap_get
  have hcC : (Value.ref C :: bm).contains (.ref C) = true := by simp
  have i1 := hi.keeps k
  have b1 := (hb (.ref (h.objs.size + 1))).keeps k
  unfold isInstance
  repeat (first | with_reducible refine wpAny_loadPart_at hget ?_ | (with_reducible refine wpAny_isSubtype_exc hC₁ ?_; rw [hcC]) | wp_step)
  show wpAny _ _ (typeLookup (.ref C) _) _ _ _
  refine i1.at ?_
  refine wpAny_holding (wpAny_bind (b1.at ?_))
  refine wpAny_bind (wpAny_call (codeAny_mono hq fun r s' z => ?_))
  rcases r with e | (v | _ | _ | _) <;> first | exact z | exact z.elim | skip
  obtain ⟨rfl, z⟩ := z
  first
    | exact wpAny_pure (wpAny_pure z)
    | (wp_walk; exact z)

theorem call_own_k (F : ExcBaseFacts B newId initId bmB) (hT : ∀ X : String, bm.contains (.type X) = bmB.contains (.type X)) {rest : List Value} {kw : List (Str × Value)} {fI : Addr}
    (hC : h.get? C = some (excClassObj nm q C N bs bm hdct sn sub ab col dd k0 k1 k2 k3 k5 newId))
    (hi : W.Looks (model prog w) h (typeLookup (.ref C) "__init__") (some (.ref fI))) (hb : ∀ self, W.Looks (model prog w) h (bindSpecial (.ref fI) self) (.ref fI, [self])) (hrest : rest.length ≤ sizeLine)
    (hq : codeAny (model prog w) (A.under (.builtin "type.__call__" ⟨.ref C :: rest, kw⟩)) (.call (.ref fI) ⟨.ref (h.objs.size + 1) :: rest, kw⟩) (W.InitBack (h.objs.size + 1) R)
      ⟨(h.push (W.kdv_tup rest)).push (excO C h.objs.size), g, d, t, os⟩) :
    codeAny (model prog w) A (.call (.ref C) ⟨rest, kw⟩) R ⟨h, g, d, t, os⟩ := by
  have f1 := tc_lookup
  have f2 := tc_bind (.ref C)
  have hTy : (⟨h, g, d, t, os⟩ : Shared).TypeIs (.ref C) "type" := ⟨_, hC, rfl⟩
  refine codeAny_of_tree ?_
  show wpAny _ _ (callAny (.ref C) _) _ _ _
  repeat (any_goals (first | assumption | with_reducible refine wpAny_loadPart_at hC ?_ | wp_step))
  refine ⟨rfl, ?_⟩
  refine codeAny_call_builtin_at (Code.quiet_builtin _ (by decide +kernel)) entry_typeCall (wpAny_check_type_call_sub hC (type_call_k F hT hC hi hb hrest ?_))
  refine codeAny_mono hq fun r s' z => ?_
  rcases r with e | (v | _ | _ | _) <;> exact z

end
end SP
end
section
set_option Elab.async false
set_option linter.all false
set_option autoImplicit false
set_option maxRecDepth 100000
set_option maxHeartbeats 2000000
namespace SP
open PySem PySem.Spec L2
/-- what a def promises: cf f's answer -/
def spF (κ : Kx) (g : List D → Store → R D) (np : Nat) : Sp := fun vs H Q E => vs.length = np ∧ ∃ w S ds, w.H = H ∧ HRel κ w S ∧ RepLs κ w ds vs ∧ Aft κ (fun cls dd _ H => E cls dd H) [] w (g ds S) (Fin_ κ Q)
def FnAt (κ : Kx) (P : Program) (wo : World) (K : PySem.W.Frag) (mg : Str → Option Value) (base : Heap) (k : Nat) (cf : Cf) (f : Nat) (a : Addr) : Prop := ∃ fd ps, Binds K fd ps [] ∧ FnOk P wo K mg base (L2.CX P wo) k a fd ps (spF κ (cf f) ps.length) ∧ ∀ ds S, cf f ds S ≠ .bad → ds.length = ps.length
def dvV : D → Option V
  | .non => some .non
  | .bl b => some (.bl b)
  | .int i => some (.int i)
  | _ => none
def getV (xs ys : List V) : Src → Option V
  | .p i => xs[i]?
  | .k i => ys[i]?
  | .dv d => dvV d
def planV (xs ys : List V) : List Src → Option (List V)
  | [] => some []
  | p :: ps => (getV xs ys p).bind fun d => (planV xs ys ps).map (d :: ·)
theorem plan_rel {κ : Kx} {w : Wd} {ds es : List D} {vs zs : List V} (r1 : RepLs κ w ds vs) (r2 : RepLs κ w es zs) : ∀ {pl : List Src} {rs : List D} {us : List V}, planD ds es pl = some rs → planV vs zs pl = some us → RepLs κ w rs us
  | [], rs, us, h1, h2 => by
    cases h1
    cases h2
    exact .nil
  | p :: ps, rs, us, h1, h2 => by
    simp only [planD, planV] at h1 h2
    obtain ⟨d, hd, h1⟩ := Option.bind_eq_some_iff.mp h1
    obtain ⟨rs', hr, rfl⟩ := Option.map_eq_some_iff.mp h1
    obtain ⟨v, hv, h2⟩ := Option.bind_eq_some_iff.mp h2
    obtain ⟨us', hu, rfl⟩ := Option.map_eq_some_iff.mp h2
    refine .cons ?_ (plan_rel r1 r2 hr hu)
    cases p with
    | p i =>
      obtain ⟨v', e, q⟩ := r1.get (show ds[i]? = some d from hd)
      have hv' : vs[i]? = some v := hv
      rw [e] at hv'
      cases hv'
      exact q
    | k i =>
      obtain ⟨v', e, q⟩ := r2.get (show es[i]? = some d from hd)
      have hv' : zs[i]? = some v := hv
      rw [e] at hv'
      cases hv'
      exact q
    | dv d0 =>
      cases hd
      have hv' : dvV d = some v := hv
      cases d <;> first | (cases hv'; done) | skip
      · cases hv'; exact rep_non
      · cases hv'; exact rep_bl
      · cases hv'; exact rep_int
def FnAtK (κ : Kx) (P : Program) (wo : World) (K : PySem.W.Frag) (mg : Str → Option Value) (base : Heap) (k : Nat) (cf : Cf) (f : Nat) (a : Addr) (n : Nat) (ns : List Str) (pl : List Src) : Prop := ∃ fd ps g gV, KBn K fd ps n ns g gV ∧ FnOk P wo K mg base (L2.CX P wo) k a fd ps (spF κ (cf f) ps.length) ∧ (∀ ds S, cf f ds S ≠ .bad → ds.length = ps.length) ∧ ∀ vs zs, vs.length = n → zs.length = ns.length → planV vs zs pl = some (gV vs zs)
section
variable (κ : Kx) (pg : Pg) (K : PySem.W.Frag) (mg : Str → Option Value) (At : Nat → Addr → Prop) (AtX : Addr → Addr → Str → Prop) (AtK : Nat → Addr → Nat → List Str → List Src → Prop)
structure ExcCls (c : Nat) (C : Addr) : Prop where
  T : OexC K C
  cc : ExcC K C
  kit : ∀ c' C', κ.ca c' = some C' → PySem.W.kitOne K (.ref C) (.ref C') = some (excSub c c')
  kve : PySem.W.kitOne K (.ref C) (.type "ValueError") = some true
  xf : XfC K C
  fld : ∀ f j, pg.G.fpos c f = some j → ∀ x, pg.fld f = some x → j = 0 ∧ κ.fnm c = [x] ∧ PySem.W.findIn K (.ref C) x = some none
  made : ∃ fI f, PySem.W.findIn K (.ref C) "__init__" = some (some (.ref fI)) ∧ PySem.W.typeIn K (.ref fI) = some (.type "function") ∧ κ.fnm c = [f] ∧ PySem.W.findIn K (.ref C) f = some none ∧ AtX fI C f
structure ObjCls (c : Nat) (C : Addr) : Prop where
  cls : L2.Cls K C
  ha : PySem.W.findIn K (.ref C) "__class__" = some (some (.builtin "object.__class__"))
  hn : PySem.W.specialIn K (.builtin "object.__class__") "__get__" = some (some (.builtin "getset_descriptor.__get__"))
  htk : PySem.W.takesIn K (.builtin "object.__class__") = some true
  hm : PySem.W.mroIn K C (.type "object") = some true
  made : ∃ a, Mk K C a ∧ At (pg.G.init c) a
  nd : (κ.fnm c).Nodup
  fld : ∀ f j, pg.G.fpos c f = some j → ∀ x, pg.fld f = some x → (κ.fnm c)[j]? = some x ∧ NoAttr K C x
  meth : ∀ m x, pg.mn m = some x → x ∉ κ.fnm c ∧ ∃ a, Meth K C x a ∧ At m a
  len : ∀ g, pg.G.len c = some g → ∃ a, PySem.W.findIn K (.ref C) "__len__" = some (some (.ref a)) ∧ PySem.W.isFn K (.ref a) = true ∧ At g a
  eq : ∀ g, pg.G.eq c = some g → ∃ a, PySem.W.findIn K (.ref C) "__eq__" = some (some (.ref a)) ∧ PySem.W.isFn K (.ref a) = true ∧ At g a
  nf : pg.G.fields c = (κ.fnm c).length
  small : (κ.fnm c).length < 1000
  kit : ∀ t x, tyName t = some x → PySem.W.kitOne K (.ref C) (.type x.toString) = some false
  kitT : ∀ T, T ∈ ["NoneType", "bool", "int", "str", "list", "tuple", "dict"] → PySem.W.kitOne K (.type T) (.ref C) = some false
  same : ∀ c' C', κ.oa c' = some C' → PySem.W.kitOne K (.ref C) (.ref C') = some (c == c')
def bNames : List Str := ["len", "sum", "min", "max", "list", "tuple", "all", "int", "sorted", "isinstance", "bool", "str", "range", "enumerate", "zip", "ValueError", "set"]
structure Lay : Prop where
  cst : ∀ x i, pg.cst x = some i → ∃ t, mg x = some (.int i t)
  blt : ∀ x, x ∈ bNames → mg x = none
  fn : ∀ f x, pg.fn f = some x → ∃ a, mg x = some (.ref a) ∧ PySem.W.keepIn K (.ref a) = true ∧ At f a
  oc : ∀ c C, κ.oa c = some C → ObjCls κ pg K At c C
  cn : ∀ c x, pg.cn c = some x → 100 ≤ c → ∃ C, mg x = some (.ref C) ∧ κ.oa c = some C
  xn : ∀ c x, pg.cn c = some x → c < 100 → ∃ C, mg x = some (.ref C) ∧ κ.ca c = some C
  xc : ∀ c C, κ.ca c = some C → 0 < c → ExcCls κ pg K AtX c C
  kw : ∀ f x n ns pl, pg.fk f = some x → pg.shp f n ns pl = true → ∃ a, mg x = some (.ref a) ∧ PySem.W.keepIn K (.ref a) = true ∧ AtK f a n ns pl
  xi : ∀ c C c', κ.ca c = some C → κ.ca c' = some C → c = c'
  xs : ∀ c C c' C', κ.ca c = some C → 0 < c → κ.ca c' = some C' → PySem.W.exmOne K (.ref C) (.ref C') = some (excSub c c')
end
theorem Lay.imp {κ : Kx} {pg : Pg} {K : PySem.W.Frag} {mg : Str → Option Value} {At At' : Nat → Addr → Prop} {AtX AtX' : Addr → Addr → Str → Prop} {AtK AtK' : Nat → Addr → Nat → List Str → List Src → Prop} (L : Lay κ pg K mg At AtX AtK) (h : ∀ f a, At f a → At' f a) (hX : ∀ f C x, AtX f C x → AtX' f C x) (hKw : ∀ f a n ns pl, AtK f a n ns pl → AtK' f a n ns pl) : Lay κ pg K mg At' AtX' AtK' where
  cst := L.cst
  blt := L.blt
  fn := fun f x e => let ⟨a, h1, h2, h3⟩ := L.fn f x e; ⟨a, h1, h2, h f a h3⟩
  oc := fun c C e => let O := L.oc c C e; { O with
    made := let ⟨a, h1, h2⟩ := O.made; ⟨a, h1, h _ a h2⟩
    meth := fun m x e => let ⟨h0, a, h1, h2⟩ := O.meth m x e; ⟨h0, a, h1, h _ a h2⟩
    len := fun g e => let ⟨a, h1, h2, h3⟩ := O.len g e; ⟨a, h1, h2, h _ a h3⟩
    eq := fun g e => let ⟨a, h1, h2, h3⟩ := O.eq g e; ⟨a, h1, h2, h _ a h3⟩ }
  cn := L.cn
  xn := L.xn
  xc := fun c C e h0 => let O := L.xc c C e h0; let ⟨f, x, h1, h2, h3, h4, h5⟩ := O.made; ⟨O.T, O.cc, O.kit, O.kve, O.xf, O.fld, f, x, h1, h2, h3, h4, hX f C x h5⟩
  kw := fun f x n ns pl h1 h2 => let ⟨a, e1, e2, e3⟩ := L.kw f x n ns pl h1 h2; ⟨a, e1, e2, hKw f a n ns pl e3⟩
  xi := L.xi
  xs := L.xs
section
variable {κ : Kx} {X : Cx} {pg : Pg} {k : Nat} {cf : Cf}
abbrev LayX (κ : Kx) (pg : Pg) (X : Cx) (k : Nat) (cf : Cf) : Prop := Lay κ pg X.K X.mg (FnAt κ X.prog X.w X.K X.mg X.base k cf) (FnX X.prog X.w X.K X.mg X.base k) (FnAtK κ X.prog X.w X.K X.mg X.base k cf)
/-! ### calls -/
theorem sp_of {W : WX} {σ : L2.St} {w : Wd} {S : Store} {g : List D → Store → R D} {ds : List D} {vs : List V} {Q : VK} {np : Nat} (hr : HRel κ w S) (r : RepLs κ w ds vs) (hn : ∀ ds S, g ds S ≠ .bad → ds.length = np) (a : Aft κ W σ w (g ds S) (Fin_ κ Q)) : spF κ g np vs w.H Q (WE W σ) := by
  refine ⟨?_, w, S, ds, rfl, hr, r, ?_⟩
  · rw [r.length]
    exact hn ds S fun e => by rw [e] at a; exact a
  · cases e : g ds S with
    | ok d S' => rw [e] at a; exact a
    | ex c fs S' => rw [e] at a; exact a
    | bad => rw [e] at a; exact a
/-- the plain look of a def's reading: arguments, then the callee -/
theorem tXs_call {W : WX} {fs : Env → Store → R (List D)} {g : List D → Store → R D} {σ : L2.St} {H : Hp} {Q : VK} {Q' : List V → Hp → Prop} (q : tX κ W (fun ρ S => (fs ρ S).bind fun xs S1 => g xs S1) σ H Q)
    (hq : ∀ w' S' ds vs, HRel κ w' S' → RepLs κ w' ds vs → Aft κ W σ w' (g ds S') (Fin_ κ Q) → Q' vs w'.H) : tXs κ W fs σ H Q' := by
  obtain ⟨w, ρ, S, rfl, hr, sr, a⟩ := q
  exact ⟨w, ρ, S, rfl, hr, sr, a.bind.imp fun w1 S1 ds le1 hr1 _ a1 vs rv => hq w1 S1 ds vs hr1 rv a1⟩
theorem star_any {es : List Expr} {env : PySem.Env} {pos : Pos} (h : es.all plainX = true) : (backTo pos (starEach es env)).any (·.1) = false := by
  induction es with
  | nil => rfl
  | cons e es ih =>
    simp only [List.all_cons, Bool.and_eq_true] at h
    rw [star_plain h.1]
    show (false || (backTo pos (starEach es env)).any (·.1)) = false
    rw [ih h.2]
    rfl
theorem j_call {f : Nat} {x : Str} {p pos : Pos} {e : Expr} {es : List Expr} {fs : Env → Store → R (List D)} (L : LayX κ pg X k cf) (hr : Room k X.A) (hf : pg.fn f = some x) (hg : Gl X x) (hdb : (x == ("__debug__" : Str)) = false) (hp : (e :: es).all plainX = true) (hs : JA κ X (e :: es) fs) :
    JE κ X (.Call (.Name x p) (e :: es) [] pos) (fun ρ S => (fs ρ S).bind fun xs S1 => cf f xs S1) := fun W tk => by
  obtain ⟨a, hm, hk, fd, ps, hb, F, hn⟩ := L.fn f x hf
  have h1 : plainX e = true ∧ es.all plainX = true := by simpa using hp
  refine pe_imp (pe_callS F hr hg hm hk hb (fun σ => passAt tk σ) (hs W tk) hdb (star_plain h1.1) (star_any h1.2)) fun σ H Q q => ?_
  exact tXs_call q fun w' S' ds vs hr' rv a' => sp_of hr' rv hn a'

/-! ### calls with keywords -/
def JK (κ : Kx) (X : Cx) (kws : List Keyword) (f : Env → Store → R (List D)) : Prop := ∀ W, Takes X W → PK X kws (tXs κ W f)
theorem pk_imp {kws : List Keyword} {t t' : TA} (h : PK X kws t) (hi : ∀ σ H Q, t' σ H Q → t σ H Q) : PK X kws t' := ⟨fun pos pins s σ H Q I q => h.run pos pins s σ H Q I (hi σ H Q q)⟩
theorem jk_nil : JK κ X [] (fun _ S => .ok [] S) := fun W tk => pk_imp pk_nil fun σ H Q q => by
  obtain ⟨w, ρ, S, rfl, hr, sr, a⟩ := q
  exact a w (.refl w) hr _ .nil
theorem jk_cons {n : Option Str} {e : Expr} {kp : Pos} {kws : List Keyword} {fe : Env → Store → R D} {fs : Env → Store → R (List D)} (he : JE κ X e fe) (hs : JK κ X kws fs) :
    JK κ X (⟨n, e, kp⟩ :: kws) (fun ρ S => (fe ρ S).bind fun x S1 => (fs ρ S1).bind fun xs S2 => .ok (x :: xs) S2) := fun W tk => pk_imp (pk_cons (he W tk) (hs W tk)) fun σ H Q q => by
  obtain ⟨w, ρ, S, rfl, hr, sr, a⟩ := q
  refine tX_bind hr sr a fun w1 S1 d1 v1 le1 hr1 _ r1 a1 => ?_
  refine ⟨w1, ρ, S1, rfl, hr1, sr.mono le1, a1.bind.imp fun w2 S2 ds le2 hr2 _ a2 vs rv => ?_⟩
  exact a2 w2 (.refl w2) hr2 _ (.cons (r1.mono le2) rv)
theorem j_callK {f : Nat} {x : Str} {p pos : Pos} {e : Expr} {es : List Expr} {kws : List Keyword} {n : Nat} {ns : List Str} {pl : List Src} {fs fk : Env → Store → R (List D)} (L : LayX κ pg X k cf) (hr : Room k X.A) (hf : pg.fk f = some x) (hsh : pg.shp f n ns pl = true) (hg : Gl X x) (hdb : (x == ("__debug__" : Str)) = false) (hp : (e :: es).all plainX = true)
    (hall : (backToKw pos (keywordEach kws X.env)).all (·.1.isSome) = true) (hks : (backToKw pos (keywordEach kws X.env)).filterMap (·.1) = ns) (hany : (backToKw pos (keywordEach kws X.env)).any (·.1.isNone) = false)
    (hs : JA κ X (e :: es) fs) (hk : JK κ X kws fk) (hls : ∀ ρ S ds S', fs ρ S = .ok ds S' → ds.length = n) (hlk : ∀ ρ S ds S', fk ρ S = .ok ds S' → ds.length = ns.length) :
    JE κ X (.Call (.Name x p) (e :: es) kws pos) (fun ρ S => (fs ρ S).bind fun xs S1 => (fk ρ S1).bind fun ys S2 => match planD xs ys pl with
      | some zs => cf f zs S2
      | none => .bad) := fun W tk => ⟨fun pins s σ H Q I q => by
  obtain ⟨a, hm, hkp, fd, ps, g, gV, hb, F, hn, hpl⟩ := L.kw f x n ns pl hf hsh
  have h1 : plainX e = true ∧ es.all plainX = true := by simpa using hp
  obtain ⟨w, ρ, S, rfl, hrel, sr, af⟩ := q
  refine wpAny_Call_Name_kw (ld_glob I hg hm ?_ hdb)
  refine PySem.W.callWith_KW (h₀ := X.base) I.ok.mod.kin hkp hall (thn ((hs W tk).run pos pins s σ w.H (fun vs H1 => ∃ w1 S1 ds, w1.H = H1 ∧ w.le w1 ∧ HRel κ w1 S1 ∧ RepLs κ w1 ds vs ∧ ds.length = n ∧ Aft κ W σ w1 ((fk ρ S1).bind fun ys S2 => match planD ds ys pl with
      | some zs => cf f zs S2
      | none => .bad) (Fin_ κ Q)) I ⟨w, ρ, S, rfl, hrel, sr, (Aft.bind af).imp fun w1 S1 ds le1 hr1 e1 a1 vs rv => ⟨w1, S1, ds, rfl, le1, hr1, rv, hls ρ S ds S1 e1, a1⟩⟩) fun us s1 hh => ?_) (by rw [star_any hp, hany] <;> rfl) (star_plain h1.1)
  obtain ⟨vs, H1, I1, rv, w1, S1, ds, rfl, le1, hr1, rds, hl1, a1⟩ := hh
  refine thn ((hk W tk).run pos pins s1 σ w1.H (fun zs H2 => ∃ w2 S2 es', w2.H = H2 ∧ w1.le w2 ∧ HRel κ w2 S2 ∧ RepLs κ w2 es' zs ∧ es'.length = ns.length ∧ Aft κ W σ w2 (match planD ds es' pl with
      | some zs => cf f zs S2
      | none => .bad) (Fin_ κ Q)) I1 ⟨w1, ρ, S1, rfl, hr1, sr.mono le1, (Aft.bind a1).imp fun w2 S2 es' le2 hr2 e2 a2 zs rz => ⟨w2, S2, es', rfl, le2, hr2, rz, hlk ρ S1 es' S2 e2, a2⟩⟩) fun ws s2 hh => ?_
  obtain ⟨zs, H2, I2, rz, w2, S2, es', rfl, le2, hr2, res, hl2, a2⟩ := hh
  refine ⟨I2.kIn, ?_⟩
  rw [hks]
  have hvl : vs.length = n := rds.length.trans hl1
  have hzl : zs.length = ns.length := res.length.trans hl2
  cases epl : planD ds es' pl with
  | none => rw [epl] at a2; exact a2.elim
  | some rs =>
    rw [epl] at a2
    have rr := plan_rel (rds.mono le2) res epl (hpl vs zs hvl hzl)
    have hsp := sp_of hr2 rr hn a2
    refine wpAny_call (codeAny_mono (F.run X.A X.stack s2 w2.H ⟨us, ns.zip ws⟩ (g us ws) (gV vs zs) Q (WE W σ) hr I2.env0 (hb.to s2 us ws I2.kIn (rv.length.symm.trans hvl) (rz.length.symm.trans hzl)) (hb.rel rv rz) hsp) fun r s' hq => ?_)
    cases r with
    | error er => exact (passAt tk σ) pins _ _ er s' I2 hq
    | ok fl =>
      cases fl with
      | ret u => exact I2.after hq
      | next => exact hq.elim
      | brk => exact hq.elim
      | cont => exact hq.elim⟩

theorem j_callK0 {f : Nat} {x : Str} {p pos : Pos} {kws : List Keyword} {ns : List Str} {pl : List Src} {fk : Env → Store → R (List D)} (L : LayX κ pg X k cf) (hr : Room k X.A) (hf : pg.fk f = some x) (hsh : pg.shp f 0 ns pl = true) (hg : Gl X x) (hdb : (x == ("__debug__" : Str)) = false)
    (hall : (backToKw pos (keywordEach kws X.env)).all (·.1.isSome) = true) (hks : (backToKw pos (keywordEach kws X.env)).filterMap (·.1) = ns) (hany : (backToKw pos (keywordEach kws X.env)).any (·.1.isNone) = false)
    (hk : JK κ X kws fk) (hlk : ∀ ρ S ds S', fk ρ S = .ok ds S' → ds.length = ns.length) :
    JE κ X (.Call (.Name x p) [] kws pos) (fun ρ S => (R.ok [] S : R (List D)).bind fun xs S1 => (fk ρ S1).bind fun ys S2 => match planD xs ys pl with
      | some zs => cf f zs S2
      | none => .bad) := fun W tk => ⟨fun pins s σ H Q I q => by
  obtain ⟨a, hm, hkp, fd, ps, g, gV, hb, F, hn, hpl⟩ := L.kw f x 0 ns pl hf hsh
  obtain ⟨w, ρ, S, rfl, hrel, sr, af⟩ := q
  refine wpAny_Call_Name_kw (ld_glob I hg hm ?_ hdb)
  refine PySem.W.callWith_KW0 (h₀ := X.base) I.ok.mod.kin hkp hall (thn ((hk W tk).run pos pins s σ w.H (fun zs H2 => ∃ w2 S2 es', w2.H = H2 ∧ w.le w2 ∧ HRel κ w2 S2 ∧ RepLs κ w2 es' zs ∧ es'.length = ns.length ∧ Aft κ W σ w2 (match planD [] es' pl with
      | some zs => cf f zs S2
      | none => .bad) (Fin_ κ Q)) I ⟨w, ρ, S, rfl, hrel, sr, (Aft.bind (show Aft κ W σ w ((fk ρ S).bind fun ys S2 => match planD [] ys pl with
      | some zs => cf f zs S2
      | none => .bad) (Fin_ κ Q) from af)).imp fun w2 S2 es' le2 hr2 e2 a2 zs rz => ⟨w2, S2, es', rfl, le2, hr2, rz, hlk ρ S es' S2 e2, a2⟩⟩) fun ws s2 hh => ?_) (by rw [hany] <;> rfl)
  obtain ⟨zs, H2, I2, rz, w2, S2, es', rfl, le2, hr2, res, hl2, a2⟩ := hh
  refine ⟨I2.kIn, ?_⟩
  rw [hks]
  have hzl : zs.length = ns.length := res.length.trans hl2
  cases epl : planD [] es' pl with
  | none => rw [epl] at a2; exact a2.elim
  | some rs =>
    rw [epl] at a2
    have rr := plan_rel (ds := []) (vs := []) .nil res epl (hpl [] zs rfl hzl)
    have hsp := sp_of hr2 rr hn a2
    refine wpAny_call (codeAny_mono (F.run X.A X.stack s2 w2.H ⟨[], ns.zip ws⟩ (g [] ws) (gV [] zs) Q (WE W σ) hr I2.env0 (hb.to s2 [] ws I2.kIn rfl (rz.length.symm.trans hzl)) (hb.rel .nil rz) hsp) fun r s' hq => ?_)
    cases r with
    | error er => exact (passAt tk σ) pins _ _ er s' I2 hq
    | ok fl =>
      cases fl with
      | ret u => exact I2.after hq
      | next => exact hq.elim
      | brk => exact hq.elim
      | cont => exact hq.elim⟩

/-! ### objects -/
theorem rep_obj {w : Wd} {c : Nat} {fs : List D} {v : V} (r : RepL κ w (.obj c fs) v) : ∃ a C dx gs, v = .ref a ∧ w.F a ∧ w.F dx ∧ κ.oa c = some C ∧ w.H a = some (.ins C dx gs) ∧ w.H dx = some (.own a) ∧ gs.map (·.1) = κ.fnm c ∧ Reps κ w.F w.H fs (gs.map (·.2)) := by
  have r' : Rep κ w.F w.H (.obj c fs) v := r
  simp only [Rep] at r'
  exact r'
theorem lookup_at : ∀ {gs : List (Str × V)} {j : Nat} {x : Str} {v : V}, (gs.map (·.1)).Nodup → (gs.map (·.1))[j]? = some x → (gs.map (·.2))[j]? = some v → gs.lookup x = some v
  | [], _, _, _, _, h, _ => by simp at h
  | (y, u) :: gs, 0, x, v, _, h1, h2 => by
    simp only [List.map_cons, List.getElem?_cons_zero, Option.some.injEq] at h1 h2
    subst h1 h2
    simp
  | (y, u) :: gs, j + 1, x, v, nd, h1, h2 => by
    simp only [List.map_cons, List.nodup_cons] at nd
    simp only [List.map_cons, List.getElem?_cons_succ] at h1 h2
    rw [List.lookup_cons]
    have hne : (x == y) = false := by
      simp only [beq_eq_false_iff_ne, ne_eq]
      rintro rfl
      exact nd.1 (List.mem_of_getElem? h1)
    rw [hne]
    exact lookup_at nd.2 h1 h2
theorem lookup_none : ∀ {gs : List (Str × V)} {x : Str}, x ∉ gs.map (·.1) → gs.lookup x = none
  | [], _, _ => rfl
  | (y, u) :: gs, x, h => by
    simp only [List.map_cons, List.mem_cons, not_or] at h
    rw [List.lookup_cons]
    have hne : (x == y) = false := by simpa using h.1
    rw [hne]
    exact lookup_none h.2
theorem attr_plain {o : Expr} {f : Str} {env : PySem.Env} (h : plainO o = true) : attributeBase o f env (eval o env) = eval o env := by
  cases o <;> first | rfl | (simp [plainO] at h)
/-! ### fields of objects and of exceptions -/
def tExf (K : PySem.W.Frag) (n : Str) (te : TE) : TE := fun σ H Q => te σ H fun x H1 => ∃ (a C dd : Addr) (gs : List (Str × V)) (v : V), x = .ref a ∧ XfC K C ∧ PySem.W.findIn K (.ref C) n = some none ∧ H1 a = some (exo a C (some dd)) ∧ H1 dd = some (exd dd gs) ∧ gs.lookup n = some v ∧ Q v H1
theorem pe_exf {e : Expr} {te : TE} {pos : Pos} {n : Str} (he : PE X e te) (hb : attributeBase e n X.env (eval e X.env) = eval e X.env) : PE X (.Attribute e n pos) (tExf X.K n te) := by
  refine ⟨fun pins s σ H Q I h => ?_⟩
  refine attr_of hb (thn (he.run pins s σ H _ I h) fun u s1 hh => ?_)
  obtain ⟨x, H1, I1, rx, a, C, dd, gs, v, ex, T, hno, h1, h2, l, q⟩ := hh
  subst ex
  obtain rfl : u = Value.ref a := rx
  obtain ⟨t1, ha⟩ := exo_at I1.hok h1
  obtain ⟨mA, hns, hr⟩ := exd_at I1.hok h2
  obtain ⟨od, ho, hl⟩ := lookIn_ns hns
  obtain ⟨u, hu, ru⟩ := RelO.some_of (v := v) (o := mA n) (by rw [← l]; exact hr n)
  have J : PySem.W.InstAt s1.heap a _ C (some od) := ⟨ha, rfl, rfl, ho⟩
  exact PySem.HandSPX.exc_get I1.kIn J T.ga T.gg T.exC (PySem.W.findObj_own T.hdC hno rfl (by rw [hl, hu])) (handed_of ru) ⟨v, H1, I1.tok _, ru, q⟩
theorem rep_exc {w : Wd} {c : Nat} {fs : List D} {v : V} (r : RepL κ w (.exc c fs) v) : ∃ a C dx gs, v = .ref a ∧ w.F a ∧ w.F dx ∧ κ.ca c = some C ∧ w.H a = some (exo a C (some dx)) ∧ w.H dx = some (exd dx gs) ∧ gs.map (·.1) = κ.fnm c ∧ Reps κ w.F w.H fs (gs.map (·.2)) := by
  have r' : Rep κ w.F w.H (.exc c fs) v := r
  simp only [Rep] at r'
  exact r'
theorem j_fld {a : Expr} {f : Nat} {x : Str} {pos : Pos} {fa : Env → Store → R D} (L : LayX κ pg X k cf) (hp : plainO a = true) (hx : pg.fld f = some x) (ha : JE κ X a fa) :
    JE κ X (.Attribute a x pos) (fun ρ S => (fa ρ S).bind fun x S1 => match x with
      | .obj c fs => .opt S1 ((pg.G.fpos c f).bind fun j => fs[j]?)
      | .exc c fs => if 0 < c then .opt S1 ((pg.G.fpos c f).bind fun j => fs[j]?) else .bad
      | _ => .bad) := fun W tk => ⟨fun pins s σ H Q I q => by
  obtain ⟨w, ρ, S, rfl, hr, sr, a⟩ := q
  by_cases hex : ∃ c fs S', fa ρ S = .ok (.exc c fs) S'
  · obtain ⟨c, fs, S', ef⟩ := hex
    refine (pe_exf (ha W tk) (attr_plain hp)).run pins s σ w.H Q I (tX_bind hr sr a fun w1 S1 d1 v1 le1 hr1 e1 r1 a1 => ?_)
    rw [ef] at e1
    cases e1
    obtain ⟨b, C, dx, gs, rfl, hF, hF2, hc, h1, h2, h3, h4⟩ := rep_exc r1
    simp only at a1
    split at a1
    · rename_i h0
      have O := L.xc c C hc h0
      cases ej : pg.G.fpos c f with
      | none => rw [ej] at a1; exact a1.elim
      | some j =>
        rw [ej] at a1
        simp only [Option.bind_some] at a1
        cases ed : fs[j]? with
        | none => rw [ed] at a1; exact a1.elim
        | some d =>
          rw [ed] at a1
          obtain ⟨k0, k1, k2⟩ := O.fld f j ej x hx
          subst k0
          obtain ⟨v, e1, e2⟩ := h4.get ed
          exact ⟨b, C, dx, gs, v, rfl, O.xf, k2, h1, h2, lookup_at (j := 0) (by rw [h3, k1]; simp) (by rw [h3, k1] <;> rfl) e1, a1 w1 (.refl w1) hr1 v e2.toL⟩
    · exact a1.elim
  · refine (pe_fld (ha W tk) (attr_plain hp)).run pins s σ w.H Q I ?_
    refine tX_bind hr sr a fun w1 S1 d1 v1 le1 hr1 ee r1 a1 => ?_
    cases d1 with
    | obj c fs =>
      obtain ⟨b, C, dx, gs, rfl, hF, hF2, hc, h1, h2, h3, h4⟩ := rep_obj r1
      have O := L.oc c C hc
      simp only at a1
      cases ej : pg.G.fpos c f with
      | none => rw [ej] at a1; exact a1.elim
      | some j =>
        rw [ej] at a1
        simp only [Option.bind_some] at a1
        cases ed : fs[j]? with
        | none => rw [ed] at a1; exact a1.elim
        | some d =>
          rw [ed] at a1
          obtain ⟨k1, k2⟩ := O.fld f j ej x hx
          obtain ⟨v, e1, e2⟩ := h4.get ed
          exact ⟨b, C, dx, gs, v, rfl, h1, O.cls, k2, lookup_at (by rw [h3]; exact O.nd) (by rw [h3]; exact k1) e1, a1 w1 (.refl w1) hr1 v e2.toL⟩
    | exc c fs => exact absurd ⟨c, fs, S1, ee⟩ hex
    | _ => exact a1.elim⟩
theorem form_plain {es : List Expr} {env : PySem.Env} {pos : Pos} (h : es.all plainX = true) (hl : es.length < 20) : methodCallForm (es.length + ([] : List Keyword).length) (backTo pos (starEach es env)) (backToKw pos (keywordEach [] env)) = true := by
  have h1 : (backTo pos (starEach es env)).all (fun x => !x.1) = true := by
    induction es with
    | nil => rfl
    | cons e es ih =>
      simp only [List.all_cons, Bool.and_eq_true] at h
      rw [star_plain h.1]
      show (true && (backTo pos (starEach es env)).all (fun x => !x.1)) = true
      rw [ih h.2 (by simp at hl; omega)]
      rfl
  unfold methodCallForm
  rw [h1]
  show (true && true && decide (es.length + 0 + 0 < 30)) = true
  simp
  omega
theorem meth_eq {o : Expr} {m : Str} {args : List Expr} {apos pos : Pos} {env : PySem.Env} (h : plainO o = true) (hp : args.all plainX = true) (hn : args.length < 20) (hl : (apos.endLine == pos.line) = true) : eval (.Call (.Attribute o m apos) args [] pos) env = (do
      let ov ← eval o env
      standAt apos.atName
      let (f, first) ← holding [ov] (getMethod ov m (plainOf o env))
      callWith pos f first (backTo pos (starEach args env)) (backToKw pos (keywordEach [] env))) := by
  rw [arm_eval_Call, attr_plain h]
  simp only [mcall_line (form_plain hp hn) hl]
theorem o_cases {W : WX} {σ : L2.St} {w : Wd} {P : Wd → Store → D → Prop} {x : D} {g : Nat → List D → R D} (h : Aft κ W σ w (match x with
      | .obj c fs => g c fs
      | _ => .bad) P) : ∃ c fs, x = .obj c fs ∧ Aft κ W σ w (g c fs) P := by
  cases x with
  | obj c fs => exact ⟨c, fs, rfl, h⟩
  | _ => exact h.elim
theorem j_meth {o : Expr} {m : Nat} {x : Str} {e : Expr} {es : List Expr} {apos pos : Pos} {fo : Env → Store → R D} {fs : Env → Store → R (List D)} (L : LayX κ pg X k cf) (hr : Room k X.A) (hp : plainO o = true) (hx : pg.mn m = some x) (hpl : (e :: es).all plainX = true) (hn : (e :: es).length < 20) (hl : (apos.endLine == pos.line) = true) (ho : JE κ X o fo) (hs : JA κ X (e :: es) fs) :
    JE κ X (.Call (.Attribute o x apos) (e :: es) [] pos) (fun ρ S => (fo ρ S).bind fun x S1 => match x with
      | .obj c gs => (fs ρ S1).bind fun xs S2 => cf m (.obj c gs :: xs) S2
      | _ => .bad) := fun W tk => ⟨fun pins s σ H Q I q => by
  obtain ⟨w, ρ, S, rfl, hrel, sr, a⟩ := q
  have h1' : plainX e = true ∧ es.all plainX = true := by simpa using hpl
  refine PySem.W.methodCall_KW (pl := plainOf o X.env) (thn ((ho W tk).run pins s σ w.H _ I (tX_bind (Q' := fun v H' => ∃ w' S' d, w'.H = H' ∧ w.le w' ∧ HRel κ w' S' ∧ RepL κ w' d v ∧ Aft κ W σ w' (match d with
      | .obj c gs => (fs ρ S').bind fun xs S2 => cf m (.obj c gs :: xs) S2
      | _ => .bad) (Fin_ κ Q)) hrel sr a fun w' S' d v le hr' _ r a' => ⟨w', S', d, rfl, le, hr', r, a'⟩)) fun u s1 hh => ?_) (meth_eq hp hpl hn hl)
  obtain ⟨v, H1, I1, rv, w1, S1, d1, rfl, le1, hr1, r1, a1⟩ := hh
  obtain ⟨c, gs, rfl, a1⟩ := o_cases a1
  obtain ⟨b, C, dx, us, rfl, hF, hF2, hc, h1, h2, h3, h4⟩ := rep_obj r1
  obtain rfl : u = Value.ref b := rv
  have O := L.oc c C hc
  obtain ⟨hnx, g, hM, fd, ps, hb, F, hn⟩ := O.meth m x hx
  refine getmeth_ok I1 h1 O.cls hM (lookup_none (by rw [h3]; exact hnx)) ?_
  have ha := (hs W tk).run pos pins s1 σ w1.H (fun vs H2 => ∃ w2 S2 ds, w2.H = H2 ∧ w1.le w2 ∧ HRel κ w2 S2 ∧ RepLs κ w2 ds vs ∧ Aft κ W σ w2 (cf m (.obj c gs :: ds) S2) (Fin_ κ Q)) I1
      ⟨w1, ρ, S1, rfl, hr1, sr.mono le1, (Aft.bind a1).imp fun w2 S2 ds le2 hr2 _ a2 vs rvs => ⟨w2, S2, ds, rfl, le2, hr2, rvs, a2⟩⟩
  exact PySem.W.callWith_K (first := [.ref b]) (h₀ := X.base) I1.ok.mod.kin hM.kp (thn ha fun us s2 hh => by
    obtain ⟨vs, H2, I2, rvs, w2, S2, ds, rfl, le2, hr2, rds, a2⟩ := hh
    exact ⟨I2.kIn, run_fnS (us := .ref b :: us) (vs := .ref b :: vs) (E := WE W) F hr hb (passAt tk σ) I2 (.cons rfl rvs) (sp_of hr2 (.cons (r1.mono le2) rds) hn a2)⟩) (star_plain h1'.1) (star_any h1'.2)⟩
theorem j_meth0 {o : Expr} {m : Nat} {x : Str} {apos pos : Pos} {fo : Env → Store → R D} (L : LayX κ pg X k cf) (hr : Room k X.A) (hp : plainO o = true) (hx : pg.mn m = some x) (hl : (apos.endLine == pos.line) = true) (ho : JE κ X o fo) :
    JE κ X (.Call (.Attribute o x apos) [] [] pos) (fun ρ S => (fo ρ S).bind fun x S1 => match x with
      | .obj c gs => cf m [.obj c gs] S1
      | _ => .bad) := fun W tk => ⟨fun pins s σ H Q I q => by
  obtain ⟨w, ρ, S, rfl, hrel, sr, a⟩ := q
  refine PySem.W.methodCall_KW (pl := plainOf o X.env) (thn ((ho W tk).run pins s σ w.H _ I (tX_bind (Q' := fun v H' => ∃ w' S' d, w'.H = H' ∧ w.le w' ∧ HRel κ w' S' ∧ RepL κ w' d v ∧ Aft κ W σ w' (match d with
      | .obj c gs => cf m [.obj c gs] S'
      | _ => .bad) (Fin_ κ Q)) hrel sr a fun w' S' d v le hr' _ r a' => ⟨w', S', d, rfl, le, hr', r, a'⟩)) fun u s1 hh => ?_) (meth_eq hp rfl (by decide) hl)
  obtain ⟨v, H1, I1, rv, w1, S1, d1, rfl, le1, hr1, r1, a1⟩ := hh
  obtain ⟨c, gs, rfl, a1⟩ := o_cases a1
  obtain ⟨b, C, dx, us, rfl, hF, hF2, hc, h1, h2, h3, h4⟩ := rep_obj r1
  obtain rfl : u = Value.ref b := rv
  have O := L.oc c C hc
  obtain ⟨hnx, g, hM, fd, ps, hb, F, hn⟩ := O.meth m x hx
  refine getmeth_ok I1 h1 O.cls hM (lookup_none (by rw [h3]; exact hnx)) ?_
  exact PySem.W.callWith_K0 (first := [.ref b]) I1.kIn hM.kp (run_fnS (us := [.ref b]) (vs := [.ref b]) (E := WE W) F hr hb (passAt tk σ) I1 (.cons rfl .nil) (sp_of hr1 (.cons r1 .nil) hn a1))⟩

/-! ### an exception made, as a value -/
theorem j_mkX {c : Nat} {x : Str} {p pos : Pos} {a : Expr} {fe : Env → Store → R D} (L : LayX κ pg X k cf) (hr : Room (k + 1) X.A) (hc : pg.cn c = some x) (h100 : c < 100) (h0 : 0 < c) (hg : Gl X x) (hdb : (x == ("__debug__" : Str)) = false) (hp : plainX a = true) (he : JE κ X a fe) :
    JE κ X (.Call (.Name x p) [a] [] pos) (fun ρ S => (fe ρ S).bind fun x S1 => (frzD x S1).bind fun y S2 => .ok (.exc c [y]) S2) := fun W tk => ⟨fun pins s σ H Q I q => by
  obtain ⟨C, hm, hC⟩ := L.xn c x hc h100
  have O := L.xc c C hC h0
  obtain ⟨fI, f, iC, tI, hfn, hfi, fd, ps, hb, _, F1⟩ := O.made
  have T := O.T
  obtain ⟨nm, qn, N, bs, bm, sn, sub, ab, col, dd, k0, k1, k2, k3, k5, hCl, hbm⟩ := T.cls
  obtain ⟨w, ρ, S, rfl, hrel, sr, af⟩ := q
  refine wpAny_Call_Name_kw (ld_glob I hg hm ?_ hdb)
  have hpa : PA X [a] (tCons (tX κ W fe) tNil) := pa_cons (he W tk) pa_nil (star_plain hp)
  refine PySem.W.callWith_K (h₀ := X.base) I.ok.mod.kin T.kC (thn (hpa.run pos pins s σ w.H (fun vs H1 => ∃ w1 S1 d v, vs = [v] ∧ w1.H = H1 ∧ HRel κ w1 S1 ∧ Rep κ w1.F w1.H d v ∧ Aft κ W σ w1 (.ok (.exc c [d]) S1) (Fin_ κ Q)) I (tX_bind hrel sr af fun w1 S1 d1 v1 le1 hr1 _ r1 a1 => by
    obtain ⟨w2, d2, S2, _, le2, eH2, hr2, rr2, p2⟩ := aft_frz hr1 r1 a1.bind
    exact ⟨w2, S2, d2, v1, rfl, eH2, hr2, rr2, p2⟩)) fun us s1 hh => ?_) (star_plain hp) (by rfl)
  obtain ⟨vs, H1, I1, r1, w1, S1, d, y, rfl, rfl, hr1, rd, a1⟩ := hh
  refine ⟨I1.kIn, ?_⟩
  show wpAny _ _ (call (.ref C) us) _ _ _
  obtain ⟨hp', g, dr, tk', os⟩ := s1
  have hsz : hp'.objs.size ≤ hp'.objs.size + 1 := Nat.le_succ _
  have hn : w1.H (hp'.objs.size + 1) = none := I1.hok.fresh hsz
  have hus : us.length ≤ sizeLine := by
    rw [← Paired.length r1, sizeLine_eq]
    simp
  have kk : ∀ b o, hp'.get? b = some o → ((hp'.push (PySem.W.kdv_tup us)).push (PySem.HandSPX.excO C hp'.objs.size)).get? b = some o := fun b o e => Heap.get?_push_of_some _ (Heap.get?_push_of_some _ e)
  have hget : ((hp'.push (PySem.W.kdv_tup us)).push (PySem.HandSPX.excO C hp'.objs.size)).get? (hp'.objs.size + 1) = some (PySem.HandSPX.excO C hp'.objs.size) := by heap_get
  have I2 : Inv X pins σ (upd w1.H (hp'.objs.size + 1) (exo (hp'.objs.size + 1) C none)) ⟨(hp'.push (PySem.W.kdv_tup us)).push (PySem.HandSPX.excO C hp'.objs.size), g, dr, tk', os⟩ :=
    I1.laid (t' := tk') (a := hp'.objs.size + 1) (o := exo (hp'.objs.size + 1) C none) (h' := (hp'.push (PySem.W.kdv_tup us)).push (PySem.HandSPX.excO C hp'.objs.size)) kk hsz (exo_ok hget)
  have r2 : Vals (V.ref (hp'.objs.size + 1) :: [y]) (Value.ref (hp'.objs.size + 1) :: us) := .cons rfl r1
  have hsp : spX C f [.ref (hp'.objs.size + 1), y] (upd w1.H (hp'.objs.size + 1) (exo (hp'.objs.size + 1) C none)) (fun v H2 => v = .non ∧ Q (.ref (hp'.objs.size + 1)) H2) (fun _ _ _ => False) := by
    refine ⟨hp'.objs.size + 1, y, rfl, upd_same, fun dx hdx hne => ⟨rfl, ?_⟩⟩
    have hdx1 : w1.H dx = none := by
      rw [upd_ne hne] at hdx
      exact hdx
    have e1 : upd (upd (upd w1.H (hp'.objs.size + 1) (exo (hp'.objs.size + 1) C none)) dx (exd dx [(f, y)])) (hp'.objs.size + 1) (exo (hp'.objs.size + 1) C (some dx)) = upd (upd w1.H dx (exd dx [(f, y)])) (hp'.objs.size + 1) (exo (hp'.objs.size + 1) C (some dx)) := by
      funext b
      by_cases hb1 : b = hp'.objs.size + 1
      · rw [hb1, upd_same, upd_same]
      · rw [upd_ne hb1, upd_ne hb1]
        by_cases hb2 : b = dx
        · rw [hb2, upd_same, upd_same]
        · rw [upd_ne hb2, upd_ne hb2, upd_ne hb1]
    rw [e1]
    have le1 := hr1.le_tree hdx1 (exd dx [(f, y)])
    have hr2 := hr1.tree hdx1 (exd dx [(f, y)]) (fun ps z => by
      have z' : HO.ext _ = HO.tbl ps := z
      cases z')
    have hn2 : (w1.tree dx (exd dx [(f, y)])).H (hp'.objs.size + 1) = none := (upd_ne (Ne.symm hne)).trans hn
    have le2 := hr2.le_tree hn2 (exo (hp'.objs.size + 1) C (some dx))
    have hr3 := hr2.tree hn2 (exo (hp'.objs.size + 1) C (some dx)) (fun ps z => exo_tbl z)
    refine a1 _ (le1.trans le2) hr3 (.ref (hp'.objs.size + 1)) ?_
    show Rep κ _ _ (.exc c [d]) (.ref (hp'.objs.size + 1))
    simp only [Rep]
    refine ⟨hp'.objs.size + 1, C, dx, [(f, y)], rfl, .inr rfl, .inl (.inr rfl), hC, upd_same, (upd_ne hne).trans upd_same, by rw [hfn] <;> rfl, .cons ?_ .nil⟩
    exact Rep.mono (le1.trans le2).F (le1.trans le2).H _ _ rd
  have hl : (Value.ref (hp'.objs.size + 1) :: us ++ []).length = ps.length := by
    rw [List.append_nil, ← r2.length]
    exact F1.len _ _ _ _ hsp
  have hb2 := hb { heap := (hp'.push (PySem.W.kdv_tup us)).push (PySem.HandSPX.excO C hp'.objs.size), gens := g, drawn := dr, toks := tk', os := os } (Value.ref (hp'.objs.size + 1) :: us) I2.kIn hl
  rw [List.append_nil] at hb2
  refine wpAny_call (PySem.HandSPX.call_own F.excBase_ValueError (fun Y => PySem.HandSPX.refsVE_contains Y bm hbm) (I1.kIn _ _ hCl) (PySem.W.looks_findIn I1.kIn iC) (fun self => PySem.W.bind_fn I1.kIn self tI) hus
    (codeAny_mono (F1.run _ X.stack _ _ ⟨Value.ref (hp'.objs.size + 1) :: us, []⟩ (Value.ref (hp'.objs.size + 1) :: us) _ _ (fun _ _ _ => False) (hr.make C us []) (I2.env0.make C us []) hb2 r2 hsp) fun r s' hq' => ?_))
  cases r with
  | error er =>
    have hq' : L2.CX X.prog X.w X.stack _ _ (fun _ _ _ => False) er s' := hq'
    obtain ⟨_, _, _, _, _, _, _, _, _, _, _, _, z⟩ := hq'
    exact z.elim
  | ok fl =>
    cases fl with
    | ret u =>
      obtain ⟨v, H', I3, rv3, ev, q3⟩ := I2.after hq'
      subst ev
      exact ⟨rv3, V.ref (hp'.objs.size + 1), H', I3, rfl, q3⟩
    | next => exact False.elim hq'
    | brk => exact False.elim hq'
    | cont => exact False.elim hq'⟩

theorem j_mkXK {c : Nat} {x n : Str} {p pos kp : Pos} {a : Expr} {fe : Env → Store → R D} (L : LayX κ pg X k cf) (hr : Room (k + 1) X.A) (hc : pg.cn c = some x) (h100 : c < 100) (h0 : 0 < c) (hg : Gl X x) (hdb : (x == ("__debug__" : Str)) = false) (hfld : ∃ f, (pg.G.fpos c f).isSome = true ∧ pg.fld f = some n)
    (hall : (backToKw pos (keywordEach [⟨some n, a, kp⟩] X.env)).all (·.1.isSome) = true) (hks : (backToKw pos (keywordEach [⟨some n, a, kp⟩] X.env)).filterMap (·.1) = [n]) (hany : (backToKw pos (keywordEach [⟨some n, a, kp⟩] X.env)).any (·.1.isNone) = false) (he : JE κ X a fe) :
    JE κ X (.Call (.Name x p) [] [⟨some n, a, kp⟩] pos) (fun ρ S => (fe ρ S).bind fun x S1 => (frzD x S1).bind fun y S2 => .ok (.exc c [y]) S2) := fun W tk => ⟨fun pins s σ H Q I q => by
  obtain ⟨C, hm, hC⟩ := L.xn c x hc h100
  have O := L.xc c C hC h0
  obtain ⟨fI, f, iC, tI, hfn, hfi, fd, ps, _, hb, F1⟩ := O.made
  obtain ⟨ff, hf1, hf2⟩ := hfld
  obtain ⟨jj, hf3⟩ := Option.isSome_iff_exists.mp hf1
  have hf4 := (O.fld ff jj hf3 n hf2).2.1
  obtain rfl : f = n := by
    rw [hfn] at hf4
    simpa using hf4
  have T := O.T
  obtain ⟨nm, qn, N, bs, bm, sn, sub, ab, col, dd, k0, k1, k2, k3, k5, hCl, hbm⟩ := T.cls
  obtain ⟨w, ρ, S, rfl, hrel, sr, af⟩ := q
  refine wpAny_Call_Name_kw (ld_glob I hg hm ?_ hdb)
  have hpa : PK X [⟨some f, a, kp⟩] (tCons (tX κ W fe) tNil) := pk_cons (he W tk) pk_nil
  refine PySem.W.callWith_KW0 (h₀ := X.base) I.ok.mod.kin T.kC hall (thn (hpa.run pos pins s σ w.H (fun vs H1 => ∃ w1 S1 d v, vs = [v] ∧ w1.H = H1 ∧ HRel κ w1 S1 ∧ Rep κ w1.F w1.H d v ∧ Aft κ W σ w1 (.ok (.exc c [d]) S1) (Fin_ κ Q)) I (tX_bind hrel sr af fun w1 S1 d1 v1 le1 hr1 _ r1 a1 => by
    obtain ⟨w2, d2, S2, _, le2, eH2, hr2, rr2, p2⟩ := aft_frz hr1 r1 a1.bind
    exact ⟨w2, S2, d2, v1, rfl, eH2, hr2, rr2, p2⟩)) fun us s1 hh => ?_) (by rw [hany] <;> rfl)
  obtain ⟨vs, H1, I1, r1, w1, S1, d, y, rfl, rfl, hr1, rd, a1⟩ := hh
  refine ⟨I1.kIn, ?_⟩
  rw [hks]
  show wpAny _ _ (call (.ref C) [] ([f].zip us)) _ _ _
  obtain ⟨hp', g, dr, tk', os⟩ := s1
  have hsz : hp'.objs.size ≤ hp'.objs.size + 1 := Nat.le_succ _
  have hn : w1.H (hp'.objs.size + 1) = none := I1.hok.fresh hsz
  have hus : ([] : List Value).length ≤ sizeLine := Nat.zero_le _
  have kk : ∀ b o, hp'.get? b = some o → ((hp'.push (PySem.W.kdv_tup [])).push (PySem.HandSPX.excO C hp'.objs.size)).get? b = some o := fun b o e => Heap.get?_push_of_some _ (Heap.get?_push_of_some _ e)
  have hget : ((hp'.push (PySem.W.kdv_tup [])).push (PySem.HandSPX.excO C hp'.objs.size)).get? (hp'.objs.size + 1) = some (PySem.HandSPX.excO C hp'.objs.size) := by heap_get
  have I2 : Inv X pins σ (upd w1.H (hp'.objs.size + 1) (exo (hp'.objs.size + 1) C none)) ⟨(hp'.push (PySem.W.kdv_tup [])).push (PySem.HandSPX.excO C hp'.objs.size), g, dr, tk', os⟩ :=
    I1.laid (t' := tk') (a := hp'.objs.size + 1) (o := exo (hp'.objs.size + 1) C none) (h' := (hp'.push (PySem.W.kdv_tup [])).push (PySem.HandSPX.excO C hp'.objs.size)) kk hsz (exo_ok hget)
  have r2 : Vals (V.ref (hp'.objs.size + 1) :: [y]) (Value.ref (hp'.objs.size + 1) :: us) := .cons rfl r1
  have hsp : spX C f [.ref (hp'.objs.size + 1), y] (upd w1.H (hp'.objs.size + 1) (exo (hp'.objs.size + 1) C none)) (fun v H2 => v = .non ∧ Q (.ref (hp'.objs.size + 1)) H2) (fun _ _ _ => False) := by
    refine ⟨hp'.objs.size + 1, y, rfl, upd_same, fun dx hdx hne => ⟨rfl, ?_⟩⟩
    have hdx1 : w1.H dx = none := by
      rw [upd_ne hne] at hdx
      exact hdx
    have e1 : upd (upd (upd w1.H (hp'.objs.size + 1) (exo (hp'.objs.size + 1) C none)) dx (exd dx [(f, y)])) (hp'.objs.size + 1) (exo (hp'.objs.size + 1) C (some dx)) = upd (upd w1.H dx (exd dx [(f, y)])) (hp'.objs.size + 1) (exo (hp'.objs.size + 1) C (some dx)) := by
      funext b
      by_cases hb1 : b = hp'.objs.size + 1
      · rw [hb1, upd_same, upd_same]
      · rw [upd_ne hb1, upd_ne hb1]
        by_cases hb2 : b = dx
        · rw [hb2, upd_same, upd_same]
        · rw [upd_ne hb2, upd_ne hb2, upd_ne hb1]
    rw [e1]
    have le1 := hr1.le_tree hdx1 (exd dx [(f, y)])
    have hr2 := hr1.tree hdx1 (exd dx [(f, y)]) (fun ps z => by
      have z' : HO.ext _ = HO.tbl ps := z
      cases z')
    have hn2 : (w1.tree dx (exd dx [(f, y)])).H (hp'.objs.size + 1) = none := (upd_ne (Ne.symm hne)).trans hn
    have le2 := hr2.le_tree hn2 (exo (hp'.objs.size + 1) C (some dx))
    have hr3 := hr2.tree hn2 (exo (hp'.objs.size + 1) C (some dx)) (fun ps z => exo_tbl z)
    refine a1 _ (le1.trans le2) hr3 (.ref (hp'.objs.size + 1)) ?_
    show Rep κ _ _ (.exc c [d]) (.ref (hp'.objs.size + 1))
    simp only [Rep]
    refine ⟨hp'.objs.size + 1, C, dx, [(f, y)], rfl, .inr rfl, .inl (.inr rfl), hC, upd_same, (upd_ne hne).trans upd_same, by rw [hfn] <;> rfl, .cons ?_ .nil⟩
    exact Rep.mono (le1.trans le2).F (le1.trans le2).H _ _ rd
  have hb2 := hb { heap := (hp'.push (PySem.W.kdv_tup [])).push (PySem.HandSPX.excO C hp'.objs.size), gens := g, drawn := dr, toks := tk', os := os } (Value.ref (hp'.objs.size + 1)) us (by rw [← Paired.length r1]; rfl)
  refine wpAny_call (call_own_k F.excBase_ValueError (fun Y => PySem.HandSPX.refsVE_contains Y bm hbm) (I1.kIn _ _ hCl) (PySem.W.looks_findIn I1.kIn iC) (fun self => PySem.W.bind_fn I1.kIn self tI) hus
    (codeAny_mono (F1.run _ X.stack _ _ ⟨[Value.ref (hp'.objs.size + 1)], [f].zip us⟩ (Value.ref (hp'.objs.size + 1) :: us) _ _ (fun _ _ _ => False) (hr.make C [] ([f].zip us)) (I2.env0.make C [] ([f].zip us)) hb2 r2 hsp) fun r s' hq' => ?_))
  cases r with
  | error er =>
    have hq' : L2.CX X.prog X.w X.stack _ _ (fun _ _ _ => False) er s' := hq'
    obtain ⟨_, _, _, _, _, _, _, _, _, _, _, _, z⟩ := hq'
    exact z.elim
  | ok fl =>
    cases fl with
    | ret u =>
      obtain ⟨v, H', I3, rv3, ev, q3⟩ := I2.after hq'
      subst ev
      exact ⟨rv3, V.ref (hp'.objs.size + 1), H', I3, rfl, q3⟩
    | next => exact False.elim hq'
    | brk => exact False.elim hq'
    | cont => exact False.elim hq'⟩

/-! ### C(..) -/
theorem allFs_eq : ∀ {fs : List (Option D)} {ds : List D}, allFs fs = some ds → fs = ds.map some
  | [], _, h => by
    simp only [allFs, Option.some.injEq] at h
    subst h
    rfl
  | none :: r, _, h => by cases h
  | some d :: r, ds, h => by
    simp only [allFs, Option.map_eq_some_iff] at h
    obtain ⟨es, h1, rfl⟩ := h
    rw [allFs_eq h1]
    rfl
theorem take_set_none {S : Store} {n : Nat} : True := trivial
/-- the store cut back -/
theorem HRel.take {w : Wd} {S : Store} (h : HRel κ w S) (n : Nat) (F' : Addr → Prop) (hF : ∀ a, w.F a → F' a) (hn : ∀ a, F' a → w.F a ∨ (∃ o, w.H a = some o) ∧ a ∉ w.A.take n) (hown : ∀ a, F' a → w.F a ∨ ∀ b, w.H a = some (.own b) → b ∉ w.A.take n) (ht : ∀ a ps, F' a → w.F a ∨ w.H a ≠ some (.tbl ps)) :
    HRel κ ⟨w.A.take n, F', w.H⟩ (S.take n) where
  tab := h.tab
  ntb := fun a ps f => (ht a ps f).elim (fun z => h.ntb a ps z) id
  len := by simp [h.len]
  nd := h.nd.sublist (List.take_sublist _ _)
  here := fun a ha => h.here a (List.mem_of_mem_take ha)
  fr := fun a f => by
    rcases hn a f with z | z
    · exact h.fr a z
    · exact z.1
  cl := fun m c e => by
    have hm : m < n := by
      have := (List.getElem?_eq_some_iff.mp e).1
      simp at this
      omega
    rw [List.getElem?_take_of_lt hm] at e
    obtain ⟨a, e1, e2, e3⟩ := h.cl m c e
    have e1' : (w.A.take n)[m]? = some a := by
      rw [List.getElem?_take_of_lt hm]
      exact e1
    refine ⟨a, e1', fun z => ?_, ?_⟩
    · rcases hn a z with z | z
      · exact e2 z
      · exact z.2 (List.mem_of_getElem? e1')
    · cases c with
      | lst xs =>
        obtain ⟨vs, q1, q2⟩ := e3
        exact ⟨vs, q1, Reps.mono hF (fun _ _ => rfl) _ _ q2⟩
      | dct ks vs => exact e3
      | ins c fs =>
        obtain ⟨C, dx, gs, hc, q1, q2, f, hl, ds, h1, h2, h3, h4⟩ := e3
        refine ⟨C, dx, gs, hc, q1, q2, fun z => ?_, hl, ds, h1, h2, h3, Reps.mono hF (fun _ _ => rfl) _ _ h4⟩
        rcases hown dx z with z | z
        · exact f z
        · exact z a q2 (List.mem_of_getElem? e1')
theorem take_app {α : Type} {l m : List α} {n : Nat} (h : l.length = n) : (l ++ m).take n = l := by
  subst h
  simp
theorem not_mem_take {l m : List Addr} {p : Addr} {n : Nat} (h : l.length = n) (hp : p ∉ l) : p ∉ (l ++ m).take n := by
  rw [take_app h]
  exact hp
theorem j_mk {c : Nat} {x : Str} {p pos : Pos} {e : Expr} {es : List Expr} {fs : Env → Store → R (List D)} (L : LayX κ pg X k cf) (hr : Room (k + 1) X.A) (hc : pg.cn c = some x) (h100 : 100 ≤ c) (hg : Gl X x) (hdb : (x == ("__debug__" : Str)) = false) (hp : (e :: es).all plainX = true) (hs : JA κ X (e :: es) fs) :
    JE κ X (.Call (.Name x p) (e :: es) [] pos) (fun ρ S => (fs ρ S).bind fun xs S1 => mkO cf pg.G c xs S1) := fun W tk => ⟨fun pins s σ H Q I q => by
  obtain ⟨C, hm, hC⟩ := L.cn c x hc h100
  have O := L.oc c C hC
  obtain ⟨f, M, fd, ps, hb, F, hn⟩ := O.made
  have h1 : plainX e = true ∧ es.all plainX = true := by simpa using hp
  refine wpAny_Call_Name_kw (ld_glob I hg hm ?_ hdb)
  refine PySem.W.callWith_K (h₀ := X.base) I.ok.mod.kin M.kp (thn ((hs W tk).run pos pins s σ H (fun vs H1 => ∃ w1 S1 ds, w1.H = H1 ∧ HRel κ w1 S1 ∧ RepLs κ w1 ds vs ∧ Aft κ W σ w1 (mkO cf pg.G c ds S1) (Fin_ κ Q)) I
    (tXs_call q fun w' S' ds vs hr' rv a' => ⟨w', S', ds, rfl, hr', rv, a'⟩)) fun us s1 hh => ?_) (star_plain h1.1) (star_any h1.2)
  obtain ⟨vs, H1, I1, rv, w1, S1, ds, rfl, hr1, rds, a1⟩ := hh
  refine ⟨I1.kIn, ?_⟩
  show wpAny _ _ (call (.ref C) us) _ _ _
  -- the new instance
  obtain ⟨xa, hxa⟩ : ∃ xa, xa = s1.heap.objs.size + 1 := ⟨_, rfl⟩
  obtain ⟨dx, hdx⟩ : ∃ dx, dx = s1.heap.objs.size := ⟨_, rfl⟩
  have nx : w1.H xa = none := I1.hok.fresh (by rw [hxa]; exact Nat.le_succ _)
  have nd : w1.H dx = none := I1.hok.fresh (by rw [hdx]; exact Nat.le_refl _)
  have ne : dx ≠ xa := by rw [hxa, hdx]; exact Nat.ne_of_lt (Nat.lt_succ_self _)
  have I2 := Inv.made (C := C) I1
  rw [← hxa, ← hdx] at I2
  -- its world
  obtain ⟨w2, hw2⟩ : ∃ w2 : Wd, w2 = ⟨w1.A ++ [xa], w1.F, upd (upd w1.H dx (.own xa)) xa (.ins C dx [])⟩ := ⟨_, rfl⟩
  have nF : ∀ a, w1.F a → a ≠ xa ∧ a ≠ dx := fun a fa => by
    obtain ⟨o, eo⟩ := hr1.fr a fa
    constructor
    · rintro rfl; rw [nx] at eo; cases eo
    · rintro rfl; rw [nd] at eo; cases eo
  have le2 : w1.le w2 := by
    rw [hw2]
    exact ⟨⟨[xa], rfl⟩, fun _ z => z, fun a fa => (upd_ne (nF a fa).1).trans (upd_ne (nF a fa).2)⟩
  have same : ∀ b o, w1.H b = some o → w2.H b = some o := fun b o e => by
    rw [hw2]
    exact (upd_ne (ne_of_none e nx)).trans ((upd_ne (ne_of_none e nd)).trans e)
  have hr2 : HRel κ w2 (S1 ++ [some (.ins c (List.replicate (pg.G.fields c) none))]) := by
    have hA : w2.A = w1.A ++ [xa] := by rw [hw2]
    have hFe : w2.F = w1.F := by rw [hw2]
    refine ⟨hr1.tab.ext same, fun a ps fa e => ?_, by rw [hA]; simp [hr1.len], ?_, ?_, ?_, ?_⟩
    · rw [hFe] at fa
      exact hr1.ntb a ps fa ((le2.H a fa).symm.trans e)
    · rw [hA]
      exact List.nodup_append.mpr ⟨hr1.nd, by simp, fun a ha b hb => by
        simp only [List.mem_singleton] at hb
        subst hb
        exact fun z => hr1.freshA nx (z ▸ ha)⟩
    · intro a ha
      rw [hA] at ha
      rcases List.mem_append.mp ha with z | z
      · obtain ⟨o, e, n⟩ := hr1.here a z
        exact ⟨o, same a o e, n⟩
      · simp only [List.mem_singleton] at z
        subst z
        exact ⟨.ins C dx [], by rw [hw2]; exact upd_same, nofun, nofun⟩
    · intro a fa
      rw [hFe] at fa
      obtain ⟨o, e⟩ := hr1.fr a fa
      exact ⟨o, same a o e⟩
    · intro n c' e
      by_cases hn' : n < S1.length
      · rw [List.getElem?_append_left hn'] at e
        obtain ⟨a, e1, e2, e3⟩ := hr1.cl n c' e
        refine ⟨a, ?_, by rw [hFe]; exact e2, e3.mono le2 (fun b o q _ => same b o q) (fun b o _ nb => by rw [hFe]; exact nb) e2⟩
        rw [hA, List.getElem?_append_left (by rw [hr1.len]; exact hn')]
        exact e1
      · have hlt : n < (S1 ++ [some (Cell.ins c (List.replicate (pg.G.fields c) none))]).length := (List.getElem?_eq_some_iff.mp e).1
        have hn2 : n = S1.length := by simp at hlt; omega
        subst hn2
        rw [List.getElem?_append_right (Nat.le_refl _)] at e
        simp at e
        subst e
        refine ⟨xa, ?_, ?_, C, dx, [], hC, ?_, ?_, ?_, ?_, [], ?_, Nat.zero_le _, rfl, .nil⟩
        · rw [hA, List.getElem?_append_right (by rw [hr1.len]; exact Nat.le_refl _), hr1.len]
          simp
        · rw [hFe]; exact hr1.freshF nx
        · rw [hw2]; exact upd_same
        · rw [hw2]; exact (upd_ne ne).trans upd_same
        · rw [hFe]; exact hr1.freshF nd
        · rw [List.length_replicate]; exact O.nf
        · simp
  have hself : RepL κ w2 (.loc S1.length) (.ref xa) := ⟨xa, by
    rw [hw2]
    show (w1.A ++ [xa])[S1.length]? = some xa
    rw [List.getElem?_append_right (by rw [hr1.len]; exact Nat.le_refl _), hr1.len]
    simp, rfl⟩
  have hargs : RepLs κ w2 (.loc S1.length :: ds) (.ref xa :: vs) := .cons hself (rds.mono le2)
  -- what __init__ is asked for
  have hsp : spF κ (cf (pg.G.init c)) ps.length (.ref xa :: vs) w2.H (fun v H2 => v = .non ∧ Q (.ref xa) H2) (WE W σ) := by
    unfold mkO at a1
    refine sp_of (W := W) (σ := σ) hr2 hargs hn ?_
    cases er : cf (pg.G.init c) (.loc S1.length :: ds) (S1 ++ [some (.ins c (List.replicate (pg.G.fields c) none))]) with
    | bad => rw [er] at a1; exact a1.elim
    | ex c' fs' S' =>
      rw [er] at a1
      exact fun w' le' hr' => a1 w' (le2.trans le') hr'
    | ok d S' =>
      rw [er] at a1
      simp only [R.bind] at a1
      intro w' le' hr' v rv
      split at a1
      · rename_i c' fs' es'
        split at a1
        · rename_i hcc
          subst hcc
          split at a1
          · rename_i dsf hall
            have efs := allFs_eq hall
            obtain ⟨a, ea, nfa, C', dx', gs, hC', k1, k2, k3, k4, dz, k5, k6, k7, k8⟩ := hr'.cl _ _ es'
            rw [hC] at hC'
            cases hC'
            have hv : v = .non := by
              have r' : Rep κ w'.F w'.H .non v := rv
              simpa [Rep] using r'
            refine ⟨hv, ?_⟩
            obtain ⟨l, hl⟩ := le'.A
            have hl2 : w'.A = w1.A ++ ([xa] ++ l) := by rw [hl, hw2, List.append_assoc]
            have eax : a = xa := by
              rw [hl2, List.getElem?_append_right (by rw [hr1.len]; exact Nat.le_refl _), hr1.len] at ea
              simp at ea
              exact ea.symm
            subst eax
            have hlen : dz.length = fs'.length := by
              have h := congrArg (fun l => l.countP Option.isSome) k5
              have h2 : (dsf.map some).countP Option.isSome = dsf.length := by
                rw [List.countP_eq_length.mpr]
                · simp
                · intro z hz
                  obtain ⟨y, _, rfl⟩ := List.mem_map.mp hz
                  rfl
              have h3 : (dz.map some).countP Option.isSome = dz.length := by
                rw [List.countP_eq_length.mpr]
                · simp
                · intro z hz
                  obtain ⟨y, _, rfl⟩ := List.mem_map.mp hz
                  rfl
              simp only [List.countP_append, h3] at h
              rw [efs] at h ⊢
              simp only [h2] at h
              have h4 : (List.replicate ((List.map some dsf).length - dz.length) (none : Option D)).countP Option.isSome = 0 := by
                rw [List.countP_eq_zero]
                intro z hz
                rw [(List.mem_replicate.mp hz).2]
                simp
              rw [h4] at h
              simp
              omega
            have edz : dz = dsf := by
              rw [hlen] at k5
              simp at k5
              rw [efs] at k5
              exact ((List.map_inj_right (fun _ _ => Option.some.inj)).mp k5).symm
            subst edz
            have htk : w'.A.take S1.length = w1.A := by rw [hl2]; exact take_app hr1.len
            obtain ⟨wz, hwz⟩ : ∃ wz : Wd, wz = ⟨w'.A.take S1.length, fun b => w'.F b ∨ b = a ∨ b = dx', w'.H⟩ := ⟨_, rfl⟩
            have hax : a ∉ w1.A := hr1.freshA nx
            have hrz : HRel κ wz (S'.take S1.length) := by
              rw [hwz]
              refine hr'.take _ _ (fun _ z => .inl z) (fun b z => ?_) (fun b z => ?_) fun b ps z => ?_
              · rcases z with z | rfl | rfl
                · exact .inl z
                · exact .inr ⟨⟨_, k1⟩, by rw [htk]; exact hax⟩
                · refine .inr ⟨⟨_, k2⟩, ?_⟩
                  rw [htk]
                  intro z
                  obtain ⟨o, e, n⟩ := hr'.here b (by rw [hl2]; exact List.mem_append_left _ z)
                  rw [k2] at e
                  cases e
                  exact n.1 _ rfl
              · rcases z with z | rfl | rfl
                · exact .inl z
                · exact .inr fun b' e => by rw [k1] at e; cases e
                · refine .inr fun b' e => ?_
                  rw [k2] at e
                  cases e
                  rw [htk]
                  exact hax
              · rcases z with z | rfl | rfl
                · exact .inl z
                · exact .inr fun e => by rw [k1] at e; cases e
                · exact .inr fun e => by rw [k2] at e; cases e
            have lez : w1.le wz := by
              rw [hwz]
              exact ⟨⟨[], by rw [htk]; simp⟩, fun b z => .inl (le'.F b (le2.F b z)), fun b z => (le'.H b (le2.F b z)).trans (le2.H b z)⟩
            have fz := a1 wz lez hrz (.ref a) (by
              show Rep κ wz.F wz.H (.obj c dz) (.ref a)
              rw [hwz]
              simp only [Rep]
              refine ⟨a, C, dx', gs, rfl, .inr (.inl rfl), .inr (.inr rfl), hC, k1, k2, ?_, Reps.mono (fun _ z => .inl z) (fun _ _ => rfl) _ _ k8⟩
              rw [k7, hlen, k4]
              simp)
            rw [hwz] at fz
            exact fz
          · exact a1.elim
        · exact a1.elim
      · exact a1.elim
  -- the call
  have rva : Vals (V.ref xa :: vs) (Value.ref xa :: us) := .cons rfl rv
  have hlen : (Value.ref xa :: us).length = ps.length := by rw [← rva.length]; exact F.len _ _ _ _ hsp
  have b0 := hb { s1 with heap := (s1.heap.push PySem.W.emptyDict).push (PySem.W.instObj C dx) } (Value.ref xa :: us) I2.kIn (by rw [List.append_nil]; exact hlen)
  rw [List.append_nil] at b0
  rw [hw2] at hsp
  subst hxa hdx
  refine wpAny_call (make_map (f := f) I1.kIn M.makes M.init (beq_iff_eq.mp M.fn) (codeAny_mono (F.run _ X.stack _ _ ⟨_, []⟩ _ _ _ _ ((hr.make C us [])) (I2.env0.make C us []) b0 rva hsp) fun r s' hq => ?_))
  cases r with
  | error er => exact (passAt tk σ) pins _ _ er s' I2 hq
  | ok fl =>
    cases fl with
    | ret u =>
      obtain ⟨v, H', I3, rv3, ev, q3⟩ := I2.after hq
      subst ev
      exact ⟨rv3, V.ref (s1.heap.objs.size + 1), H', I3, rfl, q3⟩
    | next => exact hq.elim
    | brk => exact hq.elim
    | cont => exact hq.elim⟩
end
end SP
end
section
set_option Elab.async false
set_option linter.all false
set_option autoImplicit false
set_option maxRecDepth 100000
set_option maxHeartbeats 4000000
namespace SP
open PySem PySem.Spec L2
section
variable {κ : Kx} {X : Cx} {pg : Pg} {k : Nat} {cf : Cf}
theorem j_cst {x : Str} {i : Int} {pos : Pos} (L : LayX κ pg X k cf) (h : pg.cst x = some i) (hg : Gl X x) (hdb : (x == ("__debug__" : Str)) = false) : JE κ X (.Name x pos) (fun _ S => .ok (.int i) S) := by
  obtain ⟨t, hm⟩ := L.cst x i h
  exact j_const (pe_glob hg hm (v := .int i) ⟨t, rfl⟩ hdb) fun _ => rep_int
/-! ### built-ins -/
/-- a call by values that raises nothing -/
def rRc (κ : Kx) (g : List D → Store → R D) : List V → Hp → VK → Prop := fun xs H Q => ∃ w S ds, w.H = H ∧ HRel κ w S ∧ RepLs κ w ds xs ∧ ∃ d S', g ds S = .ok d S' ∧ ∀ w', w.le w' → HRel κ w' S' → Fin_ κ Q w' S' d
theorem cr_bfO (L : LayX κ pg X k cf) (hc : X.calm = true) (hr : Room (k + 1) X.A) (f : Bf) (hf : f ≠ .sortedSet) : CallR X (bfV f) (rRc κ (bfO cf pg.G f)) := by
  intro pins s σ H xs us Q I rv h
  obtain ⟨w, S, ds, rfl, hrel, r, d, S', e, q⟩ := h
  have plain : (∀ c fs, ¬ (f = .len ∧ ds = [.obj c fs])) → wpAny (model X.prog X.w) X.A (call (bfV f) us) (EP X pins σ Q) X.xe s := fun hno => by
    have e2 : (R.opt S (bfD f (ds.map (rdD S))) : R D) = .ok d S' := by
      rw [← e]
      unfold bfO
      split
      · rename_i c fs
        exact absurd ⟨rfl, rfl⟩ (hno c fs)
      · rfl
    cases e3 : bfD f (ds.map (rdD S)) with
    | none => rw [e3] at e2; cases e2
    | some d3 =>
      rw [e3] at e2
      simp only [R.opt] at e2
      cases e2
      exact cr_bf (κ := κ) hc (by have := hr.un; omega) f hf pins s σ w.H xs us Q I rv ⟨w, S, ds, rfl, hrel, r, _, e3, q⟩
  by_cases hob : ∃ c fs, f = .len ∧ ds = [.obj c fs]
  · obtain ⟨c, fs, rfl, rfl⟩ := hob
    simp only [bfO] at e
    cases eg : pg.G.len c with
    | none => rw [eg] at e; cases e
    | some g =>
      rw [eg] at e
      simp only at e
      obtain ⟨v, t, rfl, rv1, rn⟩ := r
      have rn : t = [] := rn
      subst rn
      obtain ⟨a, C, dx, gs, rfl, hF, hF2, hC, h1, h2, h3, h4⟩ := rep_obj rv1
      obtain ⟨fa, hs, hfn, fd, ps, hb, F, hn⟩ := (L.oc c C hC).len g eg
      have hu : us = [Value.ref a] := by
        cases rv with
        | cons p q =>
          cases q
          have p : _ = _ := p
          rw [p]
      subst hu
      obtain ⟨mA, J, _⟩ := ins_get I.hok h1
      obtain ⟨od, J, _⟩ := J.look
      obtain ⟨m, hF'⟩ := I.fr
      cases er : cf g [.obj c fs] S with
      | bad => rw [er] at e; cases e
      | ex c' fs' S'' => rw [er] at e; cases e
      | ok d1 S1 =>
        rw [er] at e
        simp only [R.noEx, R.bind] at e
        cases d1 with
        | int i =>
          simp only at e
          split at e
          · rename_i hi
            cases e
            refine PySem.W.len_K hF' I.ok.mod.kin J hs hfn ?_
            have e0 : Env0 X.prog X.w X.K X.mg X.base X.A.in1 X.stack s w.H := I.env0.in1
            have hsp : spF κ (cf g) ps.length [.ref a] w.H (fun v H' => v = .int i ∧ ∃ w', w.le w' ∧ HRel κ w' S' ∧ w'.H = H') (fun _ _ _ => False) := by
              refine ⟨?_, w, S, [.obj c fs], rfl, hrel, .cons rv1 .nil, ?_⟩
              · exact hn [.obj c fs] S (by rw [er]; intro z; cases z)
              · rw [er]
                intro w' le' hr' v rv'
                exact ⟨rv'.see.int, w', le', hr', rfl⟩
            have r2 : Vals [V.ref a] [Value.ref a] := .cons rfl .nil
            have hl := F.len _ _ _ _ hsp
            refine wpAny_call (codeAny_mono (F.run X.A.in1 X.stack s w.H ⟨[.ref a], []⟩ [.ref a] [.ref a] _ _ hr.in1 e0 (by
              have := hb s [.ref a] I.kIn (by simpa using hl)
              simpa using this) r2 hsp) fun r s' hq => ?_)
            cases r with
            | error er =>
              obtain ⟨_, _, _, _, _, _, _, _, _, _, _, _, z⟩ := hq
              exact z.elim
            | ok fl =>
              cases fl with
              | ret u =>
                obtain ⟨z, H', I', rz, ez, w', le', hr', eH⟩ := I.after hq
                subst ez
                obtain ⟨tk, rfl⟩ := rz
                subst eH
                exact ⟨hi, V.int i, w'.H, I'.tok _, ⟨_, rfl⟩, q w' le' hr' _ rep_int⟩
              | next => exact hq.elim
              | brk => exact hq.elim
              | cont => exact hq.elim
          · cases e
        | _ => cases e
  · exact plain fun c fs z => hob ⟨c, fs, z⟩
theorem bfO_noex {f : Bf} {ds : List D} {S : Store} {c : Nat} {fs : List D} {S' : Store} : bfO cf pg.G f ds S ≠ .ex c fs S' := by
  unfold bfO
  intro h
  split at h
  · rename_i c1 fs1
    split at h
    · rename_i g _
      cases er : cf g [.obj c1 fs1] S with
      | ok d1 S1 =>
        rw [er] at h
        simp only [R.noEx, R.bind] at h
        split at h
        · split at h <;> cases h
        · cases h
      | ex c' fs' S'' => rw [er] at h; cases h
      | bad => rw [er] at h; cases h
    · cases h
  · rename_i f' xs' _
    cases e4 : bfD f (ds.map (rdD S)) with
    | none => rw [e4] at h; cases h
    | some d => rw [e4] at h; cases h
theorem tX_bf {W : WX} {f : Bf} {fs : Env → Store → R (List D)} {σ : L2.St} {H : Hp} {Q : VK} (q : tX κ W (fun ρ S => (fs ρ S).bind fun xs S1 => bfO cf pg.G f xs S1) σ H Q) : tCB (rRc κ (bfO cf pg.G f)) (tXs κ W fs) σ H Q := by
  refine tXs_call q fun w' S' ds vs hr rv a => ?_
  cases e : bfO cf pg.G f ds S' with
  | bad => rw [e] at a; exact a.elim
  | ex c fs' S'' => exact absurd e bfO_noex
  | ok d S'' =>
    rw [e] at a
    exact ⟨w', S', ds, rfl, hr, rv, d, S'', e, fun w2 le2 hr2 => a w2 le2 hr2⟩
theorem mem_bN {f : Bf} : bfName f ∈ bNames := by cases f <;> simp [bfName, bNames]
theorem j_bf {f : Bf} {x : Str} {p pos : Pos} {e : Expr} {es : List Expr} {fs : Env → Store → R (List D)} (L : LayX κ pg X k cf) (hc : X.calm = true) (hr : Room (k + 1) X.A) (hf : f ≠ .sortedSet) (hx : x = bfName f) (hg : Gl X x) (hp : (e :: es).all plainX = true) (hs : JA κ X (e :: es) fs) :
    JE κ X (.Call (.Name x p) (e :: es) [] pos) (fun ρ S => (fs ρ S).bind fun xs S1 => bfO cf pg.G f xs S1) := fun W tk => by
  have h1 : plainX e = true ∧ es.all plainX = true := by simpa using hp
  have hm : X.mg x = none := L.blt x (by rw [hx]; exact mem_bN)
  have cr := cr_bfO L hc hr f hf
  have key : ∀ id, bfV f = .builtin id → bootBuiltins x = some (.builtin id) → x ≠ "__name__" → (x == ("__debug__" : Str)) = false → PE X (.Call (.Name x p) (e :: es) [] pos) (tX κ W (fun ρ S => (fs ρ S).bind fun xs S1 => bfO cf pg.G f xs S1)) := fun id e1 e2 e3 e4 => by
    rw [e1] at cr
    exact pe_imp (pe_callB cr hg hm e2 (hs W tk) e3 e4 (star_plain h1.1) (star_any h1.2)) fun σ H Q q => tX_bf q
  have key2 : ∀ id, bfV f = .type id → bootBuiltins x = some (.type id) → x ≠ "__name__" → (x == ("__debug__" : Str)) = false → PE X (.Call (.Name x p) (e :: es) [] pos) (tX κ W (fun ρ S => (fs ρ S).bind fun xs S1 => bfO cf pg.G f xs S1)) := fun id e1 e2 e3 e4 => by
    rw [e1] at cr
    exact pe_imp (pe_callTy cr hg hm e2 (hs W tk) e3 e4 (star_plain h1.1) (star_any h1.2)) fun σ H Q q => tX_bf q
  subst hx
  cases f with
  | len => exact key "len" rfl (by decide +kernel) (by decide) (by decide)
  | sum => exact key "sum" rfl (by decide +kernel) (by decide) (by decide)
  | min1 => exact key "min" rfl (by decide +kernel) (by decide) (by decide)
  | min2 => exact key "min" rfl (by decide +kernel) (by decide) (by decide)
  | max1 => exact key "max" rfl (by decide +kernel) (by decide) (by decide)
  | max2 => exact key "max" rfl (by decide +kernel) (by decide) (by decide)
  | list => exact key2 "list" rfl (by decide +kernel) (by decide) (by decide)
  | tuple => exact key2 "tuple" rfl (by decide +kernel) (by decide) (by decide)
  | all => exact key "all" rfl (by decide +kernel) (by decide) (by decide)
  | toInt => exact key2 "int" rfl (by decide +kernel) (by decide) (by decide)
  | sorted => exact key "sorted" rfl (by decide +kernel) (by decide) (by decide)
  | sortedSet => exact absurd rfl hf

/-! ### isinstance -/
theorem see_ty {w : Wd} {d : D} {v : V} {t : String} (r : See κ w d v) (e : tyn d = some t) : TyX X.K w.H v (.type t) := by
  cases d with
  | non =>
    cases e
    have r' : v = .non := by
      have r0 : Rep κ w.F w.H .non v := r
      simpa [Rep] using r0
    subst r'
    exact .base .non
  | bl b => cases e; have := r.bl; subst this; exact .base (.bl b)
  | int i => cases e; have := r.int; subst this; exact .base (.int i)
  | str i => cases e; have := r.str; subst this; exact .base (.str i)
  | lst xs => cases e; obtain ⟨a, vs, rfl, h, _⟩ := r.lst; exact .base (.lst h)
  | tup xs => cases e; obtain ⟨a, vs, rfl, _, h, _⟩ := r.tup; exact .base (.tup h)
  | _ => cases e
/-- a class's name and the class -/
def TyC (κ : Kx) (t : Ty) (v : V) (u : Value) : Prop := match t with
  | .cls c => ∃ C, ((100 ≤ c ∧ κ.oa c = some C) ∨ (c < 100 ∧ κ.ca c = some C)) ∧ v = .ref C ∧ u = .ref C
  | t => ∃ n, (tyName t).map (·.toString) = some n ∧ v = .ty n ∧ u = .type n
theorem TyC.cv {t : Ty} {v : V} {u : Value} (h : TyC κ t v u) : ClsV v u := by
  cases t with
  | cls c => obtain ⟨C, _, rfl, rfl⟩ := h; exact .own C
  | _ => obtain ⟨n, _, rfl, rfl⟩ := h; exact .ty n
theorem mem_ty {d : D} {s : String} (h : tyn d = some s) : s ∈ ["NoneType", "bool", "int", "str", "list", "tuple", "dict"] := by
  cases d <;> simp [tyn] at h <;> subst h <;> simp
theorem kit_b {s : String} {t : Ty} {n : String} {d : D} (h : tyn d = some s) (hn : (tyName t).map (·.toString) = some n) : kitB s n = some (tyHas s t) := by
  cases t <;> simp [tyName] at hn <;> subst hn <;> (cases d <;> simp [tyn] at h <;> subst h <;> decide +kernel)
theorem isTy_b {d : D} {s : String} {t : Ty} {b : Bool} (hd : tyn d = some s) (ht : ∀ c, t ≠ .cls c) (hv : t ≠ .ve) (h : isTy d t = some b) : b = tyHas s t := by
  have h2 : isTy d t = (tyn d).map fun s => tyHas s t := by
    cases d <;> simp [tyn] at hd <;> (cases t <;> first | rfl | exact absurd rfl (ht _) | exact absurd rfl hv)
  rw [h2, hd] at h
  simpa using h.symm
/-- a value's type, exceptions too -/
inductive TyE (K : PySem.W.Frag) (H : Hp) : V → Value → Prop where
  | x {x : V} {t : Value} (h : TyX K H x t) : TyE K H x t
  | exc {a C dx : Addr} {gs : List (Str × V)} (h1 : H a = some (exo a C (some dx))) (h2 : H dx = some (exd dx gs)) (c : ExcC K C) : TyE K H (.ref a) (.ref C)
theorem kit_ofE {pins : List (Addr × Obj)} {σ : L2.St} {H : Hp} {s : Shared} {x : V} {u t : Value} (I : Inv X pins σ H s) (rx : RelV x u) (ty : TyE X.K H x t) : ∃ P : Heap → Prop, PySem.W.KitX X.K u t P ∧ P s.heap ∧ u ≠ .builtin "__main__.__loader__#opaque" := by
  cases ty with
  | x h => exact kit_of I rx h
  | @exc a C dx gs h1 h2 c =>
    cases (show u = Value.ref a from rx)
    obtain ⟨t1, ha⟩ := exo_at I.hok h1
    obtain ⟨mA, hns, hr⟩ := exd_at I.hok h2
    obtain ⟨od, ho, hl⟩ := lookIn_ns hns
    obtain ⟨cd, hcd, _⟩ := PySem.W.any_some c.hd
    exact ⟨_, PySem.W.kitx_exc (ox := { cls := .ref C, dict := some dx, data := .fields #[.ref t1, .none, .none, .none, .bool false, .none] }) (od := some od) (by rw [hcd]; rfl) c.hg c.hk c.hs c.ha c.hn c.ht c.hm, ⟨ha, rfl, rfl, ho⟩, fun z => nomatch z⟩
def rIsiE (K : PySem.W.Frag) : List V → Hp → VK → Prop := fun xs H Q => ∃ (x c : V) (t u : Value) (b : Bool), xs = [x, c] ∧ ClsV c u ∧ TyE K H x t ∧ PySem.W.kitOne K t u = some b ∧ Q (.bl b) H
def rIsiTE (K : PySem.W.Frag) : List V → Hp → VK → Prop := fun xs H Q => ∃ (x : V) (tp : Addr) (cs : List V) (t : Value) (us : List Value) (b : Bool), xs = [x, .ref tp] ∧ H tp = some (.tup cs) ∧ Paired ClsV cs us ∧ TyE K H x t ∧ PySem.W.kitAny K t us = some b ∧ Q (.bl b) H
theorem call_isiE : CallR X (.builtin "isinstance") (rIsiE X.K) := by
  intro pins s σ H xs us Q I r h
  obtain ⟨x, c, t, u, b, rfl, k, ty, e, q⟩ := h
  obtain ⟨u1, u2, rfl, r1, r2⟩ := vals2 r
  have e2 := k.eq r2
  subst e2
  obtain ⟨P, Z, p, hx⟩ := kit_ofE I r1 ty
  exact PySem.W.kia_one Z I.kIn p e hx fun tk => ⟨.bl b, H, I.tok tk, rfl, q⟩
theorem call_isiTE : CallR X (.builtin "isinstance") (rIsiTE X.K) := by
  intro pins s σ H xs us Q I r h
  obtain ⟨x, tp, cs, t, ws, b, rfl, hT, k, ty, e, q⟩ := h
  obtain ⟨u1, u2, rfl, r1, r2⟩ := vals2 r
  cases (show u2 = Value.ref tp from r2)
  obtain ⟨P, Z, p, hx⟩ := kit_ofE I r1 ty
  obtain ⟨_, its, rv, o, h1, h2, n, h3⟩ := (show ObjOk X.prog X.w H s.heap tp (.tup cs) from I.hok tp _ hT)
  have e3 := ClsV.all k rv
  subst e3
  obtain ⟨oc, od, dt, sl⟩ := o
  simp only at h2 h3
  subst h2 h3
  exact PySem.W.kia_tup Z I.kIn p h1 e hx fun tk => ⟨.bl b, H, I.tok tk, rfl, q⟩
theorem isTy_ok (L : LayX κ pg X k cf) {w : Wd} {d : D} {x : V} (r : See κ w d x) {t0 : Ty} {b0 : Bool} (h0 : isTy d t0 = some b0) : ∃ tv, TyE X.K w.H x tv ∧ ∀ (t : Ty) (v : V) (u : Value) (b : Bool), TyC κ t v u → isTy d t = some b → PySem.W.kitOne X.K tv u = some b := by
  cases hd : tyn d with
  | some s =>
    refine ⟨.type s, .x (see_ty r hd), fun t v u b ht h => ?_⟩
    cases t with
    | cls c =>
      obtain ⟨C, hC, rfl, rfl⟩ := ht
      have hb : b = false ∧ 100 ≤ c := by
        cases d <;> simp [tyn] at hd <;> (simp only [isTy] at h; split at h <;> simp [tyn] at h <;> first | exact ⟨h.symm, by assumption⟩ | exact ⟨h, by assumption⟩)
      rw [hb.1]
      rcases hC with hC | hC
      · exact (L.oc c C hC.2).kitT s (mem_ty hd)
      · omega
    | ve => cases d <;> simp [tyn] at hd <;> simp [isTy] at h
    | _ =>
      obtain ⟨n, hn, rfl, rfl⟩ := ht
      rw [isTy_b hd (fun c z => by cases z) (fun z => by cases z) h]
      exact kit_ty (kit_b hd hn)
  | none =>
    cases d with
    | obj c fs =>
      obtain ⟨a, C, dx, gs, rfl, hF, hF2, hC, h1, h2, h3, h4⟩ := rep_obj (show RepL κ w (.obj c fs) x from r)
      have O := L.oc c C hC
      refine ⟨.ref C, .x (.base (.ins h1 O.cls O.ha O.hn O.htk O.hm)), fun t v u b ht h => ?_⟩
      cases t with
      | cls c' =>
        obtain ⟨C', hC', rfl, rfl⟩ := ht
        simp only [isTy] at h
        split at h
        · cases h
          rcases hC' with hC' | hC'
          · exact O.same c' C' hC'.2
          · omega
        · cases h
      | ve => simp [isTy] at h
      | _ =>
        obtain ⟨n, hn, rfl, rfl⟩ := ht
        simp only [isTy] at h
        cases h
        obtain ⟨y, hy, rfl⟩ := Option.map_eq_some_iff.mp hn
        exact O.kit _ _ hy
    | exc c fs =>
      obtain ⟨a, C, dx, gs, rfl, hF, hF2, hC, h1, h2, h3, h4⟩ := rep_exc (show RepL κ w (.exc c fs) x from r)
      have h0' : 0 < c := by
        cases t0 <;> simp [isTy] at h0
        · exact h0.1
        · exact h0.1.1
      have O := L.xc c C hC h0'
      refine ⟨.ref C, .exc h1 h2 O.cc, fun t v u b ht h => ?_⟩
      cases t with
      | cls c' =>
        obtain ⟨C', hC', rfl, rfl⟩ := ht
        simp only [isTy] at h
        split at h
        · rename_i hc
          cases h
          rcases hC' with hC' | hC'
          · omega
          · exact O.kit c' C' hC'.2
        · cases h
      | ve =>
        obtain ⟨n, hn, rfl, rfl⟩ := ht
        have hn : (Str.ofString "ValueError").toString = n := by simpa [tyName] using hn
        rw [show (Str.ofString "ValueError").toString = "ValueError" from by decide +kernel] at hn
        subst hn
        simp only [isTy] at h
        rw [if_pos h0'] at h
        cases h
        exact O.kve
      | _ => simp [isTy] at h
    | _ => first | (cases hd; done) | (cases t0 <;> simp [isTy, tyn] at h0)
theorem pe_tyName {t : Ty} {x : Str} {pos : Pos} (L : LayX κ pg X k cf) (hg : Gl X x) (hn : nmOk x = true) (h : chkTy pg t x = true) : ∃ v u, TyC κ t v u ∧ PE X (.Name x pos) (tC v) := by
  have h3 : ((x == ("__debug__" : Str)) = false) ∧ x ≠ "__name__" := by
    unfold nmOk beqS at hn
    simp at hn
    exact ⟨by simpa using hn.1.1, hn.2⟩
  cases t with
  | cls c =>
    have h : optIs (pg.cn c) x = true := h
    have h : pg.cn c = some x := by
      unfold optIs at h
      split at h
      · rename_i y hy
        rw [show y = x from by simpa [beqS] using h] at hy
        exact hy
      · cases h
    by_cases hc : 100 ≤ c
    · obtain ⟨C, hm, hC⟩ := L.cn c x h hc
      exact ⟨.ref C, .ref C, ⟨C, .inl ⟨hc, hC⟩, rfl, rfl⟩, pe_glob hg hm (v := .ref C) rfl h3.1⟩
    · obtain ⟨C, hm, hC⟩ := L.xn c x h (by omega)
      exact ⟨.ref C, .ref C, ⟨C, .inr ⟨by omega, hC⟩, rfl, rfl⟩, pe_glob hg hm (v := .ref C) rfl h3.1⟩
  | _ =>
    have h : beqS _ x = true := h
    have h := (show _ = x from by simpa [beqS] using h)
    subst h
    exact ⟨.ty _, .type _, ⟨_, rfl, rfl, rfl⟩, pe_bltn hg (L.blt _ (by simp [bNames])) (by decide +kernel) rfl h3.2 h3.1⟩
theorem j_isi {t : Ty} {x y : Str} {p p2 pos : Pos} {e : Expr} {fe : Env → Store → R D} (L : LayX κ pg X k cf) (hx : x = "isinstance") (hg : Gl X x) (hp : plainX e = true) (he : JE κ X e fe) (hg2 : Gl X y) (hn2 : nmOk y = true) (h : chkTy pg t y = true) :
    JE κ X (.Call (.Name x p) [e, .Name y p2] [] pos) (fun ρ S => (fe ρ S).bind fun x S1 => .opt S1 ((isTy (rdD S1 x) t).map .bl)) := fun W tk => by
  obtain ⟨v, u, ht, hpe⟩ := pe_tyName (X := X) (pos := p2) L hg2 hn2 h
  have hm : X.mg x = none := L.blt x (by rw [hx]; simp [bNames])
  subst hx
  refine pe_imp (pe_callB call_isiE hg hm (by decide +kernel) (pa_cons (he W tk) (pa_cons hpe pa_nil (by rfl)) (star_plain hp)) (by decide) (by decide) (star_plain hp) (by rfl)) fun σ H Q q => ?_
  obtain ⟨w, ρ, S, rfl, hr, sr, a⟩ := q
  refine tX_bind hr sr a fun w1 S1 d1 v1 le1 hr1 _ r1 a1 => ?_
  cases e : isTy (rdD S1 d1) t with
  | none => rw [e] at a1; exact a1.elim
  | some b =>
    rw [e] at a1
    obtain ⟨tv, hty, hk⟩ := isTy_ok (X := X) L (see_rd hr1 r1) e
    exact ⟨v1, v, tv, u, b, rfl, ht.cv, hty, hk t v u b ht e, a1 w1 (.refl w1) hr1 _ rep_bl⟩
/-- an exception of the built-in class, as a value -/
theorem pe_ve {m : Str} {j : Nat} {p1 p2 pos : Pos} (hg : Gl X "ValueError") (hm : X.mg "ValueError" = none) :
    PE X (.Call (.Name "ValueError" p1) [.Constant (.str m) j p2] [] pos) (fun _ H Q => ∀ a, H a = none → Q (.ref a) (upd H a (ExO (.type "ValueError") a))) := by
  refine ⟨fun pins s σ H Q I h => ?_⟩
  refine wpAny_Call_Name_kw (ld_blt I hg hm boot_ValueError ?_ (by decide) (by decide))
  refine PyProof.Rows.callWith_type1 (thn ((pa_cons pe_str pa_nil (by rfl)).run pos pins s σ H (fun vs H1 => ∀ a, H1 a = none → vs.length = 1 ∧ Q (.ref a) (upd H1 a (ExO (.type "ValueError") a))) I (fun a ha => ⟨rfl, h a ha⟩)) fun us s1 hh => ?_) (by rfl) (by rfl)
  obtain ⟨vs, H1, I1, r1, q1⟩ := hh
  obtain ⟨hp1, g1, d1, tk1, os1⟩ := s1
  refine wpAny_call_exc exb_ValueError.call (fun h' a mk => ?_) ?_
  · have hn : H1 a = none := I1.hok.gone mk.new
    obtain ⟨t, ht, _⟩ := mk.there
    exact ⟨.ref a, upd H1 a (ExO (.type "ValueError") a), I1.laidN mk.keeps mk.new hn (exO_ok ht ⟨rfl, rfl⟩ rfl rfl rfl (show 4 < 6 by decide)), rfl, (q1 a hn).2⟩
  · have h1 := (q1 _ (I1.hok.fresh (Nat.le_refl _))).1
    rw [← Paired.length r1, h1, sizeLine_eq]
    omega
def rIsiV (K : PySem.W.Frag) : List V → Hp → VK → Prop := fun xs H Q => ∃ (a : Addr) (c : V) (u : Value) (b : Bool), xs = [.ref a, c] ∧ ClsV c u ∧ H a = some (ExO (.type "ValueError") a) ∧ PySem.W.kitOne K (.type "ValueError") u = some b ∧ Q (.bl b) H
theorem call_isiV : CallR X (.builtin "isinstance") (rIsiV X.K) := by
  intro pins s σ H xs us Q I r h
  obtain ⟨a, c, u, b, rfl, k, ea, e, q⟩ := h
  obtain ⟨u1, u2, rfl, r1, r2⟩ := vals2 r
  have e2 := k.eq r2
  subst e2
  cases (show u1 = Value.ref a from r1)
  obtain ⟨⟨oe, vs, ho, hz, hd, _⟩, _, _⟩ := I.hok a _ ea
  exact PySem.W.kia_one (PySem.W.kitx_bexc PySem.F.excAttr_ValueError PySem.F.lkClass_ValueError PySem.F.soClass_ValueError (by decide +kernel)) I.kIn ⟨oe, ho, hz.1⟩ e (fun z => nomatch z) fun tk => ⟨.bl b, H, I.tok tk, rfl, q⟩
/-- isinstance(ValueError(..), C): it is of no class of ours -/
theorem j_isVE {y z m : Str} {i : Nat} {p p1 p2 p3 pos pos1 : Pos} (L : LayX κ pg X k cf) (h1 : pg.cn 1 = some z) (hg : Gl X "isinstance") (hgv : Gl X "ValueError") (hg2 : Gl X y) (hn2 : nmOk y = true) (h : pg.cn 0 = some y) :
    JE κ X (.Call (.Name "isinstance" p) [.Call (.Name "ValueError" p1) [.Constant (.str m) i p2] [] pos1, .Name y p3] [] pos) (fun _ S => .ok (.bl false) S) := fun W tk => by
  have h3 : ((y == ("__debug__" : Str)) = false) := by
    unfold nmOk beqS at hn2
    simp at hn2
    simpa using hn2.1.1
  obtain ⟨C, hm, hC⟩ := L.xn 0 y h (by decide)
  obtain ⟨C1, hmD, hD⟩ := L.xn 1 z h1 (by decide)
  have hk : PySem.W.kitOne X.K (.type "ValueError") (.ref C) = some false := by
    have e1 := (L.xc 1 C1 hD (by decide)).kit 0 C hC
    have hne : (Value.ref C1 == Value.ref C) = false := by
      refine Bool.eq_false_iff.mpr fun q => ?_
      have e0 : Value.ref C1 = Value.ref C := beq_iff_eq.mp q
      injection e0 with e0
      rw [e0] at hD
      exact absurd (L.xi 1 C 0 hD hC) (by decide)
    unfold PySem.W.kitOne at e1 ⊢
    rw [if_neg (by rw [hne]; decide)] at e1
    rw [if_neg (show ¬ (Value.type "ValueError" == Value.ref C) = true from fun q => by cases beq_iff_eq.mp q)]
    unfold PySem.W.kitCls at e1 ⊢
    dsimp only at e1 ⊢
    split at e1
    · rename_i hc
      rw [if_pos hc]
      unfold PySem.W.subIn
      rfl
    · cases e1
  refine pe_imp (pe_callB call_isiV hg (L.blt _ (by simp [bNames])) (by decide +kernel) (pa_cons (pe_ve hgv (L.blt _ (by simp [bNames]))) (pa_cons (pe_glob hg2 hm (v := .ref C) rfl h3) pa_nil (by rfl)) (by rfl)) (by decide) (by decide) (by rfl) (by rfl)) fun σ H Q q => ?_
  obtain ⟨w, ρ, S, rfl, hr, sr, a⟩ := q
  intro b hb
  refine ⟨b, .ref C, .ref C, false, rfl, .own C, upd_same, hk, ?_⟩
  exact a (w.tree b _) (hr.le_tree hb _) (hr.tree hb _ (fun ps z => by
    have z' : HO.ext _ = HO.tbl ps := z
    cases z')) _ rep_bl
/-- isinstance(e, (A, B ..)) -/
def tCs (vs : List V) : TA := fun _ H Q => Q vs H
theorem pa_names (L : LayX κ pg X k cf) : ∀ (ts : List Ty) (es : List Expr), (∀ y p, Expr.Name y p ∈ es → Gl X y) → chkTys pg ts es = true → ∃ vs us, Paired (fun t (vu : V × Value) => TyC κ t vu.1 vu.2) ts (vs.zip us) ∧ Paired ClsV vs us ∧ vs.length = us.length ∧ vs.length = es.length ∧ PA X es (tCs vs)
  | [], [], _, _ => ⟨[], [], .nil, .nil, rfl, rfl, pa_imp pa_nil fun σ H Q q => q⟩
  | [], _ :: _, _, h => by simp [chkTys] at h
  | _ :: _, [], _, h => by simp [chkTys] at h
  | t :: ts, e :: es, hg, h => by
    simp only [chkTys, Bool.and_eq_true] at h
    obtain ⟨h1, h2⟩ := h
    unfold chkTys.chkTyE at h1
    split at h1
    · rename_i y p
      simp only [Bool.and_eq_true] at h1
      obtain ⟨v, u, ht, hpe⟩ := pe_tyName (X := X) (pos := p) L (hg y p (by simp)) h1.1 h1.2
      obtain ⟨vs, us, f, pr, l1, l2, pa⟩ := pa_names L ts es (fun y p hm => hg y p (by simp [hm])) h2
      exact ⟨v :: vs, u :: us, .cons ht f, .cons ht.cv pr, by simp [l1], by simp [l2], pa_imp (pa_cons hpe pa (by rfl)) fun σ H Q q => q⟩
    · cases h1
theorem isAny_kit (L : LayX κ pg X k cf) {d : D} {tv : Value} (hk : ∀ (t : Ty) (v : V) (u : Value) (b : Bool), TyC κ t v u → isTy d t = some b → PySem.W.kitOne X.K tv u = some b) : ∀ (ts : List Ty) (vs : List V) (us : List Value) (b : Bool), vs.length = us.length → Paired (fun t (vu : V × Value) => TyC κ t vu.1 vu.2) ts (vs.zip us) → isAny d ts = some b → PySem.W.kitAny X.K tv us = some b
  | [], vs, us, b, hl, f, h => by
    cases us with
    | nil => simpa [isAny, PySem.W.kitAny] using h
    | cons u us => cases vs with
      | nil => simp at hl
      | cons v vs => cases f
  | t :: ts, vs, us, b, hl, f, h => by
    cases us with
    | nil => cases vs with
      | nil => cases f
      | cons v vs => simp at hl
    | cons u us => cases vs with
      | nil => cases f
      | cons v vs =>
        cases f with
        | cons ht f =>
          simp only [isAny] at h
          cases e : isTy d t with
          | none => rw [e] at h; cases h
          | some b' =>
            rw [e] at h
            simp only [Option.bind_some] at h
            refine kitAny_cons (hk t v u b' ht e) (fun hb => ?_) (fun hb => ?_)
            · subst hb
              exact isAny_kit L hk ts vs us b (by simpa using hl) f (by simpa using h)
            · subst hb
              simpa using h.symm
theorem j_isis {ts : List Ty} {x : Str} {p p2 pos : Pos} {e : Expr} {es : List Expr} {x1 : _} {fe : Env → Store → R D} (L : LayX κ pg X k cf) (hx : x = "isinstance") (hg : Gl X x) (hp : plainX e = true) (he : JE κ X e fe) (hg2 : ∀ y p, Expr.Name y p ∈ es → Gl X y) (h : chkTys pg ts es = true) (hl : es.length ≤ 1000) (hne : ts ≠ []) :
    JE κ X (.Call (.Name x p) [e, .Tuple es x1 p2] [] pos) (fun ρ S => (fe ρ S).bind fun x S1 => .opt S1 ((isAny (rdD S1 x) ts).map .bl)) := fun W tk => by
  obtain ⟨vs, us, f, pr, l1, l2, hpa⟩ := pa_names (X := X) L ts es hg2 h
  have hm : X.mg x = none := L.blt x (by rw [hx]; simp [bNames])
  subst hx
  refine pe_imp (pe_callB call_isiTE hg hm (by decide +kernel) (pa_cons (he W tk) (pa_cons (pe_tup hpa) pa_nil (by rfl)) (star_plain hp)) (by decide) (by decide) (star_plain hp) (by rfl)) fun σ H Q q => ?_
  obtain ⟨w, ρ, S, rfl, hr, sr, a⟩ := q
  refine tX_bind hr sr a fun w1 S1 d1 v1 le1 hr1 _ r1 a1 => ?_
  refine ⟨by have h1 : vs.length ≤ 1000 := by omega
             rw [sizeLine_eq]; omega, fun tp htp => ?_⟩
  cases e : isAny (rdD S1 d1) ts with
  | none => rw [e] at a1; exact a1.elim
  | some b =>
    rw [e] at a1
    have hr2 := hr1.tree htp (.tup vs)
    have le2 := hr1.le_tree htp (.tup vs)
    have fin := a1 _ le2 hr2 _ rep_bl
    cases ts with
    | nil => exact absurd rfl hne
    | cons t ts =>
      have ht0 : ∃ b0, isTy (rdD S1 d1) t = some b0 := by
        simp only [isAny] at e
        cases e' : isTy (rdD S1 d1) t with
        | none => rw [e'] at e; cases e
        | some b0 => exact ⟨b0, rfl⟩
      obtain ⟨b0, e0⟩ := ht0
      obtain ⟨tv, hty, hk⟩ := isTy_ok (X := X) L (see_rd hr2 (r1.mono le2)) e0
      exact ⟨v1, tp, vs, tv, us, b, rfl, upd_same, pr, hty, isAny_kit L hk _ vs us b l1 f e, fin⟩
end
end SP
end
section
set_option Elab.async false
set_option linter.all false
set_option autoImplicit false
set_option maxRecDepth 100000
set_option maxHeartbeats 4000000
/-! enumerate(tuple) -/
namespace RZ
open PySem PySem.Spec PyProof.Rows L2
open AutoSeq1 (wpAny_loadPart')
theorem meets_enumerate_newB0 {v : Value} {o : Obj} {H : Heap → Prop} (B : Begins v o H) :
    Meets (Builtin.«enumerate.__new__» ⟨[.type "enumerate", v], []⟩) (fun _ R s => H s.heap ∧
      R (.ok (.ret (.ref (s.heap.push o).objs.size))) { s with heap := (s.heap.push o).push { cls := .type "enumerate", data := .fields #[.none, .bool false, .ref s.heap.objs.size, rawInt 0, .none, .none] } }) :=
  .of_wp fun prog w A R s h => by
    obtain ⟨hp, g, d, tk, os⟩ := s; obtain ⟨h1, h⟩ := h
    have hsub := sub_enumerate
    have q1 : ∀ {A' : Around} {E : Value → Shared → Prop} {Q : Value → Shared → Prop}, Q (.ref hp.objs.size) ⟨hp.push o, g, d, tk, os⟩ → wpAny (model prog w) A' (pyIter v) Q E ⟨hp, g, d, tk, os⟩ :=
      fun q => B.iter prog w _ _ ⟨hp, g, d, tk, os⟩ _ h1 q
    wp_walk using q1
    refine wpAny_stack_any fun st => wpAny_pure ?_
    split
    · rename_i c _ _ _ _ _
      cases (c == Value.type "enumerate")
      · wp_walk using q1
        exact ⟨_, rfl, h⟩
      · wp_walk using q1
        exact ⟨_, rfl, h⟩
    · wp_walk using q1
      exact ⟨_, rfl, h⟩
theorem enum_begins0 {prog : Program} {w : World} {A : Around} {E : Value → Shared → Prop} {s : Shared} {v : Value} {o : Obj} {H : Heap → Prop} {Q : Value → Shared → Prop} (B : Begins v o H) (h1 : H s.heap)
    (h : ∀ h', IsEnum h' (s.heap.objs.size + 1) s.heap.objs.size 0 .none → h'.get? s.heap.objs.size = some o → h'.objs.size = s.heap.objs.size + 2 →
      (∀ b o, s.heap.get? b = some o → h'.get? b = some o) → Q (.ref (s.heap.objs.size + 1)) { s with heap := h' }) :
    wpAny (model prog w) A (call (.type "enumerate") [v]) Q E s := by
  refine callType_new F.called_enumerate (by decide) (F.typeCall_enumerate_1 _) (F.newCall_enumerate_1 _) (fun obj => F.args_object_init_2 obj _) F.entry_enumerate_new
    (meets_enumerate_newB0 B) ⟨h1, ?_⟩
  have hz : (s.heap.push o).objs.size = s.heap.objs.size + 1 := Heap.size_push ..
  show _ ∧ _
  rw [hz]
  have he : IsEnum ((s.heap.push o).push { cls := .type "enumerate", data := .fields #[.none, .bool false, .ref s.heap.objs.size, rawInt 0, .none, .none] }) (s.heap.objs.size + 1) s.heap.objs.size 0 .none := by
    have := Heap.get?_push_size (s.heap.push o) (o := { cls := .type "enumerate", data := .fields #[.none, .bool false, .ref s.heap.objs.size, rawInt 0, .none, .none] }) rfl
    rw [hz] at this; exact this
  refine ⟨⟨_, he, rfl⟩, h _ he (Heap.get?_push_of_some _ (Heap.get?_push_size _ B.free)) (by rw [Heap.size_push, hz]) fun b o x => Heap.get?_push_of_some _ (Heap.get?_push_of_some _ x)⟩
/-- the tuple at a as it stands at each turn, each item in a new pair -/
def IteT (K : PySem.W.Frag) (a : Addr) : L2.It :=
  ⟨fun i H => ∃ (xs : List V) (x : V), SqT K H a xs ∧ xs[i]? = some x, fun i H v H' => ∃ T x, v = .ref T ∧ H T = none ∧ H' = upd H T (.tup [.int (i : Nat), x]) ∧ ∀ xs, SqT K H a xs → xs[i]? = some x, fun i H => ∃ xs : List V, SqT K H a xs ∧ xs.length ≤ i⟩
theorem turn_enumT {P : Program} {w : World} {K : PySem.W.Frag} {elts : List Expr} {kk : Nat} {tpos : Pos} (a e it : Addr) (hat : a ≠ it) (hae : a ≠ e) :
    Turn P w K (.Tuple elts kk tpos) (IteT K a) [e, it] e (fun i h => (∃ old, IsEnum h e it ((i : Nat) : Int) old) ∧ h.IsTupleIter it a i ∧ e ≠ it) where
  mem := by simp
  obj := fun i h st b hb => by
    obtain ⟨⟨old, he⟩, ⟨o, ho, hc, hd⟩, _⟩ := st
    have e' : b = e ∨ b = it := by simpa using hb
    rcases e' with z | z
    · rw [z]; exact ⟨_, he, fun v q => nomatch q⟩
    · rw [z]; exact ⟨o, ho, fun v q => by rw [hd] at q; cases q⟩
  keep := fun i h h' st k => let ⟨⟨old, he⟩, hi, hne⟩ := st; ⟨⟨old, k e (by simp) _ he⟩, hi.at fun o q => k it (by simp) o q, hne⟩
  item := by
    intro X hP hw hK hc i pins s σ H E I hf st hg
    subst hP hw hK
    obtain ⟨⟨old, he⟩, hit, hne⟩ := st
    obtain ⟨xs, x, hq, hx⟩ := hg
    obtain ⟨its, rv, p, hz⟩ := I.tuple hq
    obtain ⟨u, hu, ru⟩ := rv.get hx
    have hel : e < s.heap.objs.size := Heap.lt_size he
    have hil : it < s.heap.objs.size := by obtain ⟨_, q, _⟩ := hit; exact Heap.lt_size q
    have D : Draws X.prog X.w X.A.in1 it [it, a] its.toArray.size (fun i v => its.toArray[i]? = some v) (fun i h => h.IsTupleIter it a i ∧ h.IsTuple a its.toArray) := Draws.tuple (A := X.A.in1) (show X.A.in1.handled = none from I.ok.hd hc) it a hat its.toArray
    have hi : i < its.toArray.size := by
      rw [List.size_toArray]
      exact (List.getElem?_eq_some_iff.mp hu).1
    refine wpAny_pyNext_enum_itemD D he ⟨hit, p⟩ hi hne (by simp [hne, Ne.symm hae]) fun x' h' tk hx' ho hst hT hsz hk => ?_
    have ex : x' = u := by
      have hx2 : its[i]? = some x' := by simpa using hx'
      rw [hu] at hx2
      exact (Option.some.inj hx2).symm
    subst ex
    refine ⟨_, rfl, wpAny_letOwnedTupleGo_enum (s := { s with heap := h', toks := tk + 1 }) ho fun h'' he' sb => ?_⟩
    have hT2 : h''.get? s.heap.objs.size = some { cls := .type "tuple", data := .seq #[.int i tk, x'] } := (sb.2 _ (Nat.ne_of_gt hel)).trans hT
    have new : ObjOk X.prog X.w (upd H s.heap.objs.size (.tup [.int (i : Nat), x])) h'' s.heap.objs.size (.tup [.int (i : Nat), x]) :=
      ⟨by show 2 ≤ sizeLine; decide, [.int i tk, x'], .cons ⟨_, rfl⟩ (.cons ru .nil), ⟨_, hT2, rfl, _, rfl⟩⟩
    have I1 : Inv X pins σ (upd H s.heap.objs.size (.tup [.int (i : Nat), x])) { s with heap := h'', toks := tk + 1 } :=
      I.turnedNew (ch := [e, it]) (fun b ob hb q => (sb.2 b (fun z => hb (by simp [z]))).trans (hk b ob (fun z => hb (by simp [z])) (fun z => hb (by simp [z])) q)) hf (Nat.le_refl _) new
    refine ⟨.ref s.heap.objs.size, _, I1, rfl, ⟨_, x, rfl, I.hok.fresh (Nat.le_refl _), rfl, fun ys hy => by rw [I.tuple_inj hy hq]; exact hx⟩, ⟨⟨x', ?_⟩, hst.1.at fun o q => (sb.2 it (Ne.symm hne)).trans q, hne⟩, fun b hb => ?_⟩
    · have e1 : ((i + 1 : Nat) : Int) = (i : Int) + 1 := by omega
      rw [e1]; exact he'
    · have hb' : b < s.heap.objs.size := by
        have e' : b = e ∨ b = it := by simpa using hb
        rcases e' with z | z
        · rw [z]; exact hel
        · rw [z]; exact hil
      rw [upd_ne (Nat.ne_of_lt hb')]
      exact (hf b hb).1
  done := by
    intro X hP hw hK hc i pins s σ H E I hf st hg
    subst hP hw hK
    obtain ⟨⟨old, he⟩, hit, hne⟩ := st
    obtain ⟨xs, hq, hx⟩ := hg
    obtain ⟨its, rv, p, hz⟩ := I.tuple hq
    obtain ⟨f0, f1, f2, f3, f4, f5⟩ := hf it (by simp)
    have hl := rv.length
    have hT : s.TypeIs (.ref e) "enumerate" := ⟨_, he, rfl⟩
    unfold pyNext
    refine wpAny_bind (wpAny_attempt (wpAny_callSpecial?_slot (name := Str.ofString "__next__") hT F.slot_enumerate_next
      (wpAny_call_entry F.slot_enumerate_next hT F.entry_enumerate_next ?_ (F.args_enumerate_next_1 _))))
    show wpAny _ _ (field (.ref e) 2 >>= _) _ _ _
    refine wpAny_bind (wpAny_field he rfl (x := .ref it) rfl ?_)
    refine wpAny_bind (nextOf_tuple_end (I.ok.hd hc) hit p (by simp; omega) fun h' x he' hx' => ?_)
    obtain ⟨o, ho, hc⟩ := hx'
    refine wpAny_bind (wpAny_isInstance (T := "StopIteration") (b := true) ⟨o, ho, hc⟩ isSubtype_stop ?_)
    exact wpAny_pure ⟨rfl, I.turned (t' := s.toks) (fun b o hb q => he' b o hb q) f0 f1 f3 f4 f5⟩
  self := fun A i s Q E st h => let ⟨⟨_, he⟩, _⟩ := st; wpAny_pyIter_enum he h
def iEnumT (K : PySem.W.Frag) (ta : TA) : TI := fun σ H R => ta σ H fun vs H1 => ∃ a xs, vs = [.ref a] ∧ SqT K H1 a xs ∧ R (IteT K a) H1
theorem pi_enumT {X : Cx} {e : Expr} {ta : TA} {p pos tpos : Pos} {elts : List Expr} {kk : Nat} (hg : Gl X "enumerate") (hm : X.mg "enumerate" = none) (ha : PA X [e] ta) (hs : starEach [e] X.env = [(false, eval e X.env)]) :
    PI X (.Tuple elts kk tpos) (.Call (.Name "enumerate" p) [e] [] pos) (iEnumT X.K ta) := by
  refine ⟨fun pins s σ H R I h => ?_⟩
  refine Call_ (ld_blt I hg hm boot_enumerate (PyProof.Rows.callWith_type1 (thn (ha.run pos pins s σ H _ I h) fun us s1 ⟨vs, H1, I1, r1, q1⟩ => ?_) hs rfl))
  obtain ⟨a, xs, ex, hq, q⟩ := q1
  subst ex
  cases r1 with
  | cons r rr =>
    cases rr
    cases r
    obtain ⟨its, rv, p', hz⟩ := I1.tuple hq
    have hal : a < s1.heap.objs.size := by
      obtain ⟨o, ho, _⟩ := id p'
      exact Heap.lt_size ho
    refine enum_begins0 (begins_tuple a its.toArray) p' fun h' he hit hsz hk => wpAny_pyIter_enum he ?_
    have I2 : Inv X pins σ H1 { s1 with heap := h' } := I1.kept (t' := s1.toks) hk
    refine ⟨s1.heap.objs.size + 1, [s1.heap.objs.size + 1, s1.heap.objs.size], _, _, H1, rfl, I2, turn_enumT a (s1.heap.objs.size + 1) s1.heap.objs.size (Nat.ne_of_lt hal) (Nat.ne_of_lt (Nat.lt_succ_of_lt hal)), ⟨⟨.none, he⟩, ⟨_, hit, rfl, rfl⟩, Nat.succ_ne_self _⟩, fun b hb => ?_, q⟩
    have e' : b = s1.heap.objs.size + 1 ∨ b = s1.heap.objs.size := by simpa using hb
    have hle : s1.heap.objs.size ≤ b := by
      rcases e' with z | z
      · rw [z]; exact Nat.le_add_right _ _
      · rw [z]; exact Nat.le_refl _
    exact I1.fpOk hle (I1.hok.fresh hle)
end RZ
end
section
set_option Elab.async false
set_option linter.all false
set_option autoImplicit false
set_option maxRecDepth 100000
set_option maxHeartbeats 4000000
namespace SP
open PySem PySem.Spec L2
/-- what a def that makes lambdas must have: its code object's table is known -/
def LamOk (κ : Kx) (base : Heap) (mg : Str → Option Value) (qual : Str) (code : Value) : Prop := ∃ cc P q, q = qual ++ "<lambda>" ∧ code = .ref cc ∧ LamX.TabB base mg cc P ∧ (P, q) ∈ κ.T ∧ ∀ p ∈ κ.T, p.1 = P → p.2 = q
/-- a block's context: the check's scope, the program -/
structure Good (κ : Kx) (pg : Pg) (X : Cx) (c : CC) (k : Nat) (cf : Cf) : Prop where
  N : X.N = c.N
  sc : X.env.scope = c.sc
  nd : X.N.Nodup
  calm : X.calm = true
  room : Room (k + if c.lam then 9 else 3) X.A
  lay : LayX κ pg X k cf
  kK : X.K = κ.K
  lam : c.lam = true → LamOk κ X.base X.mg X.env.qual X.env.code ∧ X.ex = []
section
variable {κ : Kx} {X : Cx} {pg : Pg} {k : Nat} {cf : Cf} {c : CC}
theorem isK_eq {o : Option NameKind} {k : NameKind} (h : isK o k = true) : o = some k := by
  cases o with
  | none => cases h
  | some k' => simp [isK] at h; rw [h]
theorem beqS_eq {a b : Str} (h : beqS a b = true) : a = b := by simpa [beqS] using h
theorem Good.at_ (G : Good κ pg X c k cf) {i : Nat} {x : Str} (h : c.at_ i x = true) : X.N[i]? = some x := by
  unfold CC.at_ at h
  rw [G.N]
  split at h
  · rename_i y e
    rw [e, beqS_eq h]
  · cases h
theorem Good.glob (G : Good κ pg X c k cf) {x : Str} (h : c.glob x = true) : Gl X x := by
  show X.env.scope.names.lookup x = _
  rw [G.sc]
  exact isK_eq h
theorem Good.vis (G : Good κ pg X c k cf) {x : Str} (h : c.vis x = true) : Vis X.env.scope x := by
  unfold CC.vis at h
  rw [G.sc]
  simp only [Bool.or_eq_true] at h
  rcases h with (h | h) | h
  · exact .inl (isK_eq h)
  · exact .inr (.inl (isK_eq h))
  · exact .inr (.inr (isK_eq h))
theorem Good.own (G : Good κ pg X c k cf) {x : Str} (h : c.own x = true) : Loc X.env.scope x := by
  unfold CC.own at h
  rw [G.sc]
  simp only [Bool.or_eq_true] at h
  rcases h with h | h
  · exact .inl (isK_eq h)
  · exact .inr (isK_eq h)
/-! ### targets -/
def gT (κ : Kx) (t : Tg) : TG := fun v σ H Q => ∃ w ρ S d ρ', w.H = H ∧ HRel κ w S ∧ SRel κ w ρ σ ∧ RepL κ w d v ∧ bindT t d ρ = some ρ' ∧ ∀ σ', SRel κ w ρ' σ' → σ'.length = σ.length → (∀ i, i ∉ slotsT t → σ'[i]? = σ[i]?) → Q σ' H
def gTs (κ : Kx) (ts : Tgs) : TGs := fun vs σ H Q => ∃ w ρ S ds ρ', w.H = H ∧ HRel κ w S ∧ SRel κ w ρ σ ∧ RepLs κ w ds vs ∧ bindTs ts ds ρ = some ρ' ∧ ∀ σ', SRel κ w ρ' σ' → σ'.length = σ.length → (∀ i, i ∉ slotsTs ts → σ'[i]? = σ[i]?) → Q σ' H
theorem pg_imp {e : Expr} {t t' : TG} (h : PG X e t) (hi : ∀ v σ H Q, t' v σ H Q → t v σ H Q) : PG X e t' := ⟨fun pins s σ H v u Q I r q => h.run pins s σ H v u Q I r (hi v σ H Q q)⟩
theorem pgs_imp {e : List Expr} {t t' : TGs} (h : PGs X e t) (hi : ∀ v σ H Q, t' v σ H Q → t v σ H Q) : PGs X e t' := ⟨fun pins s σ H v u Q I r q => h.run pins s σ H v u Q I r (hi v σ H Q q)⟩
theorem assign_plain {loc : Bool} {t : Tg} {e : Expr} {es : List Expr} {env : PySem.Env} (h : chkT loc c t e = true) : assignEach (e :: es) env = (false, assign e env) :: assignEach es env := by
  cases t <;> cases e <;> first | rfl | (simp [chkT] at h)
theorem assign_len {loc : Bool} {env : PySem.Env} : ∀ {ts : Tgs} {es : List Expr} {ds : List D} {ρ ρ' : Env}, chkTs loc c ts es = true → bindTs ts ds ρ = some ρ' → (assignEach es env).length = ds.length ∧ (assignEach es env).findIdx? (·.1) = none
  | .nil, [], ds, ρ, ρ', _, hb => by
    cases ds with
    | nil => exact ⟨rfl, rfl⟩
    | cons d ds => simp [bindTs] at hb
  | .nil, _ :: _, _, _, _, h, _ => by simp [chkTs] at h
  | .cons t ts, [], _, _, _, h, _ => by simp [chkTs] at h
  | .cons t ts, e :: es, ds, ρ, ρ', h, hb => by
    simp only [chkTs, Bool.and_eq_true] at h
    cases ds with
    | nil => simp [bindTs] at hb
    | cons d ds =>
      simp only [bindTs] at hb
      obtain ⟨ρ1, h1, h2⟩ := Option.bind_eq_some_iff.mp hb
      obtain ⟨i1, i2⟩ := assign_len (env := env) h.2 h2
      rw [assign_plain h.1]
      refine ⟨by simp [i1], ?_⟩
      rw [List.findIdx?_cons]
      simp [i2]
theorem sq_rep {w : Wd} {xs : List D} {v : V} (r : RepL κ w (.tup xs) v) : ∃ a vs, v = .ref a ∧ SqT X.K w.H a vs ∧ Reps κ w.F w.H xs vs := by
  obtain ⟨a, vs, rfl, _, h, q⟩ := r.see.tup
  exact ⟨a, vs, rfl, .of h, q⟩
mutual
theorem j_tg (G : Good κ pg X c k cf) {loc : Bool} (hl : (∀ x, X.fn x = true) ∨ loc = true) : ∀ (t : Tg) (e : Expr), chkT loc c t e = true → PG X e (gT κ t)
  | .nm i, e, h => by
    obtain ⟨x, p, rfl⟩ : ∃ x p, e = .Name x p := by cases e <;> first | exact ⟨_, _, rfl⟩ | (simp [chkT] at h; done)
    simp only [chkT, Bool.and_eq_true] at h
    have hx : Loc X.env.scope x ∧ (X.fn x = true ∨ X.env.scope.names.lookup x = some .local) := by
      cases loc with
      | true =>
        have h2 : isK (c.sc.names.lookup x) .local = true := h.2
        have : X.env.scope.names.lookup x = some .local := by rw [G.sc]; exact isK_eq h2
        exact ⟨.inl this, .inr this⟩
      | false =>
        refine ⟨G.own h.2, ?_⟩
        rcases hl with hl | hl
        · exact .inl (hl x)
        · cases hl
    refine pg_imp (pg_name G.nd (G.at_ h.1) hx.1 hx.2) fun v σ H Q q => ?_
    obtain ⟨w, ρ, S, d, ρ', rfl, hr, sr, rv, hb, q⟩ := q
    simp only [bindT, Option.some.injEq] at hb
    subst hb
    exact q _ (sr.set rv i) (by simp) fun j hj => by
      have : i ≠ j := fun z => hj (by simp [slotsT, z])
      exact List.getElem?_set_ne this
  | .tp ts, e, h => by
    obtain ⟨es, k', p, rfl⟩ : ∃ es k' p, e = .Tuple es k' p := by cases e <;> first | exact ⟨_, _, _, rfl⟩ | (simp [chkT] at h; done)
    simp only [chkT] at h
    refine ⟨fun pins s σ H v u Q I r q => ?_⟩
    obtain ⟨w, ρ, S, d, ρ', rfl, hr, sr, rv, hb, q⟩ := q
    cases d with
    | tup xs =>
      simp only [bindT] at hb
      obtain ⟨a, vs, rfl, hq, rr⟩ := sq_rep (X := X) rv
      obtain ⟨h1, h2⟩ := assign_len (env := X.env) h hb
      have hp := pg_tup (k := k') (pos := p) G.calm (j_tgs G hl ts es h) h1 h2
      exact hp.run pins s σ w.H _ u Q I r ⟨a, vs, rfl, hq, rr.length, w, ρ, S, xs, ρ', rfl, hr, sr, rr.toL, hb, fun σ' s1 s2 s3 => q σ' s1 s2 fun i hi => s3 i (by simpa [slotsT] using hi)⟩
    | _ => simp [bindT] at hb
theorem j_tgs (G : Good κ pg X c k cf) {loc : Bool} (hl : (∀ x, X.fn x = true) ∨ loc = true) : ∀ (ts : Tgs) (es : List Expr), chkTs loc c ts es = true → PGs X es (gTs κ ts)
  | .nil, [], _ => pgs_imp pgs_nil fun vs σ H Q q => by
    obtain ⟨w, ρ, S, ds, ρ', rfl, hr, sr, rv, hb, q⟩ := q
    cases ds with
    | nil =>
      simp only [bindTs, Option.some.injEq] at hb
      subst hb
      exact ⟨rv, q σ sr rfl fun _ _ => rfl⟩
    | cons d ds => simp [bindTs] at hb
  | .nil, _ :: _, h => by simp [chkTs] at h
  | .cons t ts, [], h => by simp [chkTs] at h
  | .cons t ts, e :: es, h => by
    simp only [chkTs, Bool.and_eq_true] at h
    refine pgs_imp (pgs_cons (j_tg G hl t e h.1) (j_tgs G hl ts es h.2) (by rw [assign_plain h.1] <;> rfl)) fun vs σ H Q q => ?_
    obtain ⟨w, ρ, S, ds, ρ', rfl, hr, sr, rv, hb, q⟩ := q
    cases ds with
    | nil => simp [bindTs] at hb
    | cons d ds =>
      simp only [bindTs] at hb
      obtain ⟨ρ1, h1, h2⟩ := Option.bind_eq_some_iff.mp hb
      obtain ⟨v, r, rfl, r1, r2⟩ := rv
      refine ⟨v, r, rfl, w, ρ, S, d, ρ1, rfl, hr, sr, r1, h1, fun σ1 s1 s2 s3 => ⟨w, ρ1, S, ds, ρ', rfl, hr, s1, r2, h2, fun σ' t1 t2 t3 => q σ' t1 (t2.trans s2) fun i hi => ?_⟩⟩
      simp only [slotsTs, List.mem_append, not_or] at hi
      exact (t3 i hi.2).trans (s3 i hi.1)
end

/-! ### what is walked -/
def Walks (κ : Kx) (J : L2.It) (w : Wd) (xs : List D) : Prop := ∀ w' S', w.le w' → HRel κ w' S' → ∀ i, (i < xs.length → J.go i w'.H) ∧ (xs.length ≤ i → J.stop i w'.H) ∧ ∀ x H', J.yld i w'.H x H' → i < xs.length → ∃ w'' d, w''.H = H' ∧ w'.le w'' ∧ HRel κ w'' S' ∧ xs[i]? = some d ∧ RepL κ w'' d x
def tI (κ : Kx) (W : WX) (f : Env → Store → R (List D)) : TI := fun σ H R => ∃ w ρ S, w.H = H ∧ HRel κ w S ∧ SRel κ w ρ σ ∧ Aft κ W σ w (f ρ S) (fun w' _ xs => ∀ J, Walks κ J w' xs → R J w'.H)
def JI (κ : Kx) (X : Cx) (tg iter : Expr) (f : Env → Store → R (List D)) : Prop := ∀ W, Takes X W → PI X tg iter (tI κ W f)
theorem pi_imp {tg iter : Expr} {t t' : TI} (h : PI X tg iter t) (hi : ∀ σ H R, t' σ H R → t σ H R) : PI X tg iter t' := ⟨fun pins s σ H R I q => h.run pins s σ H R I (hi σ H R q)⟩
theorem get_ok {xs : List D} {vs : List V} {F : Addr → Prop} {H : Hp} {i : Nat} (r : Reps κ F H xs vs) (h : i < xs.length) : ∃ d v, xs[i]? = some d ∧ vs[i]? = some v ∧ Rep κ F H d v := by
  have e : xs[i]? = some xs[i] := List.getElem?_eq_getElem h
  obtain ⟨v, e1, e2⟩ := r.get e
  exact ⟨_, v, e, e1, e2⟩
theorem walks_lst {K : PySem.W.Frag} {w : Wd} {xs : List D} {v : V} (r : RepL κ w (.lst xs) v) : ∃ a, v = .ref a ∧ (∃ vs, SqL K w.H a vs) ∧ Walks κ (Itl K a) w xs := by
  have r' : Rep κ w.F w.H (.lst xs) v := r
  simp only [Rep] at r'
  obtain ⟨a, vs, rfl, hF, h, rr⟩ := r'
  refine ⟨a, rfl, ⟨vs, .of h⟩, fun w' S' le hr i => ?_⟩
  have h' : SqL K w'.H a vs := .of ((le.H a hF).trans h)
  have rr' := Reps.mono le.F le.H _ _ rr
  refine ⟨fun hi => ?_, fun hi => ⟨vs, h', by rw [rr.length]; exact hi⟩, fun x H' hy hi => ?_⟩
  · obtain ⟨d, v, _, e, _⟩ := get_ok rr' hi
    exact ⟨vs, v, h', e⟩
  · obtain ⟨d, v, e1, e2, e3⟩ := get_ok rr' hi
    obtain ⟨rfl, hx⟩ := hy
    have := hx vs h'
    rw [e2] at this
    cases this
    exact ⟨w', d, rfl, .refl w', hr, e1, e3.toL⟩
theorem walks_tup {K : PySem.W.Frag} {w : Wd} {xs : List D} {v : V} (r : RepL κ w (.tup xs) v) : ∃ a, v = .ref a ∧ (∃ vs, SqT K w.H a vs) ∧ Walks κ (Itt K a) w xs := by
  have r' : Rep κ w.F w.H (.tup xs) v := r
  simp only [Rep] at r'
  obtain ⟨a, vs, rfl, hF, h, rr⟩ := r'
  refine ⟨a, rfl, ⟨vs, .of h⟩, fun w' S' le hr i => ?_⟩
  have h' : SqT K w'.H a vs := .of ((le.H a hF).trans h)
  have rr' := Reps.mono le.F le.H _ _ rr
  refine ⟨fun hi => ?_, fun hi => ⟨vs, h', by rw [rr.length]; exact hi⟩, fun x H' hy hi => ?_⟩
  · obtain ⟨d, v, _, e, _⟩ := get_ok rr' hi
    exact ⟨vs, v, h', e⟩
  · obtain ⟨d, v, e1, e2, e3⟩ := get_ok rr' hi
    obtain ⟨rfl, hx⟩ := hy
    have := hx vs h'
    rw [e2] at this
    cases this
    exact ⟨w', d, rfl, .refl w', hr, e1, e3.toL⟩
theorem i_of {tg e : Expr} {fe : Env → Store → R D} (he : JE κ X e fe) : JI κ X tg e (fun ρ S => (fe ρ S).bind fun x S1 => .opt S1 (itemsD x)) := fun W tk => ⟨fun pins s σ H R I q => by
  obtain ⟨w, ρ, S, rfl, hr, sr, a⟩ := q
  simp only at a
  have gl : (∀ d S', fe ρ S = .ok d S' → ∃ xs, d = .lst xs) → iList X.K (tX κ W fe) σ w.H R := fun hd => by
    refine tX_bind hr sr a fun w1 S1 d1 v1 le1 hr1 e1 r1 a1 => ?_
    obtain ⟨xs, rfl⟩ := hd d1 S1 e1
    obtain ⟨b, rfl, hs, hw⟩ := walks_lst (K := X.K) r1
    exact ⟨b, rfl, hs, a1 w1 (.refl w1) hr1 _ hw⟩
  cases e : fe ρ S with
  | ok d S' =>
    cases d with
    | tup xs =>
      refine (pi_tup (he W tk)).run pins s σ w.H R I (tX_bind hr sr a fun w1 S1 d1 v1 le1 hr1 e1 r1 a1 => ?_)
      rw [e] at e1
      cases e1
      obtain ⟨b, rfl, hs, hw⟩ := walks_tup (K := X.K) r1
      exact ⟨b, rfl, hs, a1 w1 (.refl w1) hr1 _ hw⟩
    | lst xs => exact (pi_list (he W tk)).run pins s σ w.H R I (gl fun d S' h => by rw [e] at h; cases h; exact ⟨_, rfl⟩)
    | _ =>
      rw [e] at a
      exact a.elim
  | ex c fs S' => exact (pi_list (he W tk)).run pins s σ w.H R I (gl fun d S' h => by rw [e] at h; cases h)
  | bad =>
    rw [e] at a
    exact a.elim⟩
theorem rngD_len (lo c : Int) : ∀ n, (rngD lo c n).length = n
  | 0 => rfl
  | n + 1 => by simp [rngD, rngD_len (lo + c) c n]
theorem rngD_get (lo c : Int) : ∀ (n i : Nat), i < n → (rngD lo c n)[i]? = some (.int (lo + i * c))
  | 0, _, h => by omega
  | n + 1, 0, _ => by simp [rngD]
  | n + 1, i + 1, h => by
    simp only [rngD, List.getElem?_cons_succ]
    rw [rngD_get (lo + c) c n i (by omega)]
    congr 2
    push_cast
    rw [Int.add_mul]
    omega
theorem walks_rng {w : Wd} {lo : Int} {n : Nat} : Walks κ (Itr lo n) w (rngD lo 1 n) := fun w' S' le hr i => by
  rw [rngD_len]
  refine ⟨id, id, fun x H' hy hi => ?_⟩
  obtain ⟨rfl, rfl⟩ := hy
  exact ⟨w', _, rfl, .refl w', hr, rngD_get lo 1 n i hi, by rw [Int.mul_one]; exact rep_int⟩
theorem rngOk_le {i j : Int} (h : rngOk i j = true) : (-(2 ^ 62) ≤ i ∧ i < 2 ^ 62) ∧ -(2 ^ 62) ≤ j ∧ j < 2 ^ 62 := by
  unfold rngOk at h
  simp only [Bool.and_eq_true, decide_eq_true_eq] at h
  omega
theorem i_rng1 {tg a : Expr} {p pos : Pos} {fa : Env → Store → R D} (hg : Gl X "range") (hm : X.mg "range" = none) (hp : plainX a = true) (ha : JE κ X a fa) : JI κ X tg (.Call (.Name "range" p) [a] [] pos) (fun ρ S => (fa ρ S).bind fun x S1 => match x with
    | .int n => if rngOk 0 n then .ok (rngD 0 1 n.toNat) S1 else .bad
    | _ => .bad) := fun W tk => pi_imp (pi_range1 hg hm (pa_cons (ha W tk) pa_nil (star_plain hp)) (by rw [star_plain hp] <;> rfl)) fun σ H R q => by
  obtain ⟨w, ρ, S, rfl, hr, sr, a⟩ := q
  refine tX_bind hr sr a fun w1 S1 d1 v1 le1 hr1 e1 r1 a1 => ?_
  cases d1 with
  | int n =>
    simp only at a1
    split at a1
    · rename_i hn
      obtain ⟨_, h1, h2⟩ := rngOk_le hn
      exact ⟨n, by rw [r1.see.int], h1, h2, a1 w1 (.refl w1) hr1 _ walks_rng⟩
    · exact a1.elim
  | _ => exact a1.elim
theorem i_rng2 {tg a b : Expr} {p pos : Pos} {fa fb : Env → Store → R D} (hg : Gl X "range") (hm : X.mg "range" = none) (hp : plainX a = true) (hp2 : plainX b = true) (ha : JE κ X a fa) (hb : JE κ X b fb) : JI κ X tg (.Call (.Name "range" p) [a, b] [] pos) (fun ρ S => (fa ρ S).bind fun x S1 => (fb ρ S1).bind fun y S2 => match x, y with
    | .int m, .int n => if rngOk m n then .ok (rngD m 1 (n - m).toNat) S2 else .bad
    | _, _ => .bad) := fun W tk => pi_imp (pi_range2 hg hm (pa_cons (ha W tk) (pa_cons (hb W tk) pa_nil (star_plain hp2)) (star_plain hp)) (by rw [star_plain hp, star_plain hp2] <;> rfl) (by rw [star_plain hp2] <;> rfl)) fun σ H R q => by
  obtain ⟨w, ρ, S, rfl, hr, sr, a⟩ := q
  refine tX_bind hr sr a fun w1 S1 d1 v1 le1 hr1 e1 r1 a1 => ?_
  refine tX_bind hr1 (sr.mono le1) a1 fun w2 S2 d2 v2 le2 hr2 e2 r2 a2 => ?_
  have hbad : (∃ m n, d1 = .int m ∧ d2 = .int n) := by
    cases d1 with
    | int m =>
      cases d2 with
      | int n => exact ⟨m, n, rfl, rfl⟩
      | _ => exact a2.elim
    | _ => exact a2.elim
  obtain ⟨m, n, rfl, rfl⟩ := hbad
  simp only at a2
  split at a2
  · rename_i hn
    obtain ⟨⟨h1, h2⟩, h3, h4⟩ := rngOk_le hn
    exact ⟨m, n, by rw [r1.see.int, r2.see.int], ⟨h1, h2, h3, h4⟩, a2 w2 (.refl w2) hr2 _ walks_rng⟩
  · exact a2.elim
theorem enumD_len : ∀ (xs : List D) (n : Nat), (enumD n xs).length = xs.length
  | [], _ => rfl
  | _ :: xs, n => by simp [enumD, enumD_len xs (n + 1)]
theorem enumD_get : ∀ (xs : List D) (n i : Nat) (d : D), xs[i]? = some d → (enumD n xs)[i]? = some (.tup [.int (n + i), d])
  | [], _, _, _, h => by simp at h
  | x :: xs, n, 0, d, h => by
    simp at h
    subst h
    simp [enumD]
  | x :: xs, n, i + 1, d, h => by
    simp only [enumD, List.getElem?_cons_succ] at h ⊢
    rw [enumD_get xs (n + 1) i d h]
    simp only [Option.some.injEq, D.tup.injEq, List.cons.injEq, D.int.injEq, and_true]
    push_cast
    omega
theorem zipD_len : ∀ (xs ys : List D), (zipD xs ys).length = min xs.length ys.length
  | [], _ => by simp [zipD]
  | _ :: _, [] => by simp [zipD]
  | _ :: xs, _ :: ys => by
    simp only [zipD, List.length_cons, zipD_len xs ys]
    omega
theorem zipD_get : ∀ (xs ys : List D) (i : Nat) (d e : D), xs[i]? = some d → ys[i]? = some e → (zipD xs ys)[i]? = some (.tup [d, e])
  | [], _, _, _, _, h, _ => by simp at h
  | _ :: _, [], _, _, _, _, h => by simp at h
  | x :: xs, y :: ys, 0, d, e, h, h2 => by
    simp at h h2
    subst h h2
    simp [zipD]
  | x :: xs, y :: ys, i + 1, d, e, h, h2 => by
    simp only [zipD, List.getElem?_cons_succ] at h h2 ⊢
    exact zipD_get xs ys i d e h h2
theorem walks_enum {K : PySem.W.Frag} {w : Wd} {xs : List D} {v : V} (r : RepL κ w (.lst xs) v) : ∃ a vs, v = .ref a ∧ SqL K w.H a vs ∧ Walks κ (Ite K a) w (enumD 0 xs) := by
  have r' : Rep κ w.F w.H (.lst xs) v := r
  simp only [Rep] at r'
  obtain ⟨a, vs, rfl, hF, h, rr⟩ := r'
  refine ⟨a, vs, rfl, .of h, fun w' S' le hr i => ?_⟩
  have h' : SqL K w'.H a vs := .of ((le.H a hF).trans h)
  have rr' := Reps.mono le.F le.H _ _ rr
  rw [enumD_len]
  refine ⟨fun hi => ?_, fun hi => ⟨vs, h', by rw [rr.length]; exact hi⟩, fun x H' hy hi => ?_⟩
  · obtain ⟨d, v, _, e, _⟩ := get_ok rr' hi
    exact ⟨vs, v, h', e⟩
  · obtain ⟨d, v, e1, e2, e3⟩ := get_ok rr' hi
    obtain ⟨T, y, rfl, hT, rfl, hx⟩ := hy
    have := hx vs h'
    rw [e2] at this
    cases this
    refine ⟨w'.tree T (.tup [.int (i : Nat), v]), _, rfl, hr.le_tree hT _, hr.tree hT _, enumD_get xs 0 i d e1, ?_⟩
    exact (rep_tup hr hT (.cons (by simp [Rep]) (.cons e3 .nil))).toL
theorem walks_enumT {K : PySem.W.Frag} {w : Wd} {xs : List D} {v : V} (r : RepL κ w (.tup xs) v) : ∃ a vs, v = .ref a ∧ SqT K w.H a vs ∧ Walks κ (RZ.IteT K a) w (enumD 0 xs) := by
  have r' : Rep κ w.F w.H (.tup xs) v := r
  simp only [Rep] at r'
  obtain ⟨a, vs, rfl, hF, h, rr⟩ := r'
  refine ⟨a, vs, rfl, .of h, fun w' S' le hr i => ?_⟩
  have h' : SqT K w'.H a vs := .of ((le.H a hF).trans h)
  have rr' := Reps.mono le.F le.H _ _ rr
  rw [enumD_len]
  refine ⟨fun hi => ?_, fun hi => ⟨vs, h', by rw [rr.length]; exact hi⟩, fun x H' hy hi => ?_⟩
  · obtain ⟨d, v, _, e, _⟩ := get_ok rr' hi
    exact ⟨vs, v, h', e⟩
  · obtain ⟨d, v, e1, e2, e3⟩ := get_ok rr' hi
    obtain ⟨T, y, rfl, hT, rfl, hx⟩ := hy
    have := hx vs h'
    rw [e2] at this
    cases this
    refine ⟨w'.tree T (.tup [.int (i : Nat), v]), _, rfl, hr.le_tree hT _, hr.tree hT _, enumD_get xs 0 i d e1, ?_⟩
    exact (rep_tup hr hT (.cons (by simp [Rep]) (.cons e3 .nil))).toL
theorem i_enum {tp : List Expr} {kk : Nat} {tpos : Pos} {e : Expr} {p pos : Pos} {fe : Env → Store → R D} (hg : Gl X "enumerate") (hm : X.mg "enumerate" = none) (hp : plainX e = true) (he : JE κ X e fe) : JI κ X (.Tuple tp kk tpos) (.Call (.Name "enumerate" p) [e] [] pos) (fun ρ S => (fe ρ S).bind fun x S1 => match x with
    | .lst xs => .ok (enumD 0 xs) S1
    | .tup xs => .ok (enumD 0 xs) S1
    | _ => .bad) := fun W tk => ⟨fun pins s σ H R I q => by
  obtain ⟨w, ρ, S, rfl, hr, sr, a⟩ := q
  have hs : starEach [e] X.env = [(false, eval e X.env)] := by rw [star_plain hp] <;> rfl
  by_cases hex : ∃ xs S', fe ρ S = .ok (.tup xs) S'
  · obtain ⟨xs, S', ef⟩ := hex
    refine (RZ.pi_enumT hg hm (pa_cons (he W tk) pa_nil (star_plain hp)) hs).run pins s σ w.H R I (tX_bind hr sr a fun w1 S1 d1 v1 le1 hr1 e1 r1 a1 => ?_)
    rw [ef] at e1
    cases e1
    obtain ⟨b, vs, rfl, hs, hw⟩ := walks_enumT (K := X.K) r1
    exact ⟨b, vs, rfl, hs, a1 w1 (.refl w1) hr1 _ hw⟩
  · refine (pi_enum hg hm (pa_cons (he W tk) pa_nil (star_plain hp)) hs).run pins s σ w.H R I (tX_bind hr sr a fun w1 S1 d1 v1 le1 hr1 e1 r1 a1 => ?_)
    cases d1 with
    | lst xs =>
      obtain ⟨b, vs, rfl, hs, hw⟩ := walks_enum (K := X.K) r1
      exact ⟨b, vs, rfl, hs, a1 w1 (.refl w1) hr1 _ hw⟩
    | tup xs => exact absurd ⟨xs, S1, e1⟩ hex
    | _ => exact a1.elim⟩
end
end SP
end
section
set_option Elab.async false
set_option linter.all false
set_option maxRecDepth 100000
set_option maxHeartbeats 1000000
/-! zip of two sequences, each a list or a tuple -/
namespace ZM
open PySem PySem.Spec PyProof.Rows L2
open PySem.Sem (wp)
def ItK (kd : Bool) (h : Heap) (it l : Addr) (i : Nat) : Prop := match kd with
  | true => h.IsListIter it l i
  | false => h.IsTupleIter it l i
def SqK (kd : Bool) (h : Heap) (l : Addr) (items : Array Value) : Prop := match kd with
  | true => h.IsList l items
  | false => h.IsTuple l items
def itO (kd : Bool) (l : Addr) : Obj := match kd with
  | true => { cls := .type "list_iterator", data := .fields #[.ref l, .int 0 0] }
  | false => { cls := .type "tuple_iterator", data := .fields #[.ref l, .int 0 0] }
def SqV (kd : Bool) (K : PySem.W.Frag) (H : Hp) (a : Addr) (xs : List V) : Prop := match kd with
  | true => SqL K H a xs
  | false => SqT K H a xs
theorem ItK.extBut {kd : Bool} {h h' : Heap} {a b l : Addr} {i : Nat} (x : ItK kd h a l i) (hs : Heap.ExtBut b h h') (hab : a ≠ b) : ItK kd h' a l i := by
  cases kd
  · exact Heap.IsTupleIter.extBut x hs hab
  · exact Heap.IsListIter.extBut x hs hab
theorem SqK.extBut {kd : Bool} {h h' : Heap} {a b : Addr} {xs : Array Value} (x : SqK kd h a xs) (hs : Heap.ExtBut b h h') (hab : a ≠ b) : SqK kd h' a xs := by
  cases kd
  · exact Heap.IsTuple.extBut x hs hab
  · exact Heap.IsList.extBut x hs hab
theorem SqK.push {kd : Bool} {h : Heap} {a : Addr} {xs : Array Value} (x : SqK kd h a xs) (o : Obj) : SqK kd (h.push o) a xs := by
  cases kd
  · exact Heap.IsTuple.push x o
  · exact Heap.IsList.push x o
theorem ItK.at {kd : Bool} {h h' : Heap} {a l : Addr} {i : Nat} (x : ItK kd h a l i) (e : ∀ o, h.get? a = some o → h'.get? a = some o) : ItK kd h' a l i := by
  cases kd
  · obtain ⟨o, ho, r⟩ := x
    exact ⟨o, e _ ho, r⟩
  · obtain ⟨o, ho, r⟩ := x
    exact ⟨o, e _ ho, r⟩
theorem ItK.lt {kd : Bool} {h : Heap} {a l : Addr} {i : Nat} (x : ItK kd h a l i) : a < h.objs.size := by
  cases kd
  · obtain ⟨o, ho, r⟩ := x
    exact Heap.lt_size ho
  · obtain ⟨o, ho, r⟩ := x
    exact Heap.lt_size ho
theorem SqK.lt {kd : Bool} {h : Heap} {a : Addr} {xs : Array Value} (x : SqK kd h a xs) : a < h.objs.size := by
  cases kd
  · obtain ⟨o, ho, r⟩ := x
    exact Heap.lt_size ho
  · obtain ⟨o, ho, r⟩ := x
    exact Heap.lt_size ho
theorem ItK.fld {kd : Bool} {h : Heap} {a l : Addr} {i : Nat} (x : ItK kd h a l i) : ∃ o, h.get? a = some o ∧ ∀ v, o.data ≠ .cell v := by
  cases kd
  · obtain ⟨o, ho, _, d⟩ := x
    exact ⟨o, ho, fun v q => by rw [d] at q; cases q⟩
  · obtain ⟨o, ho, _, d⟩ := x
    exact ⟨o, ho, fun v q => by rw [d] at q; cases q⟩
theorem itO_free (kd : Bool) (l : Addr) : (itO kd l).isFreed = false := by cases kd <;> rfl
theorem itK_of {kd : Bool} {h : Heap} {a l : Addr} (g : h.get? a = some (itO kd l)) : ItK kd h a l 0 := by
  cases kd
  · exact ⟨_, g, rfl, rfl⟩
  · exact ⟨_, g, rfl, rfl⟩
section
variable {prog : Program} {w : World} {A : Around} {E : Value → Shared → Prop} {s : Shared}
theorem nextK_item {kd : Bool} {it l : Addr} {i : Nat} {items : Array Value} {x : Value} {Q : Value → Shared → Prop} (hit : ItK kd s.heap it l i) (hl : SqK kd s.heap l items) (hx : items[i]? = some x)
    (hQ : ∀ h', ItK kd h' it l (i + 1) → Heap.SameBut it s.heap h' → Q x { s with heap := h' }) : wpAny (model prog w) A (Builtin.SmallTypes.nextOf (.ref it)) Q E s := by
  cases kd
  · exact RZ.nextOf_tuple_item hit hl hx hQ
  · exact wpAny_nextOf_list_item hit hl hx hQ
theorem nextK_end {kd : Bool} {it l : Addr} {i : Nat} {items : Array Value} {Q : Value → Shared → Prop} (hh : A.handled = none) (hit : ItK kd s.heap it l i) (hl : SqK kd s.heap l items) (hx : items[i]? = none)
    (hE : ∀ h' e, Heap.ExtBut it s.heap h' → (∃ o, h'.get? e = some o ∧ o.cls = .type "StopIteration") → E (.ref e) { s with heap := h' }) : wpAny (model prog w) A (Builtin.SmallTypes.nextOf (.ref it)) Q E s := by
  cases kd
  · exact RZ.nextOf_tuple_end hh hit hl hx hE
  · exact wpAny_nextOf_list_end hh hit hl hx hE
theorem pyIterK {kd : Bool} {l : Addr} {items : Array Value} {Q : Value → Shared → Prop} (hl : SqK kd s.heap l items) (hQ : Q (.ref s.heap.objs.size) { s with heap := s.heap.push (itO kd l) }) : wpAny (model prog w) A (pyIter (.ref l)) Q E s := by
  cases kd
  · exact wpAny_pyIter_tuple hl hQ
  · exact wpAny_pyIter_list hl hQ
theorem seqV {kd : Bool} {X : Cx} {pins : List (Addr × Obj)} {σ : L2.St} {H : Hp} {a : Addr} {xs : List V} (I : Inv X pins σ H s) (h : SqV kd X.K H a xs) : ∃ its, Vals xs its ∧ SqK kd s.heap a its.toArray := by
  cases kd
  · obtain ⟨its, rv, p, _⟩ := I.tuple h
    exact ⟨its, rv, p⟩
  · obtain ⟨its, rv, p, _⟩ := I.list h
    exact ⟨its, rv, p.isList⟩
theorem seqV_inj {kd : Bool} {X : Cx} {pins : List (Addr × Obj)} {σ : L2.St} {H : Hp} {a : Addr} {xs ys : List V} (I : Inv X pins σ H s) (h : SqV kd X.K H a xs) (h2 : SqV kd X.K H a ys) : xs = ys := by
  cases kd
  · exact I.tuple_inj h h2
  · exact I.list_inj h h2

theorem zipM_next_item {kd1 kd2 : Bool} {z TI TO i1 i2 l1 l2 : Addr} {k1 k2 : Nat} {xs ys : Array Value} {x y a b : Value} {Q : Value → Shared → Prop} (D : ZipApart z TI TO i1 i2 l1 l2)
    (hz : IsZip s.heap z TI TO .none) (hTI : IsPair s.heap TI (.ref i1) (.ref i2)) (hTO : IsPair s.heap TO a b)
    (h1 : ItK kd1 s.heap i1 l1 k1) (h2 : ItK kd2 s.heap i2 l2 k2) (hl1 : SqK kd1 s.heap l1 xs) (hl2 : SqK kd2 s.heap l2 ys) (hx : xs[k1]? = some x) (hy : ys[k2]? = some y)
    (hQ : ∀ h', IsZip h' z TI TO (rawInt s.heap.objs.size) → IsPair h' TO x y → ItK kd1 h' i1 l1 (k1 + 1) → ItK kd2 h' i2 l2 (k2 + 1) → IsPair h' s.heap.objs.size x y → h'.objs.size = s.heap.objs.size + 1 →
      (∀ c o, c ≠ z → c ≠ TO → c ≠ i1 → c ≠ i2 → s.heap.get? c = some o → h'.get? c = some o) → Q (.ref s.heap.objs.size) { s with heap := h' }) :
    wpAny (model prog w) A (Builtin.«zip.__next__» ⟨[.ref z], []⟩) (fun fin s' => ∃ v, fin = .done (.ret v) ∧ Q v s') E s := by
  show wpAny _ _ (field (.ref z) 2 >>= _) _ _ _
  refine wpAny_bind (wpAny_field hz rfl (x := .bool false) rfl ?_)
  show wpAny _ _ (field (.ref z) 3 >>= _) _ _ _
  refine wpAny_bind (wpAny_field hz rfl (x := .ref TI) rfl ?_)
  refine wpAny_bind (wpAny_seqItems hTI rfl ?_)
  show wpAny _ _ (Builtin.SmallTypes.ownedTupleIsFree (.ref z) >>= _) _ _ _
  refine wpAny_bind ?_
  unfold Builtin.SmallTypes.ownedTupleIsFree
  refine wpAny_bind (wpAny_field hz rfl (x := .none) rfl (wpAny_pure ?_))
  simp only [if_true]
  refine wpAny_bind (wpAny_rule ?_)
  refine wpAny_bind (wpAny_field hz rfl (x := .ref TO) rfl ?_)
  refine wpAny_bind (wpAny_setField_rec hz (by simp) fun h₁ hz₁ hs₁ => ?_)
  replace hz₁ : IsZip h₁ z TI TO .ellipsis := hz₁
  refine wpAny_bind ?_
  simp only [List.forIn_cons, List.forIn_nil, List.zipIdx_nil, List.zipIdx_cons]

  refine wpAny_bind (wpAny_bind (wpAny_onRaise ?_))
  show wpAny _ _ (Builtin.SmallTypes.nextOf (.ref i1) >>= _) _ _ _
  refine wpAny_bind (nextK_item (h1.extBut hs₁.extBut D.i1z) (hl1.extBut hs₁.extBut D.l1z) hx fun h₂ h1₂ hs₂ => wpAny_pure ?_)
  have hTO₂ : IsPair h₂ TO a b := hs₂.extBut _ _ D.TOi1 (hs₁.extBut _ _ D.TOz hTO)
  refine wpAny_bind (wpAny_seqItems hTO₂ rfl ?_)
  refine wpAny_bind (wpAny_updateSeq_pair hTO₂ fun h₃ hTO₃ hs₃ => ?_)
  replace hTO₃ : IsPair h₃ TO x b := hTO₃
  refine wpAny_bind (wpAny_letGo (wpAny_pure ?_))

  refine wpAny_bind (wpAny_bind (wpAny_onRaise ?_))
  show wpAny _ _ (Builtin.SmallTypes.nextOf (.ref i2) >>= _) _ _ _
  refine wpAny_bind (nextK_item (((h2.extBut hs₁.extBut D.i2z).extBut hs₂.extBut D.i12.symm).extBut hs₃.extBut D.TOi2.symm)
    (((hl2.extBut hs₁.extBut D.l2z).extBut hs₂.extBut D.l2i1).extBut hs₃.extBut D.l2TO) hy fun h₄ h2₄ hs₄ => wpAny_pure ?_)
  have hTO₄ : IsPair h₄ TO x b := hs₄.extBut _ _ D.TOi2 hTO₃
  refine wpAny_bind (wpAny_seqItems hTO₄ rfl ?_)
  refine wpAny_bind (wpAny_updateSeq_pair hTO₄ fun h₅ hTO₅ hs₅ => ?_)
  replace hTO₅ : IsPair h₅ TO x y := hTO₅
  refine wpAny_bind (wpAny_letGo (wpAny_pure (wpAny_pure ?_)))

  refine wpAny_bind (wpAny_seqItems hTO₅ rfl ?_)
  refine wpAny_bind (wpAny_newTuple ?_)
  have hsz : h₅.objs.size = s.heap.objs.size := by rw [hs₅.1, hs₄.1, hs₃.1, hs₂.1, hs₁.1]
  have hz₅ : IsZip h₅ z TI TO .ellipsis := hs₅.extBut _ _ D.TOz.symm (hs₄.extBut _ _ D.i2z.symm (hs₃.extBut _ _ D.TOz.symm (hs₂.extBut _ _ D.i1z.symm hz₁)))
  have hk₅ : ∀ c o, c ≠ z → c ≠ TO → c ≠ i1 → c ≠ i2 → s.heap.get? c = some o → h₅.get? c = some o := fun c o c1 c2 c3 c4 e =>
    hs₅.extBut _ _ c2 (hs₄.extBut _ _ c4 (hs₃.extBut _ _ c2 (hs₂.extBut _ _ c3 (hs₁.extBut _ _ c1 e))))
  have h1₅ : ItK kd1 h₅ i1 l1 (k1 + 1) := ((h1₂.extBut hs₃.extBut D.TOi1.symm).extBut hs₄.extBut D.i12).extBut hs₅.extBut D.TOi1.symm
  have h2₅ : ItK kd2 h₅ i2 l2 (k2 + 1) := h2₄.extBut hs₅.extBut D.TOi2.symm
  have hzlt : z < h₅.objs.size := Heap.lt_size hz₅
  have hTOlt : TO < h₅.objs.size := Heap.lt_size hTO₅
  have hi1lt : i1 < h₅.objs.size := h1₅.lt
  have hi2lt : i2 < h₅.objs.size := h2₅.lt
  show wpAny _ _ (Builtin.SmallTypes.ownedTupleHandOut (.ref z) (.ref h₅.objs.size) >>= _) _ _ _
  refine wpAny_bind ?_
  unfold Builtin.SmallTypes.ownedTupleHandOut
  have hz₆ : IsZip (h₅.push { cls := .type "tuple", data := .seq #[x, y] }) z TI TO .ellipsis := Heap.get?_push_of_some _ hz₅
  refine wpAny_bind (wpAny_setField_rec hz₆ (by simp) fun h₇ hz₇ hs₇ => ?_)
  replace hz₇ : IsZip h₇ z TI TO (rawInt h₅.objs.size) := hz₇
  refine wpAny_setField_rec hz₇ (by simp) fun h₈ hz₈ hs₈ => ?_
  replace hz₈ : IsZip h₈ z TI TO (rawInt h₅.objs.size) := hz₈
  have up : ∀ c o, c ≠ z → h₅.get? c = some o → h₈.get? c = some o := fun c o c1 e => hs₈.extBut _ _ c1 (hs₇.extBut _ _ c1 (Heap.get?_push_of_some _ e))
  have hT₈ : IsPair h₈ h₅.objs.size x y := hs₈.extBut _ _ (Nat.ne_of_gt hzlt) (hs₇.extBut _ _ (Nat.ne_of_gt hzlt) (Heap.get?_push_size _ rfl))
  have hz8 : h₈.objs.size = h₅.objs.size + 1 := by rw [hs₈.1, hs₇.1, Heap.size_push]
  rw [hsz] at hz₈ hT₈ hz8
  refine wpAny_pure ⟨_, rfl, ?_⟩
  show Q (.ref h₅.objs.size) _
  rw [hsz]
  exact hQ h₈ hz₈ (up _ _ D.TOz hTO₅) (h1₅.at fun o e => up _ o D.i1z e) (h2₅.at fun o e => up _ o D.i2z e) hT₈ hz8 fun c o c1 c2 c3 c4 e => up c o c1 (hk₅ c o c1 c2 c3 c4 e)

theorem zipM_next_end {kd1 kd2 : Bool} {z TI TO i1 i2 l1 l2 : Addr} {k1 k2 : Nat} {xs ys : Array Value} {a b : Value} {Q : Fin → Shared → Prop} (hh : A.handled = none) (D : ZipApart z TI TO i1 i2 l1 l2)
    (hz : IsZip s.heap z TI TO .none) (hTI : IsPair s.heap TI (.ref i1) (.ref i2)) (hTO : IsPair s.heap TO a b)
    (h1 : ItK kd1 s.heap i1 l1 k1) (h2 : ItK kd2 s.heap i2 l2 k2) (hl1 : SqK kd1 s.heap l1 xs) (hl2 : SqK kd2 s.heap l2 ys) (hend : xs[k1]? = none ∨ ys[k2]? = none)
    (hE : ∀ h' e, (∀ c o, c ≠ z → c ≠ TO → c ≠ i1 → c ≠ i2 → s.heap.get? c = some o → h'.get? c = some o) → (∃ o, h'.get? e = some o ∧ o.cls = .type "StopIteration") → E (.ref e) { s with heap := h' }) :
    wpAny (model prog w) A (Builtin.«zip.__next__» ⟨[.ref z], []⟩) Q E s := by
  show wpAny _ _ (field (.ref z) 2 >>= _) _ _ _
  refine wpAny_bind (wpAny_field hz rfl (x := .bool false) rfl ?_)
  show wpAny _ _ (field (.ref z) 3 >>= _) _ _ _
  refine wpAny_bind (wpAny_field hz rfl (x := .ref TI) rfl ?_)
  refine wpAny_bind (wpAny_seqItems hTI rfl ?_)
  show wpAny _ _ (Builtin.SmallTypes.ownedTupleIsFree (.ref z) >>= _) _ _ _
  refine wpAny_bind ?_
  unfold Builtin.SmallTypes.ownedTupleIsFree
  refine wpAny_bind (wpAny_field hz rfl (x := .none) rfl (wpAny_pure ?_))
  simp only [if_true]
  refine wpAny_bind (wpAny_rule ?_)
  refine wpAny_bind (wpAny_field hz rfl (x := .ref TO) rfl ?_)
  refine wpAny_bind (wpAny_setField_rec hz (by simp) fun h₁ hz₁ hs₁ => ?_)
  replace hz₁ : IsZip h₁ z TI TO .ellipsis := hz₁
  refine wpAny_bind ?_
  simp only [List.forIn_cons, List.forIn_nil, List.zipIdx_nil, List.zipIdx_cons]
  refine wpAny_bind (wpAny_bind (wpAny_onRaise ?_))
  show wpAny _ _ (Builtin.SmallTypes.nextOf (.ref i1) >>= _) _ _ _
  cases hx : xs[k1]? with
  | none =>
    refine wpAny_bind (nextK_end hh (h1.extBut hs₁.extBut D.i1z) (hl1.extBut hs₁.extBut D.l1z) hx fun h₂ e hs₂ he => ?_)
    obtain ⟨oe, hoe, hce⟩ := he
    have hz₂ : IsZip h₂ z TI TO .ellipsis := hs₂ _ _ D.i1z.symm hz₁
    have hez : e ≠ z := fun x => by subst x; rw [hz₂] at hoe; cases hoe; simp at hce
    refine wpAny_setField_rec hz₂ (by simp) fun h₃ _ hs₃ => hE h₃ e (fun c o c1 _ c3 _ x => hs₃.extBut _ _ c1 (hs₂ _ _ c3 (hs₁.extBut _ _ c1 x))) ⟨oe, hs₃.extBut _ _ hez hoe, hce⟩
  | some x =>
    have hy : ys[k2]? = none := by rcases hend with h | h; rw [hx] at h; cases h; exact h
    refine wpAny_bind (nextK_item (h1.extBut hs₁.extBut D.i1z) (hl1.extBut hs₁.extBut D.l1z) hx fun h₂ h1₂ hs₂ => wpAny_pure ?_)
    have hTO₂ : IsPair h₂ TO a b := hs₂.extBut _ _ D.TOi1 (hs₁.extBut _ _ D.TOz hTO)
    refine wpAny_bind (wpAny_seqItems hTO₂ rfl ?_)
    refine wpAny_bind (wpAny_updateSeq_pair hTO₂ fun h₃ hTO₃ hs₃ => ?_)
    refine wpAny_bind (wpAny_letGo (wpAny_pure ?_))
    refine wpAny_bind (wpAny_bind (wpAny_onRaise ?_))
    show wpAny _ _ (Builtin.SmallTypes.nextOf (.ref i2) >>= _) _ _ _
    refine wpAny_bind (nextK_end hh (((h2.extBut hs₁.extBut D.i2z).extBut hs₂.extBut D.i12.symm).extBut hs₃.extBut D.TOi2.symm)
      (((hl2.extBut hs₁.extBut D.l2z).extBut hs₂.extBut D.l2i1).extBut hs₃.extBut D.l2TO) hy fun h₄ e hs₄ he => ?_)
    obtain ⟨oe, hoe, hce⟩ := he
    have hz₄ : IsZip h₄ z TI TO .ellipsis := hs₄ _ _ D.i2z.symm (hs₃.extBut _ _ D.TOz.symm (hs₂.extBut _ _ D.i1z.symm hz₁))
    have hez : e ≠ z := fun x => by subst x; rw [hz₄] at hoe; cases hoe; simp at hce
    refine wpAny_setField_rec hz₄ (by simp) fun h₅ _ hs₅ => hE h₅ e (fun c o c1 c2 c3 c4 x => hs₅.extBut _ _ c1 (hs₄ _ _ c4 (hs₃.extBut _ _ c2 (hs₂.extBut _ _ c3 (hs₁.extBut _ _ c1 x))))) ⟨oe, hs₅.extBut _ _ hez hoe, hce⟩

theorem pyNext_zipM_item {kd1 kd2 : Bool} {z TI TO i1 i2 l1 l2 : Addr} {k1 k2 : Nat} {xs ys : Array Value} {x y a b : Value} {Q : Option Value → Shared → Prop} (D : ZipApart z TI TO i1 i2 l1 l2)
    (hz : IsZip s.heap z TI TO .none) (hTI : IsPair s.heap TI (.ref i1) (.ref i2)) (hTO : IsPair s.heap TO a b)
    (h1 : ItK kd1 s.heap i1 l1 k1) (h2 : ItK kd2 s.heap i2 l2 k2) (hl1 : SqK kd1 s.heap l1 xs) (hl2 : SqK kd2 s.heap l2 ys) (hx : xs[k1]? = some x) (hy : ys[k2]? = some y)
    (hQ : ∀ h', IsZip h' z TI TO (rawInt s.heap.objs.size) → IsPair h' TO x y → ItK kd1 h' i1 l1 (k1 + 1) → ItK kd2 h' i2 l2 (k2 + 1) → IsPair h' s.heap.objs.size x y → h'.objs.size = s.heap.objs.size + 1 →
      (∀ c o, c ≠ z → c ≠ TO → c ≠ i1 → c ≠ i2 → s.heap.get? c = some o → h'.get? c = some o) → Q (some (.ref s.heap.objs.size)) { s with heap := h' }) :
    wpAny (model prog w) A (pyNext (.ref z)) Q E s := by
  have hT : s.TypeIs (.ref z) "zip" := ⟨_, hz, rfl⟩
  unfold pyNext
  exact wpAny_bind (wpAny_attempt (wpAny_callSpecial?_slot (name := Str.ofString "__next__") hT F.slot_zip_next
    (wpAny_call_entry F.slot_zip_next hT F.entry_zip_next
      (zipM_next_item D hz hTI hTO h1 h2 hl1 hl2 hx hy fun h' a1 a2 a3 a4 a5 a6 a7 => wpAny_pure (hQ h' a1 a2 a3 a4 a5 a6 a7)) (F.args_zip_next_1 _))))

theorem pyNext_zipM_end {kd1 kd2 : Bool} {z TI TO i1 i2 l1 l2 : Addr} {k1 k2 : Nat} {xs ys : Array Value} {a b : Value} {Q : Option Value → Shared → Prop} (hh : A.handled = none) (D : ZipApart z TI TO i1 i2 l1 l2)
    (hz : IsZip s.heap z TI TO .none) (hTI : IsPair s.heap TI (.ref i1) (.ref i2)) (hTO : IsPair s.heap TO a b)
    (h1 : ItK kd1 s.heap i1 l1 k1) (h2 : ItK kd2 s.heap i2 l2 k2) (hl1 : SqK kd1 s.heap l1 xs) (hl2 : SqK kd2 s.heap l2 ys) (hend : xs[k1]? = none ∨ ys[k2]? = none)
    (hQ : ∀ h', (∀ c o, c ≠ z → c ≠ TO → c ≠ i1 → c ≠ i2 → s.heap.get? c = some o → h'.get? c = some o) → Q none { s with heap := h' }) : wpAny (model prog w) A (pyNext (.ref z)) Q E s := by
  have hT : s.TypeIs (.ref z) "zip" := ⟨_, hz, rfl⟩
  unfold pyNext
  refine wpAny_bind (wpAny_attempt (wpAny_callSpecial?_slot (name := Str.ofString "__next__") hT F.slot_zip_next
    (wpAny_call_entry F.slot_zip_next hT F.entry_zip_next (zipM_next_end hh D hz hTI hTO h1 h2 hl1 hl2 hend fun h' e hk he => ?_) (F.args_zip_next_1 _))))
  obtain ⟨o, ho, hc⟩ := he
  refine wpAny_bind (wpAny_isInstance (T := "StopIteration") (b := true) ⟨o, ho, hc⟩ isSubtype_stop ?_)
  exact wpAny_pure (hQ _ hk)

end

abbrev zipMH1 (kd1 : Bool) (h : Heap) (l1 : Addr) : Heap := h.push (itO kd1 l1)
abbrev zipMH2 (kd1 kd2 : Bool) (h : Heap) (l1 l2 : Addr) : Heap := (zipMH1 kd1 h l1).push (itO kd2 l2)
abbrev zipMH3 (kd1 kd2 : Bool) (h : Heap) (l1 l2 : Addr) : Heap := (zipMH2 kd1 kd2 h l1 l2).push { cls := .type "tuple", data := .seq #[.ref h.objs.size, .ref (zipMH1 kd1 h l1).objs.size] }
abbrev zipMH4 (kd1 kd2 : Bool) (h : Heap) (l1 l2 : Addr) : Heap := (zipMH3 kd1 kd2 h l1 l2).push { cls := .type "tuple", data := .seq #[.none, .none] }
abbrev zipMH5 (kd1 kd2 : Bool) (h : Heap) (l1 l2 : Addr) : Heap := (zipMH4 kd1 kd2 h l1 l2).push { cls := .type "zip", data := .fields #[.none, .bool false, .bool false, .ref (zipMH2 kd1 kd2 h l1 l2).objs.size, .ref (zipMH3 kd1 kd2 h l1 l2).objs.size] }

theorem meets_zipM_new (kd1 kd2 : Bool) (l1 l2 : Addr) (xs ys : Array Value) :
    Meets (Builtin.«zip.__new__» ⟨[.type "zip", .ref l1, .ref l2], []⟩) (fun _ R s => SqK kd1 s.heap l1 xs ∧ SqK kd2 s.heap l2 ys ∧
      R (.ok (.ret (.ref (zipMH4 kd1 kd2 s.heap l1 l2).objs.size))) { s with heap := zipMH5 kd1 kd2 s.heap l1 l2 }) :=
  .of_wp fun prog w A R s h => by
    obtain ⟨hp, g, d, tk, os⟩ := s; obtain ⟨hl1, hl2, h⟩ := h
    have hsub := sub_zip
    have hL1 : SqK kd1 (Shared.heap ⟨hp, g, d, tk, os⟩) l1 xs := hl1
    have hL2 : SqK kd2 (Shared.heap ⟨hp.push (itO kd1 l1), g, d, tk, os⟩) l2 ys := hl2.push _
    wp_walk using pyIterK hL1, pyIterK hL2
    exact ⟨_, rfl, h⟩

section
variable {prog : Program} {w : World} {A : Around} {E : Value → Shared → Prop} {s : Shared}

theorem call_zipM {kd1 kd2 : Bool} {l1 l2 : Addr} {xs ys : Array Value} {Q : Value → Shared → Prop} (hl1 : SqK kd1 s.heap l1 xs) (hl2 : SqK kd2 s.heap l2 ys)
    (h : ∀ h', IsZip h' (s.heap.objs.size + 4) (s.heap.objs.size + 2) (s.heap.objs.size + 3) .none → IsPair h' (s.heap.objs.size + 2) (.ref s.heap.objs.size) (.ref (s.heap.objs.size + 1)) →
      IsPair h' (s.heap.objs.size + 3) .none .none → ItK kd1 h' s.heap.objs.size l1 0 → ItK kd2 h' (s.heap.objs.size + 1) l2 0 → h'.objs.size = s.heap.objs.size + 5 →
      (∀ c o, s.heap.get? c = some o → h'.get? c = some o) → Q (.ref (s.heap.objs.size + 4)) { s with heap := h' }) :
    wpAny (model prog w) A (call (.type "zip") [.ref l1, .ref l2]) Q E s := by
  refine callType_new F.called_zip (by decide) (F.typeCall_zip_2 _ _) (F.newCall_zip_2 _ _) (fun obj => F.args_object_init_3 obj _ _) F.entry_zip_new
    (meets_zipM_new kd1 kd2 l1 l2 xs ys) ⟨hl1, hl2, ?_⟩
  have z1 : (zipMH1 kd1 s.heap l1).objs.size = s.heap.objs.size + 1 := Heap.size_push ..
  have z2 : (zipMH2 kd1 kd2 s.heap l1 l2).objs.size = s.heap.objs.size + 2 := by rw [Heap.size_push, z1]
  have z3 : (zipMH3 kd1 kd2 s.heap l1 l2).objs.size = s.heap.objs.size + 3 := by rw [Heap.size_push, z2]
  have z4 : (zipMH4 kd1 kd2 s.heap l1 l2).objs.size = s.heap.objs.size + 4 := by rw [Heap.size_push, z3]
  have z5 : (zipMH5 kd1 kd2 s.heap l1 l2).objs.size = s.heap.objs.size + 5 := by rw [Heap.size_push, z4]
  have g5 : (zipMH5 kd1 kd2 s.heap l1 l2).get? (zipMH4 kd1 kd2 s.heap l1 l2).objs.size = some _ := Heap.get?_push_size _ rfl
  have g4 : (zipMH5 kd1 kd2 s.heap l1 l2).get? (zipMH3 kd1 kd2 s.heap l1 l2).objs.size = some _ := Heap.get?_push_of_some _ (Heap.get?_push_size _ rfl)
  have g3 : (zipMH5 kd1 kd2 s.heap l1 l2).get? (zipMH2 kd1 kd2 s.heap l1 l2).objs.size = some _ := Heap.get?_push_of_some _ (Heap.get?_push_of_some _ (Heap.get?_push_size _ rfl))
  have g2 : (zipMH5 kd1 kd2 s.heap l1 l2).get? (zipMH1 kd1 s.heap l1).objs.size = some _ := Heap.get?_push_of_some _ (Heap.get?_push_of_some _ (Heap.get?_push_of_some _ (Heap.get?_push_size _ (itO_free _ _))))
  have g1 : (zipMH5 kd1 kd2 s.heap l1 l2).get? s.heap.objs.size = some _ := Heap.get?_push_of_some _ (Heap.get?_push_of_some _ (Heap.get?_push_of_some _ (Heap.get?_push_of_some _ (Heap.get?_push_size _ (itO_free _ _)))))
  show _ ∧ _
  rw [z2, z3, z4] at g5
  rw [z1, z2] at g3
  rw [z3] at g4
  rw [z1] at g2
  rw [z4]
  exact ⟨⟨_, g5, rfl⟩, h _ g5 g3 g4 (itK_of g1) (itK_of g2) z5 fun c o x =>
    Heap.get?_push_of_some _ (Heap.get?_push_of_some _ (Heap.get?_push_of_some _ (Heap.get?_push_of_some _ (Heap.get?_push_of_some _ x))))⟩
end

/-- the tuples at a and b as they stand at each turn, the items in new pairs -/
def ItzM (kd1 kd2 : Bool) (K : PySem.W.Frag) (a b : Addr) : It :=
  ⟨fun i H => ∃ (xs ys : List V) (x y : V), SqV kd1 K H a xs ∧ SqV kd2 K H b ys ∧ xs[i]? = some x ∧ ys[i]? = some y,
    fun i H v H' => ∃ T x y, v = .ref T ∧ H T = none ∧ H' = upd H T (.tup [x, y]) ∧ (∀ xs, SqV kd1 K H a xs → xs[i]? = some x) ∧ ∀ ys, SqV kd2 K H b ys → ys[i]? = some y,
    fun i H => ∃ xs ys : List V, SqV kd1 K H a xs ∧ SqV kd2 K H b ys ∧ (xs.length ≤ i ∨ ys.length ≤ i)⟩
theorem turn_zipM {kd1 kd2 : Bool} {P : Program} {w : World} {K : PySem.W.Frag} {elts : List Expr} {kk : Nat} {tpos : Pos} {a b z TI TO i1 i2 : Addr} (D : ZipApart z TI TO i1 i2 a b) :
    Turn P w K (.Tuple elts kk tpos) (ItzM kd1 kd2 K a b) [z, TI, TO, i1, i2] z (fun i h => IsZip h z TI TO .none ∧ IsPair h TI (.ref i1) (.ref i2) ∧ (∃ x y, IsPair h TO x y) ∧ ItK kd1 h i1 a i ∧ ItK kd2 h i2 b i) where
  mem := by simp
  obj := fun i h st c hc => by
    obtain ⟨hz, hTI, ⟨x, y, hTO⟩, g1, g2⟩ := st
    have e' : c = z ∨ c = TI ∨ c = TO ∨ c = i1 ∨ c = i2 := by simpa using hc
    rcases e' with q | q | q | q | q
    · rw [q]; exact ⟨_, hz, fun v q => nomatch q⟩
    · rw [q]; exact ⟨_, hTI, fun v q => nomatch q⟩
    · rw [q]; exact ⟨_, hTO, fun v q => nomatch q⟩
    · rw [q]; exact ItK.fld g1
    · rw [q]; exact ItK.fld g2
  keep := fun i h h' st k => by
    obtain ⟨hz, hTI, ⟨x, y, hTO⟩, h1, h2⟩ := st
    exact ⟨k z (by simp) _ hz, k TI (by simp) _ hTI, ⟨x, y, k TO (by simp) _ hTO⟩, h1.at fun o q => k i1 (by simp) o q, h2.at fun o q => k i2 (by simp) o q⟩
  item := by
    intro X hP hw hK hc i pins s σ H E I hf st hg
    subst hP hw hK
    obtain ⟨hz, hTI, ⟨x0, y0, hTO⟩, h1, h2⟩ := st
    obtain ⟨xs, ys, x, y, hqx, hqy, hx, hy⟩ := hg
    obtain ⟨its, rv, p⟩ := seqV I hqx
    obtain ⟨its2, rv2, p2⟩ := seqV I hqy
    obtain ⟨u, hu, ru⟩ := rv.get hx
    obtain ⟨u2, hu2, ru2⟩ := rv2.get hy
    have hzl : z < s.heap.objs.size := Heap.lt_size hz
    refine pyNext_zipM_item D hz hTI hTO h1 h2 p p2 (x := u) (y := u2) (by simpa using hu) (by simpa using hu2) fun h' z' TO' h1' h2' hT hsz hk => ?_
    refine ⟨_, rfl, wpAny_letOwnedTupleGo_zip (s := { s with heap := h' }) z' fun h'' z'' sb => ?_⟩
    have hT2 : h''.get? s.heap.objs.size = some { cls := .type "tuple", data := .seq #[u, u2] } := (sb.2 _ (Nat.ne_of_gt hzl)).trans hT
    have new : ObjOk X.prog X.w (upd H s.heap.objs.size (.tup [x, y])) h'' s.heap.objs.size (.tup [x, y]) :=
      ⟨by show 2 ≤ sizeLine; decide, [u, u2], .cons ru (.cons ru2 .nil), ⟨_, hT2, rfl, _, rfl⟩⟩
    have I1 : Inv X pins σ (upd H s.heap.objs.size (.tup [x, y])) { s with heap := h'' } :=
      I.turnedNew (t' := s.toks) (ch := [z, TI, TO, i1, i2]) (fun c o hb q => (sb.2 c (fun q' => hb (by simp [q']))).trans (hk c o (fun q' => hb (by simp [q'])) (fun q' => hb (by simp [q'])) (fun q' => hb (by simp [q'])) (fun q' => hb (by simp [q'])) q)) hf (Nat.le_refl _) new
    refine ⟨.ref s.heap.objs.size, _, I1, rfl, ⟨_, x, y, rfl, I.hok.fresh (Nat.le_refl _), rfl, fun l hl => by rw [seqV_inj I hl hqx]; exact hx, fun l hl => by rw [seqV_inj I hl hqy]; exact hy⟩, ⟨z'', ?_, ⟨u, u2, ?_⟩, ?_, ?_⟩, fun c hcm => ?_⟩
    · exact (sb.2 _ D.TIz).trans (hk _ _ D.TIz D.TITO D.TIi1 D.TIi2 hTI)
    · exact (sb.2 _ D.TOz).trans TO'
    · exact h1'.at fun o q => (sb.2 _ D.i1z).trans q
    · exact h2'.at fun o q => (sb.2 _ D.i2z).trans q
    · have hlt : c < s.heap.objs.size := by
        have e' : c = z ∨ c = TI ∨ c = TO ∨ c = i1 ∨ c = i2 := by simpa using hcm
        rcases e' with q | q | q | q | q
        · rw [q]; exact hzl
        · rw [q]; exact Heap.lt_size hTI
        · rw [q]; exact Heap.lt_size hTO
        · rw [q]; exact h1.lt
        · rw [q]; exact h2.lt
      rw [upd_ne (Nat.ne_of_lt hlt)]
      exact (hf c hcm).1
  done := by
    intro X hP hw hK hc i pins s σ H E I hf st hg
    subst hP hw hK
    obtain ⟨hz, hTI, ⟨x0, y0, hTO⟩, h1, h2⟩ := st
    obtain ⟨xs, ys, hqx, hqy, hend⟩ := hg
    obtain ⟨its, rv, p⟩ := seqV I hqx
    obtain ⟨its2, rv2, p2⟩ := seqV I hqy
    have l1 := rv.length
    have l2 := rv2.length
    have he : its.toArray[i]? = none ∨ its2.toArray[i]? = none := by
      rcases hend with q | q
      · exact .inl (by simp; omega)
      · exact .inr (by simp; omega)
    exact pyNext_zipM_end (I.ok.hd hc) D hz hTI hTO h1 h2 p p2 he fun h' hk => ⟨rfl, I.turnedL (t' := s.toks) (ch := [z, TI, TO, i1, i2]) (fun c o hb q =>
      hk c o (fun q' => hb (by simp [q'])) (fun q' => hb (by simp [q'])) (fun q' => hb (by simp [q'])) (fun q' => hb (by simp [q'])) q) hf⟩
  self := fun A i s Q E st h => wpAny_pyIter_zip st.1 h


def iZipM (K : PySem.W.Frag) (ta : TA) : TI := fun σ H R => ta σ H fun vs H1 => ∃ a b xs ys, vs = [.ref a, .ref b] ∧ ∃ kd1 kd2 : Bool, SqV kd1 K H1 a xs ∧ SqV kd2 K H1 b ys ∧ R (ItzM kd1 kd2 K a b) H1
theorem pi_zipM {X : Cx} {e e2 : Expr} {ta : TA} {p pos tpos : Pos} {elts : List Expr} {kk : Nat} (hg : Gl X "zip") (hm : X.mg "zip" = none) (ha : PA X [e, e2] ta)
    (hs : starEach [e, e2] X.env = (false, eval e X.env) :: starEach [e2] X.env := by rfl) (hpl : (backTo pos (starEach [e2] X.env)).any (·.1) = false := by rfl) :
    PI X (.Tuple elts kk tpos) (.Call (.Name "zip" p) [e, e2] [] pos) (iZipM X.K ta) := by
  refine ⟨fun pins s σ H R I h => ?_⟩
  refine Call_ (ld_blt I hg hm PyProof.Rows.boot_zip (PyProof.Rows.callWith_type1 (thn (ha.run pos pins s σ H _ I h) fun us s1 ⟨vs, H1, I1, r1, q1⟩ => ?_) hs hpl))
  obtain ⟨a, b, xs, ys, ex, q1⟩ := q1
  subst ex
  cases r1 with
  | cons r rr =>
    cases rr with
    | cons r' rr =>
      cases rr
      cases r
      cases r'
      have fresh5 : ∀ c, c ∈ [s1.heap.objs.size + 4, s1.heap.objs.size + 2, s1.heap.objs.size + 3, s1.heap.objs.size, s1.heap.objs.size + 1] → FpOk X pins H1 c := fun c hcm => by
        have e' : c = s1.heap.objs.size + 4 ∨ c = s1.heap.objs.size + 2 ∨ c = s1.heap.objs.size + 3 ∨ c = s1.heap.objs.size ∨ c = s1.heap.objs.size + 1 := by simpa using hcm
        have hle : s1.heap.objs.size ≤ c := by
          rcases e' with z | z | z | z | z
          · rw [z]; exact Nat.le_add_right _ _
          · rw [z]; exact Nat.le_add_right _ _
          · rw [z]; exact Nat.le_add_right _ _
          · rw [z]; exact Nat.le_refl _
          · rw [z]; exact Nat.le_add_right _ _
        exact I1.fpOk hle (I1.hok.fresh hle)
      obtain ⟨kd1, kd2, hqx, hqy, q⟩ := q1
      obtain ⟨its, rv, p1⟩ := seqV I1 hqx
      obtain ⟨its2, rv2, p2⟩ := seqV I1 hqy
      refine call_zipM p1 p2 fun h' hz hTI hTO h1 h2 hsz hk => wpAny_pyIter_zip hz ?_
      have I2 : Inv X pins σ H1 { s1 with heap := h' } := I1.kept (t' := s1.toks) hk
      exact ⟨s1.heap.objs.size + 4, [s1.heap.objs.size + 4, s1.heap.objs.size + 2, s1.heap.objs.size + 3, s1.heap.objs.size, s1.heap.objs.size + 1], _, _, H1, rfl, I2, turn_zipM (PySem.W.ktu_apart s1.heap.objs.size a b p1.lt p2.lt), ⟨hz, hTI, ⟨_, _, hTO⟩, h1, h2⟩, fresh5, q⟩

end ZM
end
section
set_option Elab.async false
set_option linter.all false
set_option autoImplicit false
set_option maxRecDepth 100000
set_option maxHeartbeats 4000000
namespace SP
open PySem PySem.Spec L2
section
variable {κ : Kx} {X : Cx} {pg : Pg} {k : Nat} {cf : Cf} {c : CC}
/-! ### zip -/
theorem zip_yld {w : Wd} {S : Store} {xs ys : List D} {vs us : List V} {i : Nat} {T : Addr} {x y : V} (hr : HRel κ w S) (rr : Reps κ w.F w.H xs vs) (rs : Reps κ w.F w.H ys us) (h1 : i < xs.length) (h2 : i < ys.length) (hT : w.H T = none) (hx : vs[i]? = some x) (hy : us[i]? = some y) :
    ∃ w'' d, w''.H = upd w.H T (.tup [x, y]) ∧ w.le w'' ∧ HRel κ w'' S ∧ (zipD xs ys)[i]? = some d ∧ RepL κ w'' d (.ref T) := by
  obtain ⟨d, v, e1, e2, e3⟩ := get_ok rr h1
  obtain ⟨e, u, f1, f2, f3⟩ := get_ok rs h2
  rw [hx] at e2
  rw [hy] at f2
  cases e2
  cases f2
  exact ⟨w.tree T (.tup [x, y]), _, rfl, hr.le_tree hT _, hr.tree hT _, zipD_get xs ys i d e e1 f1, (rep_tup hr hT (.cons e3 (.cons f3 .nil))).toL⟩
/-- a sequence as a value -/
def seqD (kd : Bool) (xs : List D) : D := match kd with
  | true => .lst xs
  | false => .tup xs
theorem rep_seq {kd : Bool} {K : PySem.W.Frag} {w : Wd} {xs : List D} {v : V} (r : RepL κ w (seqD kd xs) v) : ∃ a vs, v = .ref a ∧ ZM.SqV kd K w.H a vs ∧ Reps κ w.F w.H xs vs ∧ ∀ w' : Wd, w.le w' → ZM.SqV kd K w'.H a vs := by
  cases kd
  · have r' : Rep κ w.F w.H (.tup xs) v := r
    simp only [Rep] at r'
    obtain ⟨a, vs, rfl, hF, h, rr⟩ := r'
    exact ⟨a, vs, rfl, (SqT.of h : SqT K w.H a vs), rr, fun w' le => (SqT.of ((le.H a hF).trans h) : SqT K w'.H a vs)⟩
  · have r' : Rep κ w.F w.H (.lst xs) v := r
    simp only [Rep] at r'
    obtain ⟨a, vs, rfl, hF, h, rr⟩ := r'
    exact ⟨a, vs, rfl, (SqL.of h : SqL K w.H a vs), rr, fun w' le => (SqL.of ((le.H a hF).trans h) : SqL K w'.H a vs)⟩
theorem walks_zip {k1 k2 : Bool} {K : PySem.W.Frag} {w : Wd} {xs ys : List D} {v u : V} (r : RepL κ w (seqD k1 xs) v) (r2 : RepL κ w (seqD k2 ys) u) : ∃ a b vs us, v = .ref a ∧ u = .ref b ∧ ZM.SqV k1 K w.H a vs ∧ ZM.SqV k2 K w.H b us ∧ Walks κ (ZM.ItzM k1 k2 K a b) w (zipD xs ys) := by
  obtain ⟨a, vs, rfl, h, rr, m1⟩ := rep_seq (K := K) r
  obtain ⟨b, us, rfl, h2, rs, m2⟩ := rep_seq (K := K) r2
  refine ⟨a, b, vs, us, rfl, rfl, h, h2, fun w' S' le hr i => ?_⟩
  have h' := m1 w' le
  have h2' := m2 w' le
  have rr' := Reps.mono le.F le.H _ _ rr
  have rs' := Reps.mono le.F le.H _ _ rs
  rw [zipD_len]
  refine ⟨fun hi => ?_, fun hi => ⟨vs, us, h', h2', by rw [rr.length, rs.length]; omega⟩, fun x H' hy hi => ?_⟩
  · obtain ⟨d, v, _, e, _⟩ := get_ok rr' (i := i) (by omega)
    obtain ⟨d2, v2, _, e2, _⟩ := get_ok rs' (i := i) (by omega)
    exact ⟨vs, us, v, v2, h', h2', e, e2⟩
  · obtain ⟨T, y, z, rfl, hT, rfl, hx, hz⟩ := hy
    exact zip_yld hr rr' rs' (by omega) (by omega) hT (hx vs h') (hz us h2')
theorem i_zip {tp : List Expr} {kk : Nat} {tpos : Pos} {a b : Expr} {p pos : Pos} {fa fb : Env → Store → R D} (hg : Gl X "zip") (hm : X.mg "zip" = none) (hp : plainX a = true) (hp2 : plainX b = true) (ha : JE κ X a fa) (hb : JE κ X b fb) : JI κ X (.Tuple tp kk tpos) (.Call (.Name "zip" p) [a, b] [] pos) (fun ρ S => (fa ρ S).bind fun x S1 => (fb ρ S1).bind fun y S2 => match x, y with
    | .lst xs, .lst ys => .ok (zipD xs ys) S2
    | .tup xs, .tup ys => .ok (zipD xs ys) S2
    | .lst xs, .tup ys => .ok (zipD xs ys) S2
    | .tup xs, .lst ys => .ok (zipD xs ys) S2
    | _, _ => .bad) := fun W tk => pi_imp (ZM.pi_zipM hg hm (pa_cons (ha W tk) (pa_cons (hb W tk) pa_nil (star_plain hp2)) (star_plain hp)) (star_plain hp) (by rw [star_plain hp2] <;> rfl)) fun σ H R q => by
  obtain ⟨w, ρ, S, rfl, hr, sr, a⟩ := q
  refine tX_bind hr sr a fun w1 S1 d1 v1 le1 hr1 e1 r1 a1 => ?_
  refine tX_bind hr1 (sr.mono le1) a1 fun w2 S2 d2 v2 le2 hr2 e2 r2 a2 => ?_
  have fin : ∀ (k1 k2 : Bool) (xs ys : List D), d1 = seqD k1 xs → d2 = seqD k2 ys → (∀ w3, w2.le w3 → HRel κ w3 S2 → ∀ J : L2.It, Walks κ J w3 (zipD xs ys) → R J w3.H) → ∃ (a b : Addr) (xs ys : List V), [v1, v2] = [.ref a, .ref b] ∧ ∃ kd1 kd2 : Bool, ZM.SqV kd1 X.K w2.H a xs ∧ ZM.SqV kd2 X.K w2.H b ys ∧ R (ZM.ItzM kd1 kd2 X.K a b) w2.H := by
    rintro k1 k2 xs ys rfl rfl hR
    obtain ⟨c1, c2, vs, us, rfl, rfl, h1, h2, hw⟩ := walks_zip (K := X.K) (r1.mono le2) r2
    exact ⟨c1, c2, vs, us, rfl, k1, k2, h1, h2, hR w2 (.refl w2) hr2 _ hw⟩
  cases d1 with
  | lst xs =>
    cases d2 with
    | lst ys => exact fin true true xs ys rfl rfl a2
    | tup ys => exact fin true false xs ys rfl rfl a2
    | _ => exact a2.elim
  | tup xs =>
    cases d2 with
    | tup ys => exact fin false false xs ys rfl rfl a2
    | lst ys => exact fin false true xs ys rfl rfl a2
    | _ => exact a2.elim
  | _ => cases d2 <;> exact a2.elim
/-! ### range(i, j, -1) -/
theorem walks_rngC {w : Wd} {lo c : Int} {n : Nat} : Walks κ (Itc lo c n) w (rngD lo c n) := fun w' S' le hr i => by
  rw [rngD_len]
  refine ⟨id, id, fun x H' hy hi => ?_⟩
  obtain ⟨rfl, rfl⟩ := hy
  exact ⟨w', _, rfl, .refl w', hr, rngD_get lo c n i hi, rep_int⟩
theorem i_rngD {tg a b : Expr} {j : Nat} {p p1 p2 pos : Pos} {fa fb : Env → Store → R D} (hg : Gl X "range") (hm : X.mg "range" = none) (hp : plainX a = true) (hp2 : plainX b = true) (ha : JE κ X a fa) (hb : JE κ X b fb) : JI κ X tg (.Call (.Name "range" p) [a, b, .UnaryOp .USub (.Constant (.int 1) j p1) p2] [] pos) (fun ρ S => (fa ρ S).bind fun x S1 => (fb ρ S1).bind fun y S2 => match x, y with
    | .int m, .int n => if rngOk m n then .ok (rngD m (-1) (m - n).toNat) S2 else .bad
    | _, _ => .bad) := fun W tk => pi_imp (pi_range3 hg hm (pa_cons (ha W tk) (pa_cons (hb W tk) (pa_cons (pe_un un_neg pe_int) pa_nil (by rfl)) (star_plain hp2)) (star_plain hp)) (star_plain hp) (by rw [star_plain hp2] <;> rfl)) fun σ H R q => by
  obtain ⟨w, ρ, S, rfl, hr, sr, a⟩ := q
  refine tX_bind hr sr a fun w1 S1 d1 v1 le1 hr1 e1 r1 a1 => ?_
  refine tX_bind hr1 (sr.mono le1) a1 fun w2 S2 d2 v2 le2 hr2 e2 r2 a2 => ?_
  have hbad : (∃ m n, d1 = .int m ∧ d2 = .int n) := by
    cases d1 with
    | int m =>
      cases d2 with
      | int n => exact ⟨m, n, rfl, rfl⟩
      | _ => exact a2.elim
    | _ => exact a2.elim
  obtain ⟨m, n, rfl, rfl⟩ := hbad
  simp only at a2
  split at a2
  · rename_i hn
    obtain ⟨⟨h1, h2⟩, h3, h4⟩ := rngOk_le hn
    refine ⟨1, rfl, m, n, -1, (m - n).toNat, by rw [r1.see.int, r2.see.int], RgC.neg h1 h2 h3 h4, a2 w2 (.refl w2) hr2 _ walks_rngC⟩
  · exact a2.elim

/-! ### list comprehensions -/
theorem wipeE_some {ρ : Env} {i : Nat} {x : D} : ∀ {vs : List Nat}, (wipeE ρ vs)[i]? = some (some x) → ρ[i]? = some (some x) ∧ i ∉ vs
  | [], h => ⟨h, by simp⟩
  | v :: vs, h => by
    unfold wipeE at h
    by_cases hi : v = i
    · subst hi
      by_cases hv : v < (wipeE ρ vs).length
      · rw [List.getElem?_set_self hv] at h; cases h
      · rw [List.getElem?_eq_none (by simpa using hv)] at h; cases h
    · rw [List.getElem?_set_ne hi] at h
      obtain ⟨h1, h2⟩ := wipeE_some h
      exact ⟨h1, by simp only [List.mem_cons, not_or]; exact ⟨fun e => hi e.symm, h2⟩⟩
theorem wipeE_length {ρ : Env} : ∀ vs : List Nat, (wipeE ρ vs).length = ρ.length
  | [] => rfl
  | v :: vs => by unfold wipeE; rw [List.length_set, wipeE_length vs]
theorem SRel.wipe {w : Wd} {ρ : Env} {σ : L2.St} (r : SRel κ w ρ σ) (vs : List Nat) : SRel κ w (wipeE ρ vs) (wipe σ vs) := by
  refine ⟨by rw [wipeE_length, wipe_length]; exact r.len, fun i d h => ?_⟩
  obtain ⟨h1, h2⟩ := wipeE_some h
  obtain ⟨v, e, q⟩ := r.at_ i d h1
  refine ⟨v, ?_, q⟩
  rw [wipe_out h2]
  exact e
theorem wipe_in {σ : L2.St} {i : Nat} : ∀ {vs : List Nat}, i ∈ vs → i < σ.length → (wipe σ vs)[i]? = some none
  | v :: vs, h, hl => by
    unfold wipe
    by_cases hi : v = i
    · subst hi
      exact List.getElem?_set_self (by rw [wipe_length]; exact hl)
    · rw [List.getElem?_set_ne hi]
      exact wipe_in ((List.mem_cons.mp h).elim (fun z => absurd z.symm hi) id) hl
theorem wipe_eq {σ σ2 : L2.St} {vs : List Nat} (hl : σ2.length = σ.length) (h : ∀ i, i ∉ vs → σ2[i]? = (wipe σ vs)[i]?) : wipe σ2 vs = wipe σ vs := by
  refine List.ext_getElem? fun i => ?_
  by_cases hi : i ∈ vs
  · by_cases hlt : i < σ.length
    · rw [wipe_in hi hlt, wipe_in hi (by rw [hl]; exact hlt)]
    · rw [List.getElem?_eq_none (by rw [wipe_length, hl]; omega), List.getElem?_eq_none (by rw [wipe_length]; omega)]
  · rw [wipe_out hi, h i hi]
abbrev WF : WX := fun _ _ _ _ => False
theorem takes_blk {s : Shared} {H : Hp} {scope : Scope} {cenv : PySem.Env} {fp : List Addr} : Takes (X.blk s H scope cenv fp) WF := fun u s' x => by
  obtain ⟨_, _, _, _, _, _, _, _, _, _, _, _, _, _, _, _, z⟩ := x
  exact z.elim
/-- one turn -/
def turnC (fc fe : Env → Store → R D) (tg : Tg) (ρ : Env) : D → Store → R (Option D) := fun x S => match bindT tg x (wipeE ρ (slotsT tg)) with
  | none => .bad
  | some ρ1 => (fc ρ1 S).bind fun b S1 => match b with
    | .bl true => (fe ρ1 S1).bind fun d S2 => (frzD d S2).bind fun y S3 => .ok (some y) S3
    | .bl false => .ok none S1
    | _ => .bad
theorem turnC_ok {fc fe : Env → Store → R D} {tg : Tg} {ρ : Env} {x : D} {S S1 : Store} {o : Option D} (h : turnC fc fe tg ρ x S = .ok o S1) :
    ∃ ρ1 b S2, bindT tg x (wipeE ρ (slotsT tg)) = some ρ1 ∧ fc ρ1 S = .ok (.bl b) S2 ∧ if b = true then ∃ d S3 y, fe ρ1 S2 = .ok d S3 ∧ frzD d S3 = .ok y S1 ∧ o = some y else o = none ∧ S1 = S2 := by
  unfold turnC at h
  cases e1 : bindT tg x (wipeE ρ (slotsT tg)) with
  | none => rw [e1] at h; cases h
  | some ρ1 =>
    rw [e1] at h
    simp only at h
    cases e2 : fc ρ1 S with
    | bad => rw [e2] at h; cases h
    | ex c fs S' => rw [e2] at h; cases h
    | ok b S2 =>
      rw [e2] at h
      simp only [R.bind] at h
      cases b with
      | bl b =>
        refine ⟨ρ1, b, S2, rfl, e2, ?_⟩
        cases b with
        | false =>
          simp only at h
          cases h
          rw [if_neg Bool.false_ne_true]
          exact ⟨rfl, rfl⟩
        | true =>
          rw [if_pos rfl]
          simp only at h
          cases e3 : fe ρ1 S2 with
          | bad => rw [e3] at h; cases h
          | ex c fs S' => rw [e3] at h; cases h
          | ok d S3 =>
            rw [e3] at h
            simp only [R.bind] at h
            cases e4 : frzD d S3 with
            | bad => rw [e4] at h; cases h
            | ex c fs S' => rw [e4] at h; cases h
            | ok y S4 =>
              rw [e4] at h
              simp only [R.bind] at h
              cases h
              exact ⟨d, S3, y, rfl, e4, rfl⟩
      | _ => cases h
theorem compL_cons {W : WX} {σ : L2.St} {w : Wd} {f : D → Store → R (Option D)} {n : Nat} {x : D} {xs : List D} {S : Store} {g : Unit → Store → R D} {P : Wd → Store → D → Prop} (h : Aft κ W σ w ((compL f n (x :: xs) S).noEx.bind g) P) :
    ∃ o S1, f x S = .ok o S1 ∧ (∀ d, o = some d → ∃ acc, S1[n]? = some (some (.lst acc)) ∧ lenOk (acc.length + 1) = true ∧ Aft κ W σ w ((compL f n xs (S1.set n (some (.lst (acc ++ [d]))))).noEx.bind g) P) ∧ (o = none → Aft κ W σ w ((compL f n xs S1).noEx.bind g) P) := by
  unfold compL at h
  cases e : f x S with
  | bad => rw [e] at h; exact h.elim
  | ex c fs S' => rw [e] at h; exact h.elim
  | ok o S1 =>
    rw [e] at h
    refine ⟨o, S1, rfl, fun d hd => ?_, fun hd => ?_⟩
    · subst hd
      replace h : Aft κ W σ w (R.bind (R.noEx (match S1[n]? with
        | some (some (.lst acc)) => if lenOk (acc.length + 1) = true then compL f n xs (S1.set n (some (.lst (acc ++ [d])))) else .bad
        | _ => .bad)) g) P := h
      by_cases hex : ∃ acc, S1[n]? = some (some (.lst acc))
      · obtain ⟨acc, ea⟩ := hex
        rw [ea] at h
        simp only at h
        by_cases hl : lenOk (acc.length + 1) = true
        · rw [if_pos hl] at h
          exact ⟨acc, ea, hl, h⟩
        · rw [if_neg hl] at h
          exact h.elim
      · exfalso
        generalize S1[n]? = z at h hex
        split at h
        · exact hex ⟨_, rfl⟩
        · exact h.elim
    · subst hd
      exact h
theorem pts_imp {ifs : List Expr} {t t' : TT} (h : PTs X ifs t) (hi : ∀ σ H Q, t' σ H Q → t σ H Q) : PTs X ifs t' := ⟨fun pins s σ H Q I q => h.run pins s σ H Q I (hi σ H Q q)⟩
theorem pts_tt {ifs : List Expr} (h : ifs = []) : PTs X ifs (tT κ WF fun _ S => .ok (.bl true) S) := by
  subst h
  exact pts_imp pts_nil fun σ H Q q => by
    obtain ⟨w, ρ, S, rfl, hr, sr, a⟩ := q
    obtain ⟨b, e, q⟩ := a w (.refl w) hr
    cases e
    exact q
/-- the whole of it -/
def lcF (fi : Env → Store → R (List D)) (fc fe : Env → Store → R D) (tg : Tg) : Env → Store → R D := fun ρ S => (fi ρ S).bind fun xs S1 => (compL (turnC fc fe tg ρ) S1.length xs (S1 ++ [some (.lst [])])).noEx.bind fun _ S2 => compE S1.length S2
theorem tX_lc {W : WX} {fi : Env → Store → R (List D)} {fc fe : Env → Store → R D} {tg : Tg} {σ : L2.St} {H : Hp} {Q : VK} (q : tX κ W (lcF fi fc fe tg) σ H Q) : tLc (tI κ W fi) (gT κ tg) (tT κ WF fc) (tX κ WF fe) (slotsT tg) σ H Q := by
  obtain ⟨w, ρ, S, rfl, hr, sr, a⟩ := q
  refine ⟨w, ρ, S, rfl, hr, sr, (Aft.bind a).imp fun w1 S1 xs le1 hr1 _ a1 J hw => fun Da hD => ?_⟩
  have sr1 := sr.mono le1
  have c0 : CellR κ (w1.cell Da (.lst [])) (.lst []) Da := ⟨[], upd_same, .nil⟩
  refine ⟨fun i m H => m = xs.length - i ∧ i ≤ xs.length ∧ ∃ w2 S2, (w1.cell Da (.lst [])).le w2 ∧ w2.H = H ∧ HRel κ w2 S2 ∧ Aft κ W σ w1 ((compL (turnC fc fe tg ρ) S1.length (xs.drop i) S2).noEx.bind fun _ S3 => compE S1.length S3) (Fin_ κ Q),
    ⟨_, rfl, Nat.zero_le _, w1.cell Da (.lst []), _, .refl _, rfl, hr1.cell hD c0, a1⟩, ?_⟩
  rintro i m H ⟨rfl, hi, w2, S2, le2, rfl, hr2, a2⟩
  have hlec := hr1.le_cell hD (.lst [])
  have le12 : w1.le w2 := hlec.trans le2
  have hDat : w2.A[S1.length]? = some Da := by
    obtain ⟨l, el⟩ := le2.A
    rw [el]
    show ((w1.A ++ [Da]) ++ l)[S1.length]? = some Da
    rw [← hr1.len, List.getElem?_append_left (by simp), List.getElem?_append_right (Nat.le_refl _)]
    simp
  have cellAt : ∀ {w3 : Wd} {S3 : Store} {acc : List D}, w2.le w3 → HRel κ w3 S3 → S3[S1.length]? = some (some (.lst acc)) → w3.A[S1.length]? = some Da ∧ ¬ w3.F Da ∧ ∃ vs, w3.H Da = some (.lst vs) ∧ Reps κ w3.F w3.H acc vs := fun {w3 S3 acc} le3 hr3 e => by
    obtain ⟨b, e1, e2, vs, e3, e4⟩ := hr3.cl _ _ e
    have hA3 : w3.A[S1.length]? = some Da := by
      obtain ⟨l, el⟩ := le3.A
      rw [el, List.getElem?_append_left (List.getElem?_eq_some_iff.mp hDat).1]
      exact hDat
    rw [hA3] at e1
    cases e1
    exact ⟨hA3, e2, vs, e3, e4⟩
  by_cases hlt : i < xs.length
  · refine .inr ⟨(hw w2 S2 le12 hr2 i).1 hlt, fun H => xs.length - (i + 1) < xs.length - i ∧ ∃ w3 S3, (w1.cell Da (.lst [])).le w3 ∧ w3.H = H ∧ HRel κ w3 S3 ∧ Aft κ W σ w1 ((compL (turnC fc fe tg ρ) S1.length (xs.drop (i + 1)) S3).noEx.bind fun _ S3 => compE S1.length S3) (Fin_ κ Q), fun H' hn => ⟨_, hn.1, rfl, hlt, hn.2⟩, fun x H' hy => ?_⟩
    obtain ⟨w3, d, rfl, le3, hr3, ed, rd⟩ := (hw w2 S2 le12 hr2 i).2.2 x H' hy hlt
    have edrop : xs.drop i = d :: xs.drop (i + 1) := by
      rw [List.drop_eq_getElem_cons hlt]
      have := List.getElem?_eq_getElem hlt
      rw [ed] at this
      cases this
      rfl
    rw [edrop] at a2
    obtain ⟨o, S4, e4, hs, hn⟩ := compL_cons a2
    obtain ⟨ρ1, b, S5, eb, ec, hb⟩ := turnC_ok e4
    refine ⟨w3, wipeE ρ (slotsT tg), S2, d, ρ1, rfl, hr3, (sr1.mono (le12.trans le3)).wipe _, rd, eb, fun σ2 sr2 hl2 ho2 => ⟨?_, ?_⟩⟩
    · exact wipe_eq (by rw [hl2, wipe_length]) fun j hj => ho2 j hj
    · refine ⟨w3, ρ1, S2, rfl, hr3, sr2, ?_⟩
      rw [ec]
      refine fun w4 le4 hr4 => ⟨b, rfl, ?_⟩
      cases b with
      | false =>
        rw [if_neg Bool.false_ne_true] at hb ⊢
        obtain ⟨rfl, rfl⟩ := hb
        exact ⟨by omega, w4, S4, (le2.trans le3).trans le4, rfl, hr4, hn rfl⟩
      | true =>
        rw [if_pos rfl] at hb ⊢
        obtain ⟨dd, S6, y, e6, e7, rfl⟩ := hb
        refine ⟨w4, ρ1, S5, rfl, hr4, sr2.mono le4, ?_⟩
        rw [e6]
        intro w5 le5 hr5 v rv
        obtain ⟨w6, le6, eH6, hr6, r6⟩ := frz_ok hr5 rv e7
        obtain ⟨acc, ea, hl, a7⟩ := hs y rfl
        have le26 : w2.le w6 := ((le3.trans le4).trans le5).trans le6
        obtain ⟨hA6, nF6, vs, hv6, rr6⟩ := cellAt le26 hr6 ea
        refine ⟨vs, by rw [← eH6]; exact hv6, ?_, by omega, w6.write Da (.lst (vs ++ [v])), _, (le2.trans le26).trans (Wd.le_write _ nF6), by rw [← eH6] <;> rfl, hr6.write hA6 nF6 hv6 (c := .lst (acc ++ [y])) ⟨_, upd_same, ?_⟩, a7⟩
        · have := lenOk_le hl
          have := rr6.length
          omega
        · have lw := Wd.le_write (w := w6) (HO.lst (vs ++ [v])) nF6
          exact Reps.mono lw.F lw.H _ _ (rr6.append (.cons r6 .nil))
  · have e : i = xs.length := by omega
    subst e
    refine .inl ⟨(hw w2 S2 le12 hr2 _).2.1 (Nat.le_refl _), ?_⟩
    rw [List.drop_length] at a2
    simp only [compL, R.noEx, R.bind] at a2
    unfold compE at a2
    split at a2
    · rename_i ys ey
      obtain ⟨hA, nF, vs, hv, rr⟩ := cellAt (.refl w2) hr2 ey
      have htk : w2.A.take S1.length = w1.A := by
        obtain ⟨l, el⟩ := le2.A
        rw [el]
        show ((w1.A ++ [Da]) ++ l).take S1.length = w1.A
        rw [List.append_assoc]
        exact take_app hr1.len
      have hDn : Da ∉ w1.A := hr1.freshA hD
      have hrz : HRel κ ⟨w2.A.take S1.length, fun b => w2.F b ∨ b = Da, w2.H⟩ (S2.take S1.length) := hr2.take _ _ (fun _ z => .inl z) (fun b z => by
        rcases z with z | rfl
        · exact .inl z
        · exact .inr ⟨⟨_, hv⟩, by rw [htk]; exact hDn⟩) (fun b z => by
        rcases z with z | rfl
        · exact .inl z
        · exact .inr fun b' e => by rw [hv] at e; cases e) (fun b ps z => by
        rcases z with z | rfl
        · exact .inl z
        · exact .inr fun e => by rw [hv] at e; cases e)
      have lez : w1.le ⟨w2.A.take S1.length, fun b => w2.F b ∨ b = Da, w2.H⟩ := ⟨⟨[], by rw [htk]; simp⟩, fun b z => .inl (le12.F b z), le12.H⟩
      refine a2 _ lez hrz (.ref Da) ?_
      show Rep κ _ _ (.lst ys) (.ref Da)
      simp only [Rep]
      exact ⟨Da, vs, rfl, .inr rfl, hv, Reps.mono (fun _ z => .inl z) (fun _ _ => rfl) _ _ rr⟩
    · exact a2.elim
theorem own_slots {c : CC} {tg : Tg} : (ownOf c tg).map (·.2) = slotsT tg := by
  unfold ownOf
  rw [List.map_map]
  exact List.map_id _
theorem fold_plain {e : Expr} {env : PySem.Env} (h : plainX e = true) : ∀ x, foldedSetIterable e env x = pure x := by
  intro x
  cases e <;> first | rfl | (simp [plainX] at h)
theorem j_lc {elt tg iter : Expr} {ifs : List Expr} {scope : Scope} {pos : Pos} {t : Tg} {fi : Env → Store → R (List D)} {fc fe : Env → Store → R D} (G : Good κ pg X c k cf) (hb : L2.blkC c.N c.sc scope (ownOf c t) = true) (hpl : ∀ x, foldedSetIterable iter X.env x = pure x) (hi : JI κ X tg iter fi)
    (hg : ∀ (s : Shared) (H : Hp) (C : Addr) (cl : List (Str × Addr)) (fp : List Addr), PG (X.blk s H scope (compEnvC scope cl C X.env) fp) tg (gT κ t))
    (hc : ∀ (s : Shared) (H : Hp) (C : Addr) (cl : List (Str × Addr)) (fp : List Addr), PTs (X.blk s H scope (compEnvC scope cl C X.env) fp) ifs (tT κ WF fc))
    (he : ∀ (s : Shared) (H : Hp) (C : Addr) (cl : List (Str × Addr)) (fp : List Addr), JE κ (X.blk s H scope (compEnvC scope cl C X.env) fp) elt fe) :
    JE κ X (.ListComp elt [⟨tg, iter, ifs, 0⟩] scope pos) (lcF fi fc fe t) := fun W tk => by
  have ok := L2.blkOk_by hb
  rw [← G.N, ← G.sc] at ok
  refine pe_imp (pe_lc G.calm G.nd (hi W tk) ok hg hc (fun s H C cl fp => he s H C cl fp WF takes_blk) hpl) fun σ H Q q => ?_
  rw [own_slots]
  exact tX_lc q
theorem Good.blk (G : Good κ pg X c k cf) {s : Shared} {H : Hp} {scope : Scope} {C : Addr} {cl : List (Str × Addr)} {fp : List Addr} : Good κ pg (X.blk s H scope (compEnvC scope cl C X.env) fp) ⟨c.N, L2.relS scope c.sc, false⟩ k cf :=
  ⟨G.N, by rw [← G.sc] <;> rfl, G.nd, G.calm, G.room.mono (by simp; split <;> omega), G.lay, G.kK, fun h => by cases h⟩
end
end SP
end
section
set_option Elab.async false
set_option linter.all false
set_option autoImplicit false
set_option maxRecDepth 100000
set_option maxHeartbeats 4000000
/-! a lambda of one parameter, called; sorted's turns by it -/
namespace SP
open PySem PySem.Spec PyProof.Rows L2 LamX
/-- one parameter n, no other name of its own -/
structure LamS1 (n : Str) (sc scope : Scope) : Prop where
  kind : scope.kind = .function
  co : scope.isCoroutine = false
  gen : scope.isGenerator = false
  par : scope.names.lookup n = some .local
  own : ∀ y ∈ scope.names, (y.2 = .local → y.1 = n) ∧ y.2 ≠ .cell
  free : ∀ y ∈ scope.names, y.2 = .free → sc.names.lookup y.1 = some .cell ∨ sc.names.lookup y.1 = some .free
theorem lam1_by {n : Str} {sc scope : Scope} (h : lam1B n sc scope = true) : LamS1 n sc scope := by
  unfold lam1B at h
  simp only [Bool.and_eq_true, Bool.or_eq_true, Bool.not_eq_true', decide_eq_true_eq, decide_eq_false_iff_not, List.all_eq_true] at h
  obtain ⟨⟨⟨⟨h1, h2⟩, h3⟩, h4⟩, h5⟩ := h
  refine ⟨h1, h2, h3, h4, fun y hy => ⟨fun e => ?_, (h5 y hy).1.2⟩, fun y hy e => ?_⟩
  · rcases (h5 y hy).1.1 with z | z
    · exact absurd e z
    · exact z
  · rcases (h5 y hy).2 with (z | z) | z
    · exact absurd e z
    · exact .inl z
    · exact .inr z
theorem LamS1.has {n : Str} {X : Cx} {scope : Scope} (L : LamS1 n X.env.scope scope) (ok : X.Ok) : ∀ y ∈ scope.names, y.2 = .free → ∃ c, X.env.cells.lookup y.1 = some c := fun y hy e => by
  rcases L.free y hy e with k | k
  · exact ok.has _ (.inl k)
  · exact ok.has _ (.inr k)
abbrev E0' : XK := fun _ _ _ => False
section
variable {X : Cx} {pins : List (Addr × Obj)} {σ : L2.St} {H : Hp} {s : Shared}
theorem lam_start1 {A : Around} {E : XK} {scope : Scope} {f c' : Addr} {h₁ : Heap} {tk p : Nat} {n : Str} {v : V} {u : Value} (I : Inv X pins σ H s) (L : LamS1 n X.env.scope scope) (e0 : Env0 X.prog X.w X.K X.mg X.base A X.stack s H) (hd : A.handled = none) (hN : X.N[p]? = some n) (nd : X.N.Nodup) (ru : RelV v u)
    (hns : h₁.Ns s.heap.objs.size fun y => ([(n, u)] : List (Str × Value)).reverse.lookup y) (kp : ∀ b o, s.heap.get? b = some o → h₁.get? b = some o) :
    Inv (lamCx X A X.stack s H E scope f c') [] (σ.set p (some v)) H { s with heap := h₁, toks := tk } := by
  have hfree := L.has I.ok
  have cm : ∀ {y c}, (cloFrom X.env.cells scope.names []).lookup y = some c → X.env.cells.lookup y = some c := fun {y c} e => by
    rcases cloFrom_mem (PySem.mem_of_lookup e) with hm | ⟨h1, h2⟩
    · cases hm
    · obtain ⟨c1, hc⟩ := hfree _ h1 rfl
      have hc : X.env.cells.lookup y = some c1 := hc
      have e2 : c = c1 := by
        rw [h2, hc] <;> rfl
      rw [e2]
      exact hc
  have look : ∀ {y}, scope.names.lookup y = some .free → ∃ c, (cloFrom X.env.cells scope.names []).lookup y = some c := fun {y} hl => by
    have hy : (y, NameKind.free) ∈ scope.names := PySem.mem_of_lookup hl
    exact mem_lookup (cloFrom_has (cells := X.env.cells) (acc := []) hy)
  have cellK : ∀ {c : Addr} {v : Option Value}, s.heap.IsCell c v → h₁.IsCell c v := fun {c v} ⟨o, ho, hd⟩ => ⟨_, kp _ _ ho, hd⟩
  have noA : ∀ b : Addr, b ∉ (lamCx X A X.stack s H E scope f c').ex := fun b z => absurd (show b ∈ ([] : List Addr) from z) (by simp)
  refine ⟨⟨e0.mod, L.kind, rfl, rfl, Nat.le_refl _, fun y z c e1 e2 => I.ok.inj y z c (cm e1) (cm e2), fun y hy => ?_, fun y c z _ => ?_, fun _ => hd, Around.frames_deeper e0.frames, .inr ⟨rfl, rfl⟩, fun b z => absurd z (noA b), e0.bs, e0.bsz, fun b _ _ => noA b,
      fun b z => absurd z (noA b), e0.funs, e0.frf⟩,
    rfl, e0.bare, Un.kept kp, ⟨_, hns, fun i y v' e1 e2 e3 => ?_⟩, fun y c e => ?_, e0.hok.fresh (Nat.le_refl _), fun y c e => ?_, fun q hq => absurd (show q ∈ ([] : List (Addr × Obj)) ++ [] from hq) (by simp), e0.hok.kept kp, by rw [List.length_set]; exact I.len⟩
  · have hy : scope.names.lookup y = some .cell ∨ scope.names.lookup y = some .free := hy
    rcases hy with hy | hy
    · exact absurd rfl (L.own _ (PySem.mem_of_lookup hy)).2
    · exact look hy
  · have z : false = true := z
    cases z
  · have e3 : Vis scope y := e3
    have e1 : X.N[i]? = some y := e1
    by_cases hi : p = i
    · subst hi
      rw [hN] at e1
      cases e1
      have hp : p < σ.length := by
        rw [I.len]
        exact (List.getElem?_eq_some_iff.mp hN).1
      rw [List.getElem?_set_self hp] at e2
      cases e2
      refine ⟨u, ru, .inl ⟨L.par, ?_⟩⟩
      show ([(n, u)] : List (Str × Value)).reverse.lookup n = some u
      simp
    · rw [List.getElem?_set_ne hi] at e2
      have hyn : y ≠ n := fun z => hi (nodup_ix nd hN (by rw [← z]; exact e1))
      rcases e3 with k | k | k
      · exact absurd ((L.own _ (PySem.mem_of_lookup k)).1 rfl) hyn
      · exact absurd rfl (L.own _ (PySem.mem_of_lookup k)).2
      · obtain ⟨m, hn, hl⟩ := I.loc
        have hvis : Vis X.env.scope y := (L.free _ (PySem.mem_of_lookup k) rfl).elim (fun k => .inr (.inl k)) (fun k => .inr (.inr k))
        obtain ⟨w', r, q⟩ := hl i y v' e1 e2 hvis
        obtain ⟨c2, h2⟩ := look k
        refine ⟨w', r, .inr ⟨.inr k, c2, h2, ?_⟩⟩
        have c1 := cm h2
        rcases q with ⟨k', _⟩ | ⟨_, c3, e', z⟩
        · have k' : X.env.scope.names.lookup y = some .local := k'
          rcases L.free _ (PySem.mem_of_lookup k) rfl with k2 | k2 <;> rw [show X.env.scope.names.lookup y = _ from k2] at k' <;> cases k'
        · rw [c1] at e'
          cases e'
          exact cellK z
  · obtain ⟨w', z⟩ := I.cell y c (cm e)
    exact ⟨w', cellK z⟩
  · exact I.freeC y c (cm e)
/-- f(u), f such a lambda -/
theorem lam_call1 {A : Around} {f c' : Addr} {k p : Nat} {n : Str} {v : V} {u : Value} {pm ctv : Value} {params : Arguments} {body : Expr} {scope : Scope} {tb : TE} {Q : VK} {E : Value → Shared → Prop} (I : Inv X pins σ H s) (L : LamS1 n X.env.scope scope)
    (hf : s.heap.get? f = some (PySem.W.kla_obj "<lambda>" (X.env.qual ++ "<lambda>") params body scope (cloFrom X.env.cells scope.names []) pm c' ctv)) (hc : H c' = some (CodeO c' (X.env.qual ++ "<lambda>")))
    (hbind : bindArgs (PySem.W.kla_fn "<lambda>" (X.env.qual ++ "<lambda>") params body scope (cloFrom X.env.cells scope.names []) pm (.ref c') ctv) ⟨[u], []⟩ = pure [(n, u)])
    (e0 : Env0 X.prog X.w X.K X.mg X.base A X.stack s H) (hr : Room (k + 1) A) (hN : X.N[p]? = some n) (nd : X.N.Nodup) (ru : RelV v u)
    (hbody : Room k (A.deeper (lamEnv X scope s.heap.objs.size f c')) → PE (lamCx X A X.stack s H E0' scope f c') body tb) (ht : tb (σ.set p (some v)) H Q) :
    wpAny (model X.prog X.w) A (call (.ref f) [u]) (EP X pins σ Q) E s := by
  obtain ⟨⟨oc, vs, t, hoc, hdc, hvc⟩, _, _⟩ := I.hok c' _ hc
  have rc : codeAny (model X.prog X.w) A (.call (.ref f) ⟨[u], []⟩) (CR (L2.CX X.prog X.w) X.stack X.prog X.w H s Q E0') s := by
    refine PySem.W.kla_callFunE hr.depth hf rfl L.co L.gen rfl ⟨c', oc, vs, t, rfl, hoc, hdc, hvc⟩ ?_
    rw [hbind]
    refine wpAny_pure (wpAny_newFunctionEnv (fun y hy => (L.own y hy).2) (fun y hy => ?_) (fun h₁ hns hsb => ⟨I.nolimit.fresh _ hsb, ?_⟩) L.kind)
    · have hy' : y = (n, u) := by simpa using hy
      rw [hy']
      exact L.par
    show codeAny _ _ (.expr body (lamEnv X scope s.heap.objs.size f c')) _ _
    have kp : ∀ b o, s.heap.get? b = some o → h₁.get? b = some o := fun b o e => hsb.extBut b o (Nat.ne_of_lt (Heap.lt_size e)) (Heap.get?_push_of_some _ e)
    have J : Inv (lamCx X A X.stack s H E0' scope f c') [] (σ.set p (some v)) H { s with heap := h₁, toks := s.toks + ([(n, u)] : List (Str × Value)).length } := lam_start1 I L e0 hr.hd hN nd ru hns kp
    refine PySem.W.kla_codeExpr (wpAny_mono ((hbody (hr.deeper _)).run [] _ _ H Q J ht) (fun v s' hq => ?_) fun e s' hq => hq)
    obtain ⟨w', H', J', rv, q⟩ := hq
    exact ⟨w', H', J'.os, J'.bare, J'.base, J'.hok, rv, q⟩
  refine wpAny_call (codeAny_mono rc fun r s' hq => ?_)
  cases r with
  | error e =>
    have hq : L2.CX X.prog X.w X.stack H s E0' e s' := hq
    obtain ⟨_, _, _, _, _, _, _, _, _, _, _, _, z⟩ := hq
    exact z.elim
  | ok fl =>
    cases fl with
    | ret u => exact I.after hq
    | next => exact False.elim hq
    | brk => exact False.elim hq
    | cont => exact False.elim hq
end
end SP
end
section
set_option Elab.async false
set_option linter.all false
set_option autoImplicit false
set_option maxRecDepth 100000
set_option maxHeartbeats 4000000
/-! sorted(l, key=f) over an invariant of the turns -/
namespace PySem.W
open PySem PySem.Calls PyProof.Rows
section
variable {prog : Program} {w : World} {A : Around} {E : Value → Shared → Prop} {s : Shared} {a kS : Addr} {b : Bool} {vs : List Value} {keys : Array Value} {e e1 : Nat} {P : PySem.Fin → Shared → Prop} {kz : List PyData}
theorem keyJ_tail {st : SortSt} {out : List Value} (nk : s.heap.get? kS = some (seqObj "list" keys e)) (na : s.heap.get? a = some (seqObj "list" #[] e1)) (hka : kS ≠ a)
    (hsz : keys.size ≤ sizeLine) (hz : out.length ≤ sizeLine) (hfl : failedOf st = none) (ho : (if b = true then ((arrOf st).map (·.2)).reverse else (arrOf st).map (·.2)) = out.toArray)
    (h : P (.done (.ret .none)) { s with heap := (s.heap.update kS (Obj.mapSeq fun _ => (#[] : Array Value))).update a (Obj.mapSeq fun _ => out.toArray) }) :
    wpAny (model prog w) A (ksk_tail a b e1 (.ref kS) st) P E s := by
  have s1 := Heap.SameBut.update s.heap kS (Obj.mapSeq fun _ => (#[] : Array Value))
  have na1 : (s.heap.update kS (Obj.mapSeq fun _ => (#[] : Array Value))).get? a = some (seqObj "list" #[] e1) := (s1.2 a hka.symm).trans na
  have hz2 : out.toArray.size ≤ sizeLine + 1 := by
    rw [List.size_toArray]
    exact Nat.le_succ_of_le hz
  unfold ksk_tail
  try dsimp only
  rw [ho]
  refine wpAny_bind (listUpdate_at nk rfl ?_ hsz (Nat.zero_le _))
  refine wpAny_bind (wpAny_letGo ?_)
  refine wpAny_bind (seqEpoch_at na1 rfl ?_)
  refine wpAny_bind (listUpdate_at na1 rfl ?_ (Nat.zero_le _) hz2)
  rw [hfl]
  simp only [bne_self_eq_false, Bool.false_eq_true, if_false]
  exact wpAny_pure h
theorem keyJ_end {κ : PyProof.Rows.KeyKind} (nk : s.heap.get? kS = some (seqObj "list" keys e)) (na : s.heap.get? a = some (seqObj "list" #[] e1)) (hka : kS ≠ a)
    (S : SortsAt prog w A s κ keys.toList) (hsz : keys.size = vs.length) (hZ : vs.length ≤ sizeLine)
    (h : P (.done (.ret .none)) { s with heap := (s.heap.update kS (Obj.mapSeq fun _ => (#[] : Array Value))).update a (Obj.mapSeq fun _ => (sortVals κ b keys.toList vs).toArray) }) :
    wpAny (model prog w) A (ksk_end a b vs.toArray e1 (.ref kS) keys) P E s := by
  obtain ⟨kd, h1, h2⟩ := S.kind
  have hkl : keys.toList.length = vs.length := by
    rw [Array.length_toList]
    exact hsz
  have hK : PyProof.Rows.KeysOf κ (keys.zip vs.toArray) := keysOf_zip S.keys
  have hol : (sortVals κ b keys.toList vs).length = vs.length := sortVals_length b hkl
  have hstart : (if b = true then (keys.zip vs.toArray).reverse else keys.zip vs.toArray).Perm (keys.zip vs.toArray) := by
    cases b with
    | false => exact Array.Perm.refl _
    | true => exact Array.perm_iff_toList_perm.mpr (by rw [if_pos rfl, Array.toList_reverse]; exact List.reverse_perm _)
  have hss : (if b = true then (keys.zip vs.toArray).reverse else keys.zip vs.toArray).size = vs.length := by rw [hstart.size_eq, Array.size_zip, hsz, List.size_toArray, Nat.min_self]
  have fin : ∀ st' : SortSt, (arrOf st').Perm (if b = true then (keys.zip vs.toArray).reverse else keys.zip vs.toArray) → SortedToK κ (arrOf st') (if b = true then (keys.zip vs.toArray).reverse else keys.zip vs.toArray).size →
      Stable κ (arrOf st') (if b = true then (keys.zip vs.toArray).reverse else keys.zip vs.toArray) → (if b = true then ((arrOf st').map (·.2)).reverse else (arrOf st').map (·.2)) = (sortVals κ b keys.toList vs).toArray := by
    intro st' hp hs ht
    have e := sort_out (rev := b) (keys := keys) (items := vs.toArray) (xs := arrOf st') (κ := κ) hK hp hs ht
    have e' := congrArg List.toArray e
    rw [Array.toArray_toList] at e'
    exact e'
  have step : ∀ t : Sem PySem.Fin, wpAny (model prog w) A t P E s → wpAny (model prog w) A (if b = true then (do let _ ← rule "list.sort.reverse"; t) else t) P E s := by
    intro t ht
    split
    · exact wpAny_bind (wpAny_rule ht)
    · exact ht
  unfold ksk_end
  try dsimp only
  refine step _ ?_
  by_cases hl2 : vs.toArray.size < 2
  · rw [if_pos hl2, if_pos hl2]
    refine wpAny_bind (wpAny_pure ?_)
    rw [StateT.run_pure]
    refine wpAny_bind (wpAny_pure ?_)
    try dsimp only
    refine keyJ_tail (st := SortSt.mk' general' (if b = true then (keys.zip vs.toArray).reverse else keys.zip vs.toArray) #[] 7 none) nk na hka (by rw [hsz]; exact hZ) (by rw [hol]; exact hZ) rfl (fin _ (Array.Perm.refl _) ?_ (Stable.refl _)) h
    intro i j hij hj
    rw [hss] at hj
    rw [List.size_toArray] at hl2
    have : i = j := by omega
    subst this
    exact KeyOrd.kle_refl _
  · rw [if_neg hl2, if_neg hl2]
    rw [List.size_toArray] at hl2
    refine wpAny_bind (h2 (by omega) _ ?_)
    refine wpAny_bind (wpAny_mono (H.wpS_sortRunsSt (κ := κ) (kd := kd) (a₀ := if b = true then (keys.zip vs.toArray).reverse else keys.zip vs.toArray)
      (st := SortSt.mk' kd (if b = true then (keys.zip vs.toArray).reverse else keys.zip vs.toArray) #[] 7 none)
      (Q := fun _ st' => failedOf st' = none ∧ (if b = true then ((arrOf st').map (·.2)).reverse else (arrOf st').map (·.2)) = (sortVals κ b keys.toList vs).toArray)
      h1 (hK.perm hstart) ⟨Array.Perm.refl _, rfl, rfl⟩ rfl (Stable.refl _) (by rw [hss]; omega) fun st' a1 a2 a3 a4 => ⟨a2, fin st' a1 a3 a4⟩) ?_ fun _ _ e => e)
    rintro ⟨⟨⟩, st'⟩ s' ⟨rfl, hf, ho⟩
    try dsimp only at ho ⊢
    exact keyJ_tail nk na hka (by rw [hsz]; exact hZ) (by rw [hol]; exact hZ) hf ho h
theorem keyJ_rest {f : Value} (J : Nat → Shared → Prop) (h0 : J 0 s) (hsz : ∀ i s', J i s' → ∃ kA e, s'.heap.get? kS = some (seqObj "list" kA e)) (hZ : vs.length ≤ sizeLine)
    (turn : ∀ (i : Nat) (v : Value) (s' : Shared), vs[i]? = some v → J i s' → wpAny (model prog w) A (call f [v]) (fun k s'' => (∃ kA e, s''.heap.get? kS = some (seqObj "list" kA e) ∧ kA.size < sizeLine) ∧ J (i + 1) { s'' with heap := s''.heap.update kS (Obj.mapSeq (·.push k)) }) (fun _ _ => False) s')
    (done : ∀ kA e s', J vs.length s' → s'.heap.get? kS = some (seqObj "list" kA e) → wpAny (model prog w) A (ksk_end a b vs.toArray e1 (.ref kS) kA) P E s') :
    wpAny (model prog w) A (ksk_rest a f b vs.toArray e1 (.ref kS)) P E s := by
  unfold ksk_rest
  refine wpAny_bind (wpAny_rule ?_)
  first
    | rw [List.forIn_toArray]
    | (rw [← Array.forIn_toList]; simp only [List.toList_toArray])
    | rw [← Array.forIn_toList]
  refine wpAny_bind (ksk_fold (fun i s' => J i s') vs 0 s h0 ?step ?done)
  case step =>
    intro j x s' hx hJ
    simp only [Nat.zero_add] at hJ ⊢
    refine wpAny_bind (wpAny_attempt (wpAny_mono (turn j x s' hx hJ) (fun v s'' he => ?_) fun _ _ hF => hF.elim))
    obtain ⟨⟨kA, e, nk2, hz2⟩, hJ2⟩ := he
    try dsimp only
    refine wpAny_bind (listUpdate_at nk2 rfl ?_ (by omega) (by rw [Array.size_push]; omega))
    exact wpAny_pure ⟨rfl, hJ2⟩
  case done =>
    intro s' hJ
    have e3 : 0 + vs.length = vs.length := Nat.zero_add _
    rw [e3] at hJ
    obtain ⟨kA, e, nk⟩ := hsz _ _ hJ
    try dsimp only
    refine wpAny_bind (listItems_at nk rfl ?_)
    exact done kA e s' hJ nk
end
end PySem.W
end
section
set_option Elab.async false
set_option linter.all false
set_option autoImplicit false
set_option maxRecDepth 100000
set_option maxHeartbeats 4000000
namespace L2
open PySem PySem.Spec PyProof.Rows
section
variable {X : Cx} {pins : List (Addr × Obj)} {σ : St} {H : Hp} {s : Shared}
/-- an object of the frame's own is tracked from now on -/
theorem Inv.track {a : Addr} {o : HO} (I : Inv X pins σ H s) (hf : FpOk X pins H a) (hx : a ∉ X.ex) (new : ObjOk X.prog X.w (upd H a o) s.heap a o) : Inv X pins σ (upd H a o) s := by
  obtain ⟨hn, hL, hfs, h0, hC, hp⟩ := hf
  have h0 : X.s_0.heap.objs.size ≤ a := h0.elim (fun z => absurd z hx) id
  have n0 : ∀ b u, X.s_0.heap.get? b = some u → b ≠ a := fun b u e z => by
    have := Heap.lt_size e
    rw [z] at this
    exact Nat.lt_irrefl _ (Nat.lt_of_lt_of_le this h0)
  refine ⟨I.ok, I.os, I.bare, ⟨I.base.keep, I.base.slot, fun b u e n q => ?_, I.base.there, fun b xs e => ?_, fun b u v e => ?_, fun b ps e => ?_⟩, I.loc, I.cell, ?_, fun x c e => ?_, fun q hq => ?_, I.hok.laidN (fun _ _ e => e) hn new, I.len⟩
  · rw [upd_ne (n0 b u e)]
    exact I.base.free b u e n q
  · have z := I.base.tups b xs e
    rw [upd_ne (ne_of_none z hn)]
    exact z
  · have z := I.base.frzs b u v e
    rw [upd_ne (ne_of_none z hn)]
    exact z
  · obtain ⟨m, z⟩ := I.base.tbls b ps e
    exact ⟨m, by rw [upd_ne (ne_of_none z hn)]; exact z⟩
  · rw [upd_ne (Ne.symm hL)]
    exact I.free
  · rw [upd_ne (hC x c e)]
    exact I.freeC x c e
  · obtain ⟨e1, e2, e3⟩ := I.pin q hq
    exact ⟨e1, by rw [upd_ne (hp q hq)]; exact e2, e3⟩
end
end L2
end
section
set_option Elab.async false
set_option linter.all false
set_option autoImplicit false
set_option maxRecDepth 100000
set_option maxHeartbeats 4000000
namespace SP
open PySem PySem.Spec PyProof.Rows L2 LamX
section
variable {κ : Kx}
/-! ### a lambda was made: the world behind it -/
theorem HRel.lam {w : Wd} {S : Store} {H2 : Hp} {c' : Addr} {q : Str} (h : HRel κ w S) (eN : ExtN w.H H2) (T2 : Tabs κ.T H2) (hco : H2 c' = some (CodeO c' q)) : w.le ⟨w.A, fun b => w.F b ∨ b = c', H2⟩ ∧ HRel κ ⟨w.A, fun b => w.F b ∨ b = c', H2⟩ S := by
  have same : ∀ a, w.F a → H2 a = w.H a := fun a fa => by
    obtain ⟨o, e⟩ := h.fr a fa
    rw [e]
    exact eN a o e fun ps z => h.ntb a ps fa (by rw [e, z])
  have le : w.le ⟨w.A, fun b => w.F b ∨ b = c', H2⟩ := ⟨⟨[], by simp⟩, fun _ f => .inl f, same⟩
  refine ⟨le, T2, fun a ps f e => ?_, h.len, h.nd, fun a ha => ?_, fun a f => ?_, fun n c e => ?_⟩
  · rcases f with f | f
    · exact h.ntb a ps f ((same a f).symm.trans e)
    · subst f
      have e : H2 a = _ := e
      rw [hco] at e
      exact codeO_ne ps (Option.some.inj e)
  · obtain ⟨o, e, n⟩ := h.here a ha
    exact ⟨o, eN a o e n.2, n⟩
  · rcases f with f | f
    · obtain ⟨o, e⟩ := h.fr a f
      exact ⟨o, (same a f).trans e⟩
    · subst f
      exact ⟨_, hco⟩
  · obtain ⟨a, e1, e2, e3⟩ := h.cl n c e
    refine ⟨a, e1, ?_, ?_⟩
    · rintro (f | f)
      · exact e2 f
      · subst f
        cases c with
        | lst xs =>
          obtain ⟨vs, q1, _⟩ := e3
          have q2 := eN a _ q1 (fun _ => nofun)
          rw [hco] at q2
          cases q2
        | dct ks vs => exact e3
        | ins c fs =>
          obtain ⟨C, dx, gs, _, q1, _⟩ := e3
          have q2 := eN a _ q1 (fun _ => nofun)
          rw [hco] at q2
          cases q2
    · cases c with
      | lst xs =>
        obtain ⟨vs, q1, q2⟩ := e3
        exact ⟨vs, eN a _ q1 (fun _ => nofun), Reps.mono le.F le.H _ _ q2⟩
      | dct ks vs => exact e3
      | ins c fs =>
        obtain ⟨C, dx, gs, hc, q1, q2, f, hl, ds, h1, h2, h3, h4⟩ := e3
        have q2' := eN dx _ q2 (fun _ => nofun)
        refine ⟨C, dx, gs, hc, eN a _ q1 (fun _ => nofun), q2', ?_, hl, ds, h1, h2, h3, Reps.mono le.F le.H _ _ h4⟩
        rintro (z | z)
        · exact f z
        · subst z
          rw [hco] at q2'
          cases q2'
/-! ### the order -/
def pyP (b : Int × Int) : PyData := .tuple [.int b.1, .int b.2]
theorem keyPs_reps {F : Addr → Prop} {H : Hp} {K : PySem.W.Frag} : ∀ {ks : List D} {vs : List V} {ps : List (Int × Int)}, Reps κ F H ks vs → keyPs ks = some ps → DpAll K H vs (ps.map pyP)
  | [], _, _, r, e => by
    simp only [Reps] at r
    simp only [keyPs, Option.some.injEq] at e
    subst r e
    exact .nil
  | k :: ks, _, _, r, e => by
    simp only [Reps] at r
    obtain ⟨v, t, rfl, q, z⟩ := r
    simp only [keyPs, Option.bind_eq_some_iff, Option.map_eq_some_iff] at e
    obtain ⟨p, e1, ps, e2, rfl⟩ := e
    refine .cons ?_ (keyPs_reps z e2)
    unfold keyP at e1
    split at e1
    · rename_i i j
      cases e1
      exact rep_dp _ _ _ q (by simp [D.py, D.py.pys, pyP])
    · cases e1
theorem keyPs_len : ∀ {ks : List D} {ps : List (Int × Int)}, keyPs ks = some ps → ps.length = ks.length
  | [], ps, e => by
    simp only [keyPs, Option.some.injEq] at e
    subst e
    rfl
  | k :: ks, ps, e => by
    simp only [keyPs, Option.bind_eq_some_iff, Option.map_eq_some_iff] at e
    obtain ⟨p, e1, ps, e2, rfl⟩ := e
    simp [keyPs_len e2]
theorem leP_eq {β : Type} (k : β → Int × Int) : PySem.W.dataLe false (fun b => pyP (k b)) = fun p q => leP (k p) (k q) := by
  have := PySem.W.dataLe_ii (fun b => (k b).1) (fun b => (k b).2)
  show PySem.W.dataLe false (fun b => PyData.tuple [.int (k b).1, .int (k b).2]) = _
  rw [this]
  funext p q
  unfold leP
  by_cases h1 : (k p).1 < (k q).1 <;> by_cases h2 : (k p).1 = (k q).1 <;> by_cases h3 : (k p).2 ≤ (k q).2 <;> simp [h1, h2, h3]
theorem reps_of {F : Addr → Prop} {H : Hp} : ∀ {l : List ((Int × Int) × D × V)}, (∀ b ∈ l, Rep κ F H b.2.1 b.2.2) → Reps κ F H (l.map (·.2.1)) (l.map (·.2.2))
  | [], _ => by simp [Reps]
  | b :: l, h => .cons (h b (by simp)) (reps_of fun b hb => h b (by simp [hb]))
theorem zip_reps {F : Addr → Prop} {H : Hp} : ∀ {xs : List D} {vs : List V} {ps : List (Int × Int)}, Reps κ F H xs vs → ∀ b ∈ ps.zip (xs.zip vs), Rep κ F H b.2.1 b.2.2
  | [], _, ps, _, b, hb => by simp at hb
  | x :: xs, _, ps, r, b, hb => by
    simp only [Reps] at r
    obtain ⟨v, t, rfl, q, z⟩ := r
    cases ps with
    | nil => simp at hb
    | cons p ps =>
      simp only [List.zip_cons_cons, List.mem_cons] at hb
      rcases hb with rfl | hb
      · exact q
      · exact zip_reps z b hb
theorem each_zip {vs : List V} {its : List Value} : ∀ {ps : List (Int × Int)} {xs : List D}, Vals vs its → ps.length = vs.length → xs.length = vs.length → PySem.W.EachIs (fun v (b : (Int × Int) × D × V) => RelV b.2.2 v) its (ps.zip (xs.zip vs)) := by
  intro ps xs h
  induction h generalizing ps xs with
  | nil =>
    intro h1 h2
    cases ps with
    | nil => exact .nil
    | cons p ps => simp at h1
  | cons r t ih =>
    intro h1 h2
    cases ps with
    | nil => simp at h1
    | cons p ps => cases xs with
      | nil => simp at h2
      | cons x xs => exact .cons r (ih (by simpa using h1) (by simpa using h2))
theorem each_vals {out : List Value} {l : List ((Int × Int) × D × V)} (h : PySem.W.EachIs (fun v (b : (Int × Int) × D × V) => RelV b.2.2 v) out l) : Vals (l.map (·.2.2)) out := by
  induction h with
  | nil => exact .nil
  | cons r t ih => exact .cons r ih
theorem dpAll_each {X : Cx} {pins : List (Addr × Obj)} {σ : L2.St} {H : Hp} {s : Shared} (I : Inv X pins σ H s) : ∀ {ds : List PyData} {vs : List V} {us : List Value}, DpAll X.K H vs ds → Vals vs us → PySem.W.EachIs (fun v d => ∃ as, Reads s.heap v d as) us ds
  | [], _, _, h, r => by
    cases h
    cases r
    exact .nil
  | d :: ds, _, _, h, r => by
    cases h with
    | cons h1 h2 =>
      cases r with
      | cons r1 r2 => exact .cons (Dp.reads I d _ _ h1 r1) (dpAll_each I h2 r2)
theorem sortKD_some {ks xs : List D} {ys : List D} (h : sortKD ks xs = some ys) : ∃ ps, keyPs ks = some ps ∧ xs.length ≤ 1000000 ∧ ps.length = xs.length ∧ ys = ((ps.zip xs).mergeSort fun a b => leP a.1 b.1).map (·.2) := by
  unfold sortKD at h
  obtain ⟨ps, e1, h⟩ := Option.bind_eq_some_iff.mp h
  split at h
  · rename_i hh
    simp only [Bool.and_eq_true, decide_eq_true_eq] at hh
    cases h
    exact ⟨ps, e1, by have := hh.1; unfold lenOk at this; simpa using this, hh.2, rfl⟩
  · cases h
theorem zip3 : ∀ (ps : List (Int × Int)) (xs : List D) (vs : List V), xs.length = vs.length → (ps.zip (xs.zip vs)).map (fun b => (b.1, b.2.1)) = ps.zip xs
  | [], _, _, _ => by simp
  | p :: ps, [], _, _ => by simp
  | p :: ps, x :: xs, [], h => by simp at h
  | p :: ps, x :: xs, v :: vs, h => by simp [zip3 ps xs vs (by simpa using h)]
theorem sort3 {ps : List (Int × Int)} {xs : List D} {vs : List V} (h : xs.length = vs.length) : ((ps.zip (xs.zip vs)).mergeSort fun a b => leP a.1 b.1).map (·.2.1) = ((ps.zip xs).mergeSort fun a b => leP a.1 b.1).map (·.2) := by
  rw [← zip3 ps xs vs h, ← List.map_mergeSort (r := fun a b => leP a.1 b.1) (fun _ _ _ _ => rfl), List.map_map]
  rfl
end
end SP
end
section
set_option Elab.async false
set_option linter.all false
set_option autoImplicit false
set_option maxRecDepth 100000
set_option maxHeartbeats 4000000
namespace SP
open PySem PySem.Spec PyProof.Rows L2 LamX
abbrev onePar (n : Str) (ap : Pos) : Arguments := ⟨[], [⟨n, none, ap⟩], none, [], [], none, []⟩
theorem bind_one {n : Str} {ap : Pos} {q : Str} {body : Expr} {scope : Scope} {cl : List (Str × Addr)} {pm cv ctv u : Value} : bindArgs (PySem.W.kla_fn "<lambda>" q (onePar n ap) body scope cl pm cv ctv) ⟨[u], []⟩ = pure [(n, u)] := by
  have h0 : seqItems? Value.none = pure none := rfl
  unfold bindArgs
  simp [onePar, h0]
theorem dflt_one {n : Str} {ap : Pos} {env : PySem.Env} : defaultsOf (onePar n ap) env = ([], []) := rfl
def keyT (fk : Env → Store → R D) (p : Nat) (ρ : Env) : D → Store → R (Option D) := fun x S => (fk (ρ.set p (some x)) S).bind fun d S2 => (frzD d S2).bind fun y S3 => .ok (some y) S3
theorem keyT_ok {fk : Env → Store → R D} {p : Nat} {ρ : Env} {x : D} {S S1 : Store} {o : Option D} (h : keyT fk p ρ x S = .ok o S1) : ∃ d S2 y, fk (ρ.set p (some x)) S = .ok d S2 ∧ frzD d S2 = .ok y S1 ∧ o = some y := by
  unfold keyT at h
  cases e : fk (ρ.set p (some x)) S with
  | bad => rw [e] at h; cases h
  | ex c fs S' => rw [e] at h; cases h
  | ok d S2 =>
    rw [e] at h
    simp only [R.bind] at h
    cases e2 : frzD d S2 with
    | bad => rw [e2] at h; cases h
    | ex c fs S' => rw [e2] at h; cases h
    | ok y S3 =>
      rw [e2] at h
      simp only at h
      cases h
      exact ⟨d, S2, y, rfl, e2, rfl⟩
def sortF (fa fk : Env → Store → R D) (p : Nat) : Env → Store → R D := fun ρ S => (fa ρ S).bind fun x S1 => match rdD S1 x with
  | .lst xs => (compL (keyT fk p ρ) S1.length xs (S1 ++ [some (.lst [])])).noEx.bind fun _ S2 => (compE S1.length S2).bind fun ks S3 => match ks with
    | .lst ks => .opt S3 ((sortKD ks xs).map .lst)
    | _ => .bad
  | _ => .bad
section
variable {κ : Kx} {X : Cx} {pg : Pg} {k : Nat} {cf : Cf} {c : CC}
theorem lenOk_1000 {n : Nat} (h : n ≤ 1000000) : n ≤ sizeLine := lenOk_le (by unfold lenOk; exact decide_eq_true h)
theorem j_sortK {a body : Expr} {n : Str} {p : Nat} {x : Str} {ap p0 lpos kp pos : Pos} {scope : Scope} {fa fk : Env → Store → R D} (G : Good κ pg X c k cf) (hl : c.lam = true) (hx : x = "sorted") (hg : Gl X x) (hpl : plainX a = true) (ha : JE κ X a fa) (hN : X.N[p]? = some n) (hsc : lam1B n c.sc scope = true)
    (hbody : ∀ (s : Shared) (H : Hp) (f c' : Addr), Room (k + 6) (X.A.in1.in1.deeper (lamEnv X scope s.heap.objs.size f c')) → JE κ (lamCx X X.A.in1.in1 X.stack s H E0' scope f c') body fk) :
    JE κ X (.Call (.Name x p0) [a] [⟨some "key", .Lambda (onePar n ap) body scope lpos, kp⟩] pos) (sortF fa fk p) := fun W tk => ⟨fun pins s σ H Q I q => by
  subst hx
  have hm : X.mg "sorted" = none := G.lay.blt _ (by simp [bNames])
  have L : LamS1 n X.env.scope scope := lam1_by (by rw [G.sc]; exact hsc)
  obtain ⟨⟨cc, P, qn, rfl, hcode, TB, hmT, huT⟩, hexn⟩ := G.lam hl
  have hroom : Room (k + 9) X.A := by have := G.room; rw [hl] at this; exact this
  obtain ⟨w, ρ, S, rfl, hr, sr, af⟩ := q
  refine wpAny_Call_Name_kw (ld_blt I hg hm PyProof.Rows.boot_sorted ?_ (by decide) (by decide))
  have hpa : PA X [a] (tCons (tX κ W fa) tNil) := pa_cons (ha W tk) pa_nil (star_plain hpl)
  refine PyProof.Rows.callWith_kw (thn (hpa.run pos pins _ σ w.H (fun vs H1 => ∃ w1 S1 d v, vs = [v] ∧ w1.H = H1 ∧ w.le w1 ∧ HRel κ w1 S1 ∧ RepL κ w1 d v ∧ Aft κ W σ w1 (match rdD S1 d with
      | .lst xs => (compL (keyT fk p ρ) S1.length xs (S1 ++ [some (.lst [])])).noEx.bind fun _ S2 => (compE S1.length S2).bind fun ks S3 => match ks with
        | .lst ks => .opt S3 ((sortKD ks xs).map .lst)
        | _ => .bad
      | _ => .bad) (Fin_ κ Q)) I (tX_bind hr sr af fun w1 S1 d1 v1 le1 hr1 _ r1 a1 => ⟨w1, S1, d1, v1, rfl, rfl, le1, hr1, r1, a1⟩)) fun us s1 hh => ?_) (by rw [star_plain hpl] <;> rfl) (by rw [star_plain hpl] <;> rfl) (by rfl) (by rfl)
  obtain ⟨vs0, H1, I1, rv0, w1, S1, d1, v1, rfl, rfl, le1, hr1, r1, a1⟩ := hh
  show wpAny _ _ (evalAll [do let v ← eval (.Lambda (onePar n ap) body scope lpos) X.env; standAt pos; pure v]) _ _ s1
  refine wpAny_evalAll_cons (wpAny_bind (lam_make2 I1 TB hcode hmT huT hr1.tab dflt_one (L.has I1.ok) fun f c' pm ctv H2 s2 I2 eN T2 hf hfn hfr hco => wpAny_bind (wpAny_standAt (wpAny_pure ?_))))
  refine wpAny_evalAll_nil ?_
  show wpAny _ _ (call (.builtin "sorted") us [(Str.ofString "key", .ref f)]) _ _ s2
  -- the world behind the lambda
  obtain ⟨le2', hr2'⟩ := hr1.lam eN T2 hco
  obtain ⟨w2, hw2⟩ : ∃ w2 : Wd, w2 = ⟨w1.A, fun b => w1.F b ∨ b = c', H2⟩ := ⟨_, rfl⟩
  have le2 : w1.le w2 := by rw [hw2]; exact le2'
  have hr2 : HRel κ w2 S1 := by rw [hw2]; exact hr2'
  have hH2 : w2.H = H2 := by rw [hw2]
  have hFc : w2.F c' := by rw [hw2]; exact .inr rfl
  have hco2 : w2.H c' = some (CodeO c' (X.env.qual ++ "<lambda>")) := by rw [hH2]; exact hco
  rw [← hH2] at I2 hfn
  clear le2' hr2' hco eN T2
  -- the list
  have r2 := r1.mono le2
  have sl := see_rd hr2 r2
  cases e0 : rdD S1 d1 with
  | lst xs =>
    rw [e0] at a1 sl
    simp only at a1
    obtain ⟨la, vsV, rfl, hla, rr⟩ := sl.lst
    obtain rfl := Vals.ref1 rv0
    obtain ⟨its, rv, pl, hz⟩ := I2.list (SqL.of hla)
    have hzi : its.length ≤ sizeLine := by rw [← rv.length]; exact hz
    refine PySem.W.sorted_of_sort pl.isList hzi (PyProof.Rows.ksk_s1 _ _) (fun _ => PyProof.Rows.ksk_l1 _ _) fun E' => ?_
    rw [PyProof.Rows.ksk_t1]
    -- the objects that list.sort lays
    obtain ⟨sa, hsa⟩ : ∃ sa, sa = s2.heap.objs.size + 1 := ⟨_, rfl⟩
    rw [← hsa]
    have hsaN : @Eq Nat sa (s2.heap.objs.size + 1) := hsa
    have ho : (PySem.W.copyHeap s2.heap its).get? sa = some (seqObj "list" its.toArray 0) := by rw [hsa]; exact PySem.W.copyHeap_at s2.heap its
    obtain ⟨h1, hh1⟩ : ∃ h1, h1 = (PySem.W.copyHeap s2.heap its).update sa (Obj.mapSeq fun _ => (#[] : Array Value)) := ⟨_, rfl⟩
    obtain ⟨e1, ho1⟩ : ∃ e1, h1.get? sa = some (seqObj "list" #[] e1) := by rw [hh1]; exact ⟨_, get?_update_seq ho fun _ => #[]⟩
    have k1 : ∀ b o, s2.heap.get? b = some o → h1.get? b = some o := fun b o e => by
      have hlt : @LT.lt Nat instLTNat b s2.heap.objs.size := Heap.lt_size e
      rw [hh1, Heap.get?_update_ne _ _ _ _ (fun z => by have z' : @Eq Nat b sa := z; omega)]
      exact PySem.W.copyHeap_old e
    have hs1 : s2.heap.objs.size + 2 ≤ h1.objs.size := by
      have h4 : @LT.lt Nat instLTNat sa (PySem.W.copyHeap s2.heap its).objs.size := Heap.lt_size ho
      rw [hh1, Heap.size_update]
      omega
    unfold PyProof.Rows.ksk_tree
    refine wpAny_bind (listItems_at ho rfl ?_)
    refine wpAny_bind (listUpdate_at ho rfl ?_ (by rw [List.size_toArray]; exact hzi) (Nat.zero_le _))
    rw [← hh1]
    refine wpAny_bind (seqEpoch_at ho1 rfl ?_)
    refine wpAny_bind (wpAny_newTuple ?_ (by show its.length ≤ _; exact hzi))
    refine wpAny_bind (wpAny_newList ?_ (Nat.zero_le _))
    refine wpAny_holding ?_
    obtain ⟨h2, hh2⟩ : ∃ h2, h2 = h1.push (seqObj "tuple" its.toArray 0) := ⟨_, rfl⟩
    obtain ⟨kS, hkS⟩ : ∃ kS : Addr, kS = h2.objs.size := ⟨_, rfl⟩
    have hkSN : @Eq Nat kS h2.objs.size := hkS
    obtain ⟨h3, hh3⟩ : ∃ h3, h3 = h2.push (seqObj "list" #[] 0) := ⟨_, rfl⟩
    show wpAny (model X.prog X.w) X.A.in1.in1 (PyProof.Rows.ksk_rest sa (.ref f) false its.toArray e1 (.ref (h1.push (seqObj "tuple" its.toArray 0)).objs.size)) _ _ { s2 with heap := (h1.push (seqObj "tuple" its.toArray 0)).push (seqObj "list" #[] 0) }
    rw [← hh2, ← hkS, ← hh3]
    have k3 : ∀ b o, h1.get? b = some o → h3.get? b = some o := fun b o e => by rw [hh3, hh2]; exact Heap.get?_push_of_some _ (Heap.get?_push_of_some _ e)
    have hS2 : h2.objs.size = h1.objs.size + 1 := by rw [hh2]; exact Heap.size_push ..
    have hgk : h3.get? kS = some (seqObj "list" #[] 0) := by rw [hh3, hkS]; exact Heap.get?_push_size _ rfl
    have hsk : sa ≠ kS := fun z => by have z' : @Eq Nat sa kS := z; omega
    have hkn : w2.H kS = none := I2.hok.fresh (by omega)
    have hsn : w2.H sa = none := I2.hok.fresh (by omega)
    have I3 : Inv X pins σ (upd w2.H kS (.lst [])) { s2 with heap := h3 } := I2.laid (t' := s2.toks) (fun b o e => k3 b o (k1 b o e)) (by omega) ⟨Nat.zero_le _, [], 0, .nil, hgk⟩
    have hfg : s2.heap.get? f = _ := hf
    have hfk : f ≠ kS := fun z => by
      have z' : @Eq Nat f kS := z
      have h4 : @LT.lt Nat instLTNat f s2.heap.objs.size := Heap.lt_size hf
      omega
    have hfs : f ≠ sa := fun z => by
      have z' : @Eq Nat f sa := z
      have h4 : @LT.lt Nat instLTNat f s2.heap.objs.size := Heap.lt_size hf
      omega
    have fpS : FpOk X pins w2.H sa := I2.fpOk (by omega) hsn
    have hex : sa ∉ X.ex := by rw [hexn]; exact fun z => absurd z (by simp)
    obtain ⟨pins', hpins⟩ : ∃ pins' : List (Addr × Obj), pins' = (f, PySem.W.kla_obj "<lambda>" (X.env.qual ++ "<lambda>") (onePar n ap) body scope (cloFrom X.env.cells scope.names []) pm c' ctv) :: (sa, seqObj "list" #[] e1) :: pins := ⟨_, rfl⟩
    have I3' : Inv X pins' σ (upd w2.H kS (.lst [])) { s2 with heap := h3 } := I3.pins_of fun q hq => by
      rw [hpins] at hq
      rcases List.mem_cons.mp hq with rfl | hq
      · refine ⟨k3 _ _ (k1 _ _ hf), by rw [upd_ne hfk]; exact hfn, fun z => ?_, fun z => ?_, fun v z => by cases z⟩
        · obtain ⟨m, ⟨o, es, ep, ho', hd', _⟩, _⟩ := I2.loc
          rw [← z] at ho'
          rw [hf] at ho'
          cases ho'
          cases hd'
        · rcases I2.ok.stk with e | ⟨e, e'⟩
          · rw [e] at hfr
            exact hfr z
          · rw [e] at hfr
            refine hfr ?_
            unfold frs
            rw [List.filterMap_cons, e']
            exact List.mem_cons_of_mem _ z
      rcases List.mem_cons.mp hq with rfl | hq
      · exact ⟨k3 _ _ ho1, by rw [upd_ne hsk]; exact hsn, fpS.2.1, fpS.2.2.1, fun v z => by cases z⟩
      · exact I3.pin q (List.mem_append_right _ hq)
    have hmf : (f, PySem.W.kla_obj "<lambda>" (X.env.qual ++ "<lambda>") (onePar n ap) body scope (cloFrom X.env.cells scope.names []) pm c' ctv) ∈ X.pn ++ pins' := List.mem_append_right _ (by rw [hpins]; simp)
    have hms : (sa, seqObj "list" #[] e1) ∈ X.pn ++ pins' := List.mem_append_right _ (by rw [hpins]; simp)
    have hsub : ∀ q ∈ pins, q ∈ pins' := fun q hq => by rw [hpins]; simp [hq]
    have c0 : CellR κ (w2.cell kS (.lst [])) (.lst []) kS := ⟨[], upd_same, .nil⟩
    have hr3 := hr2.cell hkn c0
    have le3 : w2.le (w2.cell kS (.lst [])) := hr2.le_cell hkn _
    have hA3 : ∀ {w4 : Wd}, (w2.cell kS (.lst [])).le w4 → w4.A[S1.length]? = some kS := fun {w4} le => by
      obtain ⟨l, el⟩ := le.A
      rw [el]
      show ((w2.A ++ [kS]) ++ l)[S1.length]? = some kS
      rw [← hr2.len, List.getElem?_append_left (by simp), List.getElem?_append_right (Nat.le_refl _)]
      simp
    have cellAt : ∀ {w4 : Wd} {S4 : Store} {acc : List D}, (w2.cell kS (.lst [])).le w4 → HRel κ w4 S4 → S4[S1.length]? = some (some (.lst acc)) → ¬ w4.F kS ∧ ∃ us, w4.H kS = some (.lst us) ∧ Reps κ w4.F w4.H acc us := fun {w4 S4 acc} le hr4 e => by
      obtain ⟨b, g1, g2, us, g3, g4⟩ := hr4.cl _ _ e
      rw [hA3 le] at g1
      cases g1
      exact ⟨g2, us, g3, g4⟩
    have hlx : vsV.length = xs.length := rr.length
    have srw : SRel κ w2 ρ σ := (sr.mono le1).mono le2
    -- the turns
    refine PySem.W.keyJ_rest (fun i s' => ∃ w4 S4 acc, (w2.cell kS (.lst [])).le w4 ∧ Inv X pins' σ w4.H s' ∧ HRel κ w4 S4 ∧ S4[S1.length]? = some (some (.lst acc)) ∧ Aft κ W σ w1 ((compL (keyT fk p ρ) S1.length (xs.drop i) S4).noEx.bind fun _ S2 => (compE S1.length S2).bind fun ks S3 => match ks with
        | .lst ks => .opt S3 ((sortKD ks xs).map .lst)
        | _ => .bad) (Fin_ κ Q)) ⟨w2.cell kS (.lst []), S1 ++ [some (.lst [])], [], .refl _, I3', hr3, by simp, by rw [List.drop_zero]; exact a1⟩ ?hsz hzi ?turn ?done
    case hsz =>
      rintro i s' ⟨w4, S4, acc, le4, I4, hr4, hacc, _⟩
      obtain ⟨_, us, hus, _⟩ := cellAt le4 hr4 hacc
      obtain ⟨_, its4, e4, _, _, g⟩ := I4.lstM hus
      exact ⟨_, _, g⟩
    case turn =>
      rintro i v s' hv ⟨w4, S4, acc, le4, I4, hr4, hacc, a4⟩
      have hlt : i < its.length := (List.getElem?_eq_some_iff.mp hv).1
      have hltx : i < xs.length := by rw [← hlx, rv.length]; exact hlt
      obtain ⟨dx, vx, ex, evx, rx⟩ := get_ok rr hltx
      obtain ⟨u', hu', ru'⟩ := rv.get evx
      rw [hv] at hu'
      cases hu'
      have edrop : xs.drop i = dx :: xs.drop (i + 1) := by
        rw [List.drop_eq_getElem_cons hltx]
        have := List.getElem?_eq_getElem hltx
        rw [ex] at this
        cases this
        rfl
      rw [edrop] at a4
      obtain ⟨o, S5, e5, hs5, hn5⟩ := compL_cons a4
      obtain ⟨dk, S6, y, e6, e7, rfl⟩ := keyT_ok e5
      obtain ⟨acc5, hacc5, hlen5, a5⟩ := hs5 y rfl
      have le24 : w2.le w4 := le3.trans le4
      have hf4 := (I4.pin _ hmf).1
      have hc4 : w4.H c' = some (CodeO c' (X.env.qual ++ "<lambda>")) := (le24.H c' hFc).trans hco2
      have rm1 : Room (k + 7) X.A.in1.in1 := Room.in1 (k := k + 7) (Room.in1 (k := k + 8) hroom)
      refine wpAny_mono (lam_call1 (Q := fun v' H' => ∃ w6 S6', w6.H = H' ∧ w4.le w6 ∧ HRel κ w6 S6' ∧ S6' = S5 ∧ Rep κ w6.F w6.H y v') I4 L hf4 hc4 bind_one (I4.env0.in1.in1) rm1 hN G.nd ru' (fun hrm => (hbody s' w4.H f c' hrm) WF takes0) ?_) (fun kv s'' hk => ?_) (fun _ _ h => h)
      · refine ⟨w4, ρ.set p (some dx), S4, rfl, hr4, (srw.mono le24).set (Rep.toL (Rep.mono le24.F le24.H _ _ rx)) p, ?_⟩
        rw [e6]
        intro w5 le5 hr5 v' rv'
        obtain ⟨w6, le6, eH6, hr6, r6⟩ := frz_ok hr5 rv' e7
        exact ⟨w6, S5, eH6, le5.trans le6, hr6, rfl, r6⟩
      · obtain ⟨v', H', I5, rv5, w6, S6', rfl, le6, hr6, rfl, r6⟩ := hk
        have le36 : (w2.cell kS (.lst [])).le w6 := le4.trans le6
        obtain ⟨nF, us, hus, rus⟩ := cellAt le36 hr6 hacc5
        obtain ⟨hz5, its5, n5, rv5', hl5, g5⟩ := I5.lstM hus
        have hlacc : us.length = acc5.length := rus.length
        have hlen' : acc5.length + 1 ≤ sizeLine := lenOk_le hlen5
        refine ⟨⟨its5.toArray, n5, g5, by rw [List.size_toArray, ← hl5]; omega⟩, ?_⟩
        have lw := Wd.le_write (w := w6) (HO.lst (us ++ [v'])) nF
        refine ⟨w6.write kS (.lst (us ++ [v'])), _, acc5 ++ [y], le36.trans lw, I5.lset (its' := its5 ++ [kv]) (t' := s''.toks) hus g5 (by simp) (rv5'.append (.cons rv5 .nil)) (by rw [List.length_append]; show us.length + 1 ≤ _; omega), hr6.write (hA3 le36) nF hus (c := .lst (acc5 ++ [y])) ⟨_, upd_same, Reps.mono lw.F lw.H _ _ (rus.append (.cons r6 .nil))⟩, ?_, a5⟩
        exact List.getElem?_set_self (List.getElem?_eq_some_iff.mp hacc5).1
    case done =>
      rintro kA e s' ⟨w4, S4, acc, le4, I4, hr4, hacc, a4⟩ nk
      have le24 : w2.le w4 := le3.trans le4
      have ed : xs.drop its.length = [] := List.drop_eq_nil_of_le (by rw [← hlx, rv.length]; exact Nat.le_refl _)
      rw [ed] at a4
      have a5 : Aft κ W σ w1 ((compE S1.length S4).bind fun ks S3 => match ks with
        | .lst ks => .opt S3 ((sortKD ks xs).map .lst)
        | _ => .bad) (Fin_ κ Q) := a4
      unfold compE at a5
      rw [hacc] at a5
      have a6 : Aft κ W σ w1 (.opt (S4.take S1.length) ((sortKD acc xs).map .lst)) (Fin_ κ Q) := a5
      cases es : sortKD acc xs with
      | none => rw [es] at a6; exact a6.elim
      | some ys =>
        rw [es] at a6
        obtain ⟨ps, hps, hx1, hx2, rfl⟩ := sortKD_some es
        obtain ⟨nF, us, hus, rus⟩ := cellAt le4 hr4 hacc
        obtain ⟨hz4, its4, n4, rv4, hl4, g4⟩ := I4.lstM hus
        rw [g4] at nk
        have ekA : its4.toArray = kA := by
          have := congrArg Obj.data (Option.some.inj nk)
          injection this
        subst ekA
        have hus2 : us.length = its.length := by
          rw [rus.length, ← keyPs_len hps, hx2, ← hlx, rv.length]
        have hps2 : ps.length = vsV.length := by rw [hx2, hlx]
        have hkz : PySem.W.EachIs (fun v d => ∃ as, Reads s'.heap v d as) its4.toArray.toList (ps.map pyP) := by
          have := dpAll_each I4 (keyPs_reps (K := X.K) rus hps) rv4
          simpa using this
        have hal : PySem.W.AllAlike (ps.map pyP) := PySem.W.AllAlike.of fun b b' => by rfl
        have hskt : PySem.W.Sortable (ps.map pyP) := PySem.W.Sortable.tuples fun b => ⟨_, _, rfl⟩
        have hbs : (ps.zip (xs.zip vsV)).map (fun b => pyP b.1) = ps.map pyP := by
          have : (ps.zip (xs.zip vsV)).map Prod.fst = ps := by
            rw [List.map_fst_zip]
            rw [List.length_zip]
            omega
          rw [← this, List.map_map]
          rw [this]
          rfl
        have sa4 := I4.pin _ hms
        have hk4 : kS ≠ sa := Ne.symm hsk
        refine PySem.W.keyJ_end g4 sa4.1 hk4 (PySem.W.SortsAt.data (s := s') hkz hal hskt fun d hd => ?_) (by rw [List.size_toArray, ← hl4]; exact hus2) hzi ⟨rfl, ?_⟩
        · obtain ⟨b, _, rfl⟩ := List.mem_map.mp hd
          have := hroom.un
          show X.A.units + 1 + 1 + PyData.depth (pyP b) < _
          have hd : PyData.depth (pyP b) ≤ 2 := by simp [pyP, PyData.depth, PyData.depthAll]
          omega
        · -- the sorted list
          obtain ⟨out, hout⟩ : ∃ out, out = PySem.W.sortVals (PySem.W.dataKind s'.heap (ps.map pyP)) false its4.toArray.toList its := ⟨_, rfl⟩
          rw [← hout]
          have hko : PySem.W.KeyedOut false ((ps.zip (xs.zip vsV)).map fun b => pyP b.1) its out := ⟨s'.heap, its4.toArray.toList, by rw [hbs]; exact hal, by rw [hbs]; exact hout, by rw [hbs]; exact hkz⟩
          have hR := each_zip (its := its) (ps := ps) (xs := xs) rv hps2 hlx.symm
          have hE := PySem.W.keyedOut_each (fun b => pyP b.1) hko hR
          rw [leP_eq (fun b : (Int × Int) × D × V => b.1)] at hE
          have hV := each_vals hE
          have hlo : out.length = its.length := by
            rw [hout]
            exact PySem.W.sortVals_length false (by rw [Array.length_toList, List.size_toArray, ← hl4]; exact hus2)
          -- the worlds
          have lw := Wd.le_write (w := w4) (HO.lst ([] : List V)) nF
          have hr5 := hr4.write (hA3 le4) nF hus (us := []) (c := .lst []) ⟨[], upd_same, .nil⟩
          have I5 : Inv X pins' σ (upd w4.H kS (.lst [])) { s' with heap := s'.heap.update kS (Obj.mapSeq fun _ => (#[] : Array Value)) } := I4.lset (its' := []) (t' := s'.toks) hus g4 (by simp) .nil (Nat.zero_le _)
          have I5' : Inv X pins σ (upd w4.H kS (.lst [])) { s' with heap := s'.heap.update kS (Obj.mapSeq fun _ => (#[] : Array Value)) } := I5.pins_of fun q hq => I5.pin q (List.mem_append_right _ (hsub q hq))
          have hsn5 : (upd w4.H kS (.lst [])) sa = none := by rw [upd_ne hsk]; exact sa4.2.1
          have g5 : (s'.heap.update kS (Obj.mapSeq fun _ => (#[] : Array Value))).get? sa = some (seqObj "list" #[] e1) := (Heap.get?_update_ne _ _ _ _ hsk).trans sa4.1
          obtain ⟨ne, g6⟩ : ∃ ne, ((s'.heap.update kS (Obj.mapSeq fun _ => (#[] : Array Value))).update sa (Obj.mapSeq fun _ => out.toArray)).get? sa = some (seqObj "list" out.toArray ne) := ⟨_, get?_update_seq g5 fun _ => out.toArray⟩
          have fp5 : FpOk X pins (upd w4.H kS (.lst [])) sa := ⟨hsn5, fpS.2.1, fpS.2.2.1, fpS.2.2.2.1, fpS.2.2.2.2.1, fpS.2.2.2.2.2⟩
          have hnx : sa ∉ X.ex := hex
          have I6 : Inv X pins σ (upd w4.H kS (.lst [])) { s' with heap := (s'.heap.update kS (Obj.mapSeq fun _ => (#[] : Array Value))).update sa (Obj.mapSeq fun _ => out.toArray) } :=
            Inv.turned (s := { s' with heap := s'.heap.update kS (Obj.mapSeq fun _ => (#[] : Array Value)) }) (t' := s'.toks) (it := sa) I5' (fun b o hb e => (Heap.get?_update_ne _ _ _ _ hb).trans e) hsn5 fpS.2.1 fpS.2.2.2.1 fpS.2.2.2.2.1 fpS.2.2.2.2.2
          have hVl : (((ps.zip (xs.zip vsV)).mergeSort fun a b => leP a.1 b.1).map (·.2.2)).length ≤ sizeLine := by
            rw [hV.length, hlo]
            exact hzi
          have I7 := I6.track (o := .lst (((ps.zip (xs.zip vsV)).mergeSort fun a b => leP a.1 b.1).map (·.2.2))) fp5 hnx ⟨hVl, out, ne, hV, g6⟩
          have hr6 := hr5.tree (p := sa) hsn5 (.lst (((ps.zip (xs.zip vsV)).mergeSort fun a b => leP a.1 b.1).map (·.2.2)))
          have le6 := hr5.le_tree (p := sa) hsn5 (.lst (((ps.zip (xs.zip vsV)).mergeSort fun a b => leP a.1 b.1).map (·.2.2)))
          refine ⟨.ref sa, _, I7, rfl, ?_⟩
          have hrr : Reps κ w4.F w4.H (((ps.zip (xs.zip vsV)).mergeSort fun a b => leP a.1 b.1).map (·.2.1)) (((ps.zip (xs.zip vsV)).mergeSort fun a b => leP a.1 b.1).map (·.2.2)) := reps_of fun b hb => by
            have hb2 : b ∈ ps.zip (xs.zip vsV) := (List.mergeSort_perm _ _).mem_iff.mp hb
            exact Rep.mono le24.F le24.H _ _ (zip_reps rr b hb2)
          obtain ⟨l, el⟩ := le4.A
          have htk : ((w4.write kS (HO.lst [])).tree sa (.lst (((ps.zip (xs.zip vsV)).mergeSort fun a b => leP a.1 b.1).map (·.2.2)))).A.take S1.length = w2.A := by
            show w4.A.take S1.length = _
            rw [el]
            show ((w2.A ++ [kS]) ++ l).take S1.length = w2.A
            rw [List.append_assoc]
            exact take_app hr2.len
          have hrz := hr6.take S1.length _ (fun _ z => z) (fun _ z => .inl z) (fun _ z => .inl z) (fun _ _ z => .inl z)
          have lez : w1.le ⟨((w4.write kS (HO.lst [])).tree sa (.lst (((ps.zip (xs.zip vsV)).mergeSort fun a b => leP a.1 b.1).map (·.2.2)))).A.take S1.length, ((w4.write kS (HO.lst [])).tree sa (.lst (((ps.zip (xs.zip vsV)).mergeSort fun a b => leP a.1 b.1).map (·.2.2)))).F, ((w4.write kS (HO.lst [])).tree sa (.lst (((ps.zip (xs.zip vsV)).mergeSort fun a b => leP a.1 b.1).map (·.2.2)))).H⟩ :=
            let le16 := ((le2.trans le24).trans lw).trans le6
            ⟨by rw [htk]; exact le2.A, le16.F, le16.H⟩
          have hset : (S4.set S1.length (some (.lst []))).take S1.length = S4.take S1.length := by
            rw [List.take_set]
            exact List.set_eq_of_length_le (by rw [List.length_take]; omega)
          rw [hset] at hrz
          refine a6 _ lez hrz (.ref sa) ?_
          show Rep κ _ _ (.lst _) (.ref sa)
          rw [← sort3 hlx.symm]
          simp only [Rep]
          refine ⟨sa, _, rfl, .inr rfl, upd_same, ?_⟩
          exact Reps.mono (fun b z => (lw.trans le6).F b z) (fun b z => (lw.trans le6).H b z) _ _ hrr
  | _ => rw [e0] at a1; exact a1.elim⟩
end
end SP
end
section
set_option Elab.async false
set_option linter.all false
set_option autoImplicit false
set_option maxRecDepth 100000
set_option maxHeartbeats 3200000
namespace L2
open PySem PySem.Spec PyProof.Rows
/-- a set just made -/
abbrev setO0 (w : World) : Obj := { cls := .type "set", dict := none, data := .set #[] 0 (.fresh 0 0 (!w.params.followText "set-order")) }
section
variable {P : Program} {w : World} {A : Around} {E : Value → Shared → Prop} {s : Shared}
theorem call_set_lstI {l : Addr} {items : Array Value} (ns : List Int) {Q : Value → Shared → Prop} (hh : A.handled = none) (hl : s.heap.IsList l items) (ei : IntsAre items.toList ns) (hb : ns.length + 1 < scanBound)
    (h : ∀ (h' : Heap) (tk c : Nat), SetR w h' s.heap.objs.size (fun j => decide (j ∈ ns)) c → c ≤ ns.length → (∀ b o, s.heap.get? b = some o → h'.get? b = some o) → Q (.ref s.heap.objs.size) { s with heap := h', toks := tk }) :
    wpAny (model P w) A (call (.type "set") [.ref l]) Q E s := by
  have zsz : items.size = ns.length := by
    have q := IntsAre.length ei
    rw [Array.length_toList] at q
    exact q
  obtain ⟨c, tl, hmro⟩ := F.called_set.mro
  have md := F.called_set.made
  have sb := F.called_set.sub
  refine wpAny_call (codeAny_of_tree ?_)
  show wpAny _ _ (callAny (.type "set") _) _ _ _
  refine wpAny_pure ⟨Code.quiet_builtin _ (by decide +kernel), codeAny_builtin F.entry_type_call ?_⟩
  rw [Around.under_plain (weight_type_call_type "set" [.ref l] []) rfl]
  have h1 := F.called_set.notType
  have h2 := F.called_set.canCreate
  have tc1 := F.typeCall_set_1 (.ref l)
  repeat (any_goals (first | assumption | wp_step))

  refine codeAny_mono (code_set_led1 (.ref l) (E := E) (Q₁ := fun obj s₁ => obj = .ref s.heap.objs.size ∧ s₁ = { s with heap := s.heap.push (setO0 w) }) ⟨rfl, rfl⟩) fun r s₁ hr => ?_
  cases r with
  | error e => exact hr
  | ok fl =>
    cases fl with
    | ret obj =>
      obtain ⟨rfl, rfl⟩ := hr
      have hS : (s.heap.push (setO0 w)).get? s.heap.objs.size = some (setO0 w) := Heap.get?_push_size _ rfl
      have hT : Shared.TypeIs { s with heap := s.heap.push (setO0 w) } (.ref s.heap.objs.size) "set" := ⟨_, hS, rfl⟩
      have li1 := F.called_set.init.lookup
      have bi1 := F.called_set.init.bind (.ref s.heap.objs.size)
      repeat (any_goals (first | assumption | wp_step))

      refine codeAny_mono (codeAny_call_builtin (R := wants (fun r s₂ => r = .none ∧ ∃ h' tk c, s₂ = { s with heap := h', toks := tk } ∧ SetR w h' s.heap.objs.size (fun j => decide (j ∈ ns)) c ∧ c ≤ ns.length ∧
          (∀ b o, s.heap.get? b = some o → h'.get? b = some o)) E) F.called_set.init.plain F.entry_set_init (check_set_init_1 hT ?_)) fun r₂ s₂ hr₂ => ?_
      · obtain ⟨ol, ol0, hcl, nl, hdl⟩ := hl
        obtain ⟨ocls, odict, odata, oslots⟩ := ol
        simp only at hcl hdl
        subst hcl; subst hdl
        have ol1 : (s.heap.push (setO0 w)).get? l = some { cls := .type "list", dict := odict, data := .seq items nl, slots := oslots } := Heap.get?_push_of_some _ ol0
        have hsls := F.sub_list_set
        have hslf := F.sub_list_frozenset
        have hne : (Value.type "list" == Value.type "dict") = false := by decide
        have hl1 : (s.heap.push (setO0 w)).IsList l items := ⟨_, ol1, rfl, nl, rfl⟩
        unfold Builtin.«set.__init__» noKeywords Builtin.Frozenset.updateFrom
        generalize hPI : pyIter = PI
        wp_walk
        subst hPI

        refine wpAny_pyIter_list hl1 ?_
        refine wpAny_bind (wpAny_runValue ?_)
        have lS : l < s.heap.objs.size := Heap.lt_size ol0
        have h3n : A.in1.in1.in1.handled = none := by simp [hh]
        have z1 : (s.heap.push (setO0 w)).objs.size = s.heap.objs.size + 1 := Heap.size_push ..
        have nI : l ≠ (s.heap.push (setO0 w)).objs.size := by
          rw [Heap.size_push]; exact Nat.ne_of_lt (Nat.lt_succ_of_lt lS)
        have nS : s.heap.objs.size ∉ [(s.heap.push (setO0 w)).objs.size, l] := by
          rw [Heap.size_push]; simp only [List.mem_cons, List.mem_singleton, List.not_mem_nil, or_false, not_or]
          exact ⟨Nat.ne_of_lt (Nat.lt_succ_self _), Nat.ne_of_gt lS⟩
        have vals : ∀ (i : Nat) (v : Value), items[i]? = some v → ∃ k t, ns[i]? = some k ∧ v = .int k t := fun i v hv => by
          have hi : i < ns.length := by rw [← zsz]; exact (Array.getElem?_eq_some_iff.mp hv).1
          obtain ⟨t, e⟩ := PyProof.Rows.IntsAre.int_at ei i v (by rw [Array.getElem?_toList]; exact hv)
          refine ⟨ns[i], t, List.getElem?_eq_getElem hi, ?_⟩
          rw [e, List.getD_eq_getElem?_getD, List.getElem?_eq_getElem hi] <;> rfl
        refine set_update_ints ((Walks.list h3n _ l nI items).toS) s.heap.objs.size
          nS ns zsz hb vals (items.size - 0) 0 _ (by omega) (Nat.zero_le _)
          ⟨⟨_, Heap.get?_push_size _ rfl, rfl, rfl⟩, (hl1.push _)⟩ ?hS0 ?hR
        case hS0 =>
          have g0 : ((s.heap.push (setO0 w)).push { cls := .type "list_iterator", data := .fields #[.ref l, .int 0 0] }).get? s.heap.objs.size
              = some (setO0 w) := Heap.get?_push_of_some _ hS
          exact ⟨0, Nat.le_refl 0, setR_new_at g0⟩
        case hR =>
          intro s' c' hm hc' hS'
          obtain ⟨h', g2, d', tk', os'⟩ := s'
          have eg : g2 = s.gens := hm.gens
          have ed : d' = s.drawn := hm.drawn
          have eo : os' = s.os := hm.os
          subst eg; subst ed; subst eo
          show wpAny _ _ _ _ _ _
          refine wpAny_pure ?_
          show wpAny _ _ (ret Value.none) _ _ _
          rw [zsz] at hc'
          refine wpAny_pure ⟨rfl, h', tk', c', rfl, hS', hc', fun b o e => ?_⟩
          have hb0 : b < s.heap.objs.size := Heap.lt_size e
          have hb1 : b ≠ s.heap.objs.size := Nat.ne_of_lt hb0
          have hb2 : b ≠ (s.heap.push (setO0 w)).objs.size := by
            rw [Heap.size_push]; exact Nat.ne_of_lt (Nat.lt_succ_of_lt hb0)
          exact hm.heap b o (by simp only [List.mem_cons, List.mem_singleton, List.not_mem_nil, or_false, not_or]; exact ⟨hb1, hb2⟩) (Heap.get?_push_of_some _ (Heap.get?_push_of_some _ e))

      · cases r₂ with
        | error e => exact hr₂
        | ok fl₂ =>
          cases fl₂ with
          | ret r =>
            obtain ⟨rfl, h', tk, c', rfl, hS', hc', hk'⟩ := hr₂
            repeat (any_goals (first | assumption | wp_step))
            exact h _ _ _ hS' hc' hk'
          | _ => exact hr₂.elim
    | _ => exact hr.elim

end
end L2
end
section
set_option Elab.async false
set_option linter.all false
set_option autoImplicit false
set_option maxRecDepth 100000
set_option maxHeartbeats 2000000
namespace L2
open PySem PySem.Spec PyProof.Rows
section
variable {X : Cx}
/-- set(l) of a list or a tuple of ints -/
def rSetI (K : PySem.W.Frag) (w : World) : List V → Hp → VK → Prop := fun vs H Q => ∃ (l : Addr) (ns : List Int), vs = [V.ref l] ∧ (SqT K H l (ns.map V.int) ∨ SqL K H l (ns.map V.int)) ∧ ns.length < 64 ∧ ∀ p n, H p = none → n ≤ ns.length → Q (.ref p) (upd H p (SetO w p (fun j => decide (j ∈ ns)) n))
theorem cr_setI (hc : X.calm = true) : CallR X (.type "set") (rSetI X.K X.w) := by
  intro pins s σ H vs us Q I r h
  obtain ⟨l, ns, rfl, hs, hl, q⟩ := h
  rw [Vals.ref1 r]
  have hb : ns.length + 1 < scanBound := by unfold scanBound; omega
  rcases hs with hs | hs
  · obtain ⟨its, rv, pt, hz⟩ := I.tuple hs
    have hi : IntsAre its.toArray.toList ns := ints_of_vals rv
    exact call_set_tupI ns (I.ok.hd hc) (show s.heap.IsTuple l its.toArray from pt) hi hb fun h' tk c R1 hcn k => ⟨.ref _, upd H s.heap.objs.size (SetO X.w s.heap.objs.size (fun j => decide (j ∈ ns)) c), I.laid (t' := tk) k (Nat.le_refl _) (setO_new R1), rfl, q _ c (I.hok.fresh (Nat.le_refl _)) hcn⟩
  · obtain ⟨its, rv, pt, hz⟩ := I.list hs
    have hi : IntsAre its.toArray.toList ns := ints_of_vals rv
    obtain ⟨ob, n, ho, hcl, _, hd⟩ := pt
    exact call_set_lstI ns (I.ok.hd hc) (show s.heap.IsList l its.toArray from ⟨ob, ho, hcl, n, hd⟩) hi hb fun h' tk c R1 hcn k => ⟨.ref _, upd H s.heap.objs.size (SetO X.w s.heap.objs.size (fun j => decide (j ∈ ns)) c), I.laid (t' := tk) k (Nat.le_refl _) (setO_new R1), rfl, q _ c (I.hok.fresh (Nat.le_refl _)) hcn⟩
end
end L2
namespace SP
open PySem PySem.Spec L2
theorem mem_dedup (k : Int) : ∀ xs : List Int, k ∈ dedup xs ↔ k ∈ xs
  | [] => by simp [dedup]
  | x :: xs => by
    have ih := mem_dedup k xs
    unfold dedup
    split
    · rename_i h
      have h : x ∈ xs := by simpa using h
      rw [ih, List.mem_cons]
      exact ⟨.inr, fun z => z.elim (fun e => e ▸ h) id⟩
    · rw [List.mem_cons, List.mem_cons, ih]
theorem nodup_dedup : ∀ xs : List Int, (dedup xs).Nodup
  | [] => by simp [dedup]
  | x :: xs => by
    have ih := nodup_dedup xs
    unfold dedup
    split
    · exact ih
    · rename_i h
      refine List.nodup_cons.mpr ⟨fun z => h ?_, ih⟩
      have := (mem_dedup x xs).mp z
      simpa using this
/-- one ascending list of the same members alone -/
theorem asc_unique : ∀ {a b : List Int}, a.Pairwise (· < ·) → b.Pairwise (· < ·) → (∀ k, k ∈ a ↔ k ∈ b) → a = b
  | [], [], _, _, _ => rfl
  | [], y :: b, _, _, h => absurd ((h y).mpr (List.mem_cons_self ..)) (by simp)
  | x :: a, [], _, _, h => absurd ((h x).mp (List.mem_cons_self ..)) (by simp)
  | x :: a, y :: b, ha, hb, h => by
    obtain ⟨a1, a2⟩ := List.pairwise_cons.mp ha
    obtain ⟨b1, b2⟩ := List.pairwise_cons.mp hb
    have hxy : x = y := by
      have h1 := (h x).mp (List.mem_cons_self ..)
      have h2 := (h y).mpr (List.mem_cons_self ..)
      rcases List.mem_cons.mp h1 with e | e
      · exact e
      · rcases List.mem_cons.mp h2 with e2 | e2
        · exact e2.symm
        · have := b1 _ e
          have := a1 _ e2
          omega
    subst hxy
    congr 1
    refine asc_unique a2 b2 fun k => ⟨fun hk => ?_, fun hk => ?_⟩
    · rcases List.mem_cons.mp ((h k).mp (List.mem_cons_of_mem _ hk)) with e | e
      · have := a1 k hk
        omega
      · exact e
    · rcases List.mem_cons.mp ((h k).mpr (List.mem_cons_of_mem _ hk)) with e | e
      · have := b1 k hk
        omega
      · exact e
theorem setI_asc (xs : List Int) : (setI xs).Pairwise (· < ·) := by
  have h1 : (setI xs).Pairwise (· ≤ ·) := by
    have := List.pairwise_mergeSort (le := fun a b : Int => decide (a ≤ b)) (fun a b c h1 h2 => by simp at *; omega) (fun a b => by simp; omega) (dedup xs)
    exact this.imp fun {a b} h => by simpa using h
  have h2 : (setI xs).Nodup := (List.mergeSort_perm _ _).nodup_iff.mpr (nodup_dedup xs)
  exact (h1.and h2).imp fun {a b} h => by have := h.1; have := h.2; omega
theorem setI_mem (xs : List Int) (k : Int) : k ∈ setI xs ↔ k ∈ xs := by
  unfold setI sortI
  rw [(List.mergeSort_perm _ _).mem_iff, mem_dedup]
section
variable {κ : Kx} {pg : Pg} {X : Cx} {k : Nat} {cf : Cf}
theorem j_sset {e : Expr} {p p2 q2 pos : Pos} {fe : Env → Store → R D} (L : LayX κ pg X k cf) (hc : X.calm = true) (hg : Gl X "sorted") (hg2 : Gl X "set") (hp : plainX e = true) (he : JE κ X e fe) :
    JE κ X (.Call (.Name "sorted" p) [.Call (.Name "set" p2) [e] [] q2] [] pos) (fun ρ S => (fe ρ S).bind fun x S1 => .opt S1 (ssetD (rdD S1 x))) := fun W tk => by
  have inner := pe_callTy (p := p2) (pos := q2) (cr_setI hc) hg2 (L.blt "set" (by simp [bNames])) (by decide +kernel) (pa_cons (he W tk) pa_nil (star_plain hp)) (by decide) (by decide) (star_plain hp) (by rfl)
  refine pe_imp (pe_callB (cr_sortedSet hc) hg (L.blt "sorted" (by simp [bNames])) (by decide +kernel) (pa_cons inner pa_nil (by rfl)) (by decide) (by decide) (by rfl) (by rfl)) fun σ H Q q => ?_
  obtain ⟨w, ρ, S, rfl, hr, sr, a⟩ := q
  refine tX_bind hr sr a fun w1 S1 d v le1 hr1 _ r1 a1 => ?_
  have sx := see_rd hr1 r1
  have key : ∀ (is : List Int) (l : Addr), v = .ref l → (SqT X.K w1.H l (is.map V.int) ∨ SqL X.K w1.H l (is.map V.int)) → is.length < 64 → ssetD (rdD S1 d) = some (.lst ((setI is).map .int)) → rSetI X.K X.w [v] w1.H (fun x H1 => tNil σ H1 fun xs H2 => rSortedSet X.w (x :: xs) H2 Q) := fun is l ev hs h64 es => by
    rw [es] at a1
    refine ⟨l, is, by rw [ev], hs, h64, fun pp n hpp hn => ?_⟩
    refine ⟨pp, _, n, rfl, upd_same, by omega, fun ns p2 hasc hmem hlen hp2 => ?_⟩
    have e1 : ns = setI is := asc_unique hasc (setI_asc is) fun k => by rw [hmem k, setI_mem, decide_eq_true_eq]
    subst e1
    have hr2 := hr1.tree hpp (SetO X.w pp (fun j => decide (j ∈ is)) n) (fun ps z => by cases z)
    have le2 := hr1.le_tree hpp (SetO X.w pp (fun j => decide (j ∈ is)) n)
    exact fin_tree hr2 (fun w' le hr' => a1 w' (le2.trans le) hr') hp2 (rep_lst hr2 hp2 (Reps.ofInts _))
  cases ed : rdD S1 d with
  | lst xs =>
    rw [ed] at sx a1 key
    cases ei : intsD xs with
    | none => simp only [ssetD, ei] at a1; exact a1.elim
    | some is =>
      by_cases h64 : is.length < 64
      · obtain ⟨l, rfl, ra⟩ := see_ints sx ei
        exact key is l rfl (.inr (.inl (.inl ra))) h64 (by simp only [ssetD, ei, Option.bind_some, h64, if_true])
      · simp only [ssetD, ei, Option.bind_some, h64, if_false] at a1; exact a1.elim
  | tup xs =>
    rw [ed] at sx a1 key
    cases ei : intsD xs with
    | none => simp only [ssetD, ei] at a1; exact a1.elim
    | some is =>
      by_cases h64 : is.length < 64
      · obtain ⟨l, vs, rfl, fa, ra, pa⟩ := sx.tup
        rw [pa.intsD ei] at ra
        exact key is l rfl (.inl (.inl (.inl ra))) h64 (by simp only [ssetD, ei, Option.bind_some, h64, if_true])
      · simp only [ssetD, ei, Option.bind_some, h64, if_false] at a1; exact a1.elim
  | _ => rw [ed] at a1; exact a1.elim
end
end SP
end
section
set_option Elab.async false
set_option linter.all false
set_option autoImplicit false
set_option maxRecDepth 100000
set_option maxHeartbeats 2000000
namespace SP
open PySem PySem.Spec L2
/-! lists just made that are cells; list(range(n)) -/
section
variable {κ : Kx} {pg : Pg} {X : Cx} {k : Nat} {cf : Cf}
theorem j_addN (hK : X.K = κ.K) {a b : Expr} {pos : Pos} {fa fb : Env → Store → R D} (ha : JE κ X a fa) (hb : JE κ X b fb) :
    JE κ X (.BinOp a .Add b pos) (fun ρ S => (fa ρ S).bind fun x S1 => (fb ρ S1).bind fun y S2 => (R.opt S2 (binD .add (rdD S2 x) (rdD S2 y))).bind thwD) := fun W tk => by
  refine pe_imp (pe_op op_catR (ha W tk) (hb W tk)) fun σ H Q q => ?_
  obtain ⟨w, ρ, S, rfl, hr, sr, a0⟩ := q
  refine tX_bind hr sr a0 fun w1 S1 d1 v1 le1 hr1 _ r1 a1 => ?_
  refine tX_bind hr1 (sr.mono le1) a1 fun w2 S2 d2 v2 le2 hr2 _ r2 a2 => ?_
  have s1 := see_rd hr2 (r1.mono le2)
  have s2 := see_rd hr2 r2
  generalize rdD S2 d1 = e1 at s1 a2
  generalize rdD S2 d2 = e2 at s2 a2
  cases e : binD .add e1 e2 with
  | none => rw [e] at a2; exact a2.elim
  | some d =>
    rw [e] at a2
    have a2 : Aft κ W σ w2 (thwD d S2) (Fin_ κ Q) := a2
    cases d with
    | lst zs =>
      cases e1 <;> cases e2 <;> simp only [binD, reduceCtorEq, Option.some.injEq] at e
      · split at e <;> cases e
      · split at e
        · rename_i xs ys hl
          simp only [Option.some.injEq, D.lst.injEq] at e
          subst e
          obtain ⟨a, vs, rfl, ra, pa⟩ := s1.lst
          obtain ⟨b, us, rfl, rb, pb⟩ := s2.lst
          exact ⟨a, b, vs, us, rfl, rfl, .of ra, .of rb, by rw [pa.length, pb.length]; exact lenOk_le hl, fun p hp => fin_cell hr2 (pa.append pb) hp a2⟩
        · cases e
      · split at e
        · rename_i xs ys hl
          simp only [Option.some.injEq, D.lst.injEq] at e
          subst e
          have s1' : Rep κ w2.F w2.H (.scr xs) v1 := s1
          simp only [Rep] at s1'
          obtain ⟨a, rfl, ra⟩ := s1'
          have ra' : SqL X.K w2.H a (xs.map V.int) := by
            rcases ra with ⟨_, ra⟩ | ra
            · exact .inl ra
            · rw [hK]; exact .inr ra
          obtain ⟨b, us, rfl, rb, pb⟩ := s2.lst
          exact ⟨a, b, xs.map V.int, us, rfl, rfl, ra', .of rb, by rw [List.length_map, pb.length]; exact lenOk_le hl, fun p hp => fin_cell hr2 ((Reps.ofInts xs).append pb) hp a2⟩
        · cases e
    | _ => exact a2.elim
theorem j_lstN {e : Expr} {p pos : Pos} {fe : Env → Store → R D} (L : LayX κ pg X k cf) (hg : Gl X "list") (hp : plainX e = true) (he : JE κ X e fe) :
    JE κ X (.Call (.Name "list" p) [e] [] pos) (fun ρ S => (fe ρ S).bind fun x S1 => (R.opt S1 (lstD (rdD S1 x))).bind thwD) := fun W tk => by
  refine pe_imp (pe_callTy call_list_of hg (L.blt "list" (by simp [bNames])) (by decide +kernel) (pa_cons (he W tk) pa_nil (star_plain hp)) (by decide) (by decide) (star_plain hp) (by rfl)) fun σ H Q q => ?_
  obtain ⟨w, ρ, S, rfl, hr, sr, a⟩ := q
  refine tX_bind hr sr a fun w1 S1 d v le1 hr1 _ r1 a1 => ?_
  have sx := see_rd hr1 r1
  generalize rdD S1 d = e1 at sx a1
  cases e1 with
  | lst xs =>
    obtain ⟨l, vs, rfl, ra, pa⟩ := sx.lst
    exact ⟨l, vs, rfl, .inl (.inl (.inl ra)), fun pp hpp => fin_cell hr1 pa hpp a1⟩
  | tup xs =>
    obtain ⟨l, vs, rfl, fa, ra, pa⟩ := sx.tup
    exact ⟨l, vs, rfl, .inr (.inl (.inl ra)), fun pp hpp => fin_cell hr1 pa hpp a1⟩
  | _ => exact a1.elim
theorem reps_rng {F : Addr → Prop} {H : Hp} (n : Int) : Reps κ F H (rngD 0 1 n.toNat) (rgV 0 n) := by
  have e : ∀ (m : Nat) (lo : Int), Reps κ F H (rngD lo 1 m) ((List.range m).map fun i => V.int (lo + (i : Nat))) := fun m => by
    induction m with
    | zero => intro lo; exact .nil
    | succ m ih =>
      intro lo
      rw [List.range_succ_eq_map, List.map_cons, List.map_map]
      refine .cons ?_ ?_
      · simp [Rep]
      · have := ih (lo + 1)
        have e2 : ((fun i : Nat => V.int (lo + (i : Nat))) ∘ Nat.succ) = fun i : Nat => V.int (lo + 1 + (i : Nat)) := by
          funext i
          simp only [Function.comp, V.int.injEq]
          omega
        rw [e2]
        exact this
  have := e n.toNat 0
  unfold rgV
  rw [Int.sub_zero]
  exact this
theorem j_lrng {e : Expr} {p p2 q2 pos : Pos} {fe : Env → Store → R D} (L : LayX κ pg X k cf) (hc : X.calm = true) (hg : Gl X "list") (hg2 : Gl X "range") (hp : plainX e = true) (he : JE κ X e fe) :
    JE κ X (.Call (.Name "list" p) [.Call (.Name "range" p2) [e] [] q2] [] pos) (fun ρ S => (fe ρ S).bind fun x S1 => match x with
      | .int n => if n ≤ 1000 ∧ -1000 ≤ n then .ok (.lst (rngD 0 1 n.toNat)) S1 else .bad
      | _ => .bad) := fun W tk => by
  refine pe_imp (pe_listRg hc hg (L.blt "list" (by simp [bNames])) (prg_1 hg2 (L.blt "range" (by simp [bNames])) (he W tk) (star_plain hp)) (by rfl)) fun σ H Q q => ?_
  obtain ⟨w, ρ, S, rfl, hr, sr, a⟩ := q
  refine tX_bind hr sr a fun w1 S1 d v le1 hr1 _ r1 a1 => ?_
  cases d with
  | int n =>
    by_cases hn : n ≤ 1000 ∧ -1000 ≤ n
    · simp only [hn, and_self, if_true] at a1
      have ev : v = .int n := by
        have r1' : Rep κ w1.F w1.H (.int n) v := r1
        simpa [Rep] using r1'
      refine ⟨n, ev, ⟨by omega, by omega, by omega, by omega, by omega⟩, fun pp hpp => fin_tree hr1 (fun w' le hr' => a1 w' le hr') hpp (rep_lst hr1 hpp (reps_rng n))⟩
    · simp only [hn, if_false] at a1
      exact a1.elim
  | _ => exact a1.elim
theorem j_trng {e : Expr} {p p2 q2 pos : Pos} {fe : Env → Store → R D} (L : LayX κ pg X k cf) (hc : X.calm = true) (hg : Gl X "tuple") (hg2 : Gl X "range") (hp : plainX e = true) (he : JE κ X e fe) :
    JE κ X (.Call (.Name "tuple" p) [.Call (.Name "range" p2) [e] [] q2] [] pos) (fun ρ S => (fe ρ S).bind fun x S1 => match x with
      | .int n => if n ≤ 1000 ∧ -1000 ≤ n then .ok (.tup (rngD 0 1 n.toNat)) S1 else .bad
      | _ => .bad) := fun W tk => by
  refine pe_imp (pe_tupRg hc hg (L.blt "tuple" (by simp [bNames])) (prg_1 hg2 (L.blt "range" (by simp [bNames])) (he W tk) (star_plain hp)) (by rfl)) fun σ H Q q => ?_
  obtain ⟨w, ρ, S, rfl, hr, sr, a⟩ := q
  refine tX_bind hr sr a fun w1 S1 d v le1 hr1 _ r1 a1 => ?_
  cases d with
  | int n =>
    by_cases hn : n ≤ 1000 ∧ -1000 ≤ n
    · simp only [hn, and_self, if_true] at a1
      have ev : v = .int n := by
        have r1' : Rep κ w1.F w1.H (.int n) v := r1
        simpa [Rep] using r1'
      refine ⟨n, ev, ⟨by omega, by omega, by omega, by omega, by omega⟩, fun pp hpp => fin_tree hr1 (fun w' le hr' => a1 w' le hr') hpp (rep_tup hr1 hpp (reps_rng n))⟩
    · simp only [hn, if_false] at a1
      exact a1.elim
  | _ => exact a1.elim
end
end SP
end
section
set_option Elab.async false
set_option linter.all false
set_option autoImplicit false
set_option maxRecDepth 100000
set_option maxHeartbeats 8000000
namespace SP
open PySem PySem.Spec PyProof.Rows L2
section
variable {κ : Kx} {pg : Pg} {k : Nat} {cf : Cf}
theorem optIs_eq {o : Option Str} {x : Str} (h : optIs o x = true) : o = some x := by
  unfold optIs at h
  split at h
  · rw [beqS_eq h]
  · cases h
theorem globs_gl {X : Cx} {c : CC} (G : Good κ pg X c k cf) : ∀ {es : List Expr}, globs c es = true → ∀ y p, Expr.Name y p ∈ es → Gl X y
  | [], _, y, p, hm => by simp at hm
  | e :: es, h, y, p, hm => by
    unfold globs at h
    split at h
    · rename_i heq; cases heq
    · rename_i es' e1 p' e2
      cases e2
      simp only [Bool.and_eq_true] at h
      rcases List.mem_cons.mp hm with z | z
      · cases z
        exact G.glob h.1
      · exact globs_gl G h.2 y p z
    · cases h
theorem nmOk_1 {x : Str} (h : nmOk x = true) : (x == ("__debug__" : Str)) = false ∧ (x == ("__classdict__" : Str)) = false := by
  unfold nmOk beqS at h
  simp at h
  exact ⟨by simpa using h.1.1, by simpa using h.1.2⟩
theorem bN {X : Cx} {x : Str} (L : LayX κ pg X k cf) (h : x ∈ bNames) : X.mg x = none := L.blt x h
theorem j_both {X : Cx} {e : Expr} {f : Env → Store → R D} (h : JE κ X e f) (he : ∀ whole, isTrue e X.env whole = (do let v ← whole; standAt e.pos; holding [v] (truthy v))) : JE κ X e f ∧ JT κ X e f := ⟨h, j_test h he⟩
theorem isTrue_if {X : Cx} {c a b : Expr} {pos : Pos} {tc ta tb : TT} (hc : PT X c tc) (ha : PT X a ta) (hb : PT X b tb) : PT X (.IfExp c a b pos) (fun σ H Q => tc σ H fun d H1 => if d = true then ta σ H1 Q else tb σ H1 Q) := by
  refine ⟨fun pins s σ H Q I h => ?_⟩
  refine isTrue_IfExp (thn (hc.run pins s σ H _ I h) fun d s1 ⟨H1, I1, q1⟩ => ?_)
  cases d with
  | true => exact ha.run pins s1 σ H1 Q I1 q1
  | false => exact hb.run pins s1 σ H1 Q I1 q1
theorem j_iteT {X : Cx} {c a b : Expr} {pos : Pos} {fc fa fb : Env → Store → R D} (hc : JT κ X c fc) (ha : JT κ X a fa) (hb : JT κ X b fb) :
    JT κ X (.IfExp c a b pos) (fun ρ S => (fc ρ S).bind fun x S1 => match x with
      | .bl true => fa ρ S1
      | .bl false => fb ρ S1
      | _ => .bad) := fun W tk => pt_imp (isTrue_if (hc W tk) (ha W tk) (hb W tk)) fun σ H Q q => by
  obtain ⟨w, ρ, S, rfl, hr, sr, a⟩ := q
  refine tT_bind hr sr a fun w1 S1 d1 le1 hr1 _ a1 => ?_
  cases d1 with
  | bl b =>
    refine ⟨b, rfl, ?_⟩
    cases b with
    | true =>
      rw [if_pos rfl]
      exact ⟨w1, ρ, S1, rfl, hr1, sr.mono le1, a1⟩
    | false => exact ⟨w1, ρ, S1, rfl, hr1, sr.mono le1, a1⟩
  | _ => exact a1.elim
theorem j_frzT {X : Cx} {e : Expr} {f : Env → Store → R D} (h : JT κ X e f) : JT κ X e (fun ρ S => (f ρ S).bind frzD) := fun W tk => pt_imp (h W tk) fun σ H Q q => by
  obtain ⟨w, ρ, S, rfl, hr, sr, a⟩ := q
  refine tT_bind hr sr a fun w1 S1 d1 le1 hr1 _ a1 => ?_
  cases e1 : frzD d1 S1 with
  | bad => rw [e1] at a1; exact a1.elim
  | ex c fs S2 => exact absurd e1 frz_not_ex
  | ok d2 S2 =>
    rw [e1] at a1
    cases d1 with
    | clo l cap => cases e1
    | loc n =>
      exfalso
      unfold frzD at e1
      simp only at e1
      split at e1
      · rename_i xs es
        cases e1
        obtain ⟨a, ea, na, vs, hv, rr⟩ := hr1.cl n _ es
        obtain ⟨b, e, _⟩ := a1 _ (w1.le_frz a) (hr1.frz ea hv)
        cases e
      · cases e1
    | _ =>
      unfold frzD at e1
      cases e1
      exact a1 w1 (.refl w1) hr1
theorem evEs_len : ∀ (es : Exs) {ρ : Env} {S : Store} {ds : List D} {S' : Store}, evEs cf pg.G es ρ S = .ok ds S' → ds.length = lenEs es
  | .nil, _, _, _, _, h => by
    simp only [evEs] at h
    cases h
    rfl
  | .cons e es, ρ, S, ds, S', h => by
    simp only [evEs] at h
    cases e1 : evE cf pg.G e ρ S with
    | bad => rw [e1] at h; cases h
    | ex c fs S1 => rw [e1] at h; cases h
    | ok d S1 =>
      rw [e1] at h
      simp only [R.bind] at h
      cases e2 : evEs cf pg.G es ρ S1 with
      | bad => rw [e2] at h; cases h
      | ex c fs S2 => rw [e2] at h; cases h
      | ok xs S2 =>
        rw [e2] at h
        simp only at h
        cases h
        simp [lenEs, evEs_len es e2]
theorem kw_len {c : CC} : ∀ (ks : Exs) {ns : List Str} {kws : List Keyword}, chkKs pg ks c ns kws = true → lenEs ks = ns.length
  | .nil, ns, kws, h => by
    simp only [chkKs, Bool.and_eq_true, List.isEmpty_iff] at h
    obtain ⟨rfl, rfl⟩ := h
    rfl
  | .cons e es, ns, kws, h => by
    simp only [chkKs] at h
    split at h
    · simp only [Bool.and_eq_true] at h
      simp [lenEs, kw_len es h.2]
    · cases h
theorem kw_facts {c : CC} {env : PySem.Env} {pos : Pos} : ∀ (ks : Exs) {ns : List Str} {kws : List Keyword}, chkKs pg ks c ns kws = true → (backToKw pos (keywordEach kws env)).all (·.1.isSome) = true ∧ (backToKw pos (keywordEach kws env)).filterMap (·.1) = ns ∧ (backToKw pos (keywordEach kws env)).any (·.1.isNone) = false
  | .nil, ns, kws, h => by
    simp only [chkKs, Bool.and_eq_true, List.isEmpty_iff] at h
    obtain ⟨rfl, rfl⟩ := h
    exact ⟨rfl, rfl, rfl⟩
  | .cons e es, ns, kws, h => by
    simp only [chkKs] at h
    split at h
    · rename_i n ns' y v kp kws'
      simp only [Bool.and_eq_true] at h
      obtain ⟨k1, k2, k3⟩ := kw_facts (env := env) (pos := pos) es h.2
      have ey := beqS_eq h.1.1
      subst ey
      have ek : backToKw pos (keywordEach (⟨some y, v, kp⟩ :: kws') env) = (some y, do let v ← eval v env; standAt pos; pure v) :: backToKw pos (keywordEach kws' env) := rfl
      rw [ek]
      exact ⟨by simp [k1], by simp [k2], by simp [k3]⟩
    · cases h
mutual
theorem sndE : ∀ (e : Ex) {X : Cx} {c : CC} (G : Good κ pg X c k cf) (e' : Expr), chkE pg e c e' = true → JE κ X e' (fun ρ S => evE cf pg.G e ρ S) ∧ JT κ X e' (fun ρ S => evE cf pg.G e ρ S)
  | .var i, X, c, G, e', h => by
    simp only [chkE] at h
    split at h
    · rename_i x p
      simp only [Bool.and_eq_true] at h
      exact j_both (j_var (G.at_ h.1.1) (G.vis h.1.2) (nmOk_1 h.2).1 (nmOk_1 h.2).2) (by intro _; rfl)
    · cases h
  | .frz e, X, c, G, e', h => by
    simp only [chkE] at h
    exact ⟨j_frz (sndE e G e' h).1, j_frzT (sndE e G e' h).2⟩
  | .non, X, c, G, e', h => by
    simp only [chkE] at h
    split at h
    · exact j_both (j_const pe_non fun _ => rep_non) (by intro _; rfl)
    · cases h
  | .bl b, X, c, G, e', h => by
    simp only [chkE] at h
    split at h
    · have h := eq_of_beq h
      subst h
      exact j_both (j_const pe_bl fun _ => rep_bl) (by intro _; rfl)
    · simp only [Bool.and_eq_true, Bool.not_eq_true'] at h
      obtain ⟨⟨⟨⟨⟨⟨⟨⟨h1, h2⟩, h3⟩, h4⟩, h5⟩, h6⟩, h7⟩, h8⟩, h9⟩ := h
      have e2 := beqS_eq h2
      have e3 := beqS_eq h3
      subst h1 e2 e3
      obtain ⟨z, hz⟩ := Option.isSome_iff_exists.mp h9
      exact j_both (j_isVE G.lay hz (G.glob h4) (G.glob h5) (G.glob h6) h7 (optIs_eq h8)) (by intro _; rfl)
    · cases h
  | .int i, X, c, G, e', h => by
    simp only [chkE] at h
    split at h
    · have h := of_decide_eq_true h
      subst h
      exact j_both (j_const pe_int fun _ => rep_int) (by intro _; rfl)
    · cases h
  | .neg i, X, c, G, e', h => by
    simp only [chkE] at h
    split at h
    · have h := of_decide_eq_true h
      subst h
      refine j_both (fun W tk => pe_imp (pe_un un_neg pe_int) fun σ H Q q => ?_) (by intro _; rfl)
      obtain ⟨w, ρ, S, rfl, hr, sr, a⟩ := q
      exact ⟨i, rfl, a w (.refl w) hr _ rep_int⟩
    · cases h
  | .str s, X, c, G, e', h => by
    simp only [chkE] at h
    split at h
    · have h := beqS_eq h
      subst h
      exact j_both (j_const pe_str fun _ => rep_str) (by intro _; rfl)
    · cases h
  | .cst x i, X, c, G, e', h => by
    simp only [chkE] at h
    split at h
    · simp only [Bool.and_eq_true, decide_eq_true_eq] at h
      obtain ⟨⟨⟨h1, h2⟩, h3⟩, h4⟩ := h
      have h1 := beqS_eq h1
      subst h1
      exact j_both (j_cst G.lay h4 (G.glob h2) (nmOk_1 h3).1) (by intro _; rfl)
    · cases h
  | .tt, X, c, G, e', h => by simp [chkE] at h
  | .bin o a b, X, c, G, e', h => by
    simp only [chkE] at h
    split at h
    · simp only [Bool.and_eq_true, decide_eq_true_eq] at h
      obtain ⟨⟨rfl, h2⟩, h3⟩ := h
      exact j_both (j_bin G.kK (sndE a G _ h2).1 (sndE b G _ h3).1) (by intro _; rfl)
    · cases h
  | .cmp o a b, X, c, G, e', h => by
    simp only [chkE] at h
    split at h
    · simp only [Bool.and_eq_true, decide_eq_true_eq] at h
      obtain ⟨⟨⟨rfl, h2⟩, h3⟩, h4⟩ := h
      exact j_cmp (sndE a G _ h3).1 (sndE b G _ h4).1 noX_opt (rR2_opt (op_cmp (by have := G.room.un; omega) o)) (behind_plain h2)
    · cases h
  | .cmp2 o o' a b d, X, c, G, e', h => by
    simp only [chkE] at h
    split at h
    · simp only [Bool.and_eq_true, decide_eq_true_eq] at h
      obtain ⟨⟨⟨⟨⟨⟨rfl, rfl⟩, h2⟩, h3⟩, h4⟩, h5⟩, h6⟩ := h
      exact j_cmp2 (by have := G.room.un; omega) (sndE a G _ h4).1 (sndE b G _ h5).1 (sndE d G _ h6).1 (by
        show behindInMarks (opC o') _ = false
        exact behind_plain h3)
    · cases h
  | .isN a, X, c, G, e', h => by
    simp only [chkE] at h
    split at h
    · exact j_isN (sndE a G _ h).1
    · cases h
  | .notN a, X, c, G, e', h => by
    simp only [chkE] at h
    split at h
    · exact j_notN (sndE a G _ h).1
    · cases h
  | .and a b, X, c, G, e', h => by
    simp only [chkE] at h
    split at h
    · simp only [Bool.and_eq_true] at h
      exact j_and1 (sndE a G _ h.1) (sndE b G _ h.2)
    · simp only [Bool.and_eq_true] at h
      exact j_and2 (sndE a G _ h.1) (sndE b G _ h.2)
    · cases h
  | .or a b, X, c, G, e', h => by
    simp only [chkE] at h
    split at h
    · simp only [Bool.and_eq_true] at h
      exact j_or1 (sndE a G _ h.1) (sndE b G _ h.2)
    · simp only [Bool.and_eq_true] at h
      exact j_or2 (sndE a G _ h.1) (sndE b G _ h.2)
    · cases h
  | .not a, X, c, G, e', h => by
    simp only [chkE] at h
    split at h
    · exact j_not (sndE a G _ h)
    · cases h
  | .ite d a b, X, c, G, e', h => by
    simp only [chkE] at h
    split at h
    · simp only [Bool.and_eq_true] at h
      exact ⟨j_ite (sndE d G _ h.1.1).2 (sndE a G _ h.1.2).1 (sndE b G _ h.2).1, j_iteT (sndE d G _ h.1.1).2 (sndE a G _ h.1.2).2 (sndE b G _ h.2).2⟩
    · cases h
  | .tup es, X, c, G, e', h => by
    simp only [chkE] at h
    split at h
    · exact j_both (j_tup (sndEs es G _ h)) (by intro _; rfl)
    · cases h
  | .lst es, X, c, G, e', h => by
    simp only [chkE] at h
    split at h
    · exact j_both (j_lst (sndEs es G _ h)) (by intro _; rfl)
    · cases h
  | .new es, X, c, G, e', h => by
    simp only [chkE] at h
    split at h
    · exact j_both (j_new (sndEs es G _ h)) (by intro _; rfl)
    · cases h
  | .dic0, X, c, G, e', h => by simp [chkE] at h
  | .ix a b, X, c, G, e', h => by
    simp only [chkE] at h
    split at h
    · simp only [Bool.and_eq_true] at h
      exact j_both (j_ix (sndE a G _ h.1.2).1 (sndE b G _ h.2).1 (plainIx_of h.1.1)) (by intro _; rfl)
    · cases h
  | .slA a l, X, c, G, e', h => by
    simp only [chkE] at h
    split at h
    · simp only [Bool.and_eq_true] at h
      exact j_both (j_slA (sndE a G _ h.1).1 (sndE l G _ h.2).1) (by intro _; rfl)
    · cases h
  | .slB a l, X, c, G, e', h => by
    simp only [chkE] at h
    split at h
    · simp only [Bool.and_eq_true] at h
      exact j_both (j_slB (sndE a G _ h.1).1 (sndE l G _ h.2).1) (by intro _; rfl)
    · cases h
  | .slC a l u, X, c, G, e', h => by
    simp only [chkE] at h
    split at h
    · simp only [Bool.and_eq_true] at h
      exact j_both (j_slC (sndE a G _ h.1.1).1 (sndE l G _ h.1.2).1 (sndE u G _ h.2).1) (by intro _; rfl)
    · cases h
  | .rev a, X, c, G, e', h => by
    simp only [chkE] at h
    split at h
    · exact j_both (j_rev (sndE a G _ h).1) (by intro _; rfl)
    · cases h
  | .fld a f, X, c, G, e', h => by
    simp only [chkE] at h
    split at h
    · simp only [Bool.and_eq_true] at h
      exact j_both (j_fld G.lay h.1.1 (optIs_eq h.1.2) (sndE a G _ h.2).1) (by intro _; rfl)
    · cases h
  | .call f es, X, c, G, e', h => by
    simp only [chkE] at h
    split at h
    · simp only [Bool.and_eq_true] at h
      obtain ⟨⟨⟨⟨h1, h2⟩, h3⟩, h4⟩, h5⟩ := h
      exact j_both (j_call G.lay (G.room.mono (by split <;> omega)) (optIs_eq h1) (G.glob h2) (nmOk_1 h3).1 h4 (sndEs es G _ h5)) (by intro _; rfl)
    · cases h
  | .callK f es ns ks pl, X, c, G, e', h => by
    simp only [chkE] at h
    split at h
    · rename_i x p a as kws pos
      simp only [Bool.and_eq_true] at h
      obtain ⟨⟨⟨⟨⟨⟨h1, h2⟩, h3⟩, h4⟩, h5⟩, h6⟩, h7⟩ := h
      obtain ⟨k1, k2, k3⟩ := kw_facts (env := X.env) (pos := pos) ks h7
      exact j_both (j_callK G.lay (G.room.mono (by split <;> omega)) (optIs_eq h1) h5 (G.glob h2) (nmOk_1 h3).1 h4 k1 k2 k3 (sndEs es G _ h6) (sndKs ks G ns kws h7) (fun ρ S ds S' e => evEs_len es e) (fun ρ S ds S' e => (evEs_len ks e).trans (kw_len ks h7))) (by intro _; rfl)
    · rename_i x p kws pos
      simp only [Bool.and_eq_true] at h
      obtain ⟨⟨⟨⟨⟨h1, h2⟩, h3⟩, h5⟩, h6⟩, h7⟩ := h
      obtain ⟨k1, k2, k3⟩ := kw_facts (env := X.env) (pos := pos) ks h7
      cases es with
      | cons e es => simp [chkEs] at h6
      | nil => exact j_both (j_callK0 G.lay (G.room.mono (by split <;> omega)) (optIs_eq h1) h5 (G.glob h2) (nmOk_1 h3).1 k1 k2 k3 (sndKs ks G ns kws h7) (fun ρ S ds S' e => (evEs_len ks e).trans (kw_len ks h7))) (by intro _; rfl)
    · cases h
  | .meth m o es, X, c, G, e', h => by
    simp only [chkE] at h
    split at h
    · rename_i x n ap as p
      simp only [Bool.and_eq_true, decide_eq_true_eq] at h
      obtain ⟨⟨⟨⟨⟨⟨h1, h2⟩, h3⟩, h4⟩, h5⟩, h6⟩, h7⟩ := h
      cases as with
      | nil =>
        cases es with
        | nil => exact j_both (j_meth0 G.lay (G.room.mono (by split <;> omega)) h1 (optIs_eq h2) h3 (sndE o G _ h6).1) (by intro _; rfl)
        | cons e es => simp [chkEs] at h7
      | cons a as => exact j_both (j_meth G.lay (G.room.mono (by split <;> omega)) h1 (optIs_eq h2) h5 h4 h3 (sndE o G _ h6).1 (sndEs es G _ h7)) (by intro _; rfl)
    · cases h
  | .mk kk es, X, c, G, e', h => by
    simp only [chkE] at h
    split at h
    · simp only [Bool.and_eq_true, decide_eq_true_eq] at h
      obtain ⟨⟨⟨⟨⟨h1, h2⟩, h3⟩, h4⟩, h5⟩, h6⟩ := h
      exact j_both (j_mk G.lay (G.room.mono (by split <;> omega)) (optIs_eq h1) h2 (G.glob h3) (nmOk_1 h4).1 h5 (sndEs es G _ h6)) (by intro _; rfl)
    · cases h
  | .thw e, X, c, G, e', h => by simp [chkE] at h
  | .sset e, X, c, G, e', h => by
    simp only [chkE] at h
    split at h
    · simp only [Bool.and_eq_true] at h
      obtain ⟨⟨⟨⟨⟨h1, h2⟩, h3⟩, h4⟩, h5⟩, h6⟩ := h
      have e1 := beqS_eq h1
      have e2 := beqS_eq h2
      subst e1 e2
      exact j_both (j_sset G.lay G.calm (G.glob h3) (G.glob h4) h5 (sndE e G _ h6).1) (by intro _; rfl)
    · cases h
  | .addN a b, X, c, G, e', h => by
    simp only [chkE] at h
    split at h
    · simp only [Bool.and_eq_true, decide_eq_true_eq] at h
      obtain ⟨⟨h1, h2⟩, h3⟩ := h
      subst h1
      exact j_both (j_addN G.kK (sndE a G _ h2).1 (sndE b G _ h3).1) (by intro _; rfl)
    · cases h
  | .lstN e, X, c, G, e', h => by
    simp only [chkE] at h
    split at h
    · simp only [Bool.and_eq_true] at h
      obtain ⟨⟨⟨h1, h2⟩, h3⟩, h4⟩ := h
      have e1 := beqS_eq h1
      subst e1
      exact j_both (j_lstN G.lay (G.glob h2) h3 (sndE e G _ h4).1) (by intro _; rfl)
    · cases h
  | .lrng e, X, c, G, e', h => by
    simp only [chkE] at h
    split at h
    · simp only [Bool.and_eq_true] at h
      obtain ⟨⟨⟨⟨⟨h1, h2⟩, h3⟩, h4⟩, h5⟩, h6⟩ := h
      have e1 := beqS_eq h1
      have e2 := beqS_eq h2
      subst e1 e2
      exact j_both (j_lrng G.lay G.calm (G.glob h3) (G.glob h4) h5 (sndE e G _ h6).1) (by intro _; rfl)
    · cases h
  | .trng e, X, c, G, e', h => by
    simp only [chkE] at h
    split at h
    · simp only [Bool.and_eq_true] at h
      obtain ⟨⟨⟨⟨⟨h1, h2⟩, h3⟩, h4⟩, h5⟩, h6⟩ := h
      have e1 := beqS_eq h1
      have e2 := beqS_eq h2
      subst e1 e2
      exact j_both (j_trng G.lay G.calm (G.glob h3) (G.glob h4) h5 (sndE e G _ h6).1) (by intro _; rfl)
    · cases h
  | .bf f es, X, c, G, e', h => by
    simp only [chkE] at h
    split at h
    · simp only [Bool.and_eq_true, decide_eq_true_eq] at h
      obtain ⟨⟨⟨⟨h1, h2⟩, h3⟩, h4⟩, h5⟩ := h
      exact j_both (j_bf G.lay G.calm (G.room.mono (by split <;> omega)) h3 (beqS_eq h1) (G.glob h2) h4 (sndEs es G _ h5)) (by intro _; rfl)
    · cases h
  | .isi a t, X, c, G, e', h => by
    simp only [chkE] at h
    split at h
    · simp only [Bool.and_eq_true, decide_eq_true_eq] at h
      obtain ⟨⟨⟨⟨⟨⟨h1, h2⟩, h3⟩, h4⟩, h5⟩, h6⟩, h7⟩ := h
      exact j_both (j_isi G.lay (beqS_eq h1) (G.glob h2) h3 (sndE a G _ h4).1 (G.glob h5) h6 h7) (by intro _; rfl)
    · cases h
  | .isis a ts, X, c, G, e', h => by
    simp only [chkE] at h
    split at h
    · simp only [Bool.and_eq_true, decide_eq_true_eq] at h
      obtain ⟨⟨⟨⟨⟨⟨⟨h1, h2⟩, h3⟩, h4⟩, h5⟩, h6⟩, h7⟩, h8⟩ := h
      exact j_both (j_isis G.lay (beqS_eq h1) (G.glob h2) h3 (sndE a G _ h4).1 (globs_gl G h5) h6 h7 (by rintro rfl; simp at h8)) (by intro _; rfl)
    · cases h
  | .mkX kk e, X, c, G, e', h => by
    simp only [chkE] at h
    split at h
    · simp only [Bool.and_eq_true, decide_eq_true_eq] at h
      obtain ⟨⟨⟨⟨⟨⟨h1, h2⟩, h3⟩, h4⟩, h5⟩, h6⟩, h7⟩ := h
      exact j_both (j_mkX G.lay (G.room.mono (by split <;> omega)) (optIs_eq h1) h3 h2 (G.glob h4) (nmOk_1 h5).1 h6 (sndE e G _ h7).1) (by intro _; rfl)
    · cases h
  | .mkXK kk n e, X, c, G, e', h => by
    simp only [chkE] at h
    split at h
    · rename_i x p y a kp pos
      simp only [Bool.and_eq_true, decide_eq_true_eq] at h
      obtain ⟨⟨⟨⟨⟨⟨⟨h1, h2⟩, h3⟩, h4⟩, h5⟩, h6⟩, h7⟩, h8⟩ := h
      have e6 := beqS_eq h6
      subst e6
      obtain ⟨f, _, h9⟩ := List.any_eq_true.mp h7
      simp only [Bool.and_eq_true] at h9
      have hkk : chkKs pg (.cons e .nil) c [y] [⟨some y, a, kp⟩] = true := by
        simp only [chkKs, Bool.and_eq_true]
        exact ⟨⟨h6, h8⟩, rfl, rfl⟩
      obtain ⟨k1, k2, k3⟩ := kw_facts (env := X.env) (pos := pos) (.cons e .nil) hkk
      exact j_both (j_mkXK G.lay (G.room.mono (by split <;> omega)) (optIs_eq h1) h3 h2 (G.glob h4) (nmOk_1 h5).1 ⟨f, h9.1, optIs_eq h9.2⟩ k1 k2 k3 (sndE e G _ h8).1) (by intro _; rfl)
    · cases h
  | .comp tg it d e, X, c, G, e', h => by
    simp only [chkE] at h
    split at h
    · rename_i elt t iter scope p
      simp only [Bool.and_eq_true] at h
      obtain ⟨⟨⟨⟨⟨h1, h2⟩, h3⟩, h4⟩, h5⟩, h6⟩ := h
      cases d <;> first | (simp [isTT] at h5; done) | skip
      exact j_both (j_lc (pos := p) G h1 (fold_plain h2) (sndI it G t iter h4) (fun s H C cl fp => j_tg G.blk (.inr rfl) _ _ h3) (fun s H C cl fp => pts_tt rfl) (fun s H C cl fp => (sndE e G.blk _ h6).1)) (by intro _; rfl)
    · rename_i elt t iter i scope p
      simp only [Bool.and_eq_true] at h
      obtain ⟨⟨⟨⟨⟨h1, h2⟩, h3⟩, h4⟩, h5⟩, h6⟩ := h
      exact j_both (j_lc (pos := p) G h1 (fold_plain h2) (sndI it G t iter h4) (fun s H C cl fp => j_tg G.blk (.inr rfl) _ _ h3) (fun s H C cl fp => pts_one ((sndE d G.blk _ h5).2 WF takes_blk)) (fun s H C cl fp => (sndE e G.blk _ h6).1)) (by intro _; rfl)
    · cases h
  | .sortK p a key, X, c, G, e', h => by
    simp only [chkE] at h
    split at h
    · rename_i x p0 a' kx n ap body scope lpos kp pos
      simp only [Bool.and_eq_true] at h
      obtain ⟨⟨⟨⟨⟨⟨⟨⟨h1, h2⟩, h3⟩, h4⟩, h5⟩, h6⟩, h7⟩, h8⟩, h9⟩ := h
      have h5 := beqS_eq h5
      subst h5
      have GL : ∀ (s : Shared) (H : Hp) (f c' : Addr), Room (k + 6) (X.A.in1.in1.deeper (LamX.lamEnv X scope s.heap.objs.size f c')) → Good κ pg (LamX.lamCx X X.A.in1.in1 X.stack s H E0' scope f c') ⟨c.N, scope, false⟩ k cf := fun s H f c' hrm => ⟨G.N, rfl, G.nd, rfl, hrm.mono (by show k + 3 ≤ k + 6; omega), G.lay, G.kK, fun z => by cases z⟩
      exact j_both (j_sortK (fk := fun ρ S => evE cf pg.G key ρ S) G h4 (beqS_eq h1) (G.glob h2) h3 (sndE a G _ h8).1 (G.at_ h6) h7 fun s H f c' hrm => (sndE key (GL s H f c' hrm) body h9).1) (by intro _; rfl)
    · cases h
  | .act i, X, c, G, e', h => by simp [chkE] at h
  | .callT g e, X, c, G, e', h => by simp [chkE] at h
theorem sndEs : ∀ (es : Exs) {X : Cx} {c : CC} (G : Good κ pg X c k cf) (xs : List Expr), chkEs pg es c xs = true → JA κ X xs (fun ρ S => evEs cf pg.G es ρ S)
  | .nil, X, c, G, xs, h => by
    simp only [chkEs, List.isEmpty_iff] at h
    subst h
    exact j_nil
  | .cons e es, X, c, G, xs, h => by
    simp only [chkEs] at h
    split at h
    · simp only [Bool.and_eq_true] at h
      exact j_cons (sndE e G _ h.1.2).1 (sndEs es G _ h.2) h.1.1
    · cases h
theorem sndKs : ∀ (es : Exs) {X : Cx} {c : CC} (G : Good κ pg X c k cf) (ns : List Str) (kws : List Keyword), chkKs pg es c ns kws = true → JK κ X kws (fun ρ S => evEs cf pg.G es ρ S)
  | .nil, X, c, G, ns, kws, h => by
    simp only [chkKs, Bool.and_eq_true, List.isEmpty_iff] at h
    obtain ⟨rfl, rfl⟩ := h
    exact jk_nil
  | .cons e es, X, c, G, ns, kws, h => by
    simp only [chkKs] at h
    split at h
    · simp only [Bool.and_eq_true] at h
      exact jk_cons (sndE e G _ h.1.2).1 (sndKs es G _ _ h.2)
    · cases h
theorem sndI : ∀ (it : It) {X : Cx} {c : CC} (G : Good κ pg X c k cf) (tg iter : Expr), chkI pg it c (isTupE tg) iter = true → JI κ X tg iter (fun ρ S => evI cf pg.G it ρ S)
  | .of e, X, c, G, tg, iter, h => by
    simp only [chkI] at h
    exact i_of (sndE e G _ h).1
  | .enum e, X, c, G, tg, iter, h => by
    simp only [chkI] at h
    split at h
    · simp only [Bool.and_eq_true] at h
      obtain ⟨⟨⟨⟨h0, h1⟩, h2⟩, h3⟩, h4⟩ := h
      cases tg <;> first | (simp [isTupE] at h0; done) | skip
      have h1 := beqS_eq h1
      subst h1
      exact i_enum (G.glob h2) (bN G.lay (by simp [bNames])) h3 (sndE e G _ h4).1
    · cases h
  | .zip d e, X, c, G, tg, iter, h => by
    simp only [chkI] at h
    split at h
    · simp only [Bool.and_eq_true] at h
      obtain ⟨⟨⟨⟨⟨⟨h0, h1⟩, h2⟩, h3⟩, h3'⟩, h4⟩, h5⟩ := h
      cases tg <;> first | (simp [isTupE] at h0; done) | skip
      have h1 := beqS_eq h1
      subst h1
      exact i_zip (G.glob h2) (bN G.lay (by simp [bNames])) h3 h3' (sndE d G _ h4).1 (sndE e G _ h5).1
    · cases h
  | .rng1 a, X, c, G, tg, iter, h => by
    simp only [chkI] at h
    split at h
    · simp only [Bool.and_eq_true] at h
      obtain ⟨⟨⟨h1, h2⟩, h3⟩, h4⟩ := h
      have h1 := beqS_eq h1
      subst h1
      exact i_rng1 (G.glob h2) (bN G.lay (by simp [bNames])) h3 (sndE a G _ h4).1
    · cases h
  | .rng2 a b, X, c, G, tg, iter, h => by
    simp only [chkI] at h
    split at h
    · simp only [Bool.and_eq_true] at h
      obtain ⟨⟨⟨⟨⟨h1, h2⟩, h3⟩, h3'⟩, h4⟩, h5⟩ := h
      have h1 := beqS_eq h1
      subst h1
      exact i_rng2 (G.glob h2) (bN G.lay (by simp [bNames])) h3 h3' (sndE a G _ h4).1 (sndE b G _ h5).1
    · cases h
  | .rng3 a b d, X, c, G, tg, iter, h => by
    simp only [chkI] at h
    split at h
    · simp only [Bool.and_eq_true, decide_eq_true_eq] at h
      obtain ⟨⟨⟨⟨⟨⟨h0, h1⟩, h2⟩, h3⟩, h3'⟩, h4⟩, h5⟩ := h
      have h1 := beqS_eq h1
      subst h1
      exact i_rngD (G.glob h2) (bN G.lay (by simp [bNames])) h3 h3' (sndE a G _ h4).1 (sndE b G _ h5).1
    · cases h
end
end
end SP
end
section
set_option Elab.async false
set_option linter.all false
set_option autoImplicit false
set_option maxRecDepth 100000
set_option maxHeartbeats 2000000
namespace SP
open PySem
/-! ### the check of statements -/
def noComp : Expr → Bool
  | .ListComp _ _ _ _ => false
  | .SetComp _ _ _ _ => false
  | .DictComp _ _ _ _ _ => false
  | _ => true
def isCompX : Ex → Bool
  | .comp _ _ _ _ => true
  | _ => false
def isName : Expr → Bool
  | .Name _ _ => true
  | _ => false
def noTup : Expr → Bool
  | .Tuple _ _ _ => false
  | _ => true
/-- name = [..] on one line, the name a local that the block does not own -/
def swOk (c : CC) (x : Str) (px : Pos) : Expr → Bool
  | .ListComp _ _ scope pos => isK (c.sc.names.lookup x) .local && (px.line == pos.line) && !(scope.names.any fun (n, k) => n == x && (k == .local || k == .cell))
  | _ => false
/-- a, b = x, y with two local names -/
def parOk (c : CC) (x y : Str) (px py : Pos) (a b : Expr) : Bool :=
  (c.sc.kind == .function) &&   isK (c.sc.names.lookup x) .local && isK (c.sc.names.lookup y) .local && (px.line == py.line) && !(beqS x y) && plainX a && plainX b && !([a, b].all (foldedForSure 8)) && !([a, b].all (constantsAlone 8))
section
variable (pg : Pg)
def isFz : Sm → Bool
  | .fz _ => true
  | _ => false
def chkAs (c : CC) : Option Nat → Option Str → Bool
  | none, none => true
  | some i, some n => c.at_ i n && isK (c.sc.names.lookup n) .local && nmOk n
  | _, _ => false
def chkQ (c : CC) (as : Option Nat) : QE → Expr → Bool
  | .non, e => match e with
    | .Constant .none _ _ => true
    | _ => false
  | .bl b, e => match e with
    | .Constant (.bool b') _ _ => b == b'
    | _ => false
  | .int i, e => match e with
    | .Constant (.int j) _ _ => decide (i = j)
    | _ => false
  | .str s, e => match e with
    | .Constant (.str t) _ _ => beqS s t
    | _ => false
  | .fld f, e => match as, e with
    | some i, .Attribute (.Name x _) n _ => c.at_ i x && c.vis x && nmOk x && optIs (pg.fld f) n
    | _, _ => false
  | .tup2 a b, e => match e with
    | .Tuple [x, y] _ _ => plainX x && plainX y && chkQ c as a x && chkQ c as b y
    | _ => false
def chkQs (c : CC) (as : Option Nat) : Qs → Stmt → Bool
  | .set i e, st => match st with
    | .Assign [.Name x _] e' _ => noComp e' && c.at_ i x && c.own x && chkQ pg c as e e'
    | _ => false
  | .ret e, st => match st with
    | .Return (some e') _ => chkQ pg c as e e'
    | _ => false
mutual
def chkS : Sm → CC → Stmt → Bool
  | .set t e, c, st => match st with
    | .Assign [tg] e' _ => chkT false c t tg && chkE pg e c e' && (match tg with
      | .Name x px => noComp e' || ((isCompX e && swOk c x px e') || isK (c.sc.names.lookup x) .cell)
      | _ => noComp e' && noTup e')
    | _ => false
  | .sets ts es, c, st => match ts, es, st with
    | .cons (.nm i) (.cons (.nm j) .nil), .cons a (.cons b .nil), .Assign [.Tuple [.Name x px, .Name y py] _ _] (.Tuple [a', b'] _ _) _ => parOk c x y px py a' b' && c.at_ i x && c.at_ j y && chkE pg a c a' && chkE pg b c b'
    | _, _, _ => false
  | .aug i e, c, st => match st with
    | .AugAssign (.Name x _) .Add e' _ => c.at_ i x && c.own x && chkE pg e c e'
    | _ => false
  | .put o k e, c, st => match st with
    | .Assign [.Subscript o' k' _] e' _ => noComp e' && isName o' && plainX k' && chkE pg o c o' && chkE pg k c k' && chkE pg e c e'
    | _ => false
  | .sfld o f e, c, st => match st with
    | .Assign [.Attribute (.Name x _) n _] e' _ => noComp e' && c.at_ o x && c.vis x && nmOk x && optIs (pg.fld f) n && chkE pg e c e'
    | _ => false
  | .app o e, c, st => match st with
    | .Expr (.Call (.Attribute o' n ap) [e'] [] p) _ => beqS n "append" && plainO o' && (ap.endLine == p.line) && plainX e' && chkE pg o c o' && chkE pg e c e'
    | _ => false
  | .ext o e, c, st => match st with
    | .Expr (.Call (.Attribute o' n ap) [e'] [] p) _ => beqS n "extend" && plainO o' && (ap.endLine == p.line) && plainX e' && chkE pg o c o' && chkE pg e c e'
    | _ => false
  | .rem o e, c, st => match st with
    | .Expr (.Call (.Attribute o' n ap) [e'] [] p) _ => beqS n "remove" && plainO o' && (ap.endLine == p.line) && plainX e' && chkE pg o c o' && chkE pg e c e'
    | _ => false
  | .clr o, c, st => match st with
    | .Expr (.Call (.Attribute o' n ap) [] [] p) _ => beqS n "clear" && plainO o' && (ap.endLine == p.line) && chkE pg o c o'
    | _ => false
  | .fz _, _, _ => false
  | .exp e, c, st => match st with
    | .Expr e' _ => noComp e' && chkE pg e c e'
    | _ => false
  | .ret e, c, st => match st with
    | .Return (some e') _ => chkE pg e c e'
    | _ => false
  | .retN, _, st => match st with
    | .Return none _ => true
    | _ => false
  | .pass, _, st => match st with
    | .Pass _ => true
    | _ => false
  | .ife d a b, c, st => match st with
    | .If t x y _ => chkE pg d c t && chkSs a c x && chkSs b c y
    | _ => false
  | .for_ t it b, c, st => match st with
    | .For tg iter body [] _ => plainX iter && chkT false c t tg && chkI pg it c (isTupE tg) iter && chkSs b c body
    | _ => false
  | .whl _ d b, c, st => match st with
    | .While t body [] _ => chkE pg d c t && chkSs b c body
    | _ => false
  | .rse k e, c, st => match st with
    | .Raise (some (.Call (.Name x _) [a] [] _)) none _ => optIs (pg.cn k) x && decide (0 < k) && decide (k < 100) && c.glob x && nmOk x && plainX a && chkE pg e c a
    | _ => false
  | .try_ b k as h, c, st => match st with
    | .Try body [.ExceptHandler (some (.Name x _)) n [st] _] [] [] _ => optIs (pg.cn k) x && decide (k < 100) && c.glob x && nmOk x && chkAs c as n && chkQs pg c as h st && chkSs b c body
    | _ => false
def chkSs : Sms → CC → List Stmt → Bool
  | .nil, _, l => l.isEmpty
  | .cons s ss, c, l => if isFz s then chkSs ss c l else match l with
    | x :: xs => chkS s c x && chkSs ss c xs
    | _ => false
end
end
end SP
end
section
set_option Elab.async false
set_option linter.all false
set_option autoImplicit false
set_option maxRecDepth 100000
set_option maxHeartbeats 8000000
namespace SP
open PySem PySem.Spec PyProof.Rows L2
def AftF (κ : Kx) (W : WX) (w : Wd) (r : Fl) (D : Ends) : Prop := match r with
  | .nx ρ S => ∀ w', w.le w' → HRel κ w' S → ∀ σ, SRel κ w' ρ σ → D.nx σ w'.H
  | .rt d S => ∀ w', w.le w' → HRel κ w' S → ∀ v, RepL κ w' d v → D.rt v w'.H
  | .ex c fs ρ S => ∀ w', w.le w' → HRel κ w' S → ∀ σ, SRel κ w' ρ σ → ∀ cls dd, ExR κ w' c fs cls dd → W cls dd σ w'.H
  | .bad => False
def tS (κ : Kx) (W : WX) (f : Env → Store → Fl) : TS := fun D σ H => ∃ w ρ S, w.H = H ∧ HRel κ w S ∧ SRel κ w ρ σ ∧ AftF κ W w (f ρ S) D
def JS (κ : Kx) (X : Cx) (st : Stmt) (f : Env → Store → Fl) : Prop := ∀ W, Takes X W → PS X st (tS κ W f)
def JSs (κ : Kx) (X : Cx) (st : List Stmt) (f : Env → Store → Fl) : Prop := ∀ W, Takes X W → PSs X st (tS κ W f)
section
variable {κ : Kx} {X : Cx} {pg : Pg} {k : Nat} {cf : Cf} {c : CC}
theorem AftF.mono {W : WX} {w w' : Wd} {r : Fl} {E : Ends} (h : AftF κ W w r E) (le : w.le w') : AftF κ W w' r E := by
  cases r with
  | nx ρ S => exact fun w2 l2 hr => h w2 (le.trans l2) hr
  | rt d S => exact fun w2 l2 hr => h w2 (le.trans l2) hr
  | ex c fs ρ S => exact fun w2 l2 hr => h w2 (le.trans l2) hr
  | bad => exact h
theorem ps_imp {st : Stmt} {t t' : TS} (h : PS X st t) (hi : ∀ D σ H, t' D σ H → t D σ H) : PS X st t' := ⟨fun pins s σ H D I q => h.run pins s σ H D I (hi D σ H q)⟩
theorem pss_imp {st : List Stmt} {t t' : TS} (h : PSs X st t) (hi : ∀ D σ H, t' D σ H → t D σ H) : PSs X st t' := ⟨fun pins s σ H D I q => h.run pins s σ H D I (hi D σ H q)⟩
/-- an expression inside a statement -/
theorem fl_aft {α : Type} {W : WX} {σ : L2.St} {w : Wd} {r : R α} {ρ : Env} {g : α → Store → Fl} {E : Ends} (sr : SRel κ w ρ σ) (h : AftF κ W w (r.fl ρ g) E) : Aft κ W σ w r (fun w' S a => AftF κ W w' (g a S) E) := by
  cases r with
  | ok a S => exact fun w2 l2 _ => AftF.mono (r := g a S) h l2
  | ex c fs S => exact fun w2 l2 hr cls dd x => h w2 l2 hr σ (sr.mono l2) cls dd x
  | bad => exact h
theorem fl_X {W : WX} {fe : Env → Store → R D} {σ : L2.St} {w : Wd} {ρ : Env} {S : Store} {g : D → Store → Fl} {E : Ends} {Q : VK} (hr : HRel κ w S) (sr : SRel κ w ρ σ) (h : AftF κ W w ((fe ρ S).fl ρ g) E)
    (hq : ∀ w' S' d v, w.le w' → HRel κ w' S' → RepL κ w' d v → AftF κ W w' (g d S') E → Q v w'.H) : tX κ W fe σ w.H Q :=
  ⟨w, ρ, S, rfl, hr, sr, (fl_aft sr h).imp fun w' S' d le hr' _ a v rv => hq w' S' d v le hr' rv a⟩
theorem fl_Xe {W : WX} {fe : Env → Store → R D} {σ : L2.St} {w : Wd} {ρ : Env} {S : Store} {g : D → Store → Fl} {E : Ends} {Q : VK} (hr : HRel κ w S) (sr : SRel κ w ρ σ) (h : AftF κ W w ((fe ρ S).fl ρ g) E)
    (hq : ∀ w' S' d v, fe ρ S = .ok d S' → w.le w' → HRel κ w' S' → RepL κ w' d v → AftF κ W w' (g d S') E → Q v w'.H) : tX κ W fe σ w.H Q :=
  ⟨w, ρ, S, rfl, hr, sr, (fl_aft sr h).imp fun w' S' d le hr' e a v rv => hq w' S' d v e le hr' rv a⟩
theorem frz_noLoc {r : R D} {d : D} {S : Store} (h : r.bind frzD = .ok d S) : d.noLoc = true := by
  cases r with
  | bad => cases h
  | ex c fs S' => cases h
  | ok d0 S0 =>
    replace h : frzD d0 S0 = .ok d S := h
    unfold frzD at h
    split at h
    · split at h
      · cases h; rfl
      · cases h
    · cases h
    · rename_i hd hc
      cases h
      cases d with
      | loc n => exact absurd rfl (hd n)
      | clo l cap => exact absurd rfl (hc l cap)
      | _ => rfl
/-! ### plain statements -/
theorem s_exp {e : Expr} {pos : Pos} {fe : Env → Store → R D} (he : JE κ X e fe) (hn : noComp e = true) : JS κ X (.Expr e pos) (fun ρ S => (fe ρ S).fl ρ fun _ S1 => .nx ρ S1) := fun W tk => ps_imp (ps_expr (he W tk) (by cases e <;> first | rfl | (simp [noComp] at hn))) fun E σ H q => by
  obtain ⟨w, ρ, S, rfl, hr, sr, a⟩ := q
  exact fl_X hr sr a fun w1 S1 d v le hr1 _ a1 => a1 w1 (.refl w1) hr1 σ (sr.mono le)
theorem s_ret {e : Expr} {pos : Pos} {fe : Env → Store → R D} (he : JE κ X e fe) : JS κ X (.Return (some e) pos) (fun ρ S => (fe ρ S).fl ρ fun d S1 => .rt d S1) := fun W tk => ps_imp (ps_ret (he W tk)) fun E σ H q => by
  obtain ⟨w, ρ, S, rfl, hr, sr, a⟩ := q
  exact fl_X hr sr a fun w1 S1 d v le hr1 rv a1 => a1 w1 (.refl w1) hr1 v rv
theorem s_retN {pos : Pos} : JS κ X (.Return none pos) (fun ρ S => .rt .non S) := fun W tk => ps_imp ps_retN fun E σ H q => by
  obtain ⟨w, ρ, S, rfl, hr, sr, a⟩ := q
  exact a w (.refl w) hr _ rep_non
theorem s_pass {pos : Pos} : JS κ X (.Pass pos) (fun ρ S => .nx ρ S) := fun W tk => ps_imp ps_pass fun E σ H q => by
  obtain ⟨w, ρ, S, rfl, hr, sr, a⟩ := q
  exact a w (.refl w) hr _ sr
theorem s_if {t : Expr} {a b : List Stmt} {pos : Pos} {ft : Env → Store → R D} {fa fb : Env → Store → Fl} (ht : JT κ X t ft) (ha : JSs κ X a fa) (hb : JSs κ X b fb) : JS κ X (.If t a b pos) (fun ρ S => (ft ρ S).fl ρ fun d S1 => match d with
    | .bl true => fa ρ S1
    | .bl false => fb ρ S1
    | _ => .bad) := fun W tk => ps_imp (ps_if (ht W tk) (ha W tk) (hb W tk)) fun E σ H q => by
  obtain ⟨w, ρ, S, rfl, hr, sr, a⟩ := q
  refine ⟨w, ρ, S, rfl, hr, sr, (fl_aft sr a).imp fun w1 S1 d le hr1 _ a1 => ?_⟩
  cases d with
  | bl b =>
    refine ⟨b, rfl, ?_⟩
    cases b with
    | true =>
      rw [if_pos rfl]
      exact ⟨w1, ρ, S1, rfl, hr1, sr.mono le, a1⟩
    | false => exact ⟨w1, ρ, S1, rfl, hr1, sr.mono le, a1⟩
  | _ => exact a1.elim
theorem ss_nil : JSs κ X [] (fun ρ S => .nx ρ S) := fun W tk => pss_imp pss_nil fun E σ H q => by
  obtain ⟨w, ρ, S, rfl, hr, sr, a⟩ := q
  exact a w (.refl w) hr _ sr
theorem ss_cons {s : Stmt} {ss : List Stmt} {f g : Env → Store → Fl} (h1 : JS κ X s f) (h2 : JSs κ X ss g) : JSs κ X (s :: ss) (fun ρ S => match f ρ S with
    | .nx ρ1 S1 => g ρ1 S1
    | r => r) := fun W tk => pss_imp (pss_cons (h1 W tk) (h2 W tk)) fun E σ H q => by
  obtain ⟨w, ρ, S, rfl, hr, sr, a⟩ := q
  refine ⟨w, ρ, S, rfl, hr, sr, ?_⟩
  cases e : f ρ S with
  | nx ρ1 S1 =>
    simp only [e] at a
    exact fun w1 le hr1 σ1 sr1 => ⟨w1, ρ1, S1, rfl, hr1, sr1, AftF.mono (r := g ρ1 S1) a le⟩
  | rt d S1 => simp only [e] at a; exact a
  | ex c fs ρ1 S1 => simp only [e] at a; exact a
  | bad => simp only [e] at a; exact a
theorem R.bind_assoc {α β γ : Type} {r : R α} {f : α → Store → R β} {g : β → Store → R γ} : (r.bind f).bind g = r.bind fun a S => (f a S).bind g := by cases r <;> rfl
/-! ### stores -/
theorem s_set {tg e : Expr} {t : Tg} {pos : Pos} {fe : Env → Store → R D} (he : JE κ X e fe) (hg : PG X tg (gT κ t)) (hs : swapsWithSole [tg] e pos.line X.env = pure false) (hw : swappedStores [tg] e X.env = pure none) (h1 : (assignEach [tg] X.env).map (·.2) = [assign tg X.env]) :
    JS κ X (.Assign [tg] e pos) (fun ρ S => (fe ρ S).fl ρ fun d S1 => match bindT t d ρ with
      | some ρ1 => .nx ρ1 S1
      | none => .bad) := fun W tk => ps_imp (ps_asg (he W tk) hg hs hw h1) fun E σ H q => by
  obtain ⟨w, ρ, S, rfl, hr, sr, a⟩ := q
  refine fl_X hr sr a fun w1 S1 d v le hr1 rv a1 => ?_
  cases e : bindT t d ρ with
  | none => simp only [e] at a1; exact a1.elim
  | some ρ1 =>
    simp only [e] at a1
    exact ⟨w1, ρ, S1, d, ρ1, rfl, hr1, sr.mono le, rv, e, fun σ' s' _ _ => a1 w1 (.refl w1) hr1 σ' s'⟩
theorem s_par {i j : Nat} {x y : Str} {a b : Expr} {fa fb : Env → Store → R D} {px py pt pos : Pos} {kt k2 pt2} (G : Good κ pg X c k cf) (hi : X.N[i]? = some x) (hj : X.N[j]? = some y) (h : parOk c x y px py a b = true) (ha : JE κ X a fa) (hb : JE κ X b fb) :
    JS κ X (.Assign [.Tuple [.Name x px, .Name y py] kt pt] (.Tuple [a, b] k2 pt2) pos) (fun ρ S => ((fa ρ S).bind fun u S1 => ((fb ρ S1).bind fun v S2 => (.ok [] S2 : R (List D)).bind fun xs S3 => .ok (v :: xs) S3).bind fun l S2 => .ok (u :: l) S2).fl ρ fun ds S1 => match bindTs (.cons (.nm i) (.cons (.nm j) .nil)) ds ρ with
      | some ρ1 => .nx ρ1 S1
      | none => .bad) := fun W tk => by
  unfold parOk at h
  simp only [Bool.and_eq_true, Bool.not_eq_true'] at h
  obtain ⟨⟨⟨⟨⟨⟨⟨⟨h0, h1⟩, h2⟩, h3⟩, h4⟩, h5⟩, h6⟩, h7⟩, h8⟩ := h
  have e1 : X.env.scope.names.lookup x = some .local := by rw [G.sc]; exact isK_eq h1
  have e2 : X.env.scope.names.lookup y = some .local := by rw [G.sc]; exact isK_eq h2
  have hxy : x ≠ y := by simpa [beqS] using h4
  have hij : i ≠ j := fun z => hxy (by rw [z, hj] at hi; exact (Option.some.inj hi).symm)
  have hw : swappedStores [.Tuple [.Name x px, .Name y py] kt pt] (.Tuple [a, b] k2 pt2) X.env = pure (some [x, y]) := by
    have hk : X.env.scope.kind = .function := by rw [G.sc]; exact eq_of_beq h0
    have hb : X.env.blockKind = .function := by unfold Env.blockKind; rw [hk]; rfl
    have k1 : X.env.kindOf x = some .local := e1
    have k2 : X.env.kindOf y = some .local := e2
    have hst : ([a, b].any fun | .Starred .. => true | _ => false) = false := by
      cases a <;> first | (simp [plainX] at h5; done) | (cases b <;> first | (simp [plainX] at h6; done) | rfl)
    have h3' : (py.line == px.line) = true := by
      rw [eq_of_beq h3]
      exact beq_self_eq_true _
    have hyx : (y == x) = false := by simpa using Ne.symm hxy
    have sa : (match a with | .Starred _ _ => true | _ => false) = false := by cases a <;> first | rfl | (simp [plainX] at h5; done)
    have sb : (match b with | .Starred _ _ => true | _ => false) = false := by cases b <;> first | rfl | (simp [plainX] at h6; done)
    have h3e : py.line = px.line := (eq_of_beq h3).symm
    unfold swappedStores
    simp only [hb, h7, h8]
    simp [sa, sb, k1, k2, h3e, Expr.pos, List.filterMap_cons, List.eraseDups_cons, hyx]
    intro z
    exfalso
    rcases z with z | z
    · cases a <;> first | (cases z; done) | (simp [plainX] at h5; done)
    · cases b <;> first | (cases z; done) | (simp [plainX] at h6; done)
  refine ps_imp (ps_par G.calm G.nd hi hj hij e1 e2 (pa_cons (ha W tk) (pa_cons (hb W tk) pa_nil (star_plain h6)) (star_plain h5)) hw (by rfl)) fun E σ H q => ?_
  obtain ⟨w, ρ, S, rfl, hr, sr, a⟩ := q
  refine tX_bind hr sr (fl_aft sr a) fun w1 S1 d1 v1 le1 hr1 _ r1 a1 => ?_
  rw [R.bind_assoc] at a1
  refine tX_bind hr1 (sr.mono le1) a1 fun w2 S2 d2 v2 le2 hr2 _ r2 a2 => ?_
  refine ⟨v1, v2, rfl, ?_⟩
  exact (a2 w2 (.refl w2) hr2) w2 (.refl w2) hr2 _ ((((sr.mono le1).mono le2).set (r1.mono le2) i).set r2 j)
/-- an augmented int -/
theorem s_aug {i : Nat} {x : Str} {e : Expr} {px pos : Pos} {fe : Env → Store → R D} (G : Good κ pg X c k cf) (hfn : ∀ x, X.fn x = true) (hi : X.N[i]? = some x) (hx : Loc X.env.scope x) (he : JE κ X e fe) :
    JS κ X (.AugAssign (.Name x px) .Add e pos) (fun ρ S => match ρ[i]? with
      | some (some (.int a)) => (fe ρ S).fl ρ fun d S1 => match d with
        | .int b => .nx (ρ.set i (some (.int (a + b)))) S1
        | _ => .bad
      | _ => .bad) := fun W tk => ps_imp (ps_aug G.nd hi hx (he W tk) ip_add (.inl (hfn x))) fun E σ H q => by
  obtain ⟨w, ρ, S, rfl, hr, sr, a⟩ := q
  simp only at a
  split at a
  · rename_i n en
    obtain ⟨v, ev, rv⟩ := sr.at_ i _ en
    refine ⟨v, ev, fl_X hr sr a fun w1 S1 d u le hr1 ru a1 => ?_⟩
    cases d with
    | int b => exact ⟨n, b, rv.see.int, ru.see.int, a1 w1 (.refl w1) hr1 _ ((sr.mono le).set rep_int i)⟩
    | _ => exact a1.elim
  · exact a.elim
/-! ### cells written -/
theorem cell_at {w : Wd} {S : Store} {x : D} {v : V} {n : Nat} {cl : Cell} (hr : HRel κ w S) (r : RepL κ w x v) (h : cellOf S x = some (n, cl)) : ∃ a, v = .ref a ∧ w.A[n]? = some a ∧ ¬ w.F a ∧ CellR κ w cl a ∧ S[n]? = some (some cl) := by
  cases x with
  | loc m =>
    obtain ⟨a, ea, rfl⟩ := r
    simp only [cellOf] at h
    split at h
    · rename_i c' ec
      cases h
      obtain ⟨b, e1, e2, e3⟩ := hr.cl n cl ec
      rw [ea] at e1
      cases e1
      exact ⟨a, rfl, ea, e2, e3, ec⟩
    · cases h
  | _ => simp [cellOf] at h
theorem toCell_at {w : Wd} {S S' : Store} {x : D} {v : V} {f : List D → Option (List D)} (hr : HRel κ w S) (r : RepL κ w x v) (h : toCell x S f = some S') : ∃ n a xs ys vs, v = .ref a ∧ w.A[n]? = some a ∧ ¬ w.F a ∧ w.H a = some (.lst vs) ∧ Reps κ w.F w.H xs vs ∧ f xs = some ys ∧ S' = S.set n (some (.lst ys)) := by
  unfold toCell at h
  cases e : cellOf S x with
  | none => rw [e] at h; cases h
  | some p =>
    obtain ⟨n, cl⟩ := p
    rw [e] at h
    cases cl with
    | lst xs =>
      simp only [Option.map_eq_some_iff] at h
      obtain ⟨ys, h1, rfl⟩ := h
      obtain ⟨a, rfl, h2, h3, ⟨vs, h4, h5⟩, _⟩ := cell_at hr r e
      exact ⟨n, a, xs, ys, vs, rfl, h2, h3, h4, h5, h1, rfl⟩
    | dct ks vs => cases h
    | ins c fs => cases h
theorem isCL_at {w : Wd} {S : Store} {x : D} {v : V} (hr : HRel κ w S) (r : RepL κ w x v) (h : isCL S x = true) : ∃ a vs, v = .ref a ∧ w.H a = some (.lst vs) := by
  cases x with
  | loc n =>
    obtain ⟨a, ea, rfl⟩ := r
    simp only [isCL] at h
    split at h
    · rename_i xs es
      obtain ⟨b, e1, e2, vs, e3, e4⟩ := hr.cl n _ es
      rw [ea] at e1
      cases e1
      exact ⟨a, vs, rfl, e3⟩
    · cases h
  | _ => simp [isCL] at h
theorem opt_nx {W : WX} {w : Wd} {ρ : Env} {o : Option Store} {E : Ends} (h : AftF κ W w (Fl.opt ρ o) E) : ∃ S', o = some S' ∧ ∀ w', w.le w' → HRel κ w' S' → ∀ σ, SRel κ w' ρ σ → E.nx σ w'.H := by
  cases o with
  | none => exact h.elim
  | some S' => exact ⟨S', rfl, h⟩
theorem few_one {e : Expr} {env : PySem.Env} {pos : Pos} (h : plainX e = true) : ((backTo pos (starEach [e] env)).all (fun x => !x.1) && (backToKw pos (keywordEach [] env)).all (fun x => x.1.isSome) && decide (([e] : List Expr).length + ([] : List Keyword).length + (if ([] : List Keyword).isEmpty then 0 else 1) < 30)) = true := by
  rw [star_plain h]
  rfl
theorem ty_list {H : Hp} {a : Addr} {vs : List V} (h : H a = some (.lst vs)) : tyV X.K "list" (.ref a) H := .inl ⟨rfl, vs, .of h⟩
theorem isCL_or {W : WX} {w : Wd} {S : Store} {x : D} {r : Fl} {E : Ends} (h : AftF κ W w (if isCL S x = true then r else .bad) E) : isCL S x = true ∧ AftF κ W w r E := by
  by_cases hc : isCL S x = true
  · rw [if_pos hc] at h
    exact ⟨hc, h⟩
  · rw [if_neg hc] at h
    exact h.elim
/-- the end of a store into a list's cell -/
theorem put_end {w : Wd} {ρ : Env} {σ : L2.St} {S S' : Store} {x : D} {v : V} {E : Ends} {f : List D → Option (List D)} (hr : HRel κ w S) (sr : SRel κ w ρ σ) (r : RepL κ w x v) (e : toCell x S f = some S') (q : ∀ w', w.le w' → HRel κ w' S' → ∀ σ, SRel κ w' ρ σ → E.nx σ w'.H) :
    ∃ a xs ys vs, v = .ref a ∧ w.H a = some (.lst vs) ∧ Reps κ w.F w.H xs vs ∧ f xs = some ys ∧ ∀ us, (∀ le : w.le (w.write a (.lst us)), Reps κ (w.write a (.lst us)).F (w.write a (.lst us)).H ys us) → E.nx σ (upd w.H a (.lst us)) := by
  obtain ⟨n, a, xs, ys, vs, rfl, h1, h2, h3, h4, h5, rfl⟩ := toCell_at hr r e
  refine ⟨a, xs, ys, vs, rfl, h3, h4, h5, fun us hu => ?_⟩
  have le := Wd.le_write (w := w) (HO.lst us) h2
  exact q _ le (hr.write h1 h2 h3 (c := .lst ys) ⟨us, upd_same, hu le⟩) σ (sr.mono le)
theorem s_app {o e : Expr} {n : Str} {ap p pos : Pos} {fo fe : Env → Store → R D} (hn : n = "append") (hp : plainO o = true) (hl : (ap.endLine == p.line) = true) (hpe : plainX e = true) (ho : JE κ X o fo) (he : JE κ X e fe) :
    JS κ X (.Expr (.Call (.Attribute o n ap) [e] [] p) pos) (fun ρ S => (fo ρ S).fl ρ fun x S1 => if isCL S1 x then ((fe ρ S1).bind frzD).fl ρ fun d S2 => .opt ρ (toCell x S2 fun xs => if lenOk (xs.length + 1) then some (xs ++ [d]) else none) else .bad) := fun W tk => by
  subst hn
  refine ps_imp (ps_expr (pe_bm PySem.F.plainAttrs_list PySem.F.slot_list_append PySem.F.type_list_append mt_append (ho W tk) (pa_cons (j_frz he W tk) pa_nil (star_plain hpe)) (attr_plain hp) (few_one hpe) hl (star_plain hpe) (by rfl)) (by rfl)) fun E σ H q => ?_
  obtain ⟨w, ρ, S, rfl, hr, sr, a⟩ := q
  refine fl_X hr sr a fun w1 S1 x v le1 hr1 r1 a1 => ?_
  obtain ⟨hc, a1⟩ := isCL_or a1
  obtain ⟨b, vs, rfl, hb⟩ := isCL_at hr1 r1 hc
  refine ⟨ty_list hb, ?_⟩
  refine fl_Xe (fe := fun ρ S => (fe ρ S).bind frzD) hr1 (sr.mono le1) a1 fun w2 S2 d u ed le2 hr2 r2 a2 => ?_
  obtain ⟨S3, e3, q3⟩ := opt_nx a2
  obtain ⟨b', xs, ys, us, eb, hv, rr, hf, fin⟩ := put_end hr2 ((sr.mono le1).mono le2) (r1.mono le2) e3 q3
  cases eb
  split at hf
  · rename_i hlen
    cases hf
    refine ⟨b, us, u, rfl, rfl, hv, by have := lenOk_le hlen; have := rr.length; omega, fin _ fun le => ?_⟩
    have rd : Rep κ w2.F w2.H d u := r2.rep (frz_noLoc ed)
    exact Reps.mono le.F le.H _ _ (rr.append (.cons rd .nil))
  · cases hf
theorem s_ext {o e : Expr} {n : Str} {ap p pos : Pos} {fo fe : Env → Store → R D} (hn : n = "extend") (hp : plainO o = true) (hl : (ap.endLine == p.line) = true) (hpe : plainX e = true) (ho : JE κ X o fo) (he : JE κ X e fe) :
    JS κ X (.Expr (.Call (.Attribute o n ap) [e] [] p) pos) (fun ρ S => (fo ρ S).fl ρ fun x S1 => if isCL S1 x then (fe ρ S1).fl ρ fun d S2 => (match d with
      | .lst ys => .opt ρ (toCell x S2 fun xs => if lenOk (xs.length + ys.length) then some (xs ++ ys) else none)
      | _ => .bad) else .bad) := fun W tk => by
  subst hn
  refine ps_imp (ps_expr (pe_bm PySem.F.plainAttrs_list PySem.F.slot_list_extend PySem.F.type_list_extend mt_extend (ho W tk) (pa_cons (he W tk) pa_nil (star_plain hpe)) (attr_plain hp) (few_one hpe) hl (star_plain hpe) (by rfl)) (by rfl)) fun E σ H q => ?_
  obtain ⟨w, ρ, S, rfl, hr, sr, a⟩ := q
  refine fl_X hr sr a fun w1 S1 x v le1 hr1 r1 a1 => ?_
  obtain ⟨hc, a1⟩ := isCL_or a1
  obtain ⟨b, vs, rfl, hb⟩ := isCL_at hr1 r1 hc
  refine ⟨ty_list hb, ?_⟩
  refine fl_X hr1 (sr.mono le1) a1 fun w2 S2 d u le2 hr2 r2 a2 => ?_
  cases d with
  | lst zs =>
    obtain ⟨S3, e3, q3⟩ := opt_nx a2
    obtain ⟨b', xs, ys, us, eb, hv, rr, hf, fin⟩ := put_end hr2 ((sr.mono le1).mono le2) (r1.mono le2) e3 q3
    cases eb
    obtain ⟨b2, us2, rfl, hv2, rr2⟩ := r2.see.lst
    split at hf
    · rename_i hlen
      cases hf
      exact ⟨b, b2, us, us2, rfl, rfl, hv, hv2, by have := lenOk_le hlen; have := rr.length; have := rr2.length; omega, fin _ fun le => Reps.mono le.F le.H _ _ (rr.append rr2)⟩
    · cases hf
  | _ => exact a2.elim
theorem s_clr {o : Expr} {n : Str} {ap p pos : Pos} {fo : Env → Store → R D} (hn : n = "clear") (hp : plainO o = true) (hl : (ap.endLine == p.line) = true) (ho : JE κ X o fo) :
    JS κ X (.Expr (.Call (.Attribute o n ap) [] [] p) pos) (fun ρ S => (fo ρ S).fl ρ fun x S1 => if isCL S1 x then .opt ρ (toCell x S1 fun _ => some []) else .bad) := fun W tk => by
  subst hn
  refine ps_imp (ps_expr (pe_bm0 PySem.F.plainAttrs_list PySem.F.slot_list_clear PySem.F.type_list_clear mt_clear (ho W tk) (attr_plain hp) hl) (by rfl)) fun E σ H q => ?_
  obtain ⟨w, ρ, S, rfl, hr, sr, a⟩ := q
  refine fl_X hr sr a fun w1 S1 x v le1 hr1 r1 a1 => ?_
  obtain ⟨hc, a1⟩ := isCL_or a1
  obtain ⟨b, vs, rfl, hb⟩ := isCL_at hr1 r1 hc
  refine ⟨ty_list hb, ?_⟩
  obtain ⟨S3, e3, q3⟩ := opt_nx a1
  obtain ⟨b', xs, ys, us, eb, hv, rr, hf, fin⟩ := put_end hr1 (sr.mono le1) r1 e3 q3
  cases eb
  cases hf
  exact ⟨b, us, rfl, rfl, hv, fin [] fun le => .nil⟩
end
end SP
end
section
set_option Elab.async false
set_option linter.all false
set_option autoImplicit false
set_option maxRecDepth 100000
set_option maxHeartbeats 8000000
namespace SP
open PySem PySem.Spec PyProof.Rows L2
section
variable {κ : Kx} {X : Cx} {pg : Pg} {k : Nat} {cf : Cf} {c : CC}
/-! ### while, for -/
theorem s_whl {t : Expr} {b : List Stmt} {n : Nat} {pos : Pos} {ft : Env → Store → R D} {fb : Env → Store → Fl} (hp : PassesOwn (model X.prog X.w) X.A X.env X.xe) (ht : JT κ X t ft) (hb : JSs κ X b fb) : JS κ X (.While t b [] pos) (fun ρ S => whlL ft fb n ρ S) := fun W tk =>
  ps_imp (ps_while hp (ht W tk) (hb W tk)) fun E σ H q => by
  obtain ⟨w, ρ, S, rfl, hr, sr, a⟩ := q
  refine ⟨fun m σ H => ∃ w ρ S, w.H = H ∧ HRel κ w S ∧ SRel κ w ρ σ ∧ AftF κ W w (whlL ft fb m ρ S) E, ⟨n, w, ρ, S, rfl, hr, sr, a⟩, ?_⟩
  rintro m σ H ⟨w, ρ, S, rfl, hr, sr, a⟩
  cases m with
  | zero => exact a.elim
  | succ m =>
    unfold whlL at a
    refine ⟨w, ρ, S, rfl, hr, sr, (fl_aft sr a).imp fun w1 S1 d le hr1 _ a1 => ?_⟩
    cases d with
    | bl bb =>
      refine ⟨bb, rfl, ?_⟩
      cases bb with
      | true =>
        rw [if_pos rfl]
        refine ⟨fun σ' H' => ∃ w ρ S, w.H = H' ∧ HRel κ w S ∧ SRel κ w ρ σ' ∧ AftF κ W w (whlL ft fb m ρ S) E, fun σ' H' z => ⟨m, Nat.lt_succ_self m, z⟩, w1, ρ, S1, rfl, hr1, sr.mono le, ?_⟩
        simp only at a1
        cases e : fb ρ S1 with
        | nx ρ2 S2 =>
          simp only [e] at a1
          exact fun w2 le2 hr2 σ2 sr2 => ⟨w2, ρ2, S2, rfl, hr2, sr2, AftF.mono (r := whlL ft fb m ρ2 S2) a1 le2⟩
        | rt d S2 => simp only [e] at a1; exact a1
        | ex c fs ρ2 S2 => simp only [e] at a1; exact a1
        | bad => simp only [e] at a1; exact a1
      | false =>
        rw [if_neg Bool.false_ne_true]
        exact a1 w1 (.refl w1) hr1 _ (sr.mono le)
    | _ => exact a1.elim
theorem fl_auxI {α : Type} {W : WX} {σ : L2.St} {w : Wd} {r : R α} {ρ : Env} {g : α → Store → Fl} {E : Ends} (sr : SRel κ w ρ σ) (h : AftF κ W w (r.fl ρ g) E) : Aft κ W σ w r (fun w' S a => AftF κ W w' (g a S) E) := fl_aft sr h
theorem s_for {tg iter : Expr} {b : List Stmt} {t : Tg} {pos : Pos} {fi : Env → Store → R (List D)} {fb : Env → Store → Fl} (G : Good κ pg X c k cf) (hp : PassesOwn (model X.prog X.w) X.A X.env X.xe) (hpl : plainX iter = true) (hi : JI κ X tg iter fi) (hg : PG X tg (gT κ t)) (hb : JSs κ X b fb) :
    JS κ X (.For tg iter b [] pos) (fun ρ S => (fi ρ S).fl ρ fun xs S1 => forL fb t xs ρ S1) := fun W tk =>
  ps_imp (ps_for hp G.calm (hi W tk) hg (hb W tk) (fold_plain hpl)) fun E σ H q => by
  obtain ⟨w, ρ, S, rfl, hr, sr, a⟩ := q
  refine ⟨w, ρ, S, rfl, hr, sr, (fl_aft sr a).imp fun w1 S1 xs le hr1 _ a1 J hw => ?_⟩
  refine ⟨fun i m σ H => m = xs.length - i ∧ i ≤ xs.length ∧ ∃ w2 ρ S, w1.le w2 ∧ w2.H = H ∧ HRel κ w2 S ∧ SRel κ w2 ρ σ ∧ AftF κ W w2 (forL fb t (xs.drop i) ρ S) E, ⟨_, rfl, Nat.zero_le _, w1, ρ, S1, .refl w1, rfl, hr1, sr.mono le, a1⟩, ?_⟩
  rintro i m σ H ⟨rfl, hi', w2, ρ2, S2, le2, rfl, hr2, sr2, a2⟩
  by_cases hlt : i < xs.length
  · refine .inr ⟨(hw w2 S2 le2 hr2 i).1 hlt, fun σ' H' => ∃ w3 ρ S, w1.le w3 ∧ w3.H = H' ∧ HRel κ w3 S ∧ SRel κ w3 ρ σ' ∧ AftF κ W w3 (forL fb t (xs.drop (i + 1)) ρ S) E, fun σ' H' z => ⟨xs.length - (i + 1), by omega, rfl, hlt, z⟩, fun x H' hy => ?_⟩
    obtain ⟨w3, d, rfl, le3, hr3, ed, rd⟩ := (hw w2 S2 le2 hr2 i).2.2 x H' hy hlt
    have edrop : xs.drop i = d :: xs.drop (i + 1) := by
      rw [List.drop_eq_getElem_cons hlt]
      have := List.getElem?_eq_getElem hlt
      rw [ed] at this
      cases this
      rfl
    rw [edrop] at a2
    unfold forL at a2
    cases eb : bindT t d ρ2 with
    | none => simp only [eb] at a2; exact a2.elim
    | some ρ3 =>
      simp only [eb] at a2
      refine ⟨w3, ρ2, S2, d, ρ3, rfl, hr3, sr2.mono le3, rd, eb, fun σ' s1 _ _ => ⟨w3, ρ3, S2, rfl, hr3, s1, ?_⟩⟩
      have a3 := AftF.mono a2 le3
      cases ef : fb ρ3 S2 with
      | nx ρ4 S4 =>
        simp only [ef] at a3
        exact fun w4 le4 hr4 σ4 sr4 => ⟨w4, ρ4, S4, (le2.trans le3).trans le4, rfl, hr4, sr4, AftF.mono (r := forL fb t (xs.drop (i + 1)) ρ4 S4) a3 le4⟩
      | rt d S4 => simp only [ef] at a3; exact a3
      | ex c fs ρ4 S4 => simp only [ef] at a3; exact a3
      | bad => simp only [ef] at a3; exact a3
  · have e : i = xs.length := by omega
    subst e
    rw [List.drop_length] at a2
    exact .inl ⟨(hw w2 S2 le2 hr2 _).2.1 (Nat.le_refl _), a2 w2 (.refl w2) hr2 σ sr2⟩
end
end SP
end
section
set_option Elab.async false
set_option linter.all false
set_option autoImplicit false
set_option maxRecDepth 100000
set_option maxHeartbeats 8000000
namespace SP
open PySem PySem.Spec PyProof.Rows L2
section
variable {κ : Kx} {X : Cx} {pg : Pg} {k : Nat} {cf : Cf} {c : CC}
theorem s_rem {o e : Expr} {n : Str} {ap p pos : Pos} {fo fe : Env → Store → R D} (G : Good κ pg X c k cf) (hn : n = "remove") (hp : plainO o = true) (hl : (ap.endLine == p.line) = true) (hpe : plainX e = true) (ho : JE κ X o fo) (he : JE κ X e fe) :
    JS κ X (.Expr (.Call (.Attribute o n ap) [e] [] p) pos) (fun ρ S => (fo ρ S).fl ρ fun x S1 => if isCL S1 x then (fe ρ S1).fl ρ fun d S2 => (match d with
      | .int k => .opt ρ (toCell x S2 fun xs => (intsD xs).bind fun is => if is.contains k then some ((is.erase k).map .int) else none)
      | _ => .bad) else .bad) := fun W tk => by
  subst hn
  refine ps_imp (ps_expr (pe_remX G.calm tk (ho W tk) (he W tk) (attr_plain hp) (few_one hpe) hl (star_plain hpe) (by rfl)) (by rfl)) fun E σ H q => ?_
  obtain ⟨w, ρ, S, rfl, hr, sr, a⟩ := q
  refine fl_X hr sr a fun w1 S1 x v le1 hr1 r1 a1 => ?_
  obtain ⟨hc, a1⟩ := isCL_or a1
  obtain ⟨b, vs, rfl, hb⟩ := isCL_at hr1 r1 hc
  refine ⟨ty_list hb, ?_⟩
  refine fl_X hr1 (sr.mono le1) a1 fun w2 S2 d u le2 hr2 r2 a2 => ?_
  cases d with
  | int kk =>
    obtain ⟨S3, e3, q3⟩ := opt_nx a2
    obtain ⟨b', xs, ys, us, eb, hv, rr, hf, fin⟩ := put_end hr2 ((sr.mono le1).mono le2) (r1.mono le2) e3 q3
    cases eb
    obtain ⟨is, h1, h2⟩ := Option.bind_eq_some_iff.mp hf
    split at h2
    · rename_i hm
      cases h2
      have hus := rr.intsD h1
      have hmem : kk ∈ is := by simpa using hm
      exact ⟨b, is, kk, rfl, r2.see.int, by rw [← hus]; exact hv, fun _ => fin _ fun le => Reps.ofInts _, fun hno => absurd hmem hno⟩
    · cases h2
  | _ => exact a2.elim
end
end SP
end
section
set_option Elab.async false
set_option linter.all false
set_option autoImplicit false
set_option maxRecDepth 100000
set_option maxHeartbeats 8000000
namespace SP
open PySem PySem.Spec PyProof.Rows L2
section
variable {κ : Kx} {X : Cx} {pg : Pg} {k : Nat} {cf : Cf} {c : CC}
theorem sub_asg {o i : Expr} {p : Pos} (h : plainX i = true) : ∀ v, assign (.Subscript o i p) X.env v = (do
      let ov ← holding [v] (eval o X.env)
      let iv ← holding [v, ov] (eval i X.env)
      standAt p
      holding [v, ov, iv] (setItem ov iv v)
      release [v, ov, iv] []) := by
  intro v
  cases i <;> first | rfl | (simp [plainX] at h)
theorem s_put {o i e : Expr} {p pos : Pos} {fo fi fe : Env → Store → R D} (hn : noComp e = true) (hno : plainX i = true) (ho : JE κ X o fo) (hi : JE κ X i fi) (he : JE κ X e fe) :
    JS κ X (.Assign [.Subscript o i p] e pos) (fun ρ S => ((fe ρ S).bind frzD).fl ρ fun d S1 => (fo ρ S1).fl ρ fun x S2 => (fi ρ S2).fl ρ fun y S3 => match y with
      | .int i => .opt ρ (toCell x S3 fun xs => (L2.ixN xs.length i).map fun j => xs.set j d)
      | _ => .bad) := fun W tk => by
  refine ps_imp (ps_asg (j_frz he W tk) (pg_sub (ho W tk) (hi W tk) set_list (sub_asg hno)) (by cases e <;> first | rfl | (simp [noComp] at hn)) (by cases e <;> rfl) (by rfl)) fun E σ H q => ?_
  obtain ⟨w, ρ, S, rfl, hr, sr, a⟩ := q
  refine fl_Xe (fe := fun ρ S => (fe ρ S).bind frzD) hr sr a fun w1 S1 d u ed le1 hr1 r1 a1 => ?_
  refine fl_X hr1 (sr.mono le1) a1 fun w2 S2 x v le2 hr2 r2 a2 => ?_
  refine fl_X hr2 ((sr.mono le1).mono le2) a2 fun w3 S3 y z le3 hr3 r3 a3 => ?_
  cases y with
  | int n =>
    obtain ⟨S4, e4, q4⟩ := opt_nx a3
    obtain ⟨b, xs, ys, us, rfl, hv, rr, hf, fin⟩ := put_end hr3 (((sr.mono le1).mono le2).mono le3) (r2.mono le3) e4 q4
    simp only [Option.map_eq_some_iff] at hf
    obtain ⟨j, hj, rfl⟩ := hf
    have rd := ((r1.mono le2).mono le3).rep (frz_noLoc ed)
    exact ⟨b, us, n, j, rfl, r3.see.int, hv, by rw [rr.length]; exact hj, fin _ fun le => Reps.mono le.F le.H _ _ (rr.set rd j)⟩
  | _ => exact a3.elim
end
end SP
end
section
set_option Elab.async false
set_option linter.all false
set_option autoImplicit false
set_option maxRecDepth 100000
set_option maxHeartbeats 8000000
namespace SP
open PySem PySem.Spec PyProof.Rows L2
/-- a def's body context -/
structure GoodS (κ : Kx) (pg : Pg) (X : Cx) (c : CC) (k : Nat) (cf : Cf) : Prop where
  G : Good κ pg X c k cf
  own : PassesOwn (model X.prog X.w) X.A X.env X.xe
  fn : ∀ x, X.fn x = true
  stk : X.stack = X.env :: X.outer
  frm : X.env.frame = some X.env.locals
section
variable {κ : Kx} {pg : Pg} {k : Nat} {cf : Cf}
theorem sw_no {e : Expr} {o : Option Expr} {l : Nat} {env : PySem.Env} (h : noComp e = true) : swapsWith e o l env = pure false := by
  cases e <;> first | rfl | (simp [noComp] at h; done)
theorem sole_no {t e : Expr} {l : Nat} {env : PySem.Env} (h : noComp e = true) : swapsWithSole [t] e l env = pure false := by
  have := sw_no (o := some t) (l := l) (env := env) h
  cases e <;> first | rfl | (simp [noComp] at h; done)
theorem sole_cell {x : Str} {px : Pos} {e : Expr} {l : Nat} {env : PySem.Env} (h : env.scope.names.lookup x = some .cell) : swapsWithSole [.Name x px] e l env = pure false := by
  have hk : (env.kindOf x == some .local) = false := by
    rw [show env.kindOf x = some .cell from h]
    rfl
  show swapsWith e (some (.Name x px)) l env = pure false
  cases e <;> first
    | rfl
    | (show (pure (env.blockKind == .function && env.kindOf x == some .local && _ && _) : Sem Bool) = pure false
       rw [hk, Bool.and_false, Bool.false_and, Bool.false_and])
theorem ss_no {t e : Expr} {env : PySem.Env} (h : noTup e = true) : swappedStores [t] e env = pure none := by
  cases t <;> cases e <;> first | rfl | (simp [noTup] at h; done)
theorem ss_name {x : Str} {p : Pos} {e : Expr} {env : PySem.Env} : swappedStores [.Name x p] e env = pure none := by cases e <;> rfl
theorem s_setLc {X : Cx} {c : CC} {i : Nat} {x : Str} {px pos spos : Pos} {elt tg iter : Expr} {ifs : List Expr} {scope : Scope} {t : Tg} {fi : Env → Store → R (List D)} {fc fe : Env → Store → R D} (G : Good κ pg X c k cf) (hk : X.env.scope.kind = .function) (hi' : X.N[i]? = some x) (hsw : swOk c x px (.ListComp elt [⟨tg, iter, ifs, 0⟩] scope pos) = true) (hb : L2.blkC c.N c.sc scope (ownOf c t) = true) (hpl : ∀ x, foldedSetIterable iter X.env x = pure x) (hi : JI κ X tg iter fi)
    (hg : ∀ (s : Shared) (H : Hp) (C : Addr) (cl : List (Str × Addr)) (fp : List Addr), PG (X.blk s H scope (compEnvC scope cl C X.env) fp) tg (gT κ t))
    (hc : ∀ (s : Shared) (H : Hp) (C : Addr) (cl : List (Str × Addr)) (fp : List Addr), PTs (X.blk s H scope (compEnvC scope cl C X.env) fp) ifs (tT κ WF fc))
    (he : ∀ (s : Shared) (H : Hp) (C : Addr) (cl : List (Str × Addr)) (fp : List Addr), JE κ (X.blk s H scope (compEnvC scope cl C X.env) fp) elt fe) :
    JS κ X (.Assign [.Name x px] (.ListComp elt [⟨tg, iter, ifs, 0⟩] scope pos) spos) (fun ρ S => (lcF fi fc fe t ρ S).fl ρ fun d S1 => match bindT (.nm i) d ρ with
      | some ρ1 => .nx ρ1 S1
      | none => .bad) := fun W tk => by
  have ok := L2.blkOk_by hb
  rw [← G.N, ← G.sc] at ok
  simp only [swOk, Bool.and_eq_true, Bool.not_eq_true'] at hsw
  obtain ⟨⟨h1, h2⟩, h3⟩ := hsw
  have hyl : X.env.scope.names.lookup x = some .local := by rw [G.sc]; exact isK_eq h1
  refine ps_imp (ps_setLc G.calm G.nd hi' hyl (sw_true hk hyl h2 h3) (hi W tk) ok hg hc (fun s H C cl fp => he s H C cl fp WF takes_blk) hpl) fun E σ H q => ?_
  show tLc _ _ _ _ _ _ _ _
  rw [own_slots]
  obtain ⟨w, ρ, S, rfl, hr, sr, a⟩ := q
  refine tX_lc (fl_X hr sr a fun w1 S1 d v le hr1 rv a1 => ?_)
  simp only [bindT] at a1
  exact a1 w1 (.refl w1) hr1 _ ((sr.mono le).set rv i)
theorem HRel.writeI {w : Wd} {S : Store} (h : HRel κ w S) {n : Nat} {a C dx : Addr} {gs gs' : List (Str × V)} {cl : Cell} (ea : w.A[n]? = some a) (ha : ¬ w.F a) (el : w.H a = some (.ins C dx gs)) (hc : CellR κ (w.write a (.ins C dx gs')) cl a) : HRel κ (w.write a (.ins C dx gs')) (S.set n (some cl)) where
  tab := tabs_write h.tab el (fun _ => nofun) (fun _ _ => nofun)
  ntb := fun b ps f e => h.ntb b ps f ((upd_ne fun z => by rw [z] at f; exact ha f).symm.trans e)
  len := by simp [Wd.write, h.len]
  nd := h.nd
  here := fun b hb => by
    by_cases e : b = a
    · rw [e]; exact ⟨_, upd_same, nofun, nofun⟩
    · obtain ⟨o, q, nn⟩ := h.here b hb
      exact ⟨o, (upd_ne e).trans q, nn⟩
  fr := fun b f => by
    obtain ⟨o, q⟩ := h.fr b f
    exact ⟨o, (upd_ne fun z => by rw [z] at f; exact ha f).trans q⟩
  cl := fun m c' e => by
    by_cases hm : n = m
    · subst hm
      have hn : n < S.length := by
        have := (List.getElem?_eq_some_iff.mp ea).1
        rw [h.len] at this
        exact this
      rw [List.getElem?_set_self hn] at e
      cases e
      exact ⟨a, ea, ha, hc⟩
    · rw [List.getElem?_set_ne hm] at e
      obtain ⟨b, e1, e2, e3⟩ := h.cl m c' e
      have hab : b ≠ a := fun z => by
        subst z
        exact hm ((List.getElem?_inj (i := n) (j := m) (List.getElem?_eq_some_iff.mp ea).1 h.nd).mp (by rw [ea, e1]))
      refine ⟨b, e1, e2, ?_⟩
      have le := Wd.le_write (w := w) (HO.ins C dx gs') ha
      cases c' with
      | lst xs =>
        obtain ⟨us', q1, q2⟩ := e3
        exact ⟨us', (upd_ne hab).trans q1, Reps.mono le.F le.H _ _ q2⟩
      | dct ks us => exact e3
      | ins c fs =>
        obtain ⟨C2, dx2, gs2, hc2, q1, q2, f, hl, ds, h1, h2, h3, h4⟩ := e3
        refine ⟨C2, dx2, gs2, hc2, (upd_ne hab).trans q1, (upd_ne fun z => ?_).trans q2, f, hl, ds, h1, h2, h3, Reps.mono le.F le.H _ _ h4⟩
        rw [z, el] at q2
        cases q2
theorem putF_new {f : Str} {v : V} : ∀ {gs : List (Str × V)}, f ∉ gs.map (·.1) → putF f v gs = gs ++ [(f, v)]
  | [], _ => rfl
  | (g, x) :: r, h => by
    simp only [List.map_cons, List.mem_cons, not_or] at h
    show (if g = f then (g, v) :: r else (g, x) :: putF f v r) = _
    rw [if_neg (Ne.symm h.1), putF_new h.2]
    rfl
theorem s_sfld {X : Cx} {c : CC} {o f : Nat} {x n : Str} {e : Expr} {px p pos : Pos} {fe : Env → Store → R D} (G : Good κ pg X c k cf) (hn : noComp e = true) (hi : X.N[o]? = some x) (hv : Vis X.env.scope x) (h12 : (x == ("__debug__" : Str)) = false ∧ (x == ("__classdict__" : Str)) = false) (hf : pg.fld f = some n) (he : JE κ X e fe) :
    JS κ X (.Assign [.Attribute (.Name x px) n p] e pos) (fun ρ S => ((fe ρ S).bind frzD).fl ρ fun d S2 => match ρ[o]? with
      | some (some x) => match cellOf S2 x with
        | some (n, .ins c fs) => match pg.G.fpos c f with
          | some j => if j < fs.length ∧ (∀ i, i < fs.length → (fs[i]?.any (·.isSome) ↔ i < j)) then .nx ρ (S2.set n (some (.ins c (fs.set j (some d))))) else .bad
          | none => .bad
        | _ => .bad
      | _ => .bad) := fun W tk => by
  refine ps_imp (ps_fld (pe_var hi hv h12.1 h12.2) (j_frz he W tk) (sw_no hn)) fun E σ H q => ?_
  obtain ⟨w, ρ, S, rfl, hr, sr, a⟩ := q
  refine fl_Xe (fe := fun ρ S => (fe ρ S).bind frzD) hr sr a fun w1 S1 d u ed le1 hr1 r1 a1 => ?_
  have rd := r1.rep (frz_noLoc ed)
  split at a1
  · rename_i y ey
    obtain ⟨v, ev, rv⟩ := (sr.mono le1).at_ o y ey
    split at a1
    · rename_i m cc fs ecell
      obtain ⟨b, rfl, hA, nF, hcell, hS⟩ := cell_at hr1 rv ecell
      obtain ⟨C, dx, gs, hC, q1, q2, nF2, hl, ds, h1, h2, h3, h4⟩ := hcell
      have O := G.lay.oc cc C hC
      split at a1
      · rename_i j ej
        split at a1
        · rename_i hj
          obtain ⟨hjl, hj⟩ := hj
          obtain ⟨hname, hno⟩ := O.fld f j ej n hf
          have hjd : ds.length = j := by
            have key : ∀ i, i < fs.length → (i < ds.length ↔ i < j) := fun i hi => by
              rw [← hj i hi]
              rw [h1]
              by_cases hid : i < ds.length
              · rw [List.getElem?_append_left (by simpa using hid), List.getElem?_map, List.getElem?_eq_getElem hid]
                simp [hid]
              · rw [List.getElem?_append_right (by simpa using hid)]
                simp only [List.length_map]
                constructor
                · intro z; exact absurd z hid
                · intro z
                  exfalso
                  rw [List.getElem?_replicate] at z
                  split at z <;> simp at z
            rcases Nat.lt_trichotomy ds.length j with z | z | z
            · exact absurd ((key ds.length (by omega)).mpr z) (Nat.lt_irrefl _)
            · exact z
            · exact absurd ((key j hjl).mp z) (Nat.lt_irrefl _)
          have hnotin : n ∉ gs.map (·.1) := by
            rw [h3, hjd]
            intro hmem
            obtain ⟨i, hi2⟩ := List.getElem?_of_mem hmem
            rw [List.getElem?_take] at hi2
            split at hi2
            · rename_i hij
              have := (List.getElem?_inj (List.getElem?_eq_some_iff.mp hi2).1 O.nd).mp (hi2.trans hname.symm)
              omega
            · cases hi2
          have hgl : gs.length = ds.length := by
            have := congrArg List.length h3
            simp at this
            have h5 := O.small
            omega
          have hne : dx ≠ b := fun z => by
            rw [z, q1] at q2
            cases q2
          have le := Wd.le_write (w := w1) (HO.ins C dx (gs ++ [(n, u)])) nF
          refine ⟨.ref b, ev, b, C, dx, gs, rfl, q1, O.cls, hno, by have := O.small; have := O.nf; omega, ?_⟩
          rw [putF_new hnotin]
          refine a1 (w1.write b (.ins C dx (gs ++ [(n, u)]))) le (hr1.writeI hA nF q1 (cl := .ins cc (fs.set j (some d))) ⟨C, dx, gs ++ [(n, u)], hC, upd_same, (upd_ne hne).trans q2, nF2, by rw [List.length_set]; exact hl, ds ++ [d], ?_, ?_, ?_, ?_⟩) σ ((sr.mono le1).mono le)
          · rw [List.length_set]
            obtain ⟨m', hm'⟩ : ∃ m', fs.length - ds.length = m' + 1 := ⟨fs.length - ds.length - 1, by omega⟩
            have e2 : fs.length - (ds ++ [d]).length = m' := by simp; omega
            rw [e2]
            have h1' : fs = ds.map some ++ List.replicate (m' + 1) none := by rw [← hm']; exact h1
            rw [h1', List.set_append_right _ _ (by simp; omega)]
            have e3 : j - (ds.map some).length = 0 := by simp; omega
            rw [e3, List.replicate_succ, List.set_cons_zero]
            simp
          · simp
            omega
          · rw [List.map_append, h3, hjd]
            simp only [List.map_cons, List.map_nil, List.length_append, List.length_cons, List.length_nil]
            rw [hjd, List.take_succ, hname]
            rfl
          · rw [List.map_append]
            exact Reps.mono le.F le.H _ _ (h4.append (.cons rd .nil))
        · exact a1.elim
      · exact a1.elim
    · exact a1.elim
  · exact a1.elim
theorem s_rse {X : Cx} {c : CC} {kk : Nat} {x : Str} {a : Expr} {p pos rp : Pos} {fe : Env → Store → R D} (G : Good κ pg X c k cf) (hc : pg.cn kk = some x) (hk : kk < 100) (h0 : 0 < kk) (hg : Gl X x) (hdb : (x == ("__debug__" : Str)) = false) (hp : plainX a = true) (he : JE κ X a fe) :
    JS κ X (.Raise (some (.Call (.Name x p) [a] [] pos)) none rp) (fun ρ S => ((fe ρ S).bind frzD).fl ρ fun d S2 => .ex kk [d] ρ S2) := fun W tk => by
  obtain ⟨C, hm, hC⟩ := G.lay.xn kk x hc hk
  obtain ⟨T, _, _, _, _, _, fI, f, h1, h2, h3, h4, fd, ps, hb, _, F⟩ := G.lay.xc kk C hC h0
  refine ps_imp (ps_raise G.calm tk (pmk_oex T h1 h2 F (G.room.mono (by split <;> omega)) hb .nil (fun pins σ H s e s' I cx => by
    obtain ⟨_, _, _, _, _, _, _, _, _, _, _, _, z⟩ := cx
    exact z.elim) hg hm (pa_cons (j_frz he W tk) pa_nil (star_plain hp)) hdb (star_plain hp) (by rfl))) fun E σ H q => ?_
  obtain ⟨w, ρ, S, rfl, hr, sr, af⟩ := q
  refine fl_Xe (fe := fun ρ S => (fe ρ S).bind frzD) hr sr af fun w1 S1 d v ed le1 hr1 r1 a1 => ?_
  have rd := r1.rep (frz_noLoc ed)
  refine ⟨by show 1 ≤ 1000; omega, fun b hb0 => ⟨b, v, rfl, upd_same, fun dx hdx hne => ⟨rfl, dx, [(f, v)], upd_same, ?_, ?_, ?_⟩⟩⟩
  · rw [upd_ne hne]
    exact upd_same
  · rw [upd_ne hne] at hdx
    exact hdx
  · have hdx0 : w1.H dx = none := by rw [upd_ne hne] at hdx; exact hdx
    have eH : upd (del (upd (upd (upd w1.H b (exo b C none)) dx (exd dx [(f, v)])) b (exo b C (some dx))) b) dx (.xd [(f, v)]) = upd w1.H dx (.xd [(f, v)]) := by
      funext y
      by_cases h1 : y = dx
      · rw [h1, upd_same, upd_same]
      · rw [upd_ne h1, upd_ne h1]
        by_cases h2 : y = b
        · rw [h2, del_same, hb0]
        · rw [del_ne h2, upd_ne h2, upd_ne h1, upd_ne h2]
    rw [eH]
    have le := hr1.le_tree hdx0 (HO.xd [(f, v)])
    exact a1 (w1.tree dx (.xd [(f, v)])) le (hr1.tree hdx0 _) σ ((sr.mono le1).mono le) _ _ ⟨h0, C, dx, [(f, v)], hC, rfl, rfl, .inr rfl, upd_same, by rw [h3] <;> rfl, Reps.mono le.F le.H _ _ (.cons rd .nil)⟩
theorem ExR.mono {w w' : Wd} {c : Nat} {fs : List D} {cls : Value} {dd : Option Addr} (h : ExR κ w c fs cls dd) (le : w.le w') : ExR κ w' c fs cls dd := by
  obtain ⟨h0, C, d, gs, h1, h2, h3, h4, h5, h6, h7⟩ := h
  exact ⟨h0, C, d, gs, h1, h2, h3, le.F d h4, (le.H d h4).trans h5, h6, Reps.mono le.F le.H _ _ h7⟩
/-- a handler's expression -/
def tQ (κ : Kx) (pg : Pg) (a : Addr) (cls : Value) (d : Option Addr) (as : Option Nat) (e : QE) : TE := fun σ H Q => ∃ w S cc fs, w.H = H ∧ HRel κ w S ∧ ExR κ w cc fs cls d ∧ (∀ i, as = some i → σ[i]? = some (some (.ref a))) ∧ ∃ dv, qD pg.G cc fs e = some dv ∧ ∀ w', w.le w' → HRel κ w' S → Fin_ κ Q w' S dv
theorem qD_noLoc {w : Wd} {cc : Nat} {fs : List D} {cls : Value} {d : Option Addr} : ∀ (e : QE) {dv : D}, qD pg.G cc fs e = some dv → ExR κ w cc fs cls d → dv.noLoc = true
  | .non, _, h, _ => by cases h; rfl
  | .bl _, _, h, _ => by cases h; rfl
  | .int _, _, h, _ => by cases h; rfl
  | .str _, _, h, _ => by cases h; rfl
  | .tup2 a b, _, h, _ => by
    simp only [qD] at h
    obtain ⟨d1, hd1, h⟩ := Option.bind_eq_some_iff.mp h
    obtain ⟨d2, hd2, rfl⟩ := Option.map_eq_some_iff.mp h
    rfl
  | .fld f, dv, h, x => by
    simp only [qD] at h
    obtain ⟨j, hj, hj2⟩ := Option.bind_eq_some_iff.mp h
    obtain ⟨_, C, d', gs, _, _, _, _, _, _, e7⟩ := x
    obtain ⟨v, ev, rv⟩ := e7.get hj2
    cases dv with
    | loc n => simp only [Rep] at rv
    | clo l cap => simp only [Rep] at rv
    | _ => rfl
theorem sndQ {X : Cx} {c : CC} (G : Good κ pg X c k cf) {a C : Addr} {oe : Obj} {d : Option Addr} {pn : List (Addr × Obj)} {as : Option Nat} {c0 : Nat} (hC : κ.ca c0 = some C) (h0 : 0 < c0) (hinj : ∀ cc, κ.ca cc = some C → cc = c0) (hz : Zc (.ref C) d oe) (hf : ∃ vs, oe.data = .fields vs) : ∀ (e : QE) (e' : Expr), chkQ pg c as e e' = true → PE (X.suite a ((a, oe) :: pn)) e' (tQ κ pg a (.ref C) d as e)
  | .non, e', h => by
    simp only [chkQ] at h
    split at h
    · refine pe_imp pe_non fun σ H Q q => ?_
      obtain ⟨w, S, cc, fs, rfl, hr, x, hs, dv, hq, fin⟩ := q
      cases hq
      exact fin w (.refl w) hr _ rep_non
    · cases h
  | .bl b, e', h => by
    simp only [chkQ] at h
    split at h
    · have h := eq_of_beq h
      subst h
      refine pe_imp pe_bl fun σ H Q q => ?_
      obtain ⟨w, S, cc, fs, rfl, hr, x, hs, dv, hq, fin⟩ := q
      cases hq
      exact fin w (.refl w) hr _ rep_bl
    · cases h
  | .int i, e', h => by
    simp only [chkQ] at h
    split at h
    · have h := of_decide_eq_true h
      subst h
      refine pe_imp pe_int fun σ H Q q => ?_
      obtain ⟨w, S, cc, fs, rfl, hr, x, hs, dv, hq, fin⟩ := q
      cases hq
      exact fin w (.refl w) hr _ rep_int
    · cases h
  | .str t, e', h => by
    simp only [chkQ] at h
    split at h
    · have h := beqS_eq h
      subst h
      refine pe_imp pe_str fun σ H Q q => ?_
      obtain ⟨w, S, cc, fs, rfl, hr, x, hs, dv, hq, fin⟩ := q
      cases hq
      exact fin w (.refl w) hr _ rep_str
    · cases h
  | .fld f, e', h => by
    simp only [chkQ] at h
    split at h
    · rename_i i x p n p'
      simp only [Bool.and_eq_true] at h
      obtain ⟨⟨⟨h1, h2⟩, h3⟩, h4⟩ := h
      have hfld := optIs_eq h4
      have O := G.lay.xc c0 C hC h0
      by_cases hno : PySem.W.findIn X.K (.ref C) n = some none
      · refine pe_imp (pe_xf O.xf hno hz hf (pe_var (X := X.suite a ((a, oe) :: pn)) (i := i) (G.at_ h1) (G.vis h2) (nmOk_1 h3).1 (nmOk_1 h3).2)) fun σ H Q q => ?_
        obtain ⟨w, S, cc, fs, rfl, hr, x, hs, dv, hq, fin⟩ := q
        obtain ⟨hcc, C2, d2, gs, e1, e2, e3, e4, e5, e6, e7⟩ := x
        cases e2
        have hcc0 := hinj cc e1
        subst hcc0
        simp only [qD] at hq
        obtain ⟨j, hj, hj2⟩ := Option.bind_eq_some_iff.mp hq
        obtain ⟨rfl, hn, _⟩ := O.fld f j hj n hfld
        obtain ⟨v, ev, rv⟩ := e7.get hj2
        refine ⟨.ref a, hs i rfl, rfl, rfl, d2, gs, v, e3, e5, ?_, fin w (.refl w) hr v rv.toL⟩
        exact lookup_at (by rw [e6, hn]; simp) (by rw [e6, hn]; rfl) ev
      · refine ⟨fun pins s σ H Q I q => ?_⟩
        exfalso
        obtain ⟨w, S, cc, fs, rfl, hr, x, hs, dv, hq, fin⟩ := q
        obtain ⟨hcc, C2, d2, gs, e1, e2, e3, e4, e5, e6, e7⟩ := x
        cases e2
        have hcc0 := hinj cc e1
        subst hcc0
        simp only [qD] at hq
        obtain ⟨j, hj, hj2⟩ := Option.bind_eq_some_iff.mp hq
        exact hno (O.fld f j hj n hfld).2.2
    · cases h
  | .tup2 u v, e', h => by
    simp only [chkQ] at h
    split at h
    · simp only [Bool.and_eq_true] at h
      obtain ⟨⟨⟨h1, h2⟩, h3⟩, h4⟩ := h
      refine pe_imp (pe_tup (pa_cons (sndQ G hC h0 hinj hz hf u _ h3) (pa_cons (sndQ G hC h0 hinj hz hf v _ h4) pa_nil (star_plain h2)) (star_plain h1))) fun σ H Q q => ?_
      obtain ⟨w, S, cc, fs, rfl, hr, x, hs, dv, hq, fin⟩ := q
      simp only [qD] at hq
      obtain ⟨d1, hd1, hq⟩ := Option.bind_eq_some_iff.mp hq
      obtain ⟨d2, hd2, rfl⟩ := Option.map_eq_some_iff.mp hq
      refine ⟨w, S, cc, fs, rfl, hr, x, hs, d1, hd1, fun w1 le1 hr1 v1 r1 => ?_⟩
      refine ⟨w1, S, cc, fs, rfl, hr1, x.mono le1, hs, d2, hd2, fun w2 le2 hr2 v2 r2 => ?_⟩
      refine ⟨by show 2 ≤ sizeLine; rw [sizeLine_eq]; omega, fun p hp => ?_⟩
      exact fin_tree hr2 (fun w3 le3 hr3 => fin w3 ((le1.trans le2).trans le3) hr3) hp (rep_tup hr2 hp (.cons ((r1.mono le2).rep (qD_noLoc u hd1 x)) (.cons (r2.rep (qD_noLoc v hd2 x)) .nil)))
    · cases h
/-- a handler's one statement -/
def tH (κ : Kx) (pg : Pg) (as : Option Nat) (q : Qs) (a : Addr) (cls : Value) (d : Option Addr) : TS := fun E σ H => ∃ w S cc fs, w.H = H ∧ HRel κ w S ∧ ExR κ w cc fs cls d ∧ (∀ i, as = some i → σ[i]? = some (some (.ref a))) ∧ (match q with
  | .set j e => ∃ dv, qD pg.G cc fs e = some dv ∧ ∀ w', w.le w' → HRel κ w' S → Fin_ κ (fun v H' => E.nx (σ.set j (some v)) H') w' S dv
  | .ret e => ∃ dv, qD pg.G cc fs e = some dv ∧ ∀ w', w.le w' → HRel κ w' S → Fin_ κ E.rt w' S dv)
theorem s_suite {X : Cx} {c : CC} (G : GoodS κ pg X c k cf) {as : Option Nat} {q : Qs} {st : Stmt} (hq : chkQs pg c as q st = true) (a : Addr) (oe : Obj) (cls : Value) (d : Option Addr) (pn : List (Addr × Obj)) (hz : Zc cls d oe) (hf : ∃ vs, oe.data = .fields vs) : PSs (X.suite a ((a, oe) :: pn)) [st] (tH κ pg as q a cls d) := by
  by_cases hcl : ∃ c0 C, κ.ca c0 = some C ∧ cls = .ref C ∧ 0 < c0
  · obtain ⟨c0, C, hC, rfl, h0⟩ := hcl
    cases q with
    | set j e =>
      simp only [chkQs] at hq
      split at hq
      · simp only [Bool.and_eq_true] at hq
        obtain ⟨⟨⟨h1, h2⟩, h3⟩, h4⟩ := hq
        refine pss_imp (pss_one (ps_set (X := X.suite a ((a, oe) :: pn)) G.G.nd (G.G.at_ h2) (G.G.own h3) (sndQ G.G hC h0 (fun cc h => G.G.lay.xi cc C c0 h hC) hz hf e _ h4) (sw_no h1) (.inl (G.fn _)))) fun E σ H q => ?_
        obtain ⟨w, S, cc, fs, rfl, hr, x, hs, dv, hq, fin⟩ := q
        exact ⟨w, S, cc, fs, rfl, hr, x, hs, dv, hq, fin⟩
      · cases hq
    | ret e =>
      simp only [chkQs] at hq
      split at hq
      · refine pss_imp (pss_one (ps_ret (sndQ G.G hC h0 (fun cc h => G.G.lay.xi cc C c0 h hC) hz hf e _ hq))) fun E σ H q => ?_
        obtain ⟨w, S, cc, fs, rfl, hr, x, hs, dv, hq, fin⟩ := q
        exact ⟨w, S, cc, fs, rfl, hr, x, hs, dv, hq, fin⟩
      · cases hq
  · refine ⟨fun pins s σ H E I q => ?_⟩
    exfalso
    obtain ⟨w, S, cc, fs, rfl, hr, ⟨h0, C, d', gs, h1, h2, _⟩, _⟩ := q
    exact hcl ⟨cc, C, h1, h2, h0⟩
theorem GoodS.tr {X : Cx} {c : CC} (G : GoodS κ pg X c k cf) {pn : List (Addr × Obj)} {xe : Value → Shared → Prop} (h : PassesOwn (model X.prog X.w) X.A X.env xe) : GoodS κ pg (X.tr pn xe) c k cf :=
  ⟨⟨G.G.N, G.G.sc, G.G.nd, G.G.calm, G.G.room, G.G.lay, G.G.kK, G.G.lam⟩, h, G.fn, G.stk, G.frm⟩
theorem s_try {X : Cx} {c : CC} (G : GoodS κ pg X c k cf) {kk : Nat} {x : Str} {n : Option Str} {as : Option Nat} {q : Qs} {body : List Stmt} {st : Stmt} {np hp pos : Pos} {fb : Env → Store → Fl} (hc : pg.cn kk = some x) (hk : kk < 100) (hg : Gl X x) (hdb : (x == ("__debug__" : Str)) = false) (has : chkAs c as n = true) (hq : chkQs pg c as q st = true)
    (hb : ∀ (X' : Cx), GoodS κ pg X' c k cf → X'.env.scope.kind = .function → JSs κ X' body fb) (hfk : X.env.scope.kind = .function) :
    JS κ X (.Try body [.ExceptHandler (some (.Name x np)) n [st] hp] [] [] pos) (fun ρ S => match fb ρ S with
      | .ex c' fs ρ1 S1 => if excSub c' kk then (if as.all (fun i => decide (i < ρ1.length)) then exQ pg.G c' fs as ρ1 S1 q else .bad) else .ex c' fs ρ1 S1
      | r => r) := fun W tk => by
  obtain ⟨Ck, hm, hCk⟩ := G.G.lay.xn kk x hc hk
  have hnm : Names X x (.ref Ck) := ⟨hg, hdb, .inl hm⟩
  cases n with
  | none =>
    cases as with
    | some i => simp [chkAs] at has
    | none =>
      refine ps_imp (ps_try_only G.stk G.frm hnm tk (fun W' pn xe tk' po => hb (X.tr pn xe) (G.tr po) hfk W' tk') (fun a oe cls d pn hz hf => s_suite G hq a oe cls d pn hz hf)) fun E σ H qq => ?_
      obtain ⟨w, ρ, S, rfl, hr, sr, af⟩ := qq
      refine ⟨w, ρ, S, rfl, hr, sr, ?_⟩
      cases e : fb ρ S with
      | nx ρ1 S1 => simp only [e] at af; exact af
      | rt d S1 => simp only [e] at af; exact af
      | bad => simp only [e] at af; exact af
      | ex c' fs ρ1 S1 =>
        simp only [e] at af
        intro w' le hr' σ' sr' cls dd xr
        obtain ⟨h0, C', d', gs, hC', e1, e2, e3⟩ := id xr
        refine ⟨excSub c' kk, by rw [e1]; exact G.G.lay.xs c' C' kk Ck hC' h0 hCk, fun hbt b hbn => ?_, fun hbf => ?_⟩
        · rw [if_pos hbt, if_pos (by rfl)] at af
          refine ⟨w', S1, c', fs, rfl, hr', xr, fun i z => (by cases z), ?_⟩
          cases q with
          | set j e0 =>
            simp only [exQ] at af
            cases ed : qD pg.G c' fs e0 with
            | none => simp only [ed] at af; exact af.elim
            | some dv =>
              simp only [ed] at af
              rw [if_neg (by simp)] at af
              exact ⟨dv, ed, fun w2 le2 hr2 v rv => af w2 (le.trans le2) hr2 _ ((sr'.mono le2).set rv j)⟩
          | ret e0 =>
            simp only [exQ] at af
            cases ed : qD pg.G c' fs e0 with
            | none => simp only [ed] at af; exact af.elim
            | some dv =>
              simp only [ed] at af
              exact ⟨dv, ed, fun w2 le2 hr2 v rv => af w2 (le.trans le2) hr2 v rv⟩
        · rw [if_neg (by rw [hbf]; exact Bool.false_ne_true)] at af
          exact af w' le hr' σ' sr' cls dd xr
  | some nm =>
    cases as with
    | none => simp [chkAs] at has
    | some i =>
      simp only [chkAs, Bool.and_eq_true] at has
      have hnl : X.env.kindOf nm = some .local := by
        show X.env.scope.names.lookup nm = _
        rw [G.G.sc]
        exact isK_eq has.1.2
      refine ps_imp (ps_try_as G.stk G.frm G.G.nd (G.G.at_ has.1.1) hnl hnm tk (fun W' pn xe tk' po => hb (X.tr pn xe) (G.tr po) hfk W' tk') (fun a oe cls d pn hz hf => s_suite G hq a oe cls d pn hz hf)) fun E σ H qq => ?_
      obtain ⟨w, ρ, S, rfl, hr, sr, af⟩ := qq
      refine ⟨w, ρ, S, rfl, hr, sr, ?_⟩
      cases e : fb ρ S with
      | nx ρ1 S1 => simp only [e] at af; exact af
      | rt d S1 => simp only [e] at af; exact af
      | bad => simp only [e] at af; exact af
      | ex c' fs ρ1 S1 =>
        simp only [e] at af
        intro w' le hr' σ' sr' cls dd xr
        obtain ⟨h0, C', d', gs, hC', e1, e2, e3⟩ := id xr
        refine ⟨excSub c' kk, by rw [e1]; exact G.G.lay.xs c' C' kk Ck hC' h0 hCk, fun hbt b hbn => ?_, fun hbf => ?_⟩
        · rw [if_pos hbt] at af
          have hil0 : i < ρ1.length := by
            by_cases hz : ((some i).all fun i => decide (i < ρ1.length)) = true
            · simpa using hz
            · rw [if_neg hz] at af
              exact af.elim
          rw [if_pos (by simpa using hil0)] at af
          have hil : i < σ'.length := by
            rw [sr'.len]
            exact hil0
          refine ⟨w', S1, c', fs, rfl, hr', xr, fun i' z => (by cases z; exact List.getElem?_set_self hil), ?_⟩
          cases q with
          | set j e0 =>
            simp only [exQ] at af
            cases ed : qD pg.G c' fs e0 with
            | none => simp only [ed] at af; exact af.elim
            | some dv =>
              simp only [ed] at af
              by_cases hij : i = j
              · rw [if_pos (by rw [hij])] at af
                exact af.elim
              · rw [if_neg (by simpa using hij)] at af
                refine ⟨dv, ed, fun w2 le2 hr2 v rv => af w2 (le.trans le2) hr2 _ ?_⟩
                have r3 := (((sr'.mono le2).unset i (some (V.ref b))).set rv j).unset i none
                have el : ((ρ1.set i none).set j (some dv)).set i none = (ρ1.set j (some dv)).set i none := by
                  rw [List.set_comm _ _ hij, List.set_set]
                rw [el] at r3
                exact r3
          | ret e0 =>
            simp only [exQ] at af
            cases ed : qD pg.G c' fs e0 with
            | none => simp only [ed] at af; exact af.elim
            | some dv =>
              simp only [ed] at af
              exact ⟨dv, ed, fun w2 le2 hr2 v rv => af w2 (le.trans le2) hr2 v rv⟩
        · rw [if_neg (by rw [hbf]; exact Bool.false_ne_true)] at af
          exact af w' le hr' σ' sr' cls dd xr
theorem set_same {σ : L2.St} {i : Nat} {x : Option V} (h : σ[i]? = some x) : σ.set i x = σ := by
  refine List.ext_getElem? fun j => ?_
  by_cases hj : i = j
  · subst hj
    rw [List.getElem?_set_self (List.getElem?_eq_some_iff.mp h).1, h]
  · exact List.getElem?_set_ne hj
/-- a name's cell made a value: nothing happens in the text -/
theorem ss_fz {X : Cx} {i : Nat} {l : List Stmt} {g : Env → Store → Fl} (h : JSs κ X l g) : JSs κ X l (fun ρ S => match (match ρ[i]? with
      | some (some d) => (frzD d S).fl ρ fun d S1 => .nx (ρ.set i (some d)) S1
      | _ => .bad : Fl) with
    | .nx ρ1 S1 => g ρ1 S1
    | r => r) := fun W tk => pss_imp (h W tk) fun E σ H q => by
  obtain ⟨w, ρ, S, rfl, hr, sr, a⟩ := q
  by_cases hd : ∃ d, ρ[i]? = some (some d)
  · obtain ⟨d, ed⟩ := hd
    obtain ⟨v, ev, rv⟩ := sr.at_ i d ed
    simp only [ed] at a
    cases e : frzD d S with
    | bad => simp only [e, R.fl] at a; exact a.elim
    | ex c fs S' => exact absurd e frz_not_ex
    | ok d' S' =>
      simp only [e, R.fl] at a
      obtain ⟨w', le, eH, hr', r'⟩ := frz_ok hr rv e
      have sr' := (sr.mono le).set r'.toL i
      rw [set_same ev] at sr'
      exact ⟨w', _, S', eH, hr', sr', AftF.mono a le⟩
  · exfalso
    simp only at a
    split at a
    · rename_i ρ1 S1 e1
      split at e1
      · rename_i d ed
        exact hd ⟨d, ed⟩
      · cases e1
    · rename_i r hno
      split at a
      · rename_i d ed
        exact hd ⟨d, ed⟩
      · exact a.elim
mutual
theorem sndS : ∀ (s : Sm) {X : Cx} {c : CC} (G : GoodS κ pg X c k cf) (hk : X.env.scope.kind = .function) (st : Stmt), chkS pg s c st = true → JS κ X st (fun ρ S => exS cf pg.G s ρ S)
  | .set t e, X, c, G, hk, st, h => by
    simp only [chkS] at h
    split at h
    · rename_i tg e' p
      simp only [Bool.and_eq_true] at h
      obtain ⟨⟨h1, h2⟩, h3⟩ := h
      have hg := j_tg G.G (.inl G.fn) t tg h1
      have he := (sndE e G.G e' h2).1
      split at h3
      · rename_i x px
        simp only [Bool.or_eq_true] at h3
        rcases h3 with h3 | h3 | h3
        · exact s_set he hg (sole_no h3) ss_name (by rfl)
        rotate_left
        · exact s_set he hg (sole_cell (by rw [G.G.sc]; exact isK_eq h3)) ss_name (by rfl)
        · simp only [Bool.and_eq_true] at h3
          obtain ⟨h3x, h3⟩ := h3
          obtain ⟨i, rfl⟩ : ∃ i, t = .nm i := by cases t <;> first | exact ⟨_, rfl⟩ | (simp [chkT] at h1; done)
          simp only [chkT, Bool.and_eq_true] at h1
          cases e' <;> first | (simp [swOk] at h3; done) | skip
          rename_i elt gs scope pos
          have h2' := h2
          cases e <;> first | (simp [isCompX] at h3x; done) | skip
          · rename_i tg2 it d e1
            simp only [chkE] at h2
            split at h2
            · rename_i elt' t' iter scope' p' heq
              cases heq
              simp only [Bool.and_eq_true] at h2
              obtain ⟨⟨⟨⟨⟨h1a, h2a⟩, h3a⟩, h4a⟩, h5a⟩, h6a⟩ := h2
              cases d <;> first | (simp [isTT] at h5a; done) | skip
              exact s_setLc G.G hk (G.G.at_ h1.1) h3 h1a (fold_plain h2a) (sndI it G.G _ _ h4a) (fun s H C cl fp => j_tg G.G.blk (.inr rfl) _ _ h3a) (fun s H C cl fp => pts_tt rfl) (fun s H C cl fp => (sndE e1 G.G.blk _ h6a).1)
            · rename_i elt' t' iter i' scope' p' heq
              cases heq
              simp only [Bool.and_eq_true] at h2
              obtain ⟨⟨⟨⟨⟨h1a, h2a⟩, h3a⟩, h4a⟩, h5a⟩, h6a⟩ := h2
              exact s_setLc G.G hk (G.G.at_ h1.1) h3 h1a (fold_plain h2a) (sndI it G.G _ _ h4a) (fun s H C cl fp => j_tg G.G.blk (.inr rfl) _ _ h3a) (fun s H C cl fp => pts_one ((sndE d G.G.blk _ h5a).2 WF takes_blk)) (fun s H C cl fp => (sndE e1 G.G.blk _ h6a).1)
            · cases h2
      · simp only [Bool.and_eq_true] at h3
        exact s_set he hg (sole_no h3.1) (ss_no h3.2) (by rw [assign_plain h1] <;> rfl)
    · cases h
  | .sets ts es, X, c, G, hk, st, h => by
    simp only [chkS] at h
    split at h
    · simp only [Bool.and_eq_true] at h
      obtain ⟨⟨⟨⟨h1, h2⟩, h3⟩, h4⟩, h5⟩ := h
      exact s_par G.G (G.G.at_ h2) (G.G.at_ h3) h1 (sndE _ G.G _ h4).1 (sndE _ G.G _ h5).1
    · cases h
  | .aug i e, X, c, G, hk, st, h => by
    simp only [chkS] at h
    split at h
    · simp only [Bool.and_eq_true] at h
      exact s_aug G.G G.fn (G.G.at_ h.1.1) (G.G.own h.1.2) (sndE e G.G _ h.2).1
    · cases h
  | .put o kk e, X, c, G, hk, st, h => by
    simp only [chkS] at h
    split at h
    · simp only [Bool.and_eq_true] at h
      obtain ⟨⟨⟨⟨⟨h1, h2⟩, h3⟩, h4⟩, h5⟩, h6⟩ := h
      exact s_put h1 h3 (sndE o G.G _ h4).1 (sndE kk G.G _ h5).1 (sndE e G.G _ h6).1
    · cases h
  | .sfld o f e, X, c, G, hk, st, h => by
    simp only [chkS] at h
    split at h
    · simp only [Bool.and_eq_true] at h
      obtain ⟨⟨⟨⟨⟨h1, h2⟩, h3⟩, h4⟩, h5⟩, h6⟩ := h
      exact s_sfld G.G h1 (G.G.at_ h2) (G.G.vis h3) (nmOk_1 h4) (optIs_eq h5) (sndE e G.G _ h6).1
    · cases h
  | .app o e, X, c, G, hk, st, h => by
    simp only [chkS] at h
    split at h
    · simp only [Bool.and_eq_true] at h
      obtain ⟨⟨⟨⟨⟨h1, h2⟩, h3⟩, h4⟩, h5⟩, h6⟩ := h
      exact s_app (beqS_eq h1) h2 h3 h4 (sndE o G.G _ h5).1 (sndE e G.G _ h6).1
    · cases h
  | .ext o e, X, c, G, hk, st, h => by
    simp only [chkS] at h
    split at h
    · simp only [Bool.and_eq_true] at h
      obtain ⟨⟨⟨⟨⟨h1, h2⟩, h3⟩, h4⟩, h5⟩, h6⟩ := h
      exact s_ext (beqS_eq h1) h2 h3 h4 (sndE o G.G _ h5).1 (sndE e G.G _ h6).1
    · cases h
  | .rem o e, X, c, G, hk, st, h => by
    simp only [chkS] at h
    split at h
    · simp only [Bool.and_eq_true] at h
      obtain ⟨⟨⟨⟨⟨h1, h2⟩, h3⟩, h4⟩, h5⟩, h6⟩ := h
      exact s_rem G.G (beqS_eq h1) h2 h3 h4 (sndE o G.G _ h5).1 (sndE e G.G _ h6).1
    · cases h
  | .clr o, X, c, G, hk, st, h => by
    simp only [chkS] at h
    split at h
    · simp only [Bool.and_eq_true] at h
      obtain ⟨⟨⟨h1, h2⟩, h3⟩, h4⟩ := h
      exact s_clr (beqS_eq h1) h2 h3 (sndE o G.G _ h4).1
    · cases h
  | .fz i, X, c, G, hk, st, h => by simp [chkS] at h
  | .exp e, X, c, G, hk, st, h => by
    simp only [chkS] at h
    split at h
    · simp only [Bool.and_eq_true] at h
      exact s_exp (sndE e G.G _ h.2).1 h.1
    · cases h
  | .ret e, X, c, G, hk, st, h => by
    simp only [chkS] at h
    split at h
    · exact s_ret (sndE e G.G _ h).1
    · cases h
  | .retN, X, c, G, hk, st, h => by
    simp only [chkS] at h
    split at h
    · exact s_retN
    · cases h
  | .pass, X, c, G, hk, st, h => by
    simp only [chkS] at h
    split at h
    · exact s_pass
    · cases h
  | .ife d a b, X, c, G, hk, st, h => by
    simp only [chkS] at h
    split at h
    · simp only [Bool.and_eq_true] at h
      exact s_if (sndE d G.G _ h.1.1).2 (sndSs a G hk _ h.1.2) (sndSs b G hk _ h.2)
    · cases h
  | .for_ t it b, X, c, G, hk, st, h => by
    simp only [chkS] at h
    split at h
    · simp only [Bool.and_eq_true] at h
      obtain ⟨⟨⟨h1, h2⟩, h3⟩, h4⟩ := h
      exact s_for G.G G.own h1 (sndI it G.G _ _ h3) (j_tg G.G (.inl G.fn) t _ h2) (sndSs b G hk _ h4)
    · cases h
  | .whl n d b, X, c, G, hk, st, h => by
    simp only [chkS] at h
    split at h
    · simp only [Bool.and_eq_true] at h
      exact s_whl G.own (sndE d G.G _ h.1).2 (sndSs b G hk _ h.2)
    · cases h
  | .rse kk e, X, c, G, hk, st, h => by
    simp only [chkS] at h
    split at h
    · simp only [Bool.and_eq_true, decide_eq_true_eq] at h
      obtain ⟨⟨⟨⟨⟨⟨h1, h0⟩, h2⟩, h3⟩, h4⟩, h5⟩, h6⟩ := h
      exact s_rse G.G (optIs_eq h1) h2 h0 (G.G.glob h3) (nmOk_1 h4).1 h5 (sndE e G.G _ h6).1
    · cases h
  | .try_ b kk as hh, X, c, G, hk, st, h => by
    simp only [chkS] at h
    split at h
    · simp only [Bool.and_eq_true, decide_eq_true_eq] at h
      obtain ⟨⟨⟨⟨⟨⟨h1, h2⟩, h3⟩, h4⟩, h5⟩, h6⟩, h7⟩ := h
      exact s_try G (optIs_eq h1) h2 (G.G.glob h3) (nmOk_1 h4).1 h5 h6 (fun X' G' hk' => sndSs b G' hk' _ h7) hk
    · cases h
theorem sndSs : ∀ (s : Sms) {X : Cx} {c : CC} (G : GoodS κ pg X c k cf) (hk : X.env.scope.kind = .function) (l : List Stmt), chkSs pg s c l = true → JSs κ X l (fun ρ S => exSs cf pg.G s ρ S)
  | .nil, X, c, G, hk, l, h => by
    simp only [chkSs, List.isEmpty_iff] at h
    subst h
    exact ss_nil
  | .cons s ss, X, c, G, hk, l, h => by
    simp only [chkSs] at h
    split at h
    · rename_i hz
      cases s <;> first | (simp [isFz] at hz; done) | skip
      exact ss_fz (sndSs ss G hk _ h)
    · split at h
      · simp only [Bool.and_eq_true] at h
        exact ss_cons (sndS s G hk _ h.1) (sndSs ss G hk _ h.2)
      · cases h
end
end
end SP
end
section
set_option Elab.async false
set_option linter.all false
set_option autoImplicit false
set_option maxRecDepth 100000
set_option maxHeartbeats 8000000
namespace SP
open PySem PySem.Spec PyProof.Rows L2
def LamAt (κ : Kx) (qual : Str) (cdv : Value) : Prop := ∃ c P q, q = (qual ++ ".<locals>.") ++ "<lambda>" ∧ cdv = .ref c ∧ (c, P) ∈ κ.cs ∧ (P, q) ∈ κ.T ∧ ∀ p ∈ κ.T, p.1 = P → p.2 = q
theorem LamAt.ok {κ : Kx} {base : Heap} {mg : Str → Option Value} {qual : Str} {cdv : Value} (h : LamAt κ qual cdv) (hTB : ∀ p ∈ κ.cs, LamX.TabB base mg p.1 p.2) : LamOk κ base mg (qual ++ ".<locals>.") cdv :=
  let ⟨c, P, q, h0, h1, h2, h3, h4⟩ := h
  ⟨c, P, q, h0, h1, hTB _ h2, h3, h4⟩
/-- what stands of the def f at the address a: its object fd, its parameters ps -/
def DefIs (κ : Kx) (pg : Pg) (K : PySem.W.Frag) (f : Nat) (a : Addr) (fd : FuncData) (ps : List Str) : Prop := ∃ (fn : Fn) (name qual : Str) (params : Arguments) (body : List Stmt) (scope : Scope) (dV kV doc pm cdv ct oc : Value) (an od : Option Addr) (osl : Array (Option Value)) (N : List Str) (lam : Bool),
  pg.F f = some fn ∧ fd = PySem.W.fnOf name qual params body scope dV kV doc pm an cdv ct ∧ K.lookup a = some ⟨oc, od, .func (PySem.W.fnOf name qual params body scope dV kV doc pm an cdv ct), osl⟩ ∧ PySem.W.codeIn K cdv qual = true ∧ FnScope N ps scope ∧
  chkSs pg fn.body ⟨N, scope, lam⟩ body = true ∧ fn.np = ps.length ∧ fn.n = N.length ∧ (lam = true → LamAt κ qual cdv)
def DefAt (κ : Kx) (pg : Pg) (K : PySem.W.Frag) (f : Nat) (a : Addr) : Prop := ∃ fd ps, DefIs κ pg K f a fd ps ∧ Binds K fd ps []
def DefAtK (κ : Kx) (pg : Pg) (K : PySem.W.Frag) (f : Nat) (a : Addr) (n : Nat) (ns : List Str) (pl : List Src) : Prop := ∃ fd ps g gV, DefIs κ pg K f a fd ps ∧ KBn K fd ps n ns g gV ∧ ∀ vs zs, vs.length = n → zs.length = ns.length → planV vs zs pl = some (gV vs zs)
section
variable {κ : Kx} {pg : Pg}
theorem callF_np {F : Nat → Option Fn} {G : Cls} {n f : Nat} {fn : Fn} (h : F f = some fn) : ∀ ds S, callF F G n f ds S ≠ .bad → ds.length = fn.np := fun ds S hb => by
  cases n with
  | zero => exact absurd rfl hb
  | succ n =>
    replace hb : (cfK F G (n + 1)).1 f ds S ≠ .bad := hb
    unfold cfK at hb
    simp only at hb
    rw [h] at hb
    simp only at hb
    split at hb
    · assumption
    · exact absurd rfl hb
/-- the store cut behind a def -/
theorem HRel.cut {w w' : Wd} {S S' : Store} (hr0 : HRel κ w S) (le : w.le w') (hr : HRel κ w' S') : HRel κ ⟨w'.A.take S.length, w'.F, w'.H⟩ (S'.take S.length) ∧ w.le ⟨w'.A.take S.length, w'.F, w'.H⟩ := by
  refine ⟨hr.take _ _ (fun _ z => z) (fun _ z => .inl z) (fun _ z => .inl z) (fun _ _ z => .inl z), ⟨[], ?_⟩, le.F, le.H⟩
  obtain ⟨l, e⟩ := le.A
  rw [e, List.append_nil]
  exact take_app hr0.len
theorem start_rel {w : Wd} {N : List Str} {ds : List D} {vs : List V} (r : RepLs κ w ds vs) : SRel κ w (ds.map some ++ List.replicate (N.length - vs.length) none) (L2.start N vs) := by
  have hl := r.length
  refine ⟨by unfold L2.start; simp [hl], fun i d h => ?_⟩
  unfold L2.start
  by_cases hi : i < ds.length
  · rw [List.getElem?_append_left (by simpa using hi), List.getElem?_map] at h
    cases e : ds[i]? with
    | none => rw [e] at h; cases h
    | some d' =>
      rw [e] at h
      cases h
      obtain ⟨v, e1, e2⟩ := r.get e
      refine ⟨v, ?_, e2⟩
      rw [List.getElem?_append_left (by simp; omega), List.getElem?_map, e1]
      rfl
  · rw [List.getElem?_append_right (by simpa using hi), List.getElem?_replicate] at h
    split at h <;> cases h
/-- from a def's answer back to its body's end -/
theorem ret_end {w : Wd} {S : Store} {E : XK} {Q : VK} {r : Fl} (hr0 : HRel κ w S) (h : Aft κ (fun cls dd _ H => E cls dd H) [] w (retF S.length r) (Fin_ κ Q)) : AftF κ (fun cls dd _ H => E cls dd H) w r { nx := fun _ H' => Q .non H', rt := Q } := by
  cases r with
  | bad => exact h
  | nx ρ S' =>
    intro w' le hr σ sr
    obtain ⟨h1, h2⟩ := hr0.cut le hr
    exact h _ h2 h1 .non rep_non
  | ex c fs ρ S' =>
    intro w' le hr σ sr cls dd x
    obtain ⟨h1, h2⟩ := hr0.cut le hr
    exact h _ h2 h1 cls dd x
  | rt d S' =>
    intro w' le hr v rv
    obtain ⟨h1, h2⟩ := hr0.cut le hr
    by_cases hd : d.noLoc = true
    · have e : retF S.length (.rt d S') = .ok d (S'.take S.length) := by
        cases d <;> first | rfl | (simp [D.noLoc] at hd)
      rw [e] at h
      exact h _ h2 h1 v (Rep.toL (w := ⟨w'.A.take S.length, w'.F, w'.H⟩) (rv.rep hd))
    · cases d with
      | loc m =>
        obtain ⟨a, ea, rfl⟩ := rv
        simp only [retF, retD] at h
        split at h
        · rename_i hm
          refine h _ h2 h1 (.ref a) ⟨a, ?_, rfl⟩
          show (w'.A.take S.length)[m]? = some a
          rw [List.getElem?_take_of_lt hm]
          exact ea
        · rename_i hm
          split at h
          · rename_i cl ecl
            split at h
            · rename_i hcl
              obtain ⟨b, e1, e2, e3⟩ := hr.cl m cl ecl
              rw [ea] at e1
              cases e1
              have hAl : (w'.A.take S.length).length = (S'.take S.length).length := h1.len
              have hmlt : m < w'.A.length := (List.getElem?_eq_some_iff.mp ea).1
              have hnin : a ∉ w'.A.take S.length := fun hz => by
                obtain ⟨i, hi⟩ := List.getElem?_of_mem hz
                rw [List.getElem?_take] at hi
                split at hi
                · have := (List.getElem?_inj (List.getElem?_eq_some_iff.mp hi).1 hr.nd).mp (hi.trans ea.symm)
                  omega
                · cases hi
              have hSl : (S'.take S.length).length = S.length := by
                rw [List.length_take]
                have := hr.len
                omega
              refine h ⟨w'.A.take S.length ++ [a], w'.F, w'.H⟩ ⟨⟨[a], ?_⟩, le.F, le.H⟩ ⟨hr.tab, hr.ntb, ?_, ?_, ?_, hr.fr, ?_⟩ (.ref a) ⟨a, ?_, rfl⟩
              · obtain ⟨l, el⟩ := le.A
                show w'.A.take S.length ++ [a] = w.A ++ [a]
                rw [el, take_app hr0.len]
              · show (w'.A.take S.length ++ [a]).length = (S'.take S.length ++ [some cl]).length
                simp only [List.length_append, hAl]
                rfl
              · exact List.nodup_append.mpr ⟨h1.nd, by simp, fun x hx y hy => by
                  simp only [List.mem_singleton] at hy
                  subst hy
                  exact fun z => hnin (z ▸ hx)⟩
              · intro x hx
                rcases List.mem_append.mp hx with z | z
                · exact h1.here x z
                · simp only [List.mem_singleton] at z
                  subst z
                  exact hr.here _ (List.mem_of_getElem? ea)
              · intro i c' ei
                by_cases hi : i < (S'.take S.length).length
                · rw [List.getElem?_append_left hi] at ei
                  obtain ⟨x, x1, x2, x3⟩ := h1.cl i c' ei
                  refine ⟨x, ?_, x2, x3⟩
                  show (w'.A.take S.length ++ [a])[i]? = some x
                  rw [List.getElem?_append_left (by rw [hAl]; exact hi)]
                  exact x1
                · have hlt : i < (S'.take S.length ++ [some cl]).length := (List.getElem?_eq_some_iff.mp ei).1
                  have hi2 : i = (S'.take S.length).length := by simp only [List.length_append, List.length_singleton] at hlt; omega
                  subst hi2
                  rw [List.getElem?_append_right (Nat.le_refl _)] at ei
                  simp at ei
                  subst ei
                  refine ⟨a, ?_, e2, e3⟩
                  show (w'.A.take S.length ++ [a])[(S'.take S.length).length]? = some a
                  rw [← hAl, List.getElem?_append_right (Nat.le_refl _)]
                  simp
              · show (w'.A.take S.length ++ [a])[S.length]? = some a
                have hAS := hAl.trans hSl
                rw [List.getElem?_append_right (by rw [hAS]; exact Nat.le_refl _), hAS, Nat.sub_self]
                rfl
            · exact h.elim
          · exact h.elim
      | clo l cap => exact h.elim
      | _ => exact absurd rfl hd
theorem fnAt {P : Program} {wo : World} {K : PySem.W.Frag} {mg : Str → Option Value} {base : Heap} (hK : K = κ.K) (hTB : ∀ p ∈ κ.cs, LamX.TabB base mg p.1 p.2) (L : Lay κ pg K mg (DefAt κ pg K) (DefX K mg) (DefAtK κ pg K)) : ∀ n f a fd ps, DefIs κ pg K f a fd ps → FnOk P wo K mg base (L2.CX P wo) (10 * n + 1) a fd ps (spF κ (callF pg.F pg.G n f) ps.length) ∧ ∀ ds S, callF pg.F pg.G n f ds S ≠ .bad → ds.length = ps.length := by
  intro n
  induction n with
  | zero =>
    rintro f a _ ps ⟨fn, name, qual, params, body, scope, dV, kV, doc, pm, cdv, ct, oc, an, od, osl, N, lam, hF, rfl, lk, hcd, hS, hchk, hnp, hnn, hlam⟩
    refine ⟨⟨fun vs H Q E q => q.1, fun A outer s H args us vs Q E hr he hbb hv q => ?_⟩, fun ds S h => absurd rfl h⟩
    obtain ⟨_, w, S, ds, _, _, _, z⟩ := q
    exact z.elim
  | succ n ih =>
    rintro f a _ ps ⟨fn, name, qual, params, body, scope, dV, kV, doc, pm, cdv, ct, oc, an, od, osl, N, lam, hF, rfl, lk, hcd, hS, hchk, hnp, hnn, hlam⟩
    refine ⟨fn_of (k := 10 * n + 10) lk hcd hS (fun vs H Q E q => q.1) fun A outer s H vs Q E hroom hsp => ?_, fun ds S h => by rw [← hnp]; exact callF_np hF ds S h⟩
    obtain ⟨hlen, w, S, ds, rfl, hr, rv, af⟩ := hsp
    have LX : LayX κ pg (cxOf (L2.CX P wo) P wo K mg base N qual scope a cdv A outer s w.H E) (10 * n + 1) (cf0 pg.F pg.G n) := L.imp (fun f a ⟨fd, ps, h, hb⟩ => ⟨fd, ps, hb, ih f a fd ps h⟩) (fun f C x h => (fnX h).up (by omega)) fun f a n' ns pl ⟨fd, ps, g, gV, h1, h2, h3⟩ => let q := ih f a fd ps h1; ⟨fd, ps, g, gV, h2, q.1, q.2, h3⟩
    have G : GoodS κ pg (cxOf (L2.CX P wo) P wo K mg base N qual scope a cdv A outer s w.H E) ⟨N, scope, lam⟩ (10 * n + 1) (cf0 pg.F pg.G n) :=
      ⟨⟨rfl, rfl, hS.nd, rfl, hroom.mono (by split <;> omega), LX, hK, fun hl => ⟨(hlam hl).ok hTB, rfl⟩⟩, passes_of rfl, fun _ => rfl, rfl, rfl⟩
    refine ⟨_, sndSs fn.body G hS.kind body hchk (fun cls d _ H => E cls d H) (takes_of rfl rfl rfl rfl), ?_⟩
    have e : callF pg.F pg.G (n + 1) f ds S = retF S.length (exSs (cf0 pg.F pg.G n) pg.G fn.body (ds.map some ++ List.replicate (fn.n - fn.np) none) S) := by
      have hd : ds.length = fn.np := by rw [hnp, ← hlen]; exact rv.length.symm
      show (cfK pg.F pg.G (n + 1)).1 f ds S = _
      unfold cfK
      simp only
      rw [hF]
      simp only
      rw [if_pos hd]
    rw [e] at af
    refine ⟨w, _, S, rfl, hr, ?_, ret_end hr af⟩
    have := start_rel (N := N) rv
    rw [hnn, hnp, ← hlen]
    exact this
end
end SP
end
section
set_option Elab.async false
set_option linter.all false
set_option autoImplicit false
set_option maxRecDepth 100000
set_option maxHeartbeats 8000000
namespace SP
open PySem PySem.Spec PyProof.Rows L2
section
variable {κ : Kx} {pg : Pg}
/-- the law's promise, from what its def computes on the script -/
theorem sp_law {n fl : Nat} (plain : ∀ ns : List Int, ns.length ≤ 63 → ∃ S, callF pg.F pg.G n fl [.scr ns] [] = .ok (.bl true) S) {K : PySem.W.Frag} (hK : K = κ.K) (hT : ∀ p ∈ κ.T, ∃ c, (c, p.1) ∈ κ.cs) (H : Hp) (hH : ∀ p ∈ κ.cs, H p.2 = some (.tbl #[])) (a : Addr) (ns : List Int) (hl : ns.length ≤ 63) (hS : SqL K H a (ns.map V.int)) :
    spF κ (callF pg.F pg.G n fl) 1 [.ref a] H (fun v _ => v = .bl true) fun _ _ _ => False := by
  subst hK
  obtain ⟨S, e⟩ := plain ns hl
  have hr : ∀ F : Addr → Prop, (∀ b, F b → ∃ o, H b = some o ∧ ∀ ps, o ≠ .tbl ps) → HRel κ ⟨[], F, H⟩ [] := fun F hF =>
    ⟨fun p hp => let ⟨c, hc⟩ := hT p hp; LamX.TabS.nil (hH _ hc), fun b ps hb e => let ⟨o, h1, h2⟩ := hF b hb; h2 ps (Option.some.inj (h1.symm.trans e)), rfl, List.nodup_nil, fun b hb => absurd hb (by simp), fun b hb => let ⟨o, h1, _⟩ := hF b hb; ⟨o, h1⟩, fun n c h => by simp at h⟩
  refine ⟨rfl, ?_⟩
  rcases hS with hS | hS
  · refine ⟨⟨[], fun b => b = a, H⟩, [], [.scr ns], rfl, hr _ (fun b hb => ?_), .cons ?_ .nil, ?_⟩
    · subst hb
      rcases hS with hS | ⟨o, hS⟩
      · exact ⟨_, hS, fun _ z => by cases z⟩
      · exact ⟨_, hS, fun _ z => by cases z⟩
    · show Rep κ _ _ (.scr ns) (.ref a)
      simp only [Rep]
      exact ⟨a, rfl, .inl ⟨rfl, hS⟩⟩
    · rw [e]
      exact fun w' le hr' v rv => rv.see.bl
  · refine ⟨⟨[], fun _ => False, H⟩, [], [.scr ns], rfl, hr _ (fun b hb => hb.elim), .cons ?_ .nil, ?_⟩
    · show Rep κ _ _ (.scr ns) (.ref a)
      simp only [Rep]
      exact ⟨a, rfl, .inr hS⟩
    · rw [e]
      exact fun w' le hr' v rv => rv.see.bl
theorem cx_no {P : Program} {w : World} {H : Hp} {s : Shared} {e : Value} {s' : Shared} (h : L2.CX P w [] H s (fun _ _ _ => False) e s') : False := by
  obtain ⟨_, _, _, _, _, _, _, _, _, _, _, _, z⟩ := h
  exact z
/-- the law's end, as LamX.walk_ofTs asks it -/
theorem law_at {l : PySem.W.OpenLaw} {w : World} {K : PySem.W.Frag} {mg : Str → Option Value} {fa : Addr} {h : Heap} {n fl : Nat} {x : Str} {fd : FuncData} (hK : K = κ.K) (hT : ∀ p ∈ κ.T, ∃ c, (c, p.1) ∈ κ.cs)
    (h1 : ∀ p ∈ κ.cs, h.get? p.2 = some { cls := .none, data := .fields #[] }) (h2 : ∀ p ∈ κ.cs, K.lookup p.2 = none) (h3 : ∀ p ∈ κ.cs, PySem.W.CodeHd h p.1 p.2)
    (L : Lay κ pg K mg (DefAt κ pg K) (DefX K mg) (DefAtK κ pg K)) (hd : DefIs κ pg K fl fa fd [x]) (hb : ∀ (s : Shared) (u : Value), BindsTo s fd ⟨[u], []⟩ [(x, u)])
    (plain : ∀ ns : List Int, ns.length ≤ 63 → ∃ S, callF pg.F pg.G n fl [.scr ns] [] = .ok (.bl true) S) : LamX.LawAtS l w K (L2.CX l.prog w) (10 * n + 1) 63 x mg fa h :=
  ⟨fd, κ.cs, spF κ (callF pg.F pg.G n fl) 1, h1, h2, h3, hb, fun H a ns hl _ hH hS => sp_law plain hK hT H hH a ns hl hS, fun base _ _ hTB => (fnAt hK hTB L n fl fa fd [x] hd).1⟩
end
end SP
end
section
set_option Elab.async false
set_option linter.all false
set_option autoImplicit false
set_option maxRecDepth 100000
set_option maxHeartbeats 4000000
/-! the facts that the law's end leans on, as Bools of the written part; Lay from them -/
namespace SP
open PySem PySem.Spec PyProof.Rows L2 He
/-! ### scopes, bindings -/
def fnScopeB (N P : List Str) (sc : Scope) : Bool := decide (sc.kind = .function) && !sc.isCoroutine && !sc.isGenerator && decide N.Nodup && decide (N.take P.length = P) && P.all (fun x => decide (sc.names.lookup x = some .local) || decide (sc.names.lookup x = some .cell)) && sc.names.all fun y => !decide (y.2 = .free)
theorem fnScope_by {N P : List Str} {sc : Scope} (h : fnScopeB N P sc = true) : FnScope N P sc := by
  unfold fnScopeB at h
  simp only [Bool.and_eq_true, Bool.or_eq_true, Bool.not_eq_true', decide_eq_true_eq, decide_eq_false_iff_not, List.all_eq_true] at h
  obtain ⟨⟨⟨⟨⟨⟨h1, h2⟩, h3⟩, h4⟩, h5⟩, h6⟩, h7⟩ := h
  exact ⟨h1, h2, h3, h4, h5, h6, h7⟩
/-- plain parameters alone -/
def plainPar (ps : List Str) (a : Arguments) : Bool := a.posonlyargs.isEmpty && a.vararg.isNone && a.kwonlyargs.isEmpty && a.kwarg.isNone && decide (a.args.map (·.arg) = ps) && decide ps.Nodup
theorem lookup_zip {ps : List Str} : ∀ {us : List Value}, us.length = ps.length → ps.Nodup → ps.filterMap (fun n => ((ps.zip us).lookup n).map fun v => (n, v)) = ps.zip us := by
  induction ps with
  | nil => intro us _ _; cases us <;> simp
  | cons p ps ih =>
    intro us hl nd
    cases us with
    | nil => simp at hl
    | cons u us =>
      obtain ⟨hp, nd2⟩ := List.nodup_cons.mp nd
      have h1 := ih (us := us) (by simpa using hl) nd2
      rw [List.filterMap_cons]
      simp only [List.zip_cons_cons, List.lookup_cons, beq_self_eq_true, Option.map_some]
      congr 1
      refine Eq.trans ?_ h1
      refine HT.fm_congr fun n hn => ?_
      have hne : (n == p) = false := by
        simp only [beq_eq_false_iff_ne, ne_eq]
        rintro rfl
        exact hp hn
      rw [hne]
theorem lookup_some {ps : List Str} : ∀ {us : List Value}, us.length = ps.length → ∀ n ∈ ps, ((ps.zip us).lookup n).isNone = false := by
  induction ps with
  | nil => intro us _ n hn; simp at hn
  | cons p ps ih =>
    intro us hl n hn
    cases us with
    | nil => simp at hl
    | cons u us =>
      simp only [List.zip_cons_cons, List.lookup_cons]
      cases e : (n == p) with
      | true => rfl
      | false =>
        have hne : n ≠ p := by simpa using e
        exact ih (by simpa using hl) n ((List.mem_cons.mp hn).elim (fun z => absurd z hne) id)
theorem bind_plain {x qual : Str} {a : Arguments} {body : List Stmt} {scope : Scope} {kV doc pm cdv ct : Value} {an : Option Addr} {ps : List Str} {us : List Value} (h : plainPar ps a = true) (hl : us.length = ps.length) :
    bindArgs (PySem.W.fnOf x qual a body scope .none kV doc pm an cdv ct) ⟨us, []⟩ = pure (ps.zip us) := by
  unfold plainPar at h
  simp only [Bool.and_eq_true, List.isEmpty_iff, Option.isNone_iff_eq_none, decide_eq_true_eq] at h
  obtain ⟨⟨⟨⟨⟨h1, h2⟩, h3⟩, h4⟩, h5⟩, h6⟩ := h
  obtain ⟨po, as, va, ko, kd, kw, df⟩ := a
  simp only at h1 h2 h3 h4 h5
  subst h1 h2 h3 h4
  have h0 : seqItems? Value.none = pure none := rfl
  have h7 : (ps.filter fun n => ((ps.zip us).lookup n).isNone) = [] := by
    rw [List.filter_eq_nil_iff]
    intro n hn
    rw [lookup_some hl n hn]
    simp
  unfold bindArgs
  simp [h0, h5, hl, h7, lookup_zip hl h6]
/-- the second of two by its name -/
theorem bind_kw1 {x qual : Str} {a : Arguments} {body : List Stmt} {scope : Scope} {kV doc pm cdv ct : Value} {an : Option Addr} {p q : Str} {u v : Value} (h : plainPar [p, q] a = true) :
    bindArgs (PySem.W.fnOf x qual a body scope .none kV doc pm an cdv ct) ⟨[u], [(q, v)]⟩ = pure [(p, u), (q, v)] := by
  unfold plainPar at h
  simp only [Bool.and_eq_true, List.isEmpty_iff, Option.isNone_iff_eq_none, decide_eq_true_eq] at h
  obtain ⟨⟨⟨⟨⟨h1, h2⟩, h3⟩, h4⟩, h5⟩, h6⟩ := h
  obtain ⟨po, as, va, ko, kd, kw, df⟩ := a
  simp only at h1 h2 h3 h4 h5
  subst h1 h2 h3 h4
  have h0 : seqItems? Value.none = pure none := rfl
  have hne : p ≠ q := by
    intro z
    simp [z] at h6
  have e1 : (q == p) = false := by simpa using Ne.symm hne
  have e2 : (p == q) = false := by simpa using hne
  unfold bindArgs
  simp [h0, h5, List.lookup_cons, e1, e2, List.contains_cons]
end SP
end
section
set_option Elab.async false
set_option linter.all false
set_option autoImplicit false
set_option maxRecDepth 100000
set_option maxHeartbeats 4000000
namespace SP
open PySem PySem.Spec PyProof.Rows L2 He
/-- a def of the law's text: its number, where it stands and its text, its slots, its parameters, whether it makes lambdas -/
structure DefE where
  id : Nat
  dd : DefD
  N : List Str
  ps : List Str
  lam : Bool
/-- an exception class: its number, name, field, its __init__, the names in it -/
structure XE where
  id : Nat
  name : Str
  f : Str
  dd : DefD
  self : Str
  par : Str
def lamQ (p : Defn) : Str := (p.1 ++ ".<locals>.") ++ "<lambda>"
/-- what is known of the classes by names -/
def kapOf (pg : Pg) (fnm : Nat → List Str) (tf : List Defn) (K : PySem.W.Frag) : Kx where
  K := K
  ca := fun c => if c < 100 then (pg.cn c).map (ga K) else none
  oa := fun c => if 100 ≤ c then (pg.cn c).map (ga K) else none
  fnm := fnm
  T := tf.map fun p => ((cT K p).2, lamQ p)
  cs := tf.map (cT K)
  th := none
section
variable {pg : Pg} {fnm : Nat → List Str} {tf : List Defn} {K : PySem.W.Frag}
def defB (pg : Pg) (tf : List Defn) (e : DefE) : Bool := match pg.F e.id with
  | none => false
  | some fn => fnScopeB e.N e.ps e.dd.scope && chkSs pg fn.body ⟨e.N, e.dd.scope, e.lam⟩ e.dd.body && decide (fn.np = e.ps.length) && decide (fn.n = e.N.length) && (!e.lam || (tf.contains e.dd.at_ && decide (e.dd.at_.2 = none) && decide (e.dd.at_.1 = e.dd.qual)))
def tabsNd (tf : List Defn) (K : PySem.W.Frag) : Bool := decide (tf.map fun p => (cT K p).2).Nodup
theorem nodup_map {α β : Type} {f : α → β} : ∀ {l : List α}, (l.map f).Nodup → ∀ {a b : α}, a ∈ l → b ∈ l → f a = f b → a = b
  | [], _, _, _, h, _, _ => by simp at h
  | x :: l, nd, a, b, ha, hb, e => by
    rw [List.map_cons] at nd
    obtain ⟨h1, h2⟩ := List.nodup_cons.mp nd
    rcases List.mem_cons.mp ha with ea | ha <;> rcases List.mem_cons.mp hb with eb | hb
    · rw [ea, eb]
    · exact absurd (List.mem_map.mpr ⟨b, hb, by rw [← e, ea]⟩) h1
    · exact absurd (List.mem_map.mpr ⟨a, ha, by rw [e, eb]⟩) h1
    · exact nodup_map h2 ha hb e
theorem defIs_of {e : DefE} {dvs : List V} {kws : List (Str × V)} {fd : FuncData} (hB : defB pg tf e = true) (hnd : tabsNd tf K = true) (F : FunD K e.dd.name e.dd.qual e.dd.params e.dd.body e.dd.scope dvs kws (fAd K e.dd.at_) fd) :
    DefIs (kapOf pg fnm tf K) pg K e.id (fAd K e.dd.at_) fd e.ps := by
  unfold defB at hB
  split at hB
  · cases hB
  · rename_i fn hF
    simp only [Bool.and_eq_true, decide_eq_true_eq] at hB
    obtain ⟨⟨⟨⟨h1, h2⟩, h3⟩, h4⟩, h5⟩ := hB
    obtain ⟨oc, od, dV, kV, doc, pm, an, cdv, ct, osl, rfl, lk, hcd, _, _⟩ := F.ex
    refine ⟨fn, _, _, _, _, _, dV, kV, doc, pm, cdv, ct, oc, an, od, osl, e.N, e.lam, hF, rfl, lk, hcd, fnScope_by h1, h2, h3, h4, fun hl => ?_⟩
    rw [hl] at h5
    simp only [Bool.not_true, Bool.false_or, Bool.and_eq_true, decide_eq_true_eq] at h5
    obtain ⟨⟨h5, h6⟩, h7⟩ := h5
    have hm : e.dd.at_ ∈ tf := by simpa using h5
    obtain ⟨c, rfl⟩ := codeIn_ref hcd
    have ec := codeOf_eq (p := e.dd.at_) lk rfl
    have eq : lamQ e.dd.at_ = (e.dd.qual ++ ".<locals>.") ++ "<lambda>" := by unfold lamQ; rw [h7]
    have ecT : cT K e.dd.at_ = (c, (cT K e.dd.at_).2) := by
      have e1 : (cT K e.dd.at_).1 = c := ec
      rw [← e1]
    refine ⟨c, (cT K e.dd.at_).2, _, rfl, rfl, List.mem_map.mpr ⟨_, hm, ecT⟩, List.mem_map.mpr ⟨_, hm, by rw [eq]⟩, fun p hp hp1 => ?_⟩
    obtain ⟨q, hq, rfl⟩ := List.mem_map.mp hp
    have := nodup_map (of_decide_eq_true hnd) hq hm hp1
    rw [this]
    exact eq
/-! ### exceptions -/
def excBodyB (b self f par : Str) : List Stmt → Bool
  | [.Expr (.Call (.Attribute (.Name b' _) i p2) [.Name s' _, .Constant (.str _) _ _] [] p5) _, .Assign [.Attribute (.Name s2 _) f' _] (.Name par' _) _] =>
    beqS b' b && beqS i "__init__" && beqS s' self && beqS s2 self && beqS f' f && beqS par' par && (p2.endLine == p5.line)
  | _ => false
def oexB (K : PySem.W.Frag) (C : Addr) : Bool := match K.lookup C with
  | some ⟨.type ty, _, .cls cd, sl⟩ => decide (ty = "type") && (match cd.mro, sl.toList with
    | .ref C' :: bm, [_, _, _, _, some (.builtin n), _] => decide (C' = C) && decide (n = "ValueError.__new__") && !cd.hasDel && cd.hasDict && PySem.HandSPX.refsVE bm
    | _, _ => false)
  | _ => false
theorem oexB_ok {K : PySem.W.Frag} {C : Addr} (h : oexB K C = true) : ∃ nm q N bs bm sn sub ab col dd k0 k1 k2 k3 k5, K.lookup C = some (excClassObj nm q C N bs bm true sn sub ab col dd k0 k1 k2 k3 k5 "ValueError.__new__") ∧ PySem.HandSPX.refsVE bm = true := by
  unfold oexB at h
  split at h
  · rename_i ty dd cd sl ho
    obtain ⟨h0, h⟩ := Bool.and_eq_true_iff.mp h
    have h0 := of_decide_eq_true h0
    subst h0
    split at h
    · rename_i C' bm k0 k1 k2 k3 n k5 hm hs
      simp only [Bool.and_eq_true, decide_eq_true_eq, Bool.not_eq_true'] at h
      cases cd with
      | mk nm bs mro ns qn hd sn sub ab col del =>
      have g1 := h.2.1.1.1.1
      have g2 := h.2.1.1.1.2
      have g3 := h.2.1.1.2
      have g4 := h.2.1.2
      have hr := h.2.2
      dsimp only at hm g3 g4
      subst hm
      subst g1
      subst g2
      subst g3
      subst g4
      have hsl : sl = #[k0, k1, k2, k3, some (.builtin "ValueError.__new__"), k5] := by
        obtain ⟨l⟩ := sl
        simp only at hs
        rw [hs]
      subst hsl
      exact ⟨nm, qn, ns, bs, bm, sn, sub, ab, col, dd, k0, k1, k2, k3, k5, ho, hr⟩
    · cases h
  · cases h
def isO (a b : Option Value) : Bool := decide (a = b)
/-- the class at C: an exception over SlabError, as the layer wants it -/
def excK (K : PySem.W.Frag) (C : Addr) : Bool :=
  oexB K C && xfB K C && eqO (PySem.W.findIn K (.ref C) "__setattr__") (some (some (.builtin "object.__setattr__"))) && isO (PySem.W.typeIn K (.ref C)) (some (.type "type")) && PySem.W.keepIn K (.ref C) &&
  eqO (PySem.W.findIn K (.ref C) "__class__") (some (some (.builtin "object.__class__"))) && decide (PySem.W.specialIn K (.builtin "object.__class__") "__get__" = some (some (.builtin "getset_descriptor.__get__"))) && decide (PySem.W.takesIn K (.builtin "object.__class__") = some true) &&
  decide (PySem.W.mroIn K C (.type "object") = some true) && decide (PySem.W.kitOne K (.ref C) (.type "ValueError") = some true)
def xeB (base : Str) (K : PySem.W.Frag) (e : XE) : Bool := excK K (ga K e.name) && eqO (PySem.W.findIn K (.ref (ga K e.name)) "__init__") (some (some (.ref (ma K (ga K e.name) "__init__")))) && isO (PySem.W.typeIn K (.ref (ma K (ga K e.name) "__init__"))) (some (.type "function")) && eqO (PySem.W.findIn K (.ref (ga K e.name)) e.f) (some none)
/-- K-free: its text -/
def xeT (base : Str) (fnm : Nat → List Str) (e : XE) : Bool := decide (e.dd.at_ = (e.name, some (Str.ofString "__init__"))) && excBodyB base e.self e.f e.par e.dd.body && fnScopeB [e.self, e.par] [e.self, e.par] e.dd.scope && plainPar [e.self, e.par] e.dd.params && decide (e.dd.scope.names.lookup base = some .globalImplicit) && nmOk base && nmOk e.self && nmOk e.par && decide (fnm e.id = [e.f]) && decide (e.dd.dfl.length = 0) && decide (e.par = e.f)
def baseB (K : PySem.W.Frag) (base : Str) : Bool := decide (PySem.W.specialIn K (.ref (ga K base)) "__getattribute__" = some (some (.builtin "type.__getattribute__"))) && PySem.W.readsIn K (ga K base) (.type "type") && (match PySem.W.findCls K (.ref (ga K base)) (.type "type") "__init__" with
  | some (.val v) => decide (v = .builtin "ValueError.__init__")
  | _ => false)
theorem base_ok {K : PySem.W.Frag} {base : Str} (h : baseB K base = true) : PySem.W.specialIn K (.ref (ga K base)) "__getattribute__" = some (some (.builtin "type.__getattribute__")) ∧ PySem.W.readsIn K (ga K base) (.type "type") = true ∧ PySem.W.findCls K (.ref (ga K base)) (.type "type") "__init__" = some (.val (.builtin "ValueError.__init__")) := by
  unfold baseB at h
  simp only [Bool.and_eq_true, decide_eq_true_eq] at h
  refine ⟨h.1.1, h.1.2, ?_⟩
  have h2 := h.2
  split at h2
  · rename_i v e
    rw [e, of_decide_eq_true h2]
  · cases h2
theorem excBody_of {b self f par : Str} {body : List Stmt} (h : excBodyB b self f par body = true) : ∃ (t : Str) (j : Nat) (p1 p2 p3 p4 p5 p6 p7 p8 p9 p10 : Pos), body = [.Expr (.Call (.Attribute (.Name b p1) "__init__" p2) [.Name self p3, .Constant (.str t) j p4] [] p5) p6, .Assign [.Attribute (.Name self p7) f p8] (.Name par p9) p10] ∧ (p2.endLine == p5.line) = true := by
  unfold excBodyB at h
  split at h
  · simp only [Bool.and_eq_true] at h
    obtain ⟨⟨⟨⟨⟨⟨h1, h2⟩, h3⟩, h4⟩, h5⟩, h6⟩, h7⟩ := h
    have h1 := beqS_eq h1
    have h2 := beqS_eq h2
    have h3 := beqS_eq h3
    have h4 := beqS_eq h4
    have h5 := beqS_eq h5
    have h6 := beqS_eq h6
    subst h1 h2 h3 h4 h5 h6
    exact ⟨_, _, _, _, _, _, _, _, _, _, _, _, rfl, h7⟩
  · cases h
theorem defX_of {h : Heap} {mg : Str → Option Value} {base : Str} {e : XE} {kws : List (Str × V)} {fd : FuncData} (X : K.In h) (G : h.Ns mainGlobals mg) (hB : xeB base K e = true) (hT : xeT base fnm e = true) (hb : baseB K base = true) (hg : mg base = some (.ref (ga K base)))
    (F : FunD K e.dd.name e.dd.qual e.dd.params e.dd.body e.dd.scope [] kws (fAd K e.dd.at_) fd) : DefX K mg (ma K (ga K e.name) "__init__") (ga K e.name) e.f ∧ OexC K (ga K e.name) := by
  unfold xeB excK at hB
  unfold xeT at hT
  simp only [Bool.and_eq_true, decide_eq_true_eq, isO] at hB hT
  obtain ⟨⟨⟨⟨⟨⟨⟨⟨⟨⟨⟨⟨a1, a2⟩, a3⟩, a4⟩, a5⟩, a6⟩, a7⟩, a8⟩, a9⟩, a10⟩, a11⟩, a12⟩, a13⟩ := hB
  obtain ⟨⟨⟨⟨⟨⟨⟨⟨⟨⟨t1, t2⟩, t3⟩, t4⟩, t5⟩, t6⟩, t7⟩, t8⟩, t9⟩, t10⟩, t11⟩ := hT
  obtain ⟨b1, b2, b3⟩ := base_ok hb
  obtain ⟨oc, od, dV, kV, doc, pm, an, cdv, ct, osl, rfl, lk, hcd, hD, _⟩ := F.ex
  obtain ⟨t, j, p1, p2, p3, p4, p5, p6, p7, p8, p9, p10, eb, hl⟩ := excBody_of t2
  have T : OexC K (ga K e.name) := ⟨oexB_ok a1, eqO_ok a3, (xfB_ok a2).exC, a4, a5⟩
  have hdV : dV = .none := by
    rcases hD with ⟨_, h⟩ | ⟨h, _⟩
    · exact h
    · exact absurd rfl h
  have eA : fAd K e.dd.at_ = ma K (ga K e.name) "__init__" := by rw [t1] <;> rfl
  rw [eA] at lk
  have hbd : Binds K (PySem.W.fnOf e.dd.name e.dd.qual e.dd.params e.dd.body e.dd.scope dV kV doc pm an cdv ct) [e.self, e.par] [] := by
    rw [hdV]
    exact .all fun us hl => bind_plain t4 hl
  have hbk : BindK (PySem.W.fnOf e.dd.name e.dd.qual e.dd.params e.dd.body e.dd.scope dV kV doc pm an cdv ct) [e.self, e.par] e.f := by
    rw [hdV, ← t11]
    intro s a ws hl
    match ws, hl with
    | [v], _ => exact .of_eq (bind_kw1 t4)
  rw [eb] at lk hbd hbk
  exact ⟨⟨e.dd.name, e.dd.qual, e.self, e.par, base, t, e.dd.params, e.dd.scope, dV, kV, doc, pm, cdv, ct, oc, .type "type", an, od, osl, ga K base, j, p1, p2, p3, p4, p5, p6, p7, p8, p9, p10, lk, hcd, fnScope_by t3, hbd, hbk, t5, t6, t7, t8, hl, hg, b1, b2, b3, T, eqO_ok a13⟩, T⟩
theorem excC_of {K : PySem.W.Frag} {C : Addr} (h : excK K C = true) : ExcC K C ∧ XfC K C ∧ PySem.W.kitOne K (.ref C) (.type "ValueError") = some true := by
  unfold excK at h
  simp only [Bool.and_eq_true, decide_eq_true_eq, isO] at h
  obtain ⟨⟨⟨⟨⟨⟨⟨⟨⟨a1, a2⟩, a3⟩, a4⟩, a5⟩, a6⟩, a7⟩, a8⟩, a9⟩, a10⟩ := h
  have x := xfB_ok a2
  exact ⟨⟨x.ga, x.gg, x.exC, x.hdC, eqO_ok a6, a7, a8, a9⟩, x, a10⟩
end
end SP
end
section
set_option Elab.async false
set_option linter.all false
set_option autoImplicit false
set_option maxRecDepth 100000
set_option maxHeartbeats 4000000
namespace SP
open PySem PySem.Spec PyProof.Rows L2 He
/-- the law's tables -/
structure Tb where
  fnL : List (Nat × Str)
  fkL : List (Nat × Str)
  mnL : List (Nat × Str)
  cnL : List (Nat × Str)
  cstL : List (Str × Int)
  defs : List DefE
  tf : List Defn
  xL : List XE
  base : Str
  slab : Str
def Tb.fn (T : Tb) : List DefD := T.defs.map (·.dd) ++ T.xL.map (·.dd)
def atB (T : Tb) (id : Nat) (at_ : Defn) : Bool := T.defs.any fun e => decide (e.id = id) && decide (e.dd.at_ = at_) && plainPar e.ps e.dd.params && decide (e.dd.dfl.length = 0)
/-- the class of objects is there -/
def Tb.has (T : Tb) : Bool := T.cnL.any fun q => decide (q.1 = 100)
/-- K-free -/
def Tb.chk (T : Tb) (pg : Pg) (fnm : Nat → List Str) : Bool :=
  T.defs.all (defB pg T.tf) && T.fnL.all (fun q => atB T q.1 (q.2, none)) && T.mnL.all (fun q => atB T q.1 (T.slab, some q.2) && !(fnm 100).contains q.2) &&
  T.cnL.all (fun q => (decide (q.1 = 0) && decide (q.2 = T.base)) || (decide (0 < q.1) && decide (q.1 < 100) && T.xL.any fun e => decide (e.id = q.1) && decide (e.name = q.2)) || (decide (q.1 = 100) && decide (q.2 = T.slab))) &&
  T.xL.all (xeT T.base fnm) && T.xL.all (fun e => (List.range 16).all fun f => match pg.G.fpos e.id f, pg.fld f with
    | some j, some x => decide (j = 0) && decide (fnm e.id = [x])
    | _, _ => true) &&
  (List.range 16).all (fun f => match pg.G.fpos 100 f, pg.fld f with
    | some j, some x => decide ((fnm 100)[j]? = some x)
    | _, _ => true) &&
  (!T.has || atB T (pg.G.init 100) (T.slab, some "__init__")) && (!T.has || match pg.G.len 100 with
    | some g => atB T g (T.slab, some "__len__")
    | none => true) && (!T.has || match pg.G.eq 100 with
    | some g => atB T g (T.slab, some "__eq__")
    | none => true) && decide (pg.G.fields 100 = (fnm 100).length) && decide ((fnm 100).length < 1000) && decide (fnm 100).Nodup && T.cnL.contains (0, T.base)
def slabK (K : PySem.W.Frag) (C : Addr) : Bool :=
  eqO (PySem.W.findIn K (.ref C) "__class__") (some (some (.builtin "object.__class__"))) && decide (PySem.W.specialIn K (.builtin "object.__class__") "__get__" = some (some (.builtin "getset_descriptor.__get__"))) && decide (PySem.W.takesIn K (.builtin "object.__class__") = some true) &&
  decide (PySem.W.mroIn K C (.type "object") = some true) && ["int", "bool", "list", "tuple", "str", "ValueError"].all (fun t => decide (PySem.W.kitOne K (.ref C) (.type t) = some false)) && ["NoneType", "bool", "int", "str", "list", "tuple", "dict"].all (fun t => decide (PySem.W.kitOne K (.type t) (.ref C) = some false)) &&
  decide (PySem.W.kitOne K (.ref C) (.ref C) = some true)
def Tb.fas (T : Tb) (fnm : Nat → List Str) (pg : Pg) : List Fa := T.fnL.map (fun q => .glo q.2) ++ T.fkL.map (fun q => .glo q.2) ++ T.cnL.map (fun q => .glo q.2) ++ bNames.map .free ++ T.cstL.map (fun q => .int q.1 q.2) ++ (if T.has then [.cls T.slab, .mkr T.slab] ++ (fnm 100).map (.noat T.slab) ++ T.mnL.map (fun q => .meth T.slab q.2) ++
  (match pg.G.len 100 with
    | some _ => [.meth T.slab "__len__"]
    | none => []) ++ (match pg.G.eq 100 with
    | some _ => [.meth T.slab "__eq__"]
    | none => []) else [])
/-- of the written part -/
def Tb.exB (T : Tb) (pg : Pg) (fnm : Nat → List Str) (K : PySem.W.Frag) : Bool :=
  (T.fas fnm pg).all (fun f => f.ok K) && tabsNd T.tf K && T.xL.all (xeB T.base K) && baseB K T.base && decide (T.cnL.map fun q => ga K q.2).Nodup &&
  T.xL.all (fun e => T.cnL.all fun q => decide (100 ≤ q.1) || (decide (PySem.W.kitOne K (.ref (ga K e.name)) (.ref (ga K q.2)) = some (excSub e.id q.1)) && decide (PySem.W.exmOne K (.ref (ga K e.name)) (.ref (ga K q.2)) = some (excSub e.id q.1)))) && (!T.has || slabK K (ga K T.slab))
section
variable {pg : Pg} {fnm : Nat → List Str} {T : Tb} {K : PySem.W.Frag} {h : Heap} {mg : Str → Option Value} {w : World}
/-- what the tables are to pg -/
structure TbOf (pg : Pg) (T : Tb) : Prop where
  fn : ∀ f x, pg.fn f = some x → (f, x) ∈ T.fnL
  fk : ∀ f x, pg.fk f = some x → (f, x) ∈ T.fkL
  mn : ∀ f x, pg.mn f = some x → (f, x) ∈ T.mnL
  cn : ∀ f x, pg.cn f = some x → (f, x) ∈ T.cnL
  cst : ∀ x i, pg.cst x = some i → (x, i) ∈ T.cstL
  fld : ∀ f x, pg.fld f = some x → f < 16
theorem def_at (c : SaysD [] T.fn K) (hc : T.chk pg fnm = true) (hx : T.exB pg fnm K = true) {id : Nat} {at_ : Defn} (ha : atB T id at_ = true) : DefAt (kapOf pg fnm T.tf K) pg K id (fAd K at_) := by
  unfold atB at ha
  obtain ⟨e, he, h2⟩ := List.any_eq_true.mp ha
  simp only [Bool.and_eq_true, decide_eq_true_eq] at h2
  obtain ⟨⟨⟨rfl, rfl⟩, hp⟩, hd⟩ := h2
  obtain ⟨fd, F⟩ := c.defs (d := e.dd) (by unfold Tb.fn; exact List.mem_append_left _ (List.mem_map.mpr ⟨e, he, rfl⟩))
  have hB : defB pg T.tf e = true := by
    unfold Tb.chk at hc
    simp only [Bool.and_eq_true] at hc
    exact List.all_eq_true.mp hc.1.1.1.1.1.1.1.1.1.1.1.1.1 e he
  have hnd : tabsNd T.tf K = true := by
    unfold Tb.exB at hx
    simp only [Bool.and_eq_true] at hx
    exact hx.1.1.1.1.1.2
  refine ⟨fd, e.ps, defIs_of hB hnd F, ?_⟩
  have hdv : e.dd.dvs K = [] := by
    unfold DefD.dvs
    rw [List.eq_nil_of_length_eq_zero hd]
    rfl
  rw [hdv] at F
  exact F.bindsN fun kV doc pm an cdv ct us hl => bind_plain hp hl
theorem lay_of (X : K.In h) (G : h.Ns mainGlobals mg) (q : TbOf pg T) (c : SaysD [] T.fn K) (hc : T.chk pg fnm = true) (hx : T.exB pg fnm K = true)
    (hkw : ∀ f x n ns pl, pg.fk f = some x → pg.shp f n ns pl = true → ∃ e ∈ T.defs, e.id = f ∧ e.dd.at_ = (x, none) ∧ ∀ fd, FunD K e.dd.name e.dd.qual e.dd.params e.dd.body e.dd.scope (e.dd.dvs K) (e.dd.kws K) (fAd K e.dd.at_) fd → ∃ g gV, KBn K fd e.ps n ns g gV ∧ ∀ vs zs, vs.length = n → zs.length = ns.length → planV vs zs pl = some (gV vs zs)) :
    Lay (kapOf pg fnm T.tf K) pg K mg (DefAt (kapOf pg fnm T.tf K) pg K) (DefX K mg) (DefAtK (kapOf pg fnm T.tf K) pg K) := by
  have hc0 := hc
  have hx0 := hx
  unfold Tb.chk at hc
  unfold Tb.exB at hx
  simp only [Bool.and_eq_true, decide_eq_true_eq] at hc hx
  obtain ⟨⟨⟨⟨⟨⟨⟨⟨⟨⟨⟨⟨⟨c1, c2⟩, c3⟩, c4⟩, c5⟩, c6⟩, c7⟩, c8⟩, c9⟩, c10⟩, c11⟩, c12⟩, c13⟩, c14⟩ := hc
  obtain ⟨⟨⟨⟨⟨⟨x1, x2⟩, x3⟩, x4⟩, x5⟩, x6⟩, x7⟩ := hx
  have fa : ∀ f ∈ T.fas fnm pg, f.ok K = true := fun f hf => List.all_eq_true.mp x1 f hf
  have glo : ∀ x, (Fa.glo x) ∈ T.fas fnm pg → mg x = some (.ref (ga K x)) := fun x hx => glo_ok X G (fa _ hx)
  have gcn : ∀ p ∈ T.cnL, mg p.2 = some (.ref (ga K p.2)) := fun p hp => glo _ (by (unfold Tb.fas; simp only [List.mem_append]; repeat (first | exact (List.mem_map.mpr ⟨p, hp, rfl⟩) | exact Or.inr (List.mem_map.mpr ⟨p, hp, rfl⟩) | apply Or.inl)))
  have cnc : ∀ p ∈ T.cnL, (p.1 = 0 ∧ p.2 = T.base) ∨ (0 < p.1 ∧ p.1 < 100 ∧ ∃ e ∈ T.xL, e.id = p.1 ∧ e.name = p.2) ∨ (p.1 = 100 ∧ p.2 = T.slab) := fun p hp => by
    have := List.all_eq_true.mp c4 p hp
    simp only [Bool.or_eq_true, Bool.and_eq_true, decide_eq_true_eq, List.any_eq_true] at this
    rcases this with (h | ⟨⟨h1, h2⟩, e, he, h3⟩) | h
    · exact .inl h
    · exact .inr (.inl ⟨h1, h2, e, he, h3⟩)
    · exact .inr (.inr h)
  have kca : ∀ c0 C, (kapOf pg fnm T.tf K).ca c0 = some C → c0 < 100 ∧ ∃ x, pg.cn c0 = some x ∧ C = ga K x := fun c0 C e => by
    simp only [kapOf] at e
    split at e
    · rename_i hlt
      obtain ⟨x, h1, h2⟩ := Option.map_eq_some_iff.mp e
      exact ⟨hlt, x, h1, h2.symm⟩
    · cases e
  have koa : ∀ c0 C, (kapOf pg fnm T.tf K).oa c0 = some C → c0 = 100 ∧ pg.cn 100 = some T.slab ∧ C = ga K T.slab := fun c0 C e => by
    simp only [kapOf] at e
    split at e
    · rename_i hlt
      obtain ⟨x, h1, h2⟩ := Option.map_eq_some_iff.mp e
      rcases cnc _ (q.cn _ _ h1) with h | h | h
      · have := h.1; simp at this; omega
      · have := h.2.1; simp at this; omega
      · have e1 : c0 = 100 := h.1
        have e2 : x = T.slab := h.2
        subst e1 e2
        exact ⟨rfl, h1, h2.symm⟩
    · cases e
  have inj : ∀ {p p' : Nat × Str}, p ∈ T.cnL → p' ∈ T.cnL → ga K p.2 = ga K p'.2 → p = p' := fun hp hp' e => nodup_map x5 hp hp' e
  have meth : ∀ {m : Nat} {x : Str}, atB T m (T.slab, some x) = true → (Fa.meth T.slab x) ∈ T.fas fnm pg → ∃ a, Meth K (ga K T.slab) x a ∧ DefAt (kapOf pg fnm T.tf K) pg K m a := fun {m x} h1 h2 => ⟨ma K (ga K T.slab) x, meth_ok (fa _ h2), def_at c hc0 hx0 h1⟩
  refine ⟨fun x i e => ?_, fun x hx => ?_, fun f x e => ?_, fun c0 C e => ?_, fun c0 x e h100 => ?_, fun c0 x e h100 => ?_, fun c0 C e h0 => ?_, fun f x n ns pl e1 e2 => ?_, fun c0 C c1 e1 e2 => ?_, fun c0 C c1 C' e1 h0 e2 => ?_⟩
  · exact int_ok X G (fa (.int x i) (by (unfold Tb.fas; simp only [List.mem_append]; repeat (first | exact (List.mem_map.mpr ⟨_, q.cst x i e, rfl⟩) | exact Or.inr (List.mem_map.mpr ⟨_, q.cst x i e, rfl⟩) | apply Or.inl))))
  · exact free_ok X G (fa (.free x) (by (unfold Tb.fas; simp only [List.mem_append]; repeat (first | exact (List.mem_map.mpr ⟨_, hx, rfl⟩) | exact Or.inr (List.mem_map.mpr ⟨_, hx, rfl⟩) | apply Or.inl))))
  · have hm := q.fn f x e
    have hat := def_at c hc0 hx0 (List.all_eq_true.mp c2 _ hm)
    have hg := glo x (by (unfold Tb.fas; simp only [List.mem_append]; repeat (first | exact (List.mem_map.mpr ⟨_, hm, rfl⟩) | exact Or.inr (List.mem_map.mpr ⟨_, hm, rfl⟩) | apply Or.inl)))
    obtain ⟨e', he', h2⟩ := List.any_eq_true.mp (List.all_eq_true.mp c2 _ hm)
    simp only [Bool.and_eq_true, decide_eq_true_eq] at h2
    obtain ⟨fd, F⟩ := c.defs (d := e'.dd) (by unfold Tb.fn; exact List.mem_append_left _ (List.mem_map.mpr ⟨e', he', rfl⟩))
    have hkp := F.kp
    rw [h2.1.1.2] at hkp
    exact ⟨ga K x, hg, hkp, hat⟩
  · obtain ⟨rfl, hcn, rfl⟩ := koa c0 C e
    have hH : T.has = true := List.any_eq_true.mpr ⟨_, q.cn _ _ hcn, by simp⟩
    rw [hH] at c8 c9 c10 x7
    simp only [Bool.not_true, Bool.false_or] at c8 c9 c10 x7
    unfold slabK at x7
    simp only [Bool.and_eq_true, decide_eq_true_eq] at x7
    obtain ⟨⟨⟨⟨⟨⟨s1, s2⟩, s3⟩, s4⟩, s5⟩, s6⟩, s7⟩ := x7
    have hfs : ∀ f, f ∈ T.fas fnm pg → f.ok K = true := fa
    refine ⟨cls_ok (fa (.cls T.slab) (by unfold Tb.fas; rw [if_pos hH]; simp)), eqO_ok s1, s2, s3, s4, ⟨_, mkr_ok (fa (.mkr T.slab) (by unfold Tb.fas; rw [if_pos hH]; simp)), def_at c hc0 hx0 c8⟩, c13, fun f j e1 x e2 => ?_, fun m x e1 => ?_, fun g e1 => ?_, fun g e1 => ?_, c11, c12, fun t x e1 => ?_, fun Tn hT => ?_, fun c' C' e1 => ?_⟩
    · have := List.all_eq_true.mp c7 f (List.mem_range.mpr (q.fld f x e2))
      rw [e1, e2] at this
      have this := of_decide_eq_true this
      exact ⟨this, noat_ok (fa (.noat T.slab x) (by unfold Tb.fas; rw [if_pos hH]; simp only [List.mem_append]; apply Or.inr; repeat (first | exact (List.mem_map.mpr ⟨x, List.mem_of_getElem? this, rfl⟩) | exact Or.inr (List.mem_map.mpr ⟨x, List.mem_of_getElem? this, rfl⟩) | apply Or.inl)))⟩
    · have hm := q.mn m x e1
      have := List.all_eq_true.mp c3 _ hm
      simp only [Bool.and_eq_true, Bool.not_eq_true'] at this
      refine ⟨?_, meth this.1 (by unfold Tb.fas; rw [if_pos hH]; simp only [List.mem_append]; apply Or.inr; repeat (first | exact (List.mem_map.mpr ⟨_, hm, rfl⟩) | exact Or.inr (List.mem_map.mpr ⟨_, hm, rfl⟩) | apply Or.inl))⟩
      intro hz
      have h2 := this.2
      have : (fnm 100).contains x = true := List.contains_iff_mem.mpr hz
      rw [this] at h2
      cases h2
    · rw [e1] at c9
      obtain ⟨a, h1, h2⟩ := meth c9 (by unfold Tb.fas; rw [if_pos hH, e1]; simp)
      exact ⟨a, h1.at_, h1.fn, h2⟩
    · rw [e1] at c10
      obtain ⟨a, h1, h2⟩ := meth c10 (by unfold Tb.fas; rw [if_pos hH, e1]; simp)
      exact ⟨a, h1.at_, h1.fn, h2⟩
    · have hx : x.toString ∈ ["int", "bool", "list", "tuple", "str", "ValueError"] := by
        cases t <;> simp [tyName] at e1 <;> subst e1 <;> decide +kernel
      exact of_decide_eq_true (List.all_eq_true.mp s5 _ hx)
    · exact of_decide_eq_true (List.all_eq_true.mp s6 _ hT)
    · obtain ⟨rfl, _, rfl⟩ := koa c' C' e1
      exact s7
  · have := gcn _ (q.cn _ _ e)
    exact ⟨ga K x, this, by simp only [kapOf]; rw [if_pos h100, e]; rfl⟩
  · have := gcn _ (q.cn _ _ e)
    exact ⟨ga K x, this, by simp only [kapOf]; rw [if_pos h100, e]; rfl⟩
  · obtain ⟨hlt, x, hcn, rfl⟩ := kca c0 C e
    have hm := q.cn _ _ hcn
    rcases cnc _ hm with h | ⟨_, _, e0, he0, h3, h4⟩ | h
    · have : c0 = 0 := h.1
      omega
    · have h3 : e0.id = c0 := h3
      have h4 : e0.name = x := h4
      subst h3 h4
      have hxe := List.all_eq_true.mp x3 e0 he0
      have hxt := List.all_eq_true.mp c5 e0 he0
      obtain ⟨fd, F⟩ := c.defs (d := e0.dd) (by unfold Tb.fn; exact List.mem_append_right _ (List.mem_map.mpr ⟨e0, he0, rfl⟩))
      have hb : mg T.base = some (.ref (ga K T.base)) := gcn (0, T.base) (by simpa using c14)
      have hdv : e0.dd.dvs K = [] := by
        unfold xeT at hxt
        simp only [Bool.and_eq_true, decide_eq_true_eq] at hxt
        unfold DefD.dvs
        rw [List.eq_nil_of_length_eq_zero hxt.1.2]
        rfl
      rw [hdv] at F
      obtain ⟨DX, TX⟩ := defX_of X G hxe hxt x4 hb F
      have hxe0 := hxe
      unfold xeB at hxe
      simp only [Bool.and_eq_true, isO, decide_eq_true_eq] at hxe
      obtain ⟨⟨⟨z1, z2⟩, z3⟩, z4⟩ := hxe
      obtain ⟨k1, k2, k3⟩ := excC_of z1
      have hfn : fnm e0.id = [e0.f] := by
        unfold xeT at hxt
        simp only [Bool.and_eq_true, decide_eq_true_eq] at hxt
        exact hxt.1.1.2
      refine ⟨TX, k1, fun c' C' e' => ?_, k3, k2, fun f j e1 x e2 => ?_, ma K (ga K e0.name) "__init__", e0.f, eqO_ok z2, z3, hfn, eqO_ok z4, DX⟩
      · obtain ⟨hlt', x', hcn', rfl⟩ := kca c' C' e'
        have := List.all_eq_true.mp (List.all_eq_true.mp x6 e0 he0) _ (q.cn _ _ hcn')
        simp only [Bool.or_eq_true, Bool.and_eq_true, decide_eq_true_eq] at this
        rcases this with z | z
        · omega
        · exact z.1
      · have := List.all_eq_true.mp (List.all_eq_true.mp c6 e0 he0) f (List.mem_range.mpr (q.fld f x e2))
        rw [e1, e2] at this
        simp only [Bool.and_eq_true, decide_eq_true_eq] at this
        refine ⟨this.1, this.2, ?_⟩
        have e3 : x = e0.f := by
          have := hfn.symm.trans this.2
          simpa using this.symm
        rw [e3]
        exact eqO_ok z4
    · have : c0 = 100 := h.1
      omega
  · obtain ⟨e, he, rfl, hat, hk⟩ := hkw f x n ns pl e1 e2
    obtain ⟨fd, F⟩ := c.defs (d := e.dd) (by unfold Tb.fn; exact List.mem_append_left _ (List.mem_map.mpr ⟨e, he, rfl⟩))
    obtain ⟨g, gV, hb, hp⟩ := hk fd F
    have hg := glo x (by (unfold Tb.fas; simp only [List.mem_append]; repeat (first | exact (List.mem_map.mpr ⟨_, q.fk _ _ e1, rfl⟩) | exact Or.inr (List.mem_map.mpr ⟨_, q.fk _ _ e1, rfl⟩) | apply Or.inl)))
    have hkp := F.kp
    have hD := defIs_of (fnm := fnm) (List.all_eq_true.mp c1 e he) x2 F
    rw [hat] at hkp hD
    exact ⟨ga K x, hg, hkp, fd, e.ps, g, gV, hD, hb, hp⟩
  · obtain ⟨h1, x, h2, rfl⟩ := kca c0 C e1
    obtain ⟨h3, x', h4, h5⟩ := kca c1 _ e2
    have := inj (q.cn _ _ h2) (q.cn _ _ h4) h5
    exact congrArg Prod.fst this
  · obtain ⟨h1, x, h2, rfl⟩ := kca c0 C e1
    obtain ⟨h3, x', h4, rfl⟩ := kca c1 _ e2
    rcases cnc _ (q.cn _ _ h2) with h | ⟨_, _, e0, he0, h5, h6⟩ | h
    · have : c0 = 0 := h.1
      omega
    · have h5 : e0.id = c0 := h5
      have h6 : e0.name = x := h6
      subst h5 h6
      have := List.all_eq_true.mp (List.all_eq_true.mp x6 e0 he0) _ (q.cn _ _ h4)
      simp only [Bool.or_eq_true, Bool.and_eq_true, decide_eq_true_eq] at this
      rcases this with z | z
      · omega
      · exact z.2
    · have : c0 = 100 := h.1
      omega
end
end SP
end
section
set_option Elab.async false
set_option linter.all false
set_option autoImplicit false
set_option maxRecDepth 100000
set_option maxHeartbeats 2000000
namespace SP
open PySem PySem.Spec PyProof.Rows L2 He
/-- the part of the heap that is looked at: from the names in n steps, and the statics; empty tables left out -/
def KofY (g : Addr → Option Obj) (n : Nat) : PySem.W.Frag := frT g (asD g n ++ [cStatics])
abbrev AlY : Type := AlD × Bool
def tabY (g : Addr → Option Obj) (K : PySem.W.Frag) (p : Defn) : Bool := PySem.W.codeHdIn K (cT K p).1 (cT K p).2 && ((g (cT K p).2).map emptyTab).getD false
def obsY (n : Nat) (fn : List DefD) (tf : List Defn) (ex : PySem.W.Frag → Bool) (g : Addr → Option Obj) : AlY :=
  (obsD [] fn (KofY g n), ex (KofY g n) && tf.all (tabY g (KofY g n)))
/-- what is told -/
structure SaysY (fn : List DefD) (tf : List Defn) (ex : PySem.W.Frag → Bool) (h : Heap) (K : PySem.W.Frag) : Prop where
  d : SaysD [] fn K
  more : ex K = true
  tabs : ∀ p ∈ tf, PySem.W.codeHdIn K (cT K p).1 (cT K p).2 = true ∧ K.lookup (cT K p).2 = none ∧ h.get? (cT K p).2 = some { cls := .none, data := .fields #[] }
theorem saysY_of {n : Nat} {fn : List DefD} {tf : List Defn} {ex : PySem.W.Frag → Bool} {h : Heap} (e : obsY n fn tf ex h.get? = (valD fn, true)) : SaysY fn tf ex h (KofY h.get? n) := by
  unfold obsY at e
  rw [Prod.mk.injEq, Bool.and_eq_true, List.all_eq_true] at e
  obtain ⟨e1, e2, e3⟩ := e
  refine ⟨e1, e2, fun p hp => ?_⟩
  have e4 := e3 p hp
  unfold tabY at e4
  rw [Bool.and_eq_true] at e4
  obtain ⟨e5, e6⟩ := e4
  cases q : h.get? (cT (KofY h.get? n) p).2 with
  | none =>
    rw [q] at e6
    cases e6
  | some o =>
    rw [q] at e6
    exact ⟨e5, frT_none q e6, by rw [emptyTab_eq e6]⟩
def hookY (n : Nat) (fn : List DefD) (tf : List Defn) (ex : PySem.W.Frag → Bool) : PySem.W.Hook where
  α := AlY
  obs := fun s => obsY n fn tf ex s.heap.get?
  val := fun _ => (valD fn, true)
  says := fun _ h => ∃ K : PySem.W.Frag, K.In h ∧ SaysY fn tf ex h K
  of := fun _ _ e => ⟨_, frT_in, saysY_of e⟩
  keeps := fun _ _ _ y k => match y with
    | ⟨K, hK, c⟩ => ⟨K, PySem.W.Frag.In.keeps hK k, c.d, c.more, fun p hp => ⟨(c.tabs p hp).1, (c.tabs p hp).2.1, k _ _ (c.tabs p hp).2.2⟩⟩
theorem obsY_eq {n : Nat} {fn : List DefD} {tf : List Defn} {ex : PySem.W.Frag → Bool} {g : Addr → Option Obj} {s : Shared} (h : ∀ a, g a = s.heap.get? a) : obsY n fn tf ex g = (hookY n fn tf ex).obs s := by
  rw [show g = s.heap.get? from funext h]
  rfl
end SP
end
section
set_option Elab.async false
set_option linter.all false
set_option autoImplicit false
set_option maxRecDepth 100000
set_option maxHeartbeats 4000000
namespace SP
open PySem PySem.Spec PyProof.Rows L2 He
/-- what is asked of a def that is called by keywords -/
def KwOk (pg : Pg) (T : Tb) : Prop := ∀ (K : PySem.W.Frag) f x n ns pl, pg.fk f = some x → pg.shp f n ns pl = true → ∃ e ∈ T.defs, e.id = f ∧ e.dd.at_ = (x, none) ∧ ∀ fd, FunD K e.dd.name e.dd.qual e.dd.params e.dd.body e.dd.scope (e.dd.dvs K) (e.dd.kws K) (fAd K e.dd.at_) fd → ∃ g gV, KBn K fd e.ps n ns g gV ∧ ∀ vs zs, vs.length = n → zs.length = ns.length → planV vs zs pl = some (gV vs zs)
theorem law_walk {l : PySem.W.OpenLaw} {q : Program} {loose : List Str} {XP : (Str → Option Value) → Heap → Prop} {d : DefRec} {x : Str} {pg : Pg} {fnm : Nat → List Str} {T : Tb} {hn n fl : Nat}
    (h63 : l.most = some 63) (hdf : d.params.defaults = []) (hr : Room (10 * n + 1) callerA) (hnm : d.name = ("law" : Str)) (hc : T.chk pg fnm = true) (ht : TbOf pg T) (hkw : KwOk pg T)
    (hl : T.defs.any (fun e => decide (e.id = fl) && decide (e.dd.at_ = (("law" : Str), none)) && decide (e.ps = [x]) && plainPar e.ps e.dd.params && decide (e.dd.dfl.length = 0)) = true) (hg : T.fnL.contains (fl, ("law" : Str)) = true)
    (plain : ∀ ns : List Int, ns.length ≤ 63 → ∃ S, callF pg.F pg.G n fl [.scr ns] [] = .ok (.bl true) S) :
    PySem.W.WalkO q loose XP (hookY hn T.fn T.tf (T.exB pg fnm)).says l.row.toRowW d [] (fun f vs => PySem.call f vs) := by
  refine LamX.walk_ofTsE (n := 63) (k := 10 * n + 1) (x := x) (CX := L2.CX l.prog) h63 (by decide) hdf hr (fun w mg fa h Y G hmg => ?_) (fun w H s e s' h => cx_no h)
  obtain ⟨K, KX, c⟩ := Y
  refine ⟨K, KX, ?_⟩
  obtain ⟨e, he, h2⟩ := List.any_eq_true.mp hl
  simp only [Bool.and_eq_true, decide_eq_true_eq] at h2
  obtain ⟨⟨⟨⟨h3, h4⟩, h5⟩, h6⟩, h7⟩ := h2
  have cd : He.SaysD [] T.fn K := c.d
  have L := lay_of KX G ht cd hc c.more (hkw K)
  obtain ⟨fd, F⟩ := cd.defs (d := e.dd) (by unfold Tb.fn; exact List.mem_append_left _ (List.mem_map.mpr ⟨e, he, rfl⟩))
  have hB : defB pg T.tf e = true := by
    have hc := hc
    unfold Tb.chk at hc
    simp only [Bool.and_eq_true] at hc
    exact List.all_eq_true.mp hc.1.1.1.1.1.1.1.1.1.1.1.1.1 e he
  have hx := c.more
  unfold Tb.exB at hx
  simp only [Bool.and_eq_true] at hx
  have hnd : tabsNd T.tf K = true := hx.1.1.1.1.1.2
  have hfa : ∀ f ∈ T.fas fnm pg, f.ok K = true := fun f hf => List.all_eq_true.mp hx.1.1.1.1.1.1 f hf
  have hgl : mg ("law" : Str) = some (.ref (ga K "law")) := He.glo_ok KX G (hfa _ (by (unfold Tb.fas; simp only [List.mem_append]; repeat (first | exact (List.mem_map.mpr ⟨_, (by simpa using hg : (fl, ("law" : Str)) ∈ T.fnL), rfl⟩) | exact Or.inr (List.mem_map.mpr ⟨_, (by simpa using hg : (fl, ("law" : Str)) ∈ T.fnL), rfl⟩) | apply Or.inl))))
  have hmg2 : mg ("law" : Str) = some (.ref fa) := by
    rw [← hnm]
    exact hmg
  have efa : fa = ga K "law" := by
    have := hmg2.symm.trans hgl
    injection this with this
    injection this
  have hat : fAd K e.dd.at_ = fa := by
    rw [h4, efa]
    rfl
  have hD := defIs_of (fnm := fnm) hB hnd F
  have hdv : e.dd.dvs K = [] := by
    unfold He.DefD.dvs
    rw [List.eq_nil_of_length_eq_zero h7]
    rfl
  rw [hdv] at F
  rw [hat, h3, h5] at hD
  rw [h5] at h6
  refine law_at (κ := kapOf pg fnm T.tf K) (pg := pg) (fl := fl) (fd := fd) rfl (fun p hp => ?_) (fun p hp => ?_) (fun p hp => ?_) (fun p hp => ?_) L hD (fun s u => ?_) plain
  · obtain ⟨p0, h1, rfl⟩ := List.mem_map.mp hp
    exact ⟨(cT K p0).1, List.mem_map.mpr ⟨p0, h1, rfl⟩⟩
  · obtain ⟨p0, h1, rfl⟩ := List.mem_map.mp hp
    exact (c.tabs p0 h1).2.2
  · obtain ⟨p0, h1, rfl⟩ := List.mem_map.mp hp
    exact (c.tabs p0 h1).2.1
  · obtain ⟨p0, h1, rfl⟩ := List.mem_map.mp hp
    exact PySem.W.codeHd_of_K KX (c.tabs p0 h1).1
  · exact F.bindsA (ps := [x]) (fun kV doc pm an cdv ct us hl => bind_plain h6 hl) s [u] rfl
end SP
end
section
set_option Elab.async false
set_option linter.all false
set_option autoImplicit false
set_option maxRecDepth 100000
set_option maxHeartbeats 4000000
namespace SP
open PySem PySem.Spec PyProof.Rows L2 He
def look (l : List (Nat × Str)) (i : Nat) : Option Str := l.lookup i
theorem lookup_in {α β : Type} [BEq α] [LawfulBEq α] {a : α} {b : β} : ∀ {l : List (α × β)}, l.lookup a = some b → (a, b) ∈ l
  | [], h => by cases h
  | (x, y) :: l, h => by
    rw [List.lookup_cons] at h
    cases e : (a == x) with
    | true =>
      rw [e] at h
      cases h
      rw [beq_iff_eq.mp e]
      exact List.mem_cons_self
    | false =>
      rw [e] at h
      exact List.mem_cons_of_mem _ (lookup_in h)
def beqSrc : Src → Src → Bool
  | .p i, .p j => i == j
  | .k i, .k j => i == j
  | .dv .non, .dv .non => true
  | .dv (.bl a), .dv (.bl b) => a == b
  | .dv (.int a), .dv (.int b) => a == b
  | _, _ => false
def beqPl : List Src → List Src → Bool
  | [], [] => true
  | a :: as, b :: bs => beqSrc a b && beqPl as bs
  | _, _ => false
theorem beqSrc_ok {a b : Src} (h : beqSrc a b = true) : a = b := by
  unfold beqSrc at h
  split at h <;> first | (cases h; done) | rfl | (rw [beq_iff_eq.mp h])
theorem beqPl_ok : ∀ {a b : List Src}, beqPl a b = true → a = b
  | [], [], _ => rfl
  | a :: as, b :: bs, h => by
    unfold beqPl at h
    obtain ⟨h1, h2⟩ := Bool.and_eq_true_iff.mp h
    rw [beqSrc_ok h1, beqPl_ok h2]
  | [], _ :: _, h => by cases h
  | _ :: _, [], h => by cases h
def shpIn (l : List (Nat × Nat × List Str × List Src)) (f n : Nat) (ns : List Str) (pl : List Src) : Bool := l.any fun s => s.1 == f && s.2.1 == n && decide (s.2.2.1 = ns) && beqPl s.2.2.2 pl
theorem shpIn_ok {l : List (Nat × Nat × List Str × List Src)} {f n : Nat} {ns : List Str} {pl : List Src} (h : shpIn l f n ns pl = true) : (f, n, ns, pl) ∈ l := by
  obtain ⟨⟨f', n', ns', pl'⟩, h1, h2⟩ := List.any_eq_true.mp h
  simp only [Bool.and_eq_true, beq_iff_eq, decide_eq_true_eq] at h2
  obtain ⟨⟨⟨rfl, rfl⟩, rfl⟩, h3⟩ := h2
  rw [← beqPl_ok h3]
  exact h1
/-- arguments picked by a plan: from the positional ones, the lacking ones' defaults, the keywords' -/
def pick {α : Type} (us mv ws : List α) : Nat × Nat → Option α
  | (0, i) => us[i]?
  | (1, i) => ws[i]?
  | (_, i) => mv[i]?
def gQ (q : List (Nat × Nat)) {α : Type} (us mv ws : List α) : List α := q.filterMap (pick us mv ws)
theorem vals_at {vs : List V} {us : List Value} (h : Vals vs us) (i : Nat) : (vs[i]? = none ∧ us[i]? = none) ∨ ∃ v u, vs[i]? = some v ∧ us[i]? = some u ∧ RelV v u := by
  induction h generalizing i with
  | nil => exact .inl ⟨rfl, rfl⟩
  | cons r _ ih =>
    cases i with
    | zero => exact .inr ⟨_, _, rfl, rfl, r⟩
    | succ i => exact ih i
theorem gQ_rel (q : List (Nat × Nat)) {vs mz zs : List V} {us mv ws : List Value} (r1 : Vals vs us) (r2 : Vals mz mv) (r3 : Vals zs ws) : Vals (gQ q vs mz zs) (gQ q us mv ws) := by
  induction q with
  | nil => exact .nil
  | cons p q ih =>
    have h : (pick vs mz zs p = none ∧ pick us mv ws p = none) ∨ ∃ v u, pick vs mz zs p = some v ∧ pick us mv ws p = some u ∧ RelV v u := by
      unfold pick
      split
      · exact vals_at r1 _
      · exact vals_at r3 _
      · exact vals_at r2 _
    unfold gQ at ih ⊢
    rcases h with ⟨h1, h2⟩ | ⟨v, u, h1, h2, r⟩
    · rw [List.filterMap_cons_none h1, List.filterMap_cons_none h2]
      exact ih
    · rw [List.filterMap_cons_some h1, List.filterMap_cons_some h2]
      exact .cons r ih
def ShpOk (pg : Pg) (T : Tb) (s : Nat × Nat × List Str × List Src) : Prop := ∃ e ∈ T.defs, e.id = s.1 ∧ pg.fk s.1 = some e.dd.at_.1 ∧ e.dd.at_.2 = none ∧ ∀ (K : PySem.W.Frag) fd, FunD K e.dd.name e.dd.qual e.dd.params e.dd.body e.dd.scope (e.dd.dvs K) (e.dd.kws K) (fAd K e.dd.at_) fd → ∃ g gV, KBn K fd e.ps s.2.1 s.2.2.1 g gV ∧ ∀ vs zs, vs.length = s.2.1 → zs.length = s.2.2.1.length → planV vs zs s.2.2.2 = some (gV vs zs)
theorem kwOk_of {pg : Pg} {T : Tb} {l : List (Nat × Nat × List Str × List Src)} (hs : ∀ f n ns pl, pg.shp f n ns pl = shpIn l f n ns pl) (h : ∀ s ∈ l, ShpOk pg T s) : KwOk pg T := fun K f x n ns pl hf hp => by
  rw [hs] at hp
  obtain ⟨e, he, h1, h2, h3, h4⟩ := h _ (shpIn_ok hp)
  refine ⟨e, he, h1, ?_, h4 K⟩
  have h5 : some e.dd.at_.1 = some x := h2.symm.trans hf
  cases h5
  exact Prod.ext rfl h3
/-- keyword-only defaults -/
theorem shp_d {pg : Pg} {T : Tb} {e : DefE} {f n : Nat} {ns : List Str} {pl : List Src} (q : List (Nat × Nat)) (ms : List (Str × Dv)) (he : e ∈ T.defs) (h1 : e.id = f) (h2 : pg.fk f = some e.dd.at_.1) (h3 : e.dd.at_.2 = none) (hd : e.dd.dfl = []) (hk : e.dd.kwd ≠ []) (hms : ∀ p ∈ ms, p ∈ e.dd.kwd)
    (h : ∀ (D : Addr) (doc pm : Value) (an : Option Addr) (cdv ct : Value) (us mv ws : List Value), us.length = n → mv.length = ms.length → ws.length = ns.length →
      KwChain D ((ms.map (·.1)).zip mv) (bindArgs (PySem.W.fnOf e.dd.name e.dd.qual e.dd.params e.dd.body e.dd.scope .none (.ref D) doc pm an cdv ct) ⟨us, ns.zip ws⟩) (e.ps.zip (gQ q us mv ws)))
    (hp : ∀ (K : PySem.W.Frag) (vs zs : List V), vs.length = n → zs.length = ns.length → planV vs zs pl = some (gQ q vs (ms.map fun p => p.2.v K) zs)) : ShpOk pg T (f, n, ns, pl) := by
  refine ⟨e, he, h1, h2, h3, fun K fd F => ?_⟩
  have hdv : e.dd.dvs K = [] := by
    unfold He.DefD.dvs
    rw [hd]
    rfl
  rw [hdv] at F
  obtain ⟨mv, hb⟩ := F.kbinds0 (ps := e.ps) n ns (ms.map fun p => (p.1, p.2.v K)) (fun us mv ws => gQ q us mv ws) (fun z => hk (List.map_eq_nil_iff.mp z)) (fun p hp => by
    obtain ⟨p0, h4, rfl⟩ := List.mem_map.mp hp
    exact List.mem_map.mpr ⟨p0, hms p0 h4, rfl⟩) (fun r1 r2 r3 => gQ_rel q r1 r2 r3) (fun D doc pm an cdv ct us mv ws l1 l2 l3 => by
    have := h D doc pm an cdv ct us mv ws l1 (by simpa using l2) l3
    rw [List.map_map]
    exact this)
  refine ⟨_, _, hb, fun vs zs l1 l2 => ?_⟩
  rw [hp K vs zs l1 l2, List.map_map]
  rfl
/-- no defaults -/
theorem shp_n {pg : Pg} {T : Tb} {e : DefE} {f n : Nat} {ns : List Str} {pl : List Src} (q : List (Nat × Nat)) (he : e ∈ T.defs) (h1 : e.id = f) (h2 : pg.fk f = some e.dd.at_.1) (h3 : e.dd.at_.2 = none) (hd : e.dd.dfl = [])
    (h : ∀ (kV doc pm : Value) (an : Option Addr) (cdv ct : Value) (us ws : List Value), us.length = n → ws.length = ns.length →
      bindArgs (PySem.W.fnOf e.dd.name e.dd.qual e.dd.params e.dd.body e.dd.scope .none kV doc pm an cdv ct) ⟨us, ns.zip ws⟩ = pure (e.ps.zip (gQ q us [] ws)))
    (hp : ∀ (vs zs : List V), vs.length = n → zs.length = ns.length → planV vs zs pl = some (gQ q vs [] zs)) : ShpOk pg T (f, n, ns, pl) := by
  refine ⟨e, he, h1, h2, h3, fun K fd F => ?_⟩
  have hdv : e.dd.dvs K = [] := by
    unfold He.DefD.dvs
    rw [hd]
    rfl
  rw [hdv] at F
  obtain ⟨oc, od, dV, kV, doc, pm, an, cdv, ct, osl, rfl, lk, hcd, hD, hK⟩ := F.ex
  rcases hD with ⟨_, rfl⟩ | ⟨z, _⟩
  · exact ⟨_, _, ⟨fun s us ws X l1 l2 => .of_eq (h kV doc pm an cdv ct us ws l1 l2), fun r1 r2 => gQ_rel q r1 .nil r2⟩, fun vs zs l1 l2 => hp vs zs l1 l2⟩
  · exact absurd rfl z
/-- the tables of a law as look-ups -/
theorem tbOf_of {pg : Pg} {T : Tb} (h1 : pg.fn = look T.fnL) (h2 : pg.fk = look T.fkL) (h3 : pg.mn = look T.mnL) (h4 : pg.cn = look T.cnL) (h5 : pg.cst = fun x => T.cstL.lookup x) (h6 : ∀ f x, pg.fld f = some x → f < 16) : TbOf pg T := by
  refine ⟨fun f x e => ?_, fun f x e => ?_, fun f x e => ?_, fun f x e => ?_, fun x i e => ?_, h6⟩
  · rw [h1] at e; exact lookup_in e
  · rw [h2] at e; exact lookup_in e
  · rw [h3] at e; exact lookup_in e
  · rw [h4] at e; exact lookup_in e
  · rw [h5] at e; exact lookup_in e
end SP
end
section
set_option Elab.async false
set_option linter.all false
set_option autoImplicit false
set_option maxRecDepth 100000
namespace SP
open PySem
namespace K19
/-- _law_draw(_law_well, _law_many): _law_well, _law_many, _law_found, _law_figure -/
def b_law_draw : Sms := (.cons (.ife (.cmp .gt (.ix (.var 0) (.int 0)) (.int 0)) (.cons (.set (.nm 2) (.bin .mod (.bf .toInt (.cons (.ix (.var 0) (.int 0)) .nil)) (.var 1))) (.cons (.put (.var 0) (.int 0) (.bin .fdv (.ix (.var 0) (.int 0)) (.var 1))) (.cons (.ret (.var 2)) .nil))) .nil) (.cons (.put (.var 0) (.int 2) (.bin .add (.ix (.var 0) (.int 2)) (.int 1))) (.cons (.set (.nm 3) (.bin .mod (.bf .toInt (.cons (.bin .mul (.bin .add (.bin .add (.ix (.var 0) (.int 1)) (.bin .mul (.int 104729) (.ix (.var 0) (.int 2)))) (.int 1)) (.int 48271)) .nil)) (.int 2147483647))) (.cons (.set (.nm 3) (.bin .mod (.bf .toInt (.cons (.bin .mul (.var 3) (.bin .add (.bin .fdv (.var 3) (.int 1009)) (.int 69621))) .nil)) (.int 2147483647))) (.cons (.ret (.bin .mod (.bf .toInt (.cons (.bin .mod (.bf .toInt (.cons (.bin .mul (.var 3) (.bin .add (.bin .fdv (.var 3) (.int 2003)) (.int 40692))) .nil)) (.int 2147483399)) .nil)) (.var 1))) .nil)))))
def f_law_draw : Fn := ⟨2, 4, b_law_draw⟩
abbrev i_law_draw : Nat := 100
def n_law_draw : List Str := ["_law_well", "_law_many", "_law_found", "_law_figure"]
abbrev p_law_draw : List Str := ["_law_well", "_law_many"]
/-- _law_taken(_law_e): _law_e, _law_first -/
def b_law_taken : Sms := (.cons (.set (.nm 1) (.lst (.cons (.isi (.var 0) (.cls 1)) (.cons (.isi (.var 0) (.cls 2)) (.cons (.isi (.var 0) (.cls 3)) (.cons (.isi (.var 0) (.cls 4)) .nil)))))) (.cons (.set (.nm 1) (.bin .add (.var 1) (.lst (.cons (.isi (.var 0) (.cls 5)) (.cons (.isi (.var 0) (.cls 6)) (.cons (.isi (.var 0) (.cls 7)) .nil)))))) (.cons (.ret (.bin .add (.var 1) (.lst (.cons (.isi (.var 0) (.cls 8)) (.cons (.isi (.var 0) (.cls 9)) (.cons (.isi (.var 0) (.cls 10)) .nil)))))) .nil)))
def f_law_taken : Fn := ⟨1, 2, b_law_taken⟩
abbrev i_law_taken : Nat := 101
def n_law_taken : List Str := ["_law_e", "_law_first"]
abbrev p_law_taken : List Str := ["_law_e"]
/-- _law_by_place(_law_x): _law_x, _law_some -/
def b_law_by_place : Sms := (.cons (.set (.nm 1) (.lst (.cons (.mkX 1 (.var 0)) (.cons (.mkX 2 (.var 0)) (.cons (.mkX 3 (.var 0)) (.cons (.mkX 4 (.var 0)) (.cons (.mkX 5 (.var 0)) (.cons (.mkX 6 (.var 0)) (.cons (.mkX 7 (.var 0)) .nil))))))))) (.cons (.ret (.bin .add (.var 1) (.lst (.cons (.mkX 8 (.var 0)) (.cons (.mkX 9 (.var 0)) (.cons (.mkX 10 (.var 0)) .nil)))))) .nil))
def f_law_by_place : Fn := ⟨1, 2, b_law_by_place⟩
abbrev i_law_by_place : Nat := 102
def n_law_by_place : List Str := ["_law_x", "_law_some"]
abbrev p_law_by_place : List Str := ["_law_x"]
/-- _law_by_name(_law_x): _law_x, _law_some -/
def b_law_by_name : Sms := (.cons (.set (.nm 1) (.lst (.cons (.mkXK 1 "index" (.var 0)) (.cons (.mkXK 2 "number" (.var 0)) (.cons (.mkXK 3 "index" (.var 0)) (.cons (.mkXK 4 "index" (.var 0)) .nil)))))) (.cons (.set (.nm 1) (.bin .add (.var 1) (.lst (.cons (.mkXK 5 "index" (.var 0)) (.cons (.mkXK 6 "pins" (.var 0)) (.cons (.mkXK 7 "numbers" (.var 0)) .nil)))))) (.cons (.ret (.bin .add (.var 1) (.lst (.cons (.mkXK 8 "pages" (.var 0)) (.cons (.mkXK 9 "index" (.var 0)) (.cons (.mkXK 10 "most" (.var 0)) .nil)))))) .nil)))
def f_law_by_name : Fn := ⟨1, 2, b_law_by_name⟩
abbrev i_law_by_name : Nat := 103
def n_law_by_name : List Str := ["_law_x", "_law_some"]
abbrev p_law_by_name : List Str := ["_law_x"]
/-- _law_fields(_law_some): _law_some, _law_found -/
def b_law_fields : Sms := (.cons (.set (.nm 1) (.lst (.cons (.fld (.ix (.var 0) (.int 0)) 0) (.cons (.fld (.ix (.var 0) (.int 1)) 1) (.cons (.fld (.ix (.var 0) (.int 2)) 0) (.cons (.fld (.ix (.var 0) (.int 3)) 0) .nil)))))) (.cons (.set (.nm 1) (.bin .add (.var 1) (.lst (.cons (.fld (.ix (.var 0) (.int 4)) 0) (.cons (.fld (.ix (.var 0) (.int 5)) 2) (.cons (.fld (.ix (.var 0) (.int 6)) 3) .nil)))))) (.cons (.ret (.bin .add (.var 1) (.lst (.cons (.fld (.ix (.var 0) (.int 7)) 4) (.cons (.fld (.ix (.var 0) (.int 8)) 0) (.cons (.fld (.ix (.var 0) (.int 9)) 5) .nil)))))) .nil)))
def f_law_fields : Fn := ⟨1, 2, b_law_fields⟩
abbrev i_law_fields : Nat := 104
def n_law_fields : List Str := ["_law_some", "_law_found"]
abbrev p_law_fields : List Str := ["_law_some"]
/-- _law_right(_law_well): _law_well, _law_x, _law_some, _law_spot, _law_e, _law_k -/
def b_law_right : Sms := (.cons (.set (.nm 1) (.ix (.lst (.cons (.call 100 (.cons (.var 0) (.cons (.int 1000) .nil))) (.cons (.neg 1) (.cons .non (.cons (.str "v") (.cons (.tup (.cons (.int 0) (.cons (.int 1) .nil))) .nil)))))) (.call 100 (.cons (.var 0) (.cons (.int 5) .nil))))) (.cons (.for_ (.nm 2) (.of (.lst (.cons (.call 102 (.cons (.var 1) .nil)) (.cons (.call 103 (.cons (.var 1) .nil)) .nil)))) (.cons (.ife (.cmp .ne (.call 104 (.cons (.var 2) .nil)) (.bin .mul (.lst (.cons (.var 1) .nil)) (.int 10))) (.cons (.ret (.bl false)) .nil) .nil) (.cons (.for_ (.tp (.cons (.nm 3) (.cons (.nm 4) .nil))) (.enum (.var 2)) (.cons (.ife (.cmp .ne (.call 101 (.cons (.var 4) .nil)) (.comp (.nm 5) (.rng1 (.int 10)) .tt (.cmp .eq (.var 5) (.var 3)))) (.cons (.ret (.bl false)) .nil) .nil) (.cons (.ife (.or (.not (.isi (.var 4) (.cls 0))) (.not (.isi (.var 4) .ve))) (.cons (.ret (.bl false)) .nil) .nil) .nil))) .nil))) (.cons (.ret (.not (.bl false))) .nil)))
def f_law_right : Fn := ⟨1, 6, b_law_right⟩
abbrev i_law_right : Nat := 105
def n_law_right : List Str := ["_law_well", "_law_x", "_law_some", "_law_spot", "_law_e", "_law_k"]
abbrev p_law_right : List Str := ["_law_well"]
/-- law(_law_script): _law_script, _law_k, _law_cell -/
def b_law : Sms := (.cons (.for_ (.tp (.cons (.nm 1) (.cons (.nm 2) .nil))) (.enum (.slB (.bin .add (.var 0) (.lst (.cons (.int 0) .nil))) (.int 3))) (.cons (.ife (.not (.call 105 (.cons (.new (.cons (.bin .mul (.var 2) (.bf .toInt (.cons (.cmp .ge (.var 2) (.bin .pow (.int 10) (.int 18))) .nil))) (.cons (.bin .add (.bin .mod (.bf .toInt (.cons (.var 2) .nil)) (.int 2147483647)) (.bin .mul (.int 7919) (.var 1))) (.cons (.int 0) .nil)))) .nil))) (.cons (.ret (.bl false)) .nil) .nil) .nil)) (.cons (.ret (.bl true)) .nil))
def f_law : Fn := ⟨1, 3, b_law⟩
abbrev i_law : Nat := 106
def n_law : List Str := ["_law_script", "_law_k", "_law_cell"]
abbrev p_law : List Str := ["_law_script"]
def main_ : List Stmt := PySem.Challenge.pw_slabpins_k19_exceptions.main.body
abbrev top (i : Nat) : Stmt := main_.getD i (.Pass ⟨0, 0, 0, 0⟩)
def body_ : Stmt → List Stmt
  | .ClassDef _ _ _ body _ _ _ _ _ _ _ => body
  | _ => []
abbrev mem_ (i j : Nat) : Stmt := (body_ (top i)).getD j (.Pass ⟨0, 0, 0, 0⟩)
def lawF : Nat → Option Fn
  | 100 => some f_law_draw
  | 101 => some f_law_taken
  | 102 => some f_law_by_place
  | 103 => some f_law_by_name
  | 104 => some f_law_fields
  | 105 => some f_law_right
  | 106 => some f_law
  | _ => none
def fnL : List (Nat × Str) := [(100, ("_law_draw" : Str)), (101, ("_law_taken" : Str)), (102, ("_law_by_place" : Str)), (103, ("_law_by_name" : Str)), (104, ("_law_fields" : Str)), (105, ("_law_right" : Str)), (106, ("law" : Str))]
def fkL : List (Nat × Str) := [(100, ("_law_draw" : Str)), (101, ("_law_taken" : Str)), (102, ("_law_by_place" : Str)), (103, ("_law_by_name" : Str)), (104, ("_law_fields" : Str)), (105, ("_law_right" : Str)), (106, ("law" : Str))]
def mnL : List (Nat × Str) := []
def cnL : List (Nat × Str) := [(0, ("SlabError" : Str)), (1, ("NoSlab" : Str)), (2, ("NoClass" : Str)), (3, ("NoTable" : Str)), (4, ("NoSteps" : Str)), (5, ("NoCertificate" : Str)), (6, ("NoPins" : Str)), (7, ("Stuck" : Str)), (8, ("NoPages" : Str)), (9, ("NoRows" : Str)), (10, ("TooMany" : Str))]
def cstL : List (Str × Int) := []
def shpL : List (Nat × Nat × List Str × List Src) := []
def vars : List Nat := []
def pg : Pg := { F := fun i => if i < 100 ∧ i ∉ vars then progF i else lawF i, G := progG, fn := look fnL, fk := look fkL, cn := look cnL, mn := look mnL, fld := fun i => fldNames[i]?, cst := fun x => cstL.lookup x, par := fun _ => none, shp := shpIn shpL }
open L2 He PySem.Spec PyProof.Rows
def checks : List (String × Bool) := [
  ("_law_draw", chkSs pg b_law_draw ⟨n_law_draw, defScope (top 13), false⟩ (defBody (top 13))),
  ("_law_taken", chkSs pg b_law_taken ⟨n_law_taken, defScope (top 14), false⟩ (defBody (top 14))),
  ("_law_by_place", chkSs pg b_law_by_place ⟨n_law_by_place, defScope (top 15), false⟩ (defBody (top 15))),
  ("_law_by_name", chkSs pg b_law_by_name ⟨n_law_by_name, defScope (top 16), false⟩ (defBody (top 16))),
  ("_law_fields", chkSs pg b_law_fields ⟨n_law_fields, defScope (top 17), false⟩ (defBody (top 17))),
  ("_law_right", chkSs pg b_law_right ⟨n_law_right, defScope (top 18), false⟩ (defBody (top 18))),
  ("law", chkSs pg b_law ⟨n_law, defScope (top 19), false⟩ (defBody (top 19)))]
def e_law_draw : DefE := ⟨100, ⟨(("_law_draw" : Str), none), "_law_draw", "_law_draw", defArgs (top 13), defBody (top 13), defScope (top 13), [], []⟩, n_law_draw, p_law_draw, false⟩
def e_law_taken : DefE := ⟨101, ⟨(("_law_taken" : Str), none), "_law_taken", "_law_taken", defArgs (top 14), defBody (top 14), defScope (top 14), [], []⟩, n_law_taken, p_law_taken, false⟩
def e_law_by_place : DefE := ⟨102, ⟨(("_law_by_place" : Str), none), "_law_by_place", "_law_by_place", defArgs (top 15), defBody (top 15), defScope (top 15), [], []⟩, n_law_by_place, p_law_by_place, false⟩
def e_law_by_name : DefE := ⟨103, ⟨(("_law_by_name" : Str), none), "_law_by_name", "_law_by_name", defArgs (top 16), defBody (top 16), defScope (top 16), [], []⟩, n_law_by_name, p_law_by_name, false⟩
def e_law_fields : DefE := ⟨104, ⟨(("_law_fields" : Str), none), "_law_fields", "_law_fields", defArgs (top 17), defBody (top 17), defScope (top 17), [], []⟩, n_law_fields, p_law_fields, false⟩
def e_law_right : DefE := ⟨105, ⟨(("_law_right" : Str), none), "_law_right", "_law_right", defArgs (top 18), defBody (top 18), defScope (top 18), [], []⟩, n_law_right, p_law_right, false⟩
def e_law : DefE := ⟨106, ⟨(("law" : Str), none), "law", "law", defArgs (top 19), defBody (top 19), defScope (top 19), [], []⟩, n_law, p_law, false⟩
def defs : List DefE := [e_law_draw, e_law_taken, e_law_by_place, e_law_by_name, e_law_fields, e_law_right, e_law]
def tf : List Defn := []
def xL : List XE := [⟨1, "NoSlab", "index", ⟨(("NoSlab" : Str), some ("__init__" : Str)), "__init__", "NoSlab.__init__", defArgs (mem_ 2 0), defBody (mem_ 2 0), defScope (mem_ 2 0), [], []⟩, "self", "index"⟩, ⟨2, "NoClass", "number", ⟨(("NoClass" : Str), some ("__init__" : Str)), "__init__", "NoClass.__init__", defArgs (mem_ 3 0), defBody (mem_ 3 0), defScope (mem_ 3 0), [], []⟩, "self", "number"⟩, ⟨3, "NoTable", "index", ⟨(("NoTable" : Str), some ("__init__" : Str)), "__init__", "NoTable.__init__", defArgs (mem_ 4 0), defBody (mem_ 4 0), defScope (mem_ 4 0), [], []⟩, "self", "index"⟩, ⟨4, "NoSteps", "index", ⟨(("NoSteps" : Str), some ("__init__" : Str)), "__init__", "NoSteps.__init__", defArgs (mem_ 5 0), defBody (mem_ 5 0), defScope (mem_ 5 0), [], []⟩, "self", "index"⟩, ⟨5, "NoCertificate", "index", ⟨(("NoCertificate" : Str), some ("__init__" : Str)), "__init__", "NoCertificate.__init__", defArgs (mem_ 6 0), defBody (mem_ 6 0), defScope (mem_ 6 0), [], []⟩, "self", "index"⟩, ⟨6, "NoPins", "pins", ⟨(("NoPins" : Str), some ("__init__" : Str)), "__init__", "NoPins.__init__", defArgs (mem_ 7 0), defBody (mem_ 7 0), defScope (mem_ 7 0), [], []⟩, "self", "pins"⟩, ⟨7, "Stuck", "numbers", ⟨(("Stuck" : Str), some ("__init__" : Str)), "__init__", "Stuck.__init__", defArgs (mem_ 8 0), defBody (mem_ 8 0), defScope (mem_ 8 0), [], []⟩, "self", "numbers"⟩, ⟨8, "NoPages", "pages", ⟨(("NoPages" : Str), some ("__init__" : Str)), "__init__", "NoPages.__init__", defArgs (mem_ 9 0), defBody (mem_ 9 0), defScope (mem_ 9 0), [], []⟩, "self", "pages"⟩, ⟨9, "NoRows", "index", ⟨(("NoRows" : Str), some ("__init__" : Str)), "__init__", "NoRows.__init__", defArgs (mem_ 10 0), defBody (mem_ 10 0), defScope (mem_ 10 0), [], []⟩, "self", "index"⟩, ⟨10, "TooMany", "most", ⟨(("TooMany" : Str), some ("__init__" : Str)), "__init__", "TooMany.__init__", defArgs (mem_ 11 0), defBody (mem_ 11 0), defScope (mem_ 11 0), [], []⟩, "self", "most"⟩]
def T : Tb := ⟨fnL, fkL, mnL, cnL, cstL, defs, tf, xL, "SlabError", "Slab"⟩
theorem tc : T.chk pg progN = true := by decide +kernel
theorem tb : TbOf pg T := tbOf_of rfl rfl rfl rfl rfl fun f x e => (by have h : fldNames[f]? = some x := e; have := (List.getElem?_eq_some_iff.mp h).1; have e2 : fldNames.length = 7 := rfl; omega)
theorem kw : KwOk pg T := kwOk_of (l := shpL) (fun _ _ _ _ => rfl) (fun _ h => absurd h (by first | simp | (unfold shpL; simp)))
abbrev row : PySem.W.OpenRow := PySem.W.OpenLaw.row PySem.Challenge.rw_slabpins_k19_exceptions
abbrev hk : PySem.W.Hook := hookY 6 T.fn T.tf (T.exB pg progN)
def ob (s : PySem.W.SharedT) : AlY := obsY 6 T.fn T.tf (T.exB pg progN) (HandSHeadRun.getT s)
theorem ob_eq (s : PySem.W.SharedT) : ob s = hk.obs s.abs := obsY_eq (HandSHeadRun.getT_eq s)
def loose : List Str := [("SlabError" : Str), ("NoSlab" : Str), ("NoClass" : Str), ("NoTable" : Str), ("NoSteps" : Str), ("NoCertificate" : Str), ("NoPins" : Str), ("Stuck" : Str), ("NoPages" : Str), ("NoRows" : Str), ("TooMany" : Str), ("_law_draw" : Str), ("_law_taken" : Str), ("_law_by_place" : Str), ("_law_by_name" : Str), ("_law_fields" : Str), ("_law_right" : Str)]
end K19
end SP
end
section
set_option Elab.async false
set_option linter.all false
set_option autoImplicit false
set_option maxRecDepth 100000
set_option maxHeartbeats 0
namespace SP
namespace K19
open PySem PySem.Spec PyProof.Rows L2
theorem run (w : World) : HandSHeadRun.RunEq row (PySem.W.view row.prog [19]) hk ob 4000 loose w := by
  intro os
  kernel_rfl
theorem holds_of (plain : ∀ ns : List Int, ns.length ≤ 63 → ∃ S, callF pg.F pg.G 22 i_law [.scr ns] [] = .ok (.bl true) S) : PySem.Challenge.rw_slabpins_k19_exceptions.Holds := by
  w_on; o_law
  refine HandSHeadRun.head_any (r := row) (q := PySem.W.view row.prog [19]) (H := hk) (ob := ob) (M := 4000) (loose := loose) (d := HandSHeadRun.topDef row.prog 19) (kwd := []) ob_eq
    (by kernel_rfl) (fun s => by kernel_rfl) run (by kernel_rfl) (by kernel_rfl) (by kernel_rfl) (by rfl) (by first | assumption | decide +kernel) (by decide +kernel) ⟨rfl, rfl, rfl, rfl, rfl, by decide +kernel⟩ ?hw ?hc
  case hw => w_witness2
  case hc => exact law_walk (l := PySem.Challenge.rw_slabpins_k19_exceptions) (x := "_law_script") (n := 22) (fl := i_law) (hn := 6) rfl (by kernel_rfl) ⟨rfl, by decide, by decide⟩ (by kernel_rfl) tc tb kw (by decide +kernel) (by decide +kernel) plain
end K19
end SP
end
section
set_option Elab.async false
set_option linter.all false
set_option autoImplicit false
set_option maxRecDepth 100000
set_option maxHeartbeats 2000000
namespace SP
open PySem
/-! plain evaluation: tools -/
/-! ### R, Fl -/
section
variable {α β : Type}
theorem R.bind_ok (a : α) (S : Store) (f : α → Store → R β) : R.bind (.ok a S) f = f a S := rfl
theorem R.bind_ex (c : Nat) (fs : List D) (S : Store) (f : α → Store → R β) : R.bind (.ex c fs S) f = .ex c fs S := rfl
theorem R.opt_some (a : α) (S : Store) : R.opt S (some a) = .ok a S := rfl
theorem R.noEx_ok (a : α) (S : Store) : R.noEx (.ok a S) = .ok a S := rfl
theorem R.fl_ok (a : α) (S : Store) (ρ : Env) (f : α → Store → Fl) : R.fl (.ok a S) ρ f = f a S := rfl
theorem R.fl_ex (c : Nat) (fs : List D) (S : Store) (ρ : Env) (f : α → Store → Fl) : R.fl (.ex c fs S) ρ f = .ex c fs ρ S := rfl
end
/-- a phantom: what it names is left as it stands by simp -/
def Fx {γ : Type} (_ : γ) : Type := Unit
def R.bnd {α β : Type} (r : R α) (f : α → Store → R β) (_t : Fx f := ((() : Unit) : Unit)) : R β := r.bind f
def R.fln {α : Type} (r : R α) (ρ : Env) (f : α → Store → Fl) (_t : Fx (ρ, f) := ((() : Unit) : Unit)) : Fl := r.fl ρ f
theorem R.bnd_ok {α β : Type} (a : α) (S : Store) (f : α → Store → R β) : R.bnd (.ok a S) f = f a S := rfl
theorem R.bnd_ex {α β : Type} (c : Nat) (fs : List D) (S : Store) (f : α → Store → R β) : R.bnd (.ex c fs S) f = .ex c fs S := rfl
theorem R.fln_ok {α : Type} (a : α) (S : Store) (ρ : Env) (f : α → Store → Fl) : R.fln (.ok a S) ρ f = f a S := rfl
theorem R.fln_ex {α : Type} (c : Nat) (fs : List D) (S : Store) (ρ : Env) (f : α → Store → Fl) : R.fln (.ex c fs S) ρ f = .ex c fs ρ S := rfl
/-- one statement, then the others -/
def Fl.thn (r : Fl) (f : Env → Store → Fl) (_t : Fx f := ((() : Unit) : Unit)) : Fl := match r with
  | .nx ρ S => f ρ S
  | r => r
theorem Fl.thn_nx (ρ : Env) (S : Store) (f : Env → Store → Fl) : Fl.thn (.nx ρ S) f = f ρ S := rfl
theorem Fl.thn_rt (d : D) (S : Store) (f : Env → Store → Fl) : Fl.thn (.rt d S) f = .rt d S := rfl
theorem Fl.thn_ex (c : Nat) (fs : List D) (ρ : Env) (S : Store) (f : Env → Store → Fl) : Fl.thn (.ex c fs ρ S) f = .ex c fs ρ S := rfl
theorem retF_nx (n : Nat) (ρ : Env) (S : Store) : retF n (.nx ρ S) = .ok .non (S.take n) := rfl
theorem retF_rt (n : Nat) (d : D) (S : Store) : retF n (.rt d S) = retD n d S := rfl
theorem retF_ex (n : Nat) (c : Nat) (fs : List D) (ρ : Env) (S : Store) : retF n (.ex c fs ρ S) = .ex c fs (S.take n) := rfl
theorem retD_non (n : Nat) (S : Store) : retD n .non S = .ok .non (S.take n) := rfl
theorem retD_bl (n : Nat) (b : Bool) (S : Store) : retD n (.bl b) S = .ok (.bl b) (S.take n) := rfl
theorem retD_int (n : Nat) (i : Int) (S : Store) : retD n (.int i) S = .ok (.int i) (S.take n) := rfl
theorem retD_str (n : Nat) (i : Str) (S : Store) : retD n (.str i) S = .ok (.str i) (S.take n) := rfl
theorem retD_tup (n : Nat) (xs : List D) (S : Store) : retD n (.tup xs) S = .ok (.tup xs) (S.take n) := rfl
theorem retD_lst (n : Nat) (xs : List D) (S : Store) : retD n (.lst xs) S = .ok (.lst xs) (S.take n) := rfl
theorem retD_obj (n : Nat) (c : Nat) (xs : List D) (S : Store) : retD n (.obj c xs) S = .ok (.obj c xs) (S.take n) := rfl
theorem Fl.opt_some (ρ : Env) (S : Store) : Fl.opt ρ (some S) = .nx ρ S := rfl
/-! ### data equal -/
mutual
def plD : D → Bool
  | .non | .bl _ | .int _ => true
  | .str s => (PyData.str s).canLay0
  | .tup xs => plDs xs
  | .lst xs => plDs xs
  | _ => false
def plDs : List D → Bool
  | [] => true
  | x :: xs => plD x && plDs xs
end
mutual
def depD : D → Nat
  | .tup xs => depDs xs + 1
  | .lst xs => depDs xs + 1
  | _ => 0
def depDs : List D → Nat
  | [] => 0
  | x :: xs => max (depD x) (depDs xs)
end
mutual
theorem plD_py : ∀ d : D, plD d = true → ∃ p, d.py = some p ∧ p.canLay0 = true ∧ p.depth = depD d
  | .non, _ => ⟨_, rfl, by simp only [PyData.canLay0], by simp only [PyData.depth, depD]⟩
  | .bl _, _ => ⟨_, rfl, by simp only [PyData.canLay0], by simp only [PyData.depth, depD]⟩
  | .int _, _ => ⟨_, rfl, by simp only [PyData.canLay0], by simp only [PyData.depth, depD]⟩
  | .str s, h => ⟨_, rfl, by simpa only [plD] using h, by simp only [PyData.depth, depD]⟩
  | .tup xs, h => by
    obtain ⟨ps, h1, h2, h3⟩ := plDs_py xs (by simpa only [plD] using h)
    exact ⟨.tuple ps, by simp only [D.py, h1, Option.map_some], by simpa only [PyData.canLay0] using h2, by simp only [PyData.depth, depD, h3]⟩
  | .lst xs, h => by
    obtain ⟨ps, h1, h2, h3⟩ := plDs_py xs (by simpa only [plD] using h)
    exact ⟨.list ps, by simp only [D.py, h1, Option.map_some], by simpa only [PyData.canLay0] using h2, by simp only [PyData.depth, depD, h3]⟩
  | .dct _ _, h => by simp [plD] at h
  | .obj _ _, h => by simp [plD] at h
  | .exc _ _, h => by simp [plD] at h
  | .loc _, h => by simp [plD] at h
  | .clo _ _, h => by simp [plD] at h
  | .scr _, h => by simp [plD] at h
theorem plDs_py : ∀ xs : List D, plDs xs = true → ∃ ps, D.py.pys xs = some ps ∧ PyData.canLayAll0 ps = true ∧ PyData.depthAll ps = depDs xs
  | [], _ => ⟨[], rfl, by simp only [PyData.canLayAll0], by simp only [PyData.depthAll, depDs]⟩
  | x :: xs, h => by
    simp only [plDs, Bool.and_eq_true] at h
    obtain ⟨p, h1, h2, h3⟩ := plD_py x h.1
    obtain ⟨ps, h4, h5, h6⟩ := plDs_py xs h.2
    exact ⟨p :: ps, by simp only [D.py.pys, h1, h4, Option.bind_some, Option.map_some], by simp only [PyData.canLayAll0, h2, h5, Bool.and_self], by simp only [PyData.depthAll, depDs, h3, h6]⟩
end
theorem eqD_self {d : D} (h : plD d = true) (hd : depD d ≤ 40) : eqD d d = some true := by
  obtain ⟨p, h1, h2, h3⟩ := plD_py d h
  have hk : okPy p = true := by
    unfold okPy
    rw [h2, h3, decide_eq_true hd]
    rfl
  simp only [eqD, h1, Option.bind_some, hk, Bool.and_self, if_true]
  rw [PySem.SeqAt.eqv_refl_plain p (PyData.plain_of_canLay0 p h2)]
theorem pys_int : ∀ xs : List Int, D.py.pys (xs.map .int) = some (xs.map .int)
  | [] => rfl
  | x :: xs => by simp only [List.map_cons, D.py.pys, D.py, Option.bind_some, pys_int xs, Option.map_some]
theorem okL (xs : List Int) : okPy (.list (xs.map .int)) = true := by
  unfold okPy
  simp only [PyData.canLay0, PyData.depth, PySem.W.ke_canLayAll0, PySem.W.ke_depthAll]
  decide
theorem okT (xs : List Int) : okPy (.tuple (xs.map .int)) = true := by
  unfold okPy
  simp only [PyData.canLay0, PyData.depth, PySem.W.ke_canLayAll0, PySem.W.ke_depthAll]
  decide
theorem eqv_ints : ∀ xs ys : List Int, PyData.eqvAll (xs.map PyData.int) (ys.map PyData.int) = decide (xs = ys)
  | [], [] => by simp [PyData.eqvAll]
  | [], _ :: _ => by simp [PyData.eqvAll]
  | _ :: _, [] => by simp [PyData.eqvAll]
  | x :: xs, y :: ys => by
    rw [List.map_cons, List.map_cons, PyData.eqvAll, eqv_ints xs ys]
    simp only [PyData.eqv]
    by_cases h1 : x = y <;> by_cases h2 : xs = ys <;> simp [h1, h2]
theorem eqD_lst (xs ys : List Int) : eqD (.lst (xs.map .int)) (.lst (ys.map .int)) = some (decide (xs = ys)) := by
  simp only [eqD, D.py, pys_int, Option.map_some, Option.bind_some, okL, Bool.and_self, if_true, PyData.eqv, eqv_ints]
theorem eqD_tup (xs ys : List Int) : eqD (.tup (xs.map .int)) (.tup (ys.map .int)) = some (decide (xs = ys)) := by
  simp only [eqD, D.py, pys_int, Option.map_some, Option.bind_some, okT, Bool.and_self, if_true, PyData.eqv, eqv_ints]
theorem eqD_int (x y : Int) : eqD (.int x) (.int y) = some (decide (x = y)) := by
  have h : ∀ x : Int, okPy (.int x) = true := fun x => by
    unfold okPy
    simp only [PyData.canLay0, PyData.depth]
    rfl
  simp only [eqD, D.py, Option.bind_some, h, Bool.and_self, if_true, PyData.eqv]
  by_cases h : x = y <;> simp [h]
/-- x in a list of ints -/
theorem inD_int (x : Int) (xs : List Int) : inD (.int x) (xs.map .int) = some (decide (x ∈ xs)) := by
  have h : ∀ x : Int, okPy (.int x) = true := fun x => by
    unfold okPy
    simp only [PyData.canLay0, PyData.depth]
    rfl
  simp only [inD, D.py, Option.bind_some, pys_int, h, okL, Bool.and_self, if_true, Option.some.injEq]
  induction xs with
  | nil => rfl
  | cons y ys ih =>
    rw [List.map_cons, List.any_cons, ih]
    simp only [PyData.eqv]
    by_cases h : y = x
    · simp [h]
    · have : x ≠ y := fun e => h e.symm
      simp [h, this]
theorem intsD_map : ∀ xs : List Int, intsD (xs.map .int) = some xs
  | [] => rfl
  | x :: xs => by simp only [List.map_cons, intsD, intsD_map xs, Option.map_some]
theorem boolsD_map : ∀ xs : List Bool, boolsD (xs.map .bl) = some xs
  | [] => rfl
  | x :: xs => by simp only [List.map_cons, boolsD, boolsD_map xs, Option.map_some]
/-! ### comprehensions -/
theorem lenOk_of {n : Nat} (h : n ≤ 1000000) : lenOk n = true := decide_eq_true h
theorem compL_go {f : D → Store → R (Option D)} {h : D → Option D} {S : Store} : ∀ (xs : List D) (acc : List D), (∀ x ∈ xs, ∀ acc, f x (S ++ [some (.lst acc)]) = .ok (h x) (S ++ [some (.lst acc)])) → acc.length + xs.length ≤ 1000000 →
    compL f S.length xs (S ++ [some (.lst acc)]) = .ok () (S ++ [some (.lst (acc ++ xs.filterMap h))])
  | [], acc, _, _ => by simp [compL]
  | x :: xs, acc, hf, hl => by
    simp only [compL]
    rw [hf x (List.mem_cons_self ..) acc, R.bind_ok]
    simp only [List.length_cons] at hl
    cases e : h x with
    | none =>
      rw [List.filterMap_cons_none e]
      exact compL_go xs acc (fun y hy => hf y (List.mem_cons_of_mem _ hy)) (by omega)
    | some d =>
      rw [List.filterMap_cons_some e]
      have h1 : (S ++ [some (Cell.lst acc)])[S.length]? = some (some (.lst acc)) := by simp
      have h2 : (S ++ [some (Cell.lst acc)]).set S.length (some (.lst (acc ++ [d]))) = S ++ [some (.lst (acc ++ [d]))] := by simp
      simp only [h1, lenOk_of (show acc.length + 1 ≤ 1000000 by omega), if_true, h2]
      rw [compL_go xs (acc ++ [d]) (fun y hy => hf y (List.mem_cons_of_mem _ hy)) (by simp; omega)]
      simp
theorem comp_ok {f : D → Store → R (Option D)} (h : D → Option D) {xs : List D} {S : Store} (hf : ∀ x ∈ xs, ∀ acc, f x (S ++ [some (.lst acc)]) = .ok (h x) (S ++ [some (.lst acc)])) (hl : xs.length ≤ 1000000) :
    ((compL f S.length xs (S ++ [some (.lst [])])).noEx.bind fun _ S2 => compE S.length S2) = .ok (.lst (xs.filterMap h)) S := by
  rw [compL_go xs [] hf (by simpa using hl), R.noEx_ok, R.bind_ok]
  simp [compE]
theorem frzD_of {d : D} (h : d.noLoc = true) (S : Store) : frzD d S = .ok d S := by
  cases d <;> first | rfl | (cases h; done)
section
variable {cf : Cf} {G : Cls} {α : Type}
/-- a comprehension whose elements leave the store as it was -/
theorem ev_compF {tg : Tg} {it : It} {c e : Ex} {ρ : Env} {S S1 : Store} {L : List α} {g : α → D} {ρ1 : α → Env} (p : α → Bool) (h : α → D) (hi : evI cf G it ρ S = .ok (L.map g) S1) (hl : L.length ≤ 1000000)
    (hb : ∀ x ∈ L, bindT tg (g x) (wipeE ρ (slotsT tg)) = some (ρ1 x)) (hc : ∀ x ∈ L, ∀ S', evE cf G c (ρ1 x) S' = .ok (.bl (p x)) S') (hn : ∀ x ∈ L, p x = true → (h x).noLoc = true) (he : ∀ x ∈ L, p x = true → ∀ S', evE cf G e (ρ1 x) S' = .ok (h x) S') :
    evE cf G (.comp tg it c e) ρ S = .ok (.lst ((L.filter p).map h)) S1 := by
  simp only [evE]
  rw [hi, R.bind_ok]
  have key : ∀ (f : D → Store → R (Option D)), (∀ x ∈ L, ∀ S', f (g x) S' = .ok (if p x = true then some (h x) else none) S') → ∀ M : List α, (∀ x ∈ M, x ∈ L) → ∀ acc : List D, acc.length + M.length ≤ 1000000 →
      compL f S1.length (M.map g) (S1 ++ [some (.lst acc)]) = .ok () (S1 ++ [some (.lst (acc ++ (M.filter p).map h))]) := by
    intro f hf M
    induction M with
    | nil => intro _ acc _; simp [compL]
    | cons x M ih =>
      intro hM acc hlen
      simp only [List.length_cons] at hlen
      simp only [List.map_cons, compL]
      rw [hf x (hM x (List.mem_cons_self ..)), R.bind_ok]
      by_cases e : p x = true
      · have h1 : (S1 ++ [some (Cell.lst acc)])[S1.length]? = some (some (.lst acc)) := by simp
        have h2 : (S1 ++ [some (Cell.lst acc)]).set S1.length (some (.lst (acc ++ [h x]))) = S1 ++ [some (.lst (acc ++ [h x]))] := by simp
        simp only [e, if_true, h1, lenOk_of (show acc.length + 1 ≤ 1000000 by omega), h2]
        rw [ih (fun y hy => hM y (List.mem_cons_of_mem _ hy)) _ (by simp; omega)]
        simp [List.filter_cons, e]
      · simp only [e, if_false]
        rw [if_neg (by simp)]
        rw [ih (fun y hy => hM y (List.mem_cons_of_mem _ hy)) _ (by omega)]
        simp [List.filter_cons, e]
  rw [key _ (fun x hx S' => ?_) L (fun _ h => h) [] (by simpa using hl), R.noEx_ok, R.bind_ok]
  · simp [compE]
  · simp only [hb x hx, hc x hx, R.bind_ok]
    cases e : p x with
    | false => simp only [Bool.false_eq_true, if_false]
    | true => simp only [he x hx e, R.bind_ok, frzD_of (hn x hx e), if_true]
theorem ev_compM {tg : Tg} {it : It} {e : Ex} {ρ : Env} {S S1 : Store} {L : List α} {g : α → D} {ρ1 : α → Env} (h : α → D) (hi : evI cf G it ρ S = .ok (L.map g) S1) (hl : L.length ≤ 1000000)
    (hb : ∀ x ∈ L, bindT tg (g x) (wipeE ρ (slotsT tg)) = some (ρ1 x)) (hn : ∀ x ∈ L, (h x).noLoc = true) (he : ∀ x ∈ L, ∀ S', evE cf G e (ρ1 x) S' = .ok (h x) S') :
    evE cf G (.comp tg it .tt e) ρ S = .ok (.lst (L.map h)) S1 := by
  rw [ev_compF (fun _ => true) h hi hl hb (fun _ _ _ => by simp only [evE]) (fun x hx _ => hn x hx) (fun x hx _ => he x hx), List.filter_eq_self.mpr (fun _ _ => rfl)]
theorem ev_compI {tg : Tg} {it : It} {e : Ex} {ρ : Env} {S S1 : Store} {L : List α} {g : α → D} {ρ1 : α → Env} (h : α → Int) (hi : evI cf G it ρ S = .ok (L.map g) S1) (hl : L.length ≤ 1000000)
    (hb : ∀ x ∈ L, bindT tg (g x) (wipeE ρ (slotsT tg)) = some (ρ1 x)) (he : ∀ x ∈ L, ∀ S', evE cf G e (ρ1 x) S' = .ok (.int (h x)) S') :
    evE cf G (.comp tg it .tt e) ρ S = .ok (.lst ((L.map h).map .int)) S1 := by
  rw [ev_compM (fun x => .int (h x)) hi hl hb (fun _ _ => rfl) he, List.map_map]
  rfl
theorem ev_compB {tg : Tg} {it : It} {e : Ex} {ρ : Env} {S S1 : Store} {L : List α} {g : α → D} {ρ1 : α → Env} (h : α → Bool) (hi : evI cf G it ρ S = .ok (L.map g) S1) (hl : L.length ≤ 1000000)
    (hb : ∀ x ∈ L, bindT tg (g x) (wipeE ρ (slotsT tg)) = some (ρ1 x)) (he : ∀ x ∈ L, ∀ S', evE cf G e (ρ1 x) S' = .ok (.bl (h x)) S') :
    evE cf G (.comp tg it .tt e) ρ S = .ok (.lst ((L.map h).map .bl)) S1 := by
  rw [ev_compM (fun x => .bl (h x)) hi hl hb (fun _ _ => rfl) he, List.map_map]
  rfl
/-- sorted by a key -/
theorem ev_sortK {p : Nat} {e key : Ex} {ρ : Env} {S S1 : Store} {L : List Int} (h : Int → Int × Int) (hi : evE cf G e ρ S = .ok (.lst (L.map .int)) S1) (hl : L.length ≤ 1000000)
    (he : ∀ x ∈ L, ∀ S', evE cf G key (ρ.set p (some (.int x))) S' = .ok (.tup [.int (h x).1, .int (h x).2]) S') :
    evE cf G (.sortK p e key) ρ S = .ok (.lst ((L.mergeSort fun a b => leP (h a) (h b)).map .int)) S1 := by
  simp only [evE]
  rw [hi, R.bind_ok]
  simp only [rdD]
  have key : ∀ (f : D → Store → R (Option D)), (∀ x ∈ L, ∀ S', f (.int x) S' = .ok (some (.tup [.int (h x).1, .int (h x).2])) S') → ∀ M : List Int, (∀ x ∈ M, x ∈ L) → ∀ acc : List D, acc.length + M.length ≤ 1000000 →
      compL f S1.length (M.map .int) (S1 ++ [some (.lst acc)]) = .ok () (S1 ++ [some (.lst (acc ++ M.map fun x => .tup [.int (h x).1, .int (h x).2]))]) := by
    intro f hf M
    induction M with
    | nil => intro _ acc _; simp [compL]
    | cons x M ih =>
      intro hM acc hlen
      simp only [List.length_cons] at hlen
      simp only [List.map_cons, compL]
      rw [hf x (hM x (List.mem_cons_self ..)), R.bind_ok]
      have h1 : (S1 ++ [some (Cell.lst acc)])[S1.length]? = some (some (.lst acc)) := by simp
      simp only [h1, lenOk_of (show acc.length + 1 ≤ 1000000 by omega), if_true]
      have h2 : ∀ d, (S1 ++ [some (Cell.lst acc)]).set S1.length (some (.lst (acc ++ [d]))) = S1 ++ [some (.lst (acc ++ [d]))] := fun d => by simp
      rw [h2, ih (fun y hy => hM y (List.mem_cons_of_mem _ hy)) _ (by simp; omega)]
      simp
  rw [key _ (fun x hx S' => ?_) L (fun _ h => h) [] (by simpa using hl), R.noEx_ok, R.bind_ok]
  · have hk : ∀ M : List Int, keyPs (M.map fun x => D.tup [.int (h x).1, .int (h x).2]) = some (M.map h) := fun M => by
      induction M with
      | nil => rfl
      | cons x M ih => simp only [List.map_cons, keyPs, keyP, ih, Option.bind_some, Option.map_some]
    simp only [compE, List.nil_append, List.getElem?_append_right (Nat.le_refl _), Nat.sub_self, List.getElem?_cons_zero, List.take_left', R.bind_ok, sortKD, hk, Option.bind_some, List.length_map, lenOk_of hl, decide_true, Bool.and_self, if_true, Option.map_some, R.opt_some]
    have hz : ∀ M : List Int, (M.map h).zip (M.map D.int) = M.map fun x => (h x, D.int x) := fun M => by
      induction M with
      | nil => rfl
      | cons x M ih => simp only [List.map_cons, List.zip_cons_cons, ih]
    rw [hz, ← List.map_mergeSort (f := fun x => (h x, D.int x)) (r := fun a b => leP (h a) (h b)) (s := fun a b => leP a.1 b.1) (fun _ _ _ _ => rfl), List.map_map]
    rfl
  · simp only [he x hx, R.bind_ok, frzD_of (show (D.tup [.int (h x).1, .int (h x).2]).noLoc = true from rfl)]
/-! ### for -/
/-- it goes on, and so it stands -/
def NxI (r : Fl) (I : Env → Store → Prop) (_t : Fx I := ((() : Unit) : Unit)) : Prop := match r with
  | .nx ρ S => I ρ S
  | _ => False
theorem NxI_nx (ρ : Env) (S : Store) (I : Env → Store → Prop) : NxI (.nx ρ S) I = I ρ S := rfl
theorem NxI_to {r : Fl} {I : Env → Store → Prop} (h : NxI r I) : ∃ ρ2 S2, r = .nx ρ2 S2 ∧ I ρ2 S2 := by
  cases r <;> first | exact ⟨_, _, rfl, h⟩ | exact h.elim
theorem forL_inv {b : Env → Store → Fl} {tg : Tg} {L : List α} {g : α → D} (Inv : Nat → Env → Store → Prop) (h : ∀ i (hi : i < L.length) ρ S, Inv i ρ S → ∃ ρ1, bindT tg (g L[i]) ρ = some ρ1 ∧ ∃ ρ2 S2, b ρ1 S = .nx ρ2 S2 ∧ Inv (i + 1) ρ2 S2)
    {ρ : Env} {S : Store} (h0 : Inv 0 ρ S) : ∃ ρ2 S2, forL b tg (L.map g) ρ S = .nx ρ2 S2 ∧ Inv L.length ρ2 S2 := by
  have key : ∀ (n i : Nat) (ρ : Env) (S : Store), i + n = L.length → Inv i ρ S → ∃ ρ2 S2, forL b tg ((L.drop i).map g) ρ S = .nx ρ2 S2 ∧ Inv L.length ρ2 S2 := by
    intro n
    induction n with
    | zero =>
      intro i ρ S hn hI
      have : i = L.length := by omega
      subst this
      rw [List.drop_length]
      exact ⟨ρ, S, rfl, hI⟩
    | succ n ih =>
      intro i ρ S hn hI
      have hi : i < L.length := by omega
      obtain ⟨ρ1, h1, ρ2, S2, h2, h3⟩ := h i hi ρ S hI
      rw [List.drop_eq_getElem_cons hi, List.map_cons]
      simp only [forL, h1, h2]
      exact ih (i + 1) ρ2 S2 (by omega) h3
  exact key L.length 0 ρ S (by omega) h0
end
section
variable {cf : Cf} {G : Cls} {α : Type}
theorem q_for {t : Tg} {it : It} {b : Sms} {ρ : Env} {S : Store} : exS cf G (.for_ t it b) ρ S = (evI cf G it ρ S).fl ρ fun xs S1 => forL (fun ρ S => exSs cf G b ρ S) t xs ρ S1 := rfl
/-- a loop by its invariant, then the others -/
theorem ret_for {t : Tg} {it : It} {b : Sms} {ρ : Env} {S S1 : Store} {L : List α} {g : α → D} {n : Nat} {f : Env → Store → Fl} {r : R D} (Inv : Nat → Env → Store → Prop) (hi : evI cf G it ρ S = .ok (L.map g) S1) (h0 : Inv 0 ρ S1)
    (h : ∀ i (hi : i < L.length) ρ S, Inv i ρ S → ∃ ρ1, bindT t (g L[i]) ρ = some ρ1 ∧ NxI (exSs cf G b ρ1 S) (Inv (i + 1))) (hk : ∀ ρ2 S2, Inv L.length ρ2 S2 → retF n (f ρ2 S2) = r) : retF n (Fl.thn (exS cf G (.for_ t it b) ρ S) f) = r := by
  rw [q_for, hi, R.fl_ok]
  obtain ⟨ρ2, S2, h1, h2⟩ := forL_inv (b := fun ρ S => exSs cf G b ρ S) Inv (fun i hi ρ S hI => let ⟨ρ1, h1, h2⟩ := h i hi ρ S hI; ⟨ρ1, h1, NxI_to h2⟩) h0
  rw [h1, Fl.thn_nx]
  exact hk ρ2 S2 h2
end
section
variable {cf : Cf} {G : Cls} {α : Type}
/-- a loop that may return -/
theorem ret_forQ {t : Tg} {it : It} {b : Sms} {ρ : Env} {S S1 : Store} {L : List α} {g : α → D} {n : Nat} {f : Env → Store → Fl} {r : R D} (Inv : Nat → Env → Store → Prop) (q : Nat → Bool) (d : Nat → D) (hi : evI cf G it ρ S = .ok (L.map g) S1) (h0 : Inv 0 ρ S1)
    (h : ∀ i (hi : i < L.length) ρ S, Inv i ρ S → ∃ ρ1, bindT t (g L[i]) ρ = some ρ1 ∧ (q i = false → NxI (exSs cf G b ρ1 S) (Inv (i + 1))) ∧ (q i = true → exSs cf G b ρ1 S = .rt (d i) S1))
    (hk : (∀ i, i < L.length → q i = false) → ∀ ρ2 S2, Inv L.length ρ2 S2 → retF n (f ρ2 S2) = r) (hr : ∀ i, i < L.length → q i = true → (∀ j, j < i → q j = false) → retF n (.rt (d i) S1) = r) : retF n (Fl.thn (exS cf G (.for_ t it b) ρ S) f) = r := by
  rw [q_for, hi, R.fl_ok]
  have key : ∀ (c i : Nat) (ρ : Env) (S : Store), i + c = L.length → Inv i ρ S → (∀ j, j < i → q j = false) → retF n (Fl.thn (forL (fun ρ S => exSs cf G b ρ S) t ((L.drop i).map g) ρ S) f) = r := by
    intro c
    induction c with
    | zero =>
      intro i ρ S hn hI hq
      have : i = L.length := by omega
      subst this
      rw [List.drop_length]
      exact hk hq ρ S hI
    | succ c ih =>
      intro i ρ S hn hI hq
      have hi : i < L.length := by omega
      obtain ⟨ρ1, h1, h2, h3⟩ := h i hi ρ S hI
      rw [List.drop_eq_getElem_cons hi, List.map_cons]
      simp only [forL, h1]
      cases e : q i with
      | true =>
        rw [h3 e]
        exact hr i hi e hq
      | false =>
        obtain ⟨ρ2, S2, h4, h5⟩ := NxI_to (h2 e)
        rw [h4]
        exact ih (i + 1) ρ2 S2 (by omega) h5 fun j hj => by
          by_cases hji : j = i
          · rw [hji]; exact e
          · exact hq j (by omega)
  exact key L.length 0 ρ S1 (by omega) h0 fun j hj => by omega
end
theorem bin_addT {xs ys : List D} (h : xs.length + ys.length ≤ 1000000) : binD .add (.tup xs) (.tup ys) = some (.tup (xs ++ ys)) := by
  show (if lenOk (xs.length + ys.length) = true then some (D.tup (xs ++ ys)) else none) = _
  rw [if_pos (lenOk_of h)]
theorem bin_addL {xs ys : List D} (h : xs.length + ys.length ≤ 1000000) : binD .add (.lst xs) (.lst ys) = some (.lst (xs ++ ys)) := by
  show (if lenOk (xs.length + ys.length) = true then some (D.lst (xs ++ ys)) else none) = _
  rw [if_pos (lenOk_of h)]
theorem bin_mulT {xs : List D} {k : Int} (h : k ≤ 1000) (h2 : xs.length ≤ 1000) (h3 : -1000000 ≤ k) : binD .mul (.tup xs) (.int k) = some (.tup (List.replicate k.toNat xs).flatten) := by
  show (if (decide (k ≤ 1000) && decide (xs.length ≤ 1000) && decide (-(2 ^ 62) < k)) = true then some (D.tup (List.replicate k.toNat xs).flatten) else none) = _
  have h4 : -(2 : Int) ^ 62 < -1000000 := by decide
  rw [if_pos]
  rw [Bool.and_eq_true, Bool.and_eq_true, decide_eq_true_eq, decide_eq_true_eq, decide_eq_true_eq]
  exact ⟨⟨h, h2⟩, by omega⟩
theorem n1 (i j : Int) : binD .add (.int i) (.int j) = some (.int (i + j)) := rfl
theorem n2 (i j : Int) : binD .sub (.int i) (.int j) = some (.int (i - j)) := rfl
theorem n3 (i j : Int) : binD .mul (.int i) (.int j) = if small64 i || small64 j then some (.int (i * j)) else none := rfl
theorem n4 (i j : Int) : binD .fdv (.int i) (.int j) = if decide (0 < j) && decide (j < 1073741824) then some (.int (i / j)) else none := rfl
theorem n5 (i j : Int) : binD .mod (.int i) (.int j) = if decide (0 < j) then some (.int (i % j)) else none := rfl
/-! ### enumerate, zip, range as maps -/
theorem enumD_map {α : Type} (g : α → D) : ∀ (L : List α) (n : Nat), enumD n (L.map g) = (L.zipIdx n).map fun p => .tup [.int p.2, g p.1]
  | [], _ => rfl
  | x :: L, n => by simp only [List.map_cons, enumD, List.zipIdx_cons, enumD_map g L (n + 1)]
theorem zipD_map {α β : Type} (g : α → D) (g' : β → D) : ∀ (L : List α) (M : List β), zipD (L.map g) (M.map g') = (L.zip M).map fun p => .tup [g p.1, g' p.2]
  | [], _ => by simp [zipD]
  | _ :: _, [] => by simp [zipD]
  | x :: L, y :: M => by simp only [List.map_cons, zipD, List.zip_cons_cons, zipD_map g g' L M]
theorem rngD_go : ∀ (n a : Nat), rngD (a : Int) 1 n = (List.range' a n).map fun (i : Nat) => .int (i : Int)
  | 0, _ => rfl
  | n + 1, a => by
    simp only [rngD, List.range'_succ, List.map_cons]
    have := rngD_go n (a + 1)
    rw [show ((a + 1 : Nat) : Int) = (a : Int) + 1 by omega] at this
    rw [this]
theorem rngD_map (n : Nat) : rngD 0 1 n = (List.range n).map fun (i : Nat) => .int (i : Int) := by
  have := rngD_go n 0
  rw [List.range_eq_range']
  exact this
theorem at_map {α : Type} (g : α → D) (L : List α) (i : Nat) (h : i < L.length) (d : α) : L2.atI (L.map g) (i : Int) = some (g (L.getD i d)) := by
  unfold L2.atI L2.ixN
  rw [if_pos (by omega), if_pos (by simpa using (by omega : (i : Int) < L.length))]
  simp [h]
/-! ### calls -/
section
variable {F : Nat → Option Fn} {G : Cls}
theorem call_eq {k f : Nat} {fn : Fn} {vs : List D} {S : Store} (h : F f = some fn) (hl : vs.length = fn.np) :
    callF F G (k + 1) f vs S = retF S.length (exSs (cf0 F G k) G fn.body (vs.map some ++ List.replicate (fn.n - fn.np) none) S) := by
  simp only [callF, cfK, h, hl, if_true]
theorem cf_call {k : Nat} {th : Store → R D} {f : Nat} {vs : List D} {S : Store} : Cf.call (cfAt F G k th) f vs S = callF F G k f vs S := rfl
end
section
variable {cf : Cf} {G : Cls}
theorem b1 (xs : List D) (S : Store) : bfO cf G .len [.tup xs] S = .ok (.int xs.length) S := rfl
theorem b2 (xs : List D) (S : Store) : bfO cf G .len [.lst xs] S = .ok (.int xs.length) S := rfl
theorem b3 (xs : List D) (S : Store) : bfO cf G .sum [.lst xs] S = .opt S ((intsD xs).map fun is => .int is.sum) := rfl
theorem b4 (xs : List D) (S : Store) : bfO cf G .sum [.tup xs] S = .opt S ((intsD xs).map fun is => .int is.sum) := rfl
theorem b5 (xs : List D) (S : Store) : bfO cf G .min1 [.lst xs] S = .opt S ((intsD xs).bind fun is => (minL is).map .int) := rfl
theorem b6 (xs : List D) (S : Store) : bfO cf G .max1 [.lst xs] S = .opt S ((intsD xs).bind fun is => (maxL is).map .int) := rfl
theorem b7 (i j : Int) (S : Store) : bfO cf G .min2 [.int i, .int j] S = .ok (.int (min i j)) S := rfl
theorem b8 (i j : Int) (S : Store) : bfO cf G .max2 [.int i, .int j] S = .ok (.int (max i j)) S := rfl
theorem b9 (xs : List D) (S : Store) : bfO cf G .list [.lst xs] S = .ok (.lst xs) S := rfl
theorem b10 (xs : List D) (S : Store) : bfO cf G .list [.tup xs] S = .ok (.lst xs) S := rfl
theorem b11 (xs : List D) (S : Store) : bfO cf G .tuple [.lst xs] S = .ok (.tup xs) S := rfl
theorem b12 (xs : List D) (S : Store) : bfO cf G .tuple [.tup xs] S = .ok (.tup xs) S := rfl
theorem b13 (xs : List D) (S : Store) : bfO cf G .all [.lst xs] S = .opt S ((boolsD xs).map fun bs => .bl (bs.all id)) := rfl
theorem b14 (i : Int) (S : Store) : bfO cf G .toInt [.int i] S = .ok (.int i) S := rfl
theorem b15 (b : Bool) (S : Store) : bfO cf G .toInt [.bl b] S = .ok (.int (if b then 1 else 0)) S := rfl
theorem b16 (xs : List D) (S : Store) : bfO cf G .sorted [.lst xs] S = .opt S ((intsD xs).map fun is => .lst ((sortI is).map .int)) := rfl
theorem b17 (xs : List D) (S : Store) : bfO cf G .sorted [.tup xs] S = .opt S ((intsD xs).map fun is => .lst ((sortI is).map .int)) := rfl
theorem b20 (f : Bf) (n : Nat) (S : Store) : bfO cf G f [.loc n] S = .opt S (bfD f [rdD S (.loc n)]) := by cases f <;> rfl
end
theorem z0 (S : Store) : frzL [] S = .ok [] S := rfl
theorem z1 (a : D) (S : Store) : frzL [a] S = frzs [a] S := rfl
theorem z2 (a b : D) (S : Store) : frzL [a, b] S = frzs [a, b] S := rfl
theorem z3 (a b c : D) (S : Store) : frzL [a, b, c] S = frzs [a, b, c] S := rfl
theorem z4 (a b c d : D) (S : Store) : frzL [a, b, c, d] S = frzs [a, b, c, d] S := rfl
theorem z5 (S : Store) : frzs [] S = .ok [] S := rfl
theorem z6 (d : D) (ds : List D) (S : Store) : frzs (d :: ds) S = (frzD d S).bnd fun x S1 => (frzs ds S1).bnd fun xs S2 => .ok (x :: xs) S2 := rfl
theorem z7 (S : Store) : frzD .non S = .ok .non S := rfl
theorem z8 (i : Int) (S : Store) : frzD (.int i) S = .ok (.int i) S := rfl
theorem z9 (i : Bool) (S : Store) : frzD (.bl i) S = .ok (.bl i) S := rfl
theorem z10 (i : Str) (S : Store) : frzD (.str i) S = .ok (.str i) S := rfl
theorem z11 (i : List D) (S : Store) : frzD (.tup i) S = .ok (.tup i) S := rfl
theorem z12 (i : List D) (S : Store) : frzD (.lst i) S = .ok (.lst i) S := rfl
theorem z13 (c : Nat) (i : List D) (S : Store) : frzD (.obj c i) S = .ok (.obj c i) S := rfl
theorem q_try_nx {cf : Cf} {G : Cls} {b : Sms} {c : Nat} {as : Option Nat} {h : Qs} {ρ ρ1 : Env} {S S1 : Store} (e : exSs cf G b ρ S = .nx ρ1 S1) : exS cf G (.try_ b c as h) ρ S = .nx ρ1 S1 := by
  simp only [exS, e]
theorem eqD_nil : eqD (.lst []) (.lst []) = some true := eqD_lst [] []
theorem two40 : (2 : Int) ^ 40 = 1099511627776 := by decide
theorem rngOk0 {n : Nat} (h : n ≤ 1000000) : rngOk 0 (n : Int) = true := by
  unfold rngOk
  simp only [two40, Bool.and_eq_true, decide_eq_true_eq]
  omega
/-- a program that holds the package's defs -/
def PVs : List Nat := [16, 19, 47, 73, 74, 75]
structure PG (F : Nat → Option Fn) (G : Cls) : Prop where
  F : ∀ i, i < 100 ∧ i ∉ PVs → F i = progF i
  fpos : G.fpos = progG.fpos
  init : G.init = progG.init
  fields : G.fields = progG.fields
  len : G.len = progG.len
theorem take_len {α : Type} (S : List α) : S.take S.length = S := List.take_length
theorem ty1 (v : Int) : isTy (.int v) .int = some true := rfl
theorem ty2 (v : Int) : isTy (.int v) .bool = some false := rfl
theorem ty3 (xs : List D) : isTy (.tup xs) .tuple = some true := rfl
theorem ty4 (xs : List D) : isTy (.lst xs) .list = some true := rfl
theorem ty5 (xs : List D) : isTy (.lst xs) .tuple = some false := rfl
theorem ty6 (xs : List D) : isTy (.tup xs) .list = some false := rfl
theorem ty7 : isTy .non .tuple = some false := rfl
end SP
end
section
set_option Elab.async false
set_option linter.all false
set_option autoImplicit true
set_option maxRecDepth 100000
set_option maxHeartbeats 2000000
namespace SP
open PySem
section
variable {cf : Cf} {G : Cls}
theorem q_evE_var {i} {ρ : Env} {S : Store} : evE cf G (.var i) ρ S = match ρ[i]? with
    | some (some d) => .ok d S
    | _ => .bad := by first | rfl | (rw [evE]; rfl)
theorem q_evE_frz {e} {ρ : Env} {S : Store} : evE cf G (.frz e) ρ S = (evE cf G e ρ S).bnd frzD := by first | rfl | (rw [evE]; rfl)
theorem q_evE_non {ρ : Env} {S : Store} : evE cf G .non ρ S = .ok .non S := by first | rfl | (rw [evE]; rfl)
theorem q_evE_bl {b} {ρ : Env} {S : Store} : evE cf G (.bl b) ρ S = .ok (.bl b) S := by first | rfl | (rw [evE]; rfl)
theorem q_evE_int {i} {ρ : Env} {S : Store} : evE cf G (.int i) ρ S = .ok (.int i) S := by first | rfl | (rw [evE]; rfl)
theorem q_evE_neg {i} {ρ : Env} {S : Store} : evE cf G (.neg i) ρ S = .ok (.int (-i)) S := by first | rfl | (rw [evE]; rfl)
theorem q_evE_str {s} {ρ : Env} {S : Store} : evE cf G (.str s) ρ S = .ok (.str s) S := by first | rfl | (rw [evE]; rfl)
theorem q_evE_cst {x0 i} {ρ : Env} {S : Store} : evE cf G (.cst x0 i) ρ S = .ok (.int i) S := by first | rfl | (rw [evE]; rfl)
theorem q_evE_tt {ρ : Env} {S : Store} : evE cf G .tt ρ S = .ok (.bl true) S := by first | rfl | (rw [evE]; rfl)
theorem q_evE_bin {o a b} {ρ : Env} {S : Store} : evE cf G (.bin o a b) ρ S = (evE cf G a ρ S).bnd fun x S1 => (evE cf G b ρ S1).bnd fun y S2 => .opt S2 (binD o (rdD S2 x) (rdD S2 y)) := by first | rfl | (rw [evE]; rfl)
theorem q_evE_cmp {o a b} {ρ : Env} {S : Store} : evE cf G (.cmp o a b) ρ S = (evE cf G a ρ S).bnd fun x S1 => (evE cf G b ρ S1).bnd fun y S2 => cmpO o x y S2 := by first | rfl | (rw [evE]; rfl)
theorem q_evE_cmp2 {o o' a b c} {ρ : Env} {S : Store} : evE cf G (.cmp2 o o' a b c) ρ S = (evE cf G a ρ S).bnd fun x S1 => (evE cf G b ρ S1).bnd fun y S2 => match cmpD o (rdD S2 x) (rdD S2 y) with
    | some true => (evE cf G c ρ S2).bnd fun z S3 => .opt S3 ((cmpD o' (rdD S3 y) (rdD S3 z)).map .bl)
    | some false => .ok (.bl false) S2
    | none => .bad := by first | rfl | (rw [evE]; rfl)
theorem q_evE_isN {a} {ρ : Env} {S : Store} : evE cf G (.isN a) ρ S = (evE cf G a ρ S).bnd fun x S1 => .ok (.bl (isNon x)) S1 := by first | rfl | (rw [evE]; rfl)
theorem q_evE_notN {a} {ρ : Env} {S : Store} : evE cf G (.notN a) ρ S = (evE cf G a ρ S).bnd fun x S1 => .ok (.bl (!isNon x)) S1 := by first | rfl | (rw [evE]; rfl)
theorem q_evE_and {a b} {ρ : Env} {S : Store} : evE cf G (.and a b) ρ S = (evE cf G a ρ S).bnd fun x S1 => match x with
    | .bl true => evE cf G b ρ S1
    | .bl false => .ok (.bl false) S1
    | _ => .bad := by first | rfl | (rw [evE]; rfl)
theorem q_evE_or {a b} {ρ : Env} {S : Store} : evE cf G (.or a b) ρ S = (evE cf G a ρ S).bnd fun x S1 => match x with
    | .bl false => evE cf G b ρ S1
    | .bl true => .ok (.bl true) S1
    | _ => .bad := by first | rfl | (rw [evE]; rfl)
theorem q_evE_not {a} {ρ : Env} {S : Store} : evE cf G (.not a) ρ S = (evE cf G a ρ S).bnd fun x S1 => match x with
    | .bl b => .ok (.bl (!b)) S1
    | _ => .bad := by first | rfl | (rw [evE]; rfl)
theorem q_evE_ite {c a b} {ρ : Env} {S : Store} : evE cf G (.ite c a b) ρ S = (evE cf G c ρ S).bnd fun x S1 => match x with
    | .bl true => evE cf G a ρ S1
    | .bl false => evE cf G b ρ S1
    | _ => .bad := by first | rfl | (rw [evE]; rfl)
theorem q_evE_tup {es} {ρ : Env} {S : Store} : evE cf G (.tup es) ρ S = (evEs cf G es ρ S).bnd fun xs S1 => (frzL xs S1).bnd fun ys S2 => .ok (.tup ys) S2 := by first | rfl | (rw [evE]; rfl)
theorem q_evE_lst {es} {ρ : Env} {S : Store} : evE cf G (.lst es) ρ S = (evEs cf G es ρ S).bnd fun xs S1 => (frzL xs S1).bnd fun ys S2 => .ok (.lst ys) S2 := by first | rfl | (rw [evE]; rfl)
theorem q_evE_new {es} {ρ : Env} {S : Store} : evE cf G (.new es) ρ S = (evEs cf G es ρ S).bnd fun xs S1 => (frzL xs S1).bnd fun ys S2 => .ok (.loc S2.length) (S2 ++ [some (.lst ys)]) := by first | rfl | (rw [evE]; rfl)
theorem q_evE_dic0 {ρ : Env} {S : Store} : evE cf G .dic0 ρ S = .ok (.dct [] []) S := by first | rfl | (rw [evE]; rfl)
theorem q_evE_ix {a b} {ρ : Env} {S : Store} : evE cf G (.ix a b) ρ S = (evE cf G a ρ S).bnd fun x S1 => (evE cf G b ρ S1).bnd fun y S2 => .opt S2 (ixD (rdD S2 x) y) := by first | rfl | (rw [evE]; rfl)
theorem q_evE_slA {a lo} {ρ : Env} {S : Store} : evE cf G (.slA a lo) ρ S = (evE cf G a ρ S).bnd fun x S1 => (evE cf G lo ρ S1).bnd fun y S2 => match y with
    | .int i => .opt S2 (slD (rdD S2 x) (some i) none)
    | _ => .bad := by first | rfl | (rw [evE]; rfl)
theorem q_evE_slB {a hi} {ρ : Env} {S : Store} : evE cf G (.slB a hi) ρ S = (evE cf G a ρ S).bnd fun x S1 => (evE cf G hi ρ S1).bnd fun y S2 => match y with
    | .int i => .opt S2 (slD (rdD S2 x) none (some i))
    | _ => .bad := by first | rfl | (rw [evE]; rfl)
theorem q_evE_slC {a lo hi} {ρ : Env} {S : Store} : evE cf G (.slC a lo hi) ρ S = (evE cf G a ρ S).bnd fun x S1 => (evE cf G lo ρ S1).bnd fun y S2 => match y with
    | .int i => (evE cf G hi ρ S2).bnd fun z S3 => match z with
      | .int j => .opt S3 (slD (rdD S3 x) (some i) (some j))
      | _ => .bad
    | _ => .bad := by first | rfl | (rw [evE]; rfl)
theorem q_evE_rev {a} {ρ : Env} {S : Store} : evE cf G (.rev a) ρ S = (evE cf G a ρ S).bnd fun x S1 => .opt S1 (revD (rdD S1 x)) := by first | rfl | (rw [evE]; rfl)
theorem q_evE_fld {a f} {ρ : Env} {S : Store} : evE cf G (.fld a f) ρ S = (evE cf G a ρ S).bnd fun x S1 => match x with
    | .obj c fs => .opt S1 ((G.fpos c f).bind fun j => fs[j]?)
    | .exc c fs => if 0 < c then .opt S1 ((G.fpos c f).bind fun j => fs[j]?) else .bad
    | _ => .bad := by first | rfl | (rw [evE]; rfl)
theorem q_evE_call {f es} {ρ : Env} {S : Store} : evE cf G (.call f es) ρ S = (evEs cf G es ρ S).bnd fun xs S1 => cf f xs S1 := by first | rfl | (rw [evE]; rfl)
theorem q_evE_callK {f es x2 ks pl} {ρ : Env} {S : Store} : evE cf G (.callK f es x2 ks pl) ρ S = (evEs cf G es ρ S).bnd fun xs S1 => (evEs cf G ks ρ S1).bnd fun ys S2 => match planD xs ys pl with
    | some zs => cf f zs S2
    | none => .bad := by first | rfl | (rw [evE]; rfl)
theorem q_evE_meth {m o es} {ρ : Env} {S : Store} : evE cf G (.meth m o es) ρ S = (evE cf G o ρ S).bnd fun x S1 => match x with
    | .obj c fs => (evEs cf G es ρ S1).bnd fun xs S2 => cf m (.obj c fs :: xs) S2
    | _ => .bad := by first | rfl | (rw [evE]; rfl)
theorem q_evE_mk {c es} {ρ : Env} {S : Store} : evE cf G (.mk c es) ρ S = (evEs cf G es ρ S).bnd fun xs S1 => mkO cf G c xs S1 := by first | rfl | (rw [evE]; rfl)
theorem q_evE_mkX {c e} {ρ : Env} {S : Store} : evE cf G (.mkX c e) ρ S = (evE cf G e ρ S).bnd fun x S1 => (frzD x S1).bnd fun y S2 => .ok (.exc c [y]) S2 := by first | rfl | (rw [evE]; rfl)
theorem q_evE_mkXK {c x1 e} {ρ : Env} {S : Store} : evE cf G (.mkXK c x1 e) ρ S = (evE cf G e ρ S).bnd fun x S1 => (frzD x S1).bnd fun y S2 => .ok (.exc c [y]) S2 := by first | rfl | (rw [evE]; rfl)
theorem q_evE_thw {e} {ρ : Env} {S : Store} : evE cf G (.thw e) ρ S = (evE cf G e ρ S).bnd thwD := by first | rfl | (rw [evE]; rfl)
theorem q_evE_sset {e} {ρ : Env} {S : Store} : evE cf G (.sset e) ρ S = (evE cf G e ρ S).bnd fun x S1 => .opt S1 (ssetD (rdD S1 x)) := by first | rfl | (rw [evE]; rfl)
theorem q_evE_addN {a b} {ρ : Env} {S : Store} : evE cf G (.addN a b) ρ S = (evE cf G a ρ S).bnd fun x S1 => (evE cf G b ρ S1).bnd fun y S2 => (R.opt S2 (binD .add (rdD S2 x) (rdD S2 y))).bind thwD := by first | rfl | (rw [evE]; rfl)
theorem q_evE_lstN {e} {ρ : Env} {S : Store} : evE cf G (.lstN e) ρ S = (evE cf G e ρ S).bnd fun x S1 => (R.opt S1 (lstD (rdD S1 x))).bind thwD := by first | rfl | (rw [evE]; rfl)
theorem q_evE_lrng {a} {ρ : Env} {S : Store} : evE cf G (.lrng a) ρ S = (evE cf G a ρ S).bnd fun x S1 => match x with
    | .int n => if n ≤ 1000 ∧ -1000 ≤ n then .ok (.lst (rngD 0 1 n.toNat)) S1 else .bad
    | _ => .bad := by first | rfl | (rw [evE]; rfl)
theorem q_evE_trng {a} {ρ : Env} {S : Store} : evE cf G (.trng a) ρ S = (evE cf G a ρ S).bnd fun x S1 => match x with
    | .int n => if n ≤ 1000 ∧ -1000 ≤ n then .ok (.tup (rngD 0 1 n.toNat)) S1 else .bad
    | _ => .bad := by first | rfl | (rw [evE]; rfl)
theorem q_evE_bf {f es} {ρ : Env} {S : Store} : evE cf G (.bf f es) ρ S = (evEs cf G es ρ S).bnd fun xs S1 => bfO cf G f xs S1 := by first | rfl | (rw [evE]; rfl)
theorem q_evE_isi {a t} {ρ : Env} {S : Store} : evE cf G (.isi a t) ρ S = (evE cf G a ρ S).bnd fun x S1 => .opt S1 ((isTy (rdD S1 x) t).map .bl) := by first | rfl | (rw [evE]; rfl)
theorem q_evE_isis {a ts} {ρ : Env} {S : Store} : evE cf G (.isis a ts) ρ S = (evE cf G a ρ S).bnd fun x S1 => .opt S1 ((isAny (rdD S1 x) ts).map .bl) := by first | rfl | (rw [evE]; rfl)
theorem q_evEs_nil {ρ : Env} {S : Store} : evEs cf G .nil ρ S = .ok [] S := by first | rfl | (rw [evEs]; rfl)
theorem q_evEs_cons {e es} {ρ : Env} {S : Store} : evEs cf G (.cons e es) ρ S = (evE cf G e ρ S).bnd fun x S1 => (evEs cf G es ρ S1).bnd fun xs S2 => .ok (x :: xs) S2 := by first | rfl | (rw [evEs]; rfl)
theorem q_evI_of {e} {ρ : Env} {S : Store} : evI cf G (.of e) ρ S = (evE cf G e ρ S).bnd fun x S1 => .opt S1 (itemsD x) := by first | rfl | (rw [evI]; rfl)
theorem q_evI_enum {e} {ρ : Env} {S : Store} : evI cf G (.enum e) ρ S = (evE cf G e ρ S).bnd fun x S1 => match x with
    | .lst xs => .ok (enumD 0 xs) S1
    | .tup xs => .ok (enumD 0 xs) S1
    | _ => .bad := by first | rfl | (rw [evI]; rfl)
theorem q_evI_zip {a b} {ρ : Env} {S : Store} : evI cf G (.zip a b) ρ S = (evE cf G a ρ S).bnd fun x S1 => (evE cf G b ρ S1).bnd fun y S2 => match x, y with
    | .lst xs, .lst ys => .ok (zipD xs ys) S2
    | .tup xs, .tup ys => .ok (zipD xs ys) S2
    | .lst xs, .tup ys => .ok (zipD xs ys) S2
    | .tup xs, .lst ys => .ok (zipD xs ys) S2
    | _, _ => .bad := by first | rfl | (rw [evI]; rfl)
theorem q_exS_set {t e} {ρ : Env} {S : Store} : exS cf G (.set t e) ρ S = (evE cf G e ρ S).fln ρ fun d S1 => match bindT t d ρ with
    | some ρ1 => .nx ρ1 S1
    | none => .bad := by first | rfl | (rw [exS]; rfl)
theorem q_exS_sets {ts es} {ρ : Env} {S : Store} : exS cf G (.sets ts es) ρ S = (evEs cf G es ρ S).fln ρ fun ds S1 => match bindTs ts ds ρ with
    | some ρ1 => .nx ρ1 S1
    | none => .bad := by first | rfl | (rw [exS]; rfl)
theorem q_exS_aug {i e} {ρ : Env} {S : Store} : exS cf G (.aug i e) ρ S = match ρ[i]? with
    | some (some (.int a)) => (evE cf G e ρ S).fln ρ fun d S1 => match d with
      | .int b => .nx (ρ.set i (some (.int (a + b)))) S1
      | _ => .bad
    | _ => .bad := by first | rfl | (rw [exS]; rfl)
theorem q_exS_put {o k e} {ρ : Env} {S : Store} : exS cf G (.put o k e) ρ S = ((evE cf G e ρ S).bnd frzD).fln ρ fun d S1 => (evE cf G o ρ S1).fln ρ fun x S2 => (evE cf G k ρ S2).fln ρ fun y S3 => match y with
    | .int i => .opt ρ (toCell x S3 fun xs => (L2.ixN xs.length i).map fun j => xs.set j d)
    | _ => .bad := by first | rfl | (rw [exS]; rfl)
theorem q_exS_sfld {o f e} {ρ : Env} {S : Store} : exS cf G (.sfld o f e) ρ S = ((evE cf G e ρ S).bnd frzD).fln ρ fun d S2 => match ρ[o]? with
    | some (some x) => match cellOf S2 x with
      | some (n, .ins c fs) => match G.fpos c f with
        | some j => if j < fs.length ∧ (∀ i, i < fs.length → (fs[i]?.any (·.isSome) ↔ i < j)) then .nx ρ (S2.set n (some (.ins c (fs.set j (some d))))) else .bad
        | none => .bad
      | _ => .bad
    | _ => .bad := by first | rfl | (rw [exS]; rfl)
theorem q_exS_app {o e} {ρ : Env} {S : Store} : exS cf G (.app o e) ρ S = (evE cf G o ρ S).fln ρ fun x S1 => if isCL S1 x then ((evE cf G e ρ S1).bnd frzD).fln ρ fun d S2 => .opt ρ (toCell x S2 fun xs => if lenOk (xs.length + 1) then some (xs ++ [d]) else none) else .bad := by first | rfl | (rw [exS]; rfl)
theorem q_exS_ext {o e} {ρ : Env} {S : Store} : exS cf G (.ext o e) ρ S = (evE cf G o ρ S).fln ρ fun x S1 => if isCL S1 x then (evE cf G e ρ S1).fln ρ fun d S2 => (match d with
    | .lst ys => .opt ρ (toCell x S2 fun xs => if lenOk (xs.length + ys.length) then some (xs ++ ys) else none)
    | _ => .bad) else .bad := by first | rfl | (rw [exS]; rfl)
theorem q_exS_rem {o e} {ρ : Env} {S : Store} : exS cf G (.rem o e) ρ S = (evE cf G o ρ S).fln ρ fun x S1 => if isCL S1 x then (evE cf G e ρ S1).fln ρ fun d S2 => (match d with
    | .int k => .opt ρ (toCell x S2 fun xs => (intsD xs).bind fun is => if is.contains k then some ((is.erase k).map .int) else none)
    | _ => .bad) else .bad := by first | rfl | (rw [exS]; rfl)
theorem q_exS_clr {o} {ρ : Env} {S : Store} : exS cf G (.clr o) ρ S = (evE cf G o ρ S).fln ρ fun x S1 => if isCL S1 x then .opt ρ (toCell x S1 fun _ => some []) else .bad := by first | rfl | (rw [exS]; rfl)
theorem q_exS_fz {i} {ρ : Env} {S : Store} : exS cf G (.fz i) ρ S = match ρ[i]? with
    | some (some d) => (frzD d S).fln ρ fun d S1 => .nx (ρ.set i (some d)) S1
    | _ => .bad := by first | rfl | (rw [exS]; rfl)
theorem q_exS_exp {e} {ρ : Env} {S : Store} : exS cf G (.exp e) ρ S = (evE cf G e ρ S).fln ρ fun _ S1 => .nx ρ S1 := by first | rfl | (rw [exS]; rfl)
theorem q_exS_ret {e} {ρ : Env} {S : Store} : exS cf G (.ret e) ρ S = (evE cf G e ρ S).fln ρ fun d S1 => .rt d S1 := by first | rfl | (rw [exS]; rfl)
theorem q_exS_retN {ρ : Env} {S : Store} : exS cf G .retN ρ S = .rt .non S := by first | rfl | (rw [exS]; rfl)
theorem q_exS_pass {ρ : Env} {S : Store} : exS cf G .pass ρ S = .nx ρ S := by first | rfl | (rw [exS]; rfl)
theorem q_exS_ife {c a b} {ρ : Env} {S : Store} : exS cf G (.ife c a b) ρ S = (evE cf G c ρ S).fln ρ fun d S1 => match d with
    | .bl true => exSs cf G a ρ S1
    | .bl false => exSs cf G b ρ S1
    | _ => .bad := by first | rfl | (rw [exS]; rfl)
theorem q_exS_rse {c e} {ρ : Env} {S : Store} : exS cf G (.rse c e) ρ S = ((evE cf G e ρ S).bnd frzD).fln ρ fun d S2 => .ex c [d] ρ S2 := by first | rfl | (rw [exS]; rfl)
theorem q_exSs_nil {ρ : Env} {S : Store} : exSs cf G .nil ρ S = .nx ρ S := by first | rfl | (rw [exSs]; rfl)
theorem q_exSs_cons {s ss} {ρ : Env} {S : Store} : exSs cf G (.cons s ss) ρ S = Fl.thn (exS cf G s ρ S) (fun ρ1 S1 => exSs cf G ss ρ1 S1) := by first | rfl | (rw [exSs]; rfl)
theorem evI_rng1 {a : Ex} {ρ : Env} {S S1 : Store} {n : Nat} (h : evE cf G a ρ S = .ok (.int n) S1) (hn : n ≤ 1000000) : evI cf G (.rng1 a) ρ S = .ok ((List.range n).map fun (i : Nat) => .int (i : Int)) S1 := by
  show ((evE cf G a ρ S).bind fun x S1 => match x with
    | .int n => if rngOk 0 n then R.ok (rngD 0 1 n.toNat) S1 else .bad
    | _ => .bad) = _
  rw [h, R.bind_ok]
  show (if rngOk 0 (n : Int) = true then R.ok (rngD 0 1 (n : Int).toNat) S1 else .bad) = _
  rw [if_pos (rngOk0 hn), Int.toNat_natCast, rngD_map]
end
end SP
end
section
set_option Elab.async false
set_option linter.all false
set_option autoImplicit false
set_option maxRecDepth 100000
set_option maxHeartbeats 2000000
namespace SP
open PySem
local macro_rules
  | `(tactic| simp_arith) => `(tactic| simp -dsimp -implicitDefEqProofs only [q_evE_var, q_evE_frz, q_evE_non, q_evE_bl, q_evE_int, q_evE_neg, q_evE_str, q_evE_cst, q_evE_tt, q_evE_bin, q_evE_cmp, q_evE_cmp2, q_evE_isN, q_evE_notN, q_evE_and, q_evE_or, q_evE_not, q_evE_ite, q_evE_tup, q_evE_lst, q_evE_new, q_evE_dic0, q_evE_ix, q_evE_slA, q_evE_slB, q_evE_slC, q_evE_rev, q_evE_fld, q_evE_call, q_evE_callK, q_evE_meth, q_evE_mk, q_evE_mkX, q_evE_mkXK, q_evE_thw, q_evE_sset, q_evE_addN, q_evE_lstN, q_evE_lrng, q_evE_trng, q_evE_bf, q_evE_isi, q_evE_isis, q_evEs_nil, q_evEs_cons, q_evI_of, q_evI_enum, q_evI_zip, q_exS_set, q_exS_sets, q_exS_aug, q_exS_put, q_exS_sfld, q_exS_app, q_exS_ext, q_exS_rem, q_exS_clr, q_exS_fz, q_exS_exp, q_exS_ret, q_exS_retN, q_exS_pass, q_exS_ife, q_exS_rse, q_exSs_nil, q_exSs_cons, Nat.reduceSub, List.length_cons, List.length_nil, Nat.reduceAdd, Nat.zero_add, R.bnd_ok, R.fln_ok, R.bind_ok, R.fl_ok, R.opt_some, R.noEx_ok, Fl.opt_some, Option.map_some, Option.bind_some, List.map_cons, List.map_nil, List.cons_append, List.nil_append, List.replicate_zero, List.replicate_succ, List.getElem?_cons_zero, List.getElem?_cons_succ, List.set_cons_zero, List.set_cons_succ, bindT, bindTs, cf_call, rdD, cmpO, cmpD, n1, n2, b1, b2, b3, b4, b5, b6, b7, b8, b9, b10, b11, b12, b13, b14, b15, b16, b17, ty1, ty2, ty3, ty4, ty5, ty6, ty7, z0, z1, z2, z3, z4, z5, z6, z7, z8, z9, z10, z11, z12, z13, NxI_nx, slotsT, slotsTs, wipeE, Fl.thn_nx, Fl.thn_rt, Fl.thn_ex, R.fln_ex, R.bnd_ex, R.fl_ex, R.bind_ex, retF_nx, retF_rt, retF_ex, retD_non, retD_bl, retD_int, retD_str, retD_tup, retD_lst, retD_obj, take_len, isNon, itemsD, Bool.not_true, Bool.not_false, Bool.and_true, Bool.and_false, Bool.true_and, Bool.false_and, ixD])
  | `(tactic| simp_arith [$ls,*]) => `(tactic| simp -dsimp -implicitDefEqProofs only [q_evE_var, q_evE_frz, q_evE_non, q_evE_bl, q_evE_int, q_evE_neg, q_evE_str, q_evE_cst, q_evE_tt, q_evE_bin, q_evE_cmp, q_evE_cmp2, q_evE_isN, q_evE_notN, q_evE_and, q_evE_or, q_evE_not, q_evE_ite, q_evE_tup, q_evE_lst, q_evE_new, q_evE_dic0, q_evE_ix, q_evE_slA, q_evE_slB, q_evE_slC, q_evE_rev, q_evE_fld, q_evE_call, q_evE_callK, q_evE_meth, q_evE_mk, q_evE_mkX, q_evE_mkXK, q_evE_thw, q_evE_sset, q_evE_addN, q_evE_lstN, q_evE_lrng, q_evE_trng, q_evE_bf, q_evE_isi, q_evE_isis, q_evEs_nil, q_evEs_cons, q_evI_of, q_evI_enum, q_evI_zip, q_exS_set, q_exS_sets, q_exS_aug, q_exS_put, q_exS_sfld, q_exS_app, q_exS_ext, q_exS_rem, q_exS_clr, q_exS_fz, q_exS_exp, q_exS_ret, q_exS_retN, q_exS_pass, q_exS_ife, q_exS_rse, q_exSs_nil, q_exSs_cons, Nat.reduceSub, List.length_cons, List.length_nil, Nat.reduceAdd, Nat.zero_add, R.bnd_ok, R.fln_ok, R.bind_ok, R.fl_ok, R.opt_some, R.noEx_ok, Fl.opt_some, Option.map_some, Option.bind_some, List.map_cons, List.map_nil, List.cons_append, List.nil_append, List.replicate_zero, List.replicate_succ, List.getElem?_cons_zero, List.getElem?_cons_succ, List.set_cons_zero, List.set_cons_succ, bindT, bindTs, cf_call, rdD, cmpO, cmpD, n1, n2, b1, b2, b3, b4, b5, b6, b7, b8, b9, b10, b11, b12, b13, b14, b15, b16, b17, ty1, ty2, ty3, ty4, ty5, ty6, ty7, z0, z1, z2, z3, z4, z5, z6, z7, z8, z9, z10, z11, z12, z13, NxI_nx, slotsT, slotsTs, wipeE, Fl.thn_nx, Fl.thn_rt, Fl.thn_ex, R.fln_ex, R.bnd_ex, R.fl_ex, R.bind_ex, retF_nx, retF_rt, retF_ex, retD_non, retD_bl, retD_int, retD_str, retD_tup, retD_lst, retD_obj, take_len, isNon, itemsD, Bool.not_true, Bool.not_false, Bool.and_true, Bool.and_false, Bool.true_and, Bool.false_and, ixD, $ls,*])
/-! the program's defs, computed -/
abbrev kindD (p : Int × Int) : D := .tup [.int p.1, .int p.2]
abbrev tupI (xs : List Int) : D := .tup (xs.map .int)
abbrev tabD (t : List (List Int)) : D := .tup (t.map tupI)
abbrev slabD (ks : List (Int × Int)) (m : Int) : D := .obj 100 [.tup (ks.map kindD), .int m]
/-- classes as they must be -/
structure KO (ks : List (Int × Int)) : Prop where
  pos : 1 ≤ ks.length
  most : ks.length ≤ 6
  all : ∀ p ∈ ks, 1 ≤ p.1 ∧ p.1 ≤ 1000 ∧ 1 ≤ p.2 ∧ p.2 ≤ 60
def szk (ks : List (Int × Int)) (i : Nat) : Int := (ks.getD i (0, 0)).1
def slk (ks : List (Int × Int)) (i : Nat) : Int := (ks.getD i (0, 0)).2
def cnt (t : List (List Int)) (i : Nat) : List Int := t.getD i []
theorem KO.sz {ks : List (Int × Int)} (h : KO ks) (i : Nat) : 0 ≤ szk ks i ∧ szk ks i ≤ 1000 ∧ 0 ≤ slk ks i ∧ slk ks i ≤ 60 := by
  unfold szk slk
  by_cases hi : i < ks.length
  · have := h.all ks[i] (List.getElem_mem hi)
    simp only [List.getD_eq_getElem?_getD, List.getElem?_eq_getElem hi, Option.getD_some]
    omega
  · simp only [List.getD_eq_getElem?_getD, List.getElem?_eq_none (by omega : ks.length ≤ i), Option.getD_none]
    omega
theorem small_of {i : Int} (h : 0 ≤ i) (h2 : i ≤ 1000000) : small64 i = true := by
  unfold small64
  rw [Bool.and_eq_true, decide_eq_true_eq, decide_eq_true_eq]
  constructor
  · have : (-(2 : Int) ^ 64) < 0 := by decide
    omega
  · have : (1000000 : Int) < 2 ^ 64 := by decide
    omega
theorem KO.small {ks : List (Int × Int)} (h : KO ks) (i : Nat) : small64 (szk ks i) = true ∧ small64 (slk ks i) = true := by
  have := h.sz i
  exact ⟨small_of this.1 (by omega), small_of this.2.2.1 (by omega)⟩
theorem ix_kind {ks : List (Int × Int)} {i : Nat} (hi : i < ks.length) : L2.atI (ks.map kindD) (i : Int) = some (.tup [.int (szk ks i), .int (slk ks i)]) := at_map kindD ks i hi (0, 0)
theorem ix_tab {t : List (List Int)} {i : Nat} (hi : i < t.length) : L2.atI (t.map tupI) (i : Int) = some (tupI (cnt t i)) := at_map tupI t i hi []
theorem ix_0 (a b : D) : L2.atI [a, b] 0 = some a := rfl
theorem ix_1 (a b : D) : L2.atI [a, b] 1 = some b := rfl
theorem zipIdx_of {α : Type} {L : List α} {p : α × Nat} (h : p ∈ L.zipIdx) : p.2 < L.length ∧ L[p.2]? = some p.1 := by
  obtain ⟨x, i⟩ := p
  rw [List.mem_zipIdx_iff_getElem?] at h
  exact ⟨(List.getElem?_eq_some_iff.mp h).1, h⟩
def liveB (ks : List (Int × Int)) (t : List (List Int)) : Int := ((t.zipIdx).map fun p => p.1.sum * szk ks p.2).sum
def heldB (ks : List (Int × Int)) (t p : List (List Int)) (i : Nat) : Int := (((cnt t i).length : Int) - ((cnt p i).length : Int)) * szk ks i
def pinnedB (ks : List (Int × Int)) (p : List (List Int)) (i : Nat) : Int := (cnt p i).sum * szk ks i
def filledB (ks : List (Int × Int)) (t p : List (List Int)) (i : Nat) : Int := ((((cnt t i).length : Int) - 1) * slk ks i + 1) * szk ks i - pinnedB ks p i
def spareB (ks : List (Int × Int)) (t p : List (List Int)) (i : Nat) : Int := filledB ks t p i - heldB ks t p i
def grownB (t p : List (List Int)) : List Nat := (List.range t.length).filter fun i => decide ((cnt p i).length < (cnt t i).length)
theorem fpos_kept {G : Cls} (h : G.fpos = progG.fpos) : G.fpos 100 6 = some 0 := by rw [h]; rfl
theorem fpos_most {G : Cls} (h : G.fpos = progG.fpos) : G.fpos 100 5 = some 1 := by rw [h]; rfl
section
variable {F : Nat → Option Fn} {G : Cls} (P : PG F G)
include P
theorem c_is_int (k : Nat) (S : Store) (v : Int) : callF F G (k + 1) 0 [.int v] S = .ok (.bl true) S := by
  rw [call_eq ((P.F 0 (by decide))) rfl]
  simp only [f_is_int, b_is_int]
  simp_arith
theorem c_is_from (k : Nat) (S : Store) (v lo hi : Int) : callF F G (k + 2) 1 [.int v, .int lo, .int hi] S = .ok (.bl (decide (lo ≤ v) && decide (v ≤ hi))) S := by
  rw [call_eq ((P.F 1 (by decide))) rfl]
  simp only [f_is_from, b_is_from]
  by_cases h : lo ≤ v
  · simp_arith [c_is_int P, decide_eq_true h]
  · simp_arith [c_is_int P, decide_eq_false h]
theorem c_is_class (k : Nat) (S : Store) (p : Int × Int) (h1 : 1 ≤ p.1) (h2 : p.1 ≤ 1000) (h3 : 1 ≤ p.2) (h4 : p.2 ≤ 60) : callF F G (k + 3) 2 [kindD p] S = .ok (.bl true) S := by
  rw [call_eq ((P.F 2 (by decide))) rfl]
  simp only [f_is_class, b_is_class]
  have h : (((1 + 1 : Nat) : Int) = 2) = True := by simp
  simp_arith [c_is_from P, decide_eq_true h1, decide_eq_true h2, decide_eq_true h3, decide_eq_true h4, ix_0, ix_1, eqD_int, h, decide_true]
theorem c_live_bytes (k : Nat) (S : Store) {ks : List (Int × Int)} {m : Int} {t : List (List Int)} (hk : KO ks) (ht : t.length ≤ ks.length) :
    callF F G (k + 1) 11 [slabD ks m, tabD t] S = .ok (.int (liveB ks t)) S := by
  have h6 := hk.most
  rw [call_eq ((P.F 11 (by decide))) rfl]
  simp only [f_live_bytes, b_live_bytes]
  simp_arith
  rw [ev_compI (L := t.zipIdx) (g := fun p => .tup [.int p.2, tupI p.1]) (fun p => p.1.sum * szk ks p.2) (by simp_arith; rw [enumD_map]) (by simp; omega) (fun x _ => rfl) (fun p hp S' => ?_)]
  · simp_arith [intsD_map, liveB]
  · have := zipIdx_of hp
    simp only [slotsT, slotsTs, wipeE, List.cons_append, List.nil_append, List.set_cons_zero, List.set_cons_succ]
    simp_arith [intsD_map, fpos_kept P.fpos, ix_kind (show p.2 < ks.length by omega), ix_0, n3, (hk.small _).1, Bool.or_true, if_true]
end
end SP
end
section
set_option Elab.async false
set_option linter.all false
set_option autoImplicit false
set_option maxRecDepth 100000
set_option maxHeartbeats 2000000
namespace SP
open PySem
local macro_rules
  | `(tactic| simp_arith) => `(tactic| simp -dsimp -implicitDefEqProofs only [q_evE_var, q_evE_frz, q_evE_non, q_evE_bl, q_evE_int, q_evE_neg, q_evE_str, q_evE_cst, q_evE_tt, q_evE_bin, q_evE_cmp, q_evE_cmp2, q_evE_isN, q_evE_notN, q_evE_and, q_evE_or, q_evE_not, q_evE_ite, q_evE_tup, q_evE_lst, q_evE_new, q_evE_dic0, q_evE_ix, q_evE_slA, q_evE_slB, q_evE_slC, q_evE_rev, q_evE_fld, q_evE_call, q_evE_callK, q_evE_meth, q_evE_mk, q_evE_mkX, q_evE_mkXK, q_evE_thw, q_evE_sset, q_evE_addN, q_evE_lstN, q_evE_lrng, q_evE_trng, q_evE_bf, q_evE_isi, q_evE_isis, q_evEs_nil, q_evEs_cons, q_evI_of, q_evI_enum, q_evI_zip, q_exS_set, q_exS_sets, q_exS_aug, q_exS_put, q_exS_sfld, q_exS_app, q_exS_ext, q_exS_rem, q_exS_clr, q_exS_fz, q_exS_exp, q_exS_ret, q_exS_retN, q_exS_pass, q_exS_ife, q_exS_rse, q_exSs_nil, q_exSs_cons, Nat.reduceSub, List.length_cons, List.length_nil, Nat.reduceAdd, Nat.zero_add, R.bnd_ok, R.fln_ok, R.bind_ok, R.fl_ok, R.opt_some, R.noEx_ok, Fl.opt_some, Option.map_some, Option.bind_some, List.map_cons, List.map_nil, List.cons_append, List.nil_append, List.replicate_zero, List.replicate_succ, List.getElem?_cons_zero, List.getElem?_cons_succ, List.set_cons_zero, List.set_cons_succ, bindT, bindTs, cf_call, rdD, cmpO, cmpD, n1, n2, b1, b2, b3, b4, b5, b6, b7, b8, b9, b10, b11, b12, b13, b14, b15, b16, b17, ty1, ty2, ty3, ty4, ty5, ty6, ty7, z0, z1, z2, z3, z4, z5, z6, z7, z8, z9, z10, z11, z12, z13, NxI_nx, slotsT, slotsTs, wipeE, Fl.thn_nx, Fl.thn_rt, Fl.thn_ex, R.fln_ex, R.bnd_ex, R.fl_ex, R.bind_ex, retF_nx, retF_rt, retF_ex, retD_non, retD_bl, retD_int, retD_str, retD_tup, retD_lst, retD_obj, take_len, isNon, itemsD, Bool.not_true, Bool.not_false, Bool.and_true, Bool.and_false, Bool.true_and, Bool.false_and, ixD])
  | `(tactic| simp_arith [$ls,*]) => `(tactic| simp -dsimp -implicitDefEqProofs only [q_evE_var, q_evE_frz, q_evE_non, q_evE_bl, q_evE_int, q_evE_neg, q_evE_str, q_evE_cst, q_evE_tt, q_evE_bin, q_evE_cmp, q_evE_cmp2, q_evE_isN, q_evE_notN, q_evE_and, q_evE_or, q_evE_not, q_evE_ite, q_evE_tup, q_evE_lst, q_evE_new, q_evE_dic0, q_evE_ix, q_evE_slA, q_evE_slB, q_evE_slC, q_evE_rev, q_evE_fld, q_evE_call, q_evE_callK, q_evE_meth, q_evE_mk, q_evE_mkX, q_evE_mkXK, q_evE_thw, q_evE_sset, q_evE_addN, q_evE_lstN, q_evE_lrng, q_evE_trng, q_evE_bf, q_evE_isi, q_evE_isis, q_evEs_nil, q_evEs_cons, q_evI_of, q_evI_enum, q_evI_zip, q_exS_set, q_exS_sets, q_exS_aug, q_exS_put, q_exS_sfld, q_exS_app, q_exS_ext, q_exS_rem, q_exS_clr, q_exS_fz, q_exS_exp, q_exS_ret, q_exS_retN, q_exS_pass, q_exS_ife, q_exS_rse, q_exSs_nil, q_exSs_cons, Nat.reduceSub, List.length_cons, List.length_nil, Nat.reduceAdd, Nat.zero_add, R.bnd_ok, R.fln_ok, R.bind_ok, R.fl_ok, R.opt_some, R.noEx_ok, Fl.opt_some, Option.map_some, Option.bind_some, List.map_cons, List.map_nil, List.cons_append, List.nil_append, List.replicate_zero, List.replicate_succ, List.getElem?_cons_zero, List.getElem?_cons_succ, List.set_cons_zero, List.set_cons_succ, bindT, bindTs, cf_call, rdD, cmpO, cmpD, n1, n2, b1, b2, b3, b4, b5, b6, b7, b8, b9, b10, b11, b12, b13, b14, b15, b16, b17, ty1, ty2, ty3, ty4, ty5, ty6, ty7, z0, z1, z2, z3, z4, z5, z6, z7, z8, z9, z10, z11, z12, z13, NxI_nx, slotsT, slotsTs, wipeE, Fl.thn_nx, Fl.thn_rt, Fl.thn_ex, R.fln_ex, R.bnd_ex, R.fl_ex, R.bind_ex, retF_nx, retF_rt, retF_ex, retD_non, retD_bl, retD_int, retD_str, retD_tup, retD_lst, retD_obj, take_len, isNon, itemsD, Bool.not_true, Bool.not_false, Bool.and_true, Bool.and_false, Bool.true_and, Bool.false_and, ixD, $ls,*])
theorem cellOf_last (S : Store) (c : Cell) : cellOf (S ++ [some c]) (.loc S.length) = some (S.length, c) := by
  simp [cellOf]
theorem set_last (S : Store) (a b : Option Cell) : (S ++ [a]).set S.length b = S ++ [b] := by simp
theorem at_last (S : Store) (a : Option Cell) : (S ++ [a])[S.length]? = some a := by simp
theorem take_last (S : Store) (a : Option Cell) : (S ++ [a]).take S.length = S := by simp
/-- sorted, without repetition of words: the order ≤ -/
def Sorted (xs : List Int) : Prop := xs.Pairwise (· ≤ ·)
theorem sortI_of {xs : List Int} (h : Sorted xs) : sortI xs = xs := List.mergeSort_of_pairwise (by
  refine List.Pairwise.imp ?_ h
  intro a b hab
  simpa using hab)
/-- a table as it must be -/
structure TO (ks : List (Int × Int)) (m : Int) (t : List (List Int)) : Prop where
  len : t.length = ks.length
  all : ∀ i, i < t.length → ∀ c ∈ cnt t i, 1 ≤ c ∧ c ≤ slk ks i
  srt : ∀ i, i < t.length → Sorted (cnt t i)
  pages : (t.map (·.length)).sum ≤ 60
  live : liveB ks t ≤ m
theorem sum_len (L : List (List Int)) : ((L.map fun c => (c.length : Int))).sum = ((L.map (·.length)).sum : Nat) := by
  induction L with
  | nil => rfl
  | cons x L ih => simp only [List.map_cons, List.sum_cons, ih]; omega
theorem mem_sum (L : List (List Int)) {c : List Int} (h : c ∈ L) : c.length ≤ (L.map (·.length)).sum := by
  induction L with
  | nil => cases h
  | cons x L ih =>
    simp only [List.map_cons, List.sum_cons]
    rcases List.mem_cons.mp h with rfl | h
    · omega
    · have := ih h
      omega
section
variable {F : Nat → Option Fn} {G : Cls} (P : PG F G)
include P
theorem c_init (k : Nat) (S : Store) {ks : List (Int × Int)} {m : Int} (hk : KO ks) (h0 : 0 ≤ m) (h1 : m ≤ 1000000) :
    callF F G (k + 4) 3 [.loc S.length, .lst (ks.map kindD), .int m] (S ++ [some (.ins 100 [none, none])]) = .ok .non (S ++ [some (.ins 100 [some (.tup (ks.map kindD)), some (.int m)])]) := by
  have g1 := hk.pos
  have g2 := hk.most
  rw [call_eq ((P.F 3 (by decide))) rfl]
  simp only [f_Slab___init__, b_Slab___init__]
  have e1 : ((1 : Int) ≤ (ks.length : Int)) = True := eq_true (by omega)
  have e2 : ((ks.length : Int) ≤ 6) = True := eq_true (by omega)
  simp_arith [List.length_map, c_is_from P, e1, e2, decide_true, decide_eq_true h0, decide_eq_true h1]
  refine ret_for (L := ks.zipIdx) (g := fun p => .tup [.int p.2, kindD p.1]) (Inv := fun _ ρ S2 => S2 = S ++ [some (.ins 100 [none, none])] ∧ ∃ a b, ρ = [some (.loc S.length), some (.lst (ks.map kindD)), some (.int m), a, b]) (by simp_arith; rw [enumD_map]) ⟨rfl, _, _, rfl⟩ (fun i hi ρ S2 hI => ?_) (fun ρ2 S2 hI => ?_)
  · obtain ⟨rfl, a, b, rfl⟩ := hI
    have hm : (ks.zipIdx)[i].1 ∈ ks := by
      simp only [List.getElem_zipIdx]
      exact List.getElem_mem _
    have := hk.all _ hm
    refine ⟨_, rfl, ?_⟩
    simp_arith [c_is_class P _ _ _ this.1 this.2.1 this.2.2.1 this.2.2.2]
    exact ⟨trivial, _, _, rfl⟩
  · obtain ⟨rfl, a, b, rfl⟩ := hI
    have f1 : ∀ x y : Option D, (0 < [x, y].length ∧ ∀ i, i < [x, y].length → (([x, y] : List (Option D))[i]?.any (·.isSome) ↔ i < 0)) = (x = none ∧ y = none) := fun x y => by
      apply propext
      constructor
      · intro ⟨_, h⟩
        have a0 := h 0 (by simp)
        have a1 := h 1 (by simp)
        cases x <;> cases y <;> simp at a0 a1 ⊢
      · rintro ⟨rfl, rfl⟩
        refine ⟨by simp, fun i hi => ?_⟩
        match i, hi with
        | 0, _ => simp
        | 1, _ => simp
    have f2 : ∀ d : D, (1 < [some d, none].length ∧ ∀ i, i < [some d, none].length → (([some d, none] : List (Option D))[i]?.any (·.isSome) ↔ i < 1)) = True := fun d => by
      refine eq_true ⟨by simp, fun i hi => ?_⟩
      match i, hi with
      | 0, _ => simp
      | 1, _ => simp
    simp_arith [frzD, cellOf_last, fpos_kept P.fpos, fpos_most P.fpos, set_last]
    simp only [List.length_cons, List.length_nil] at f1 f2
    simp only [f1, f2, and_self, if_true, Fl.thn_nx]
    simp_arith [frzD, cellOf_last, fpos_kept P.fpos, fpos_most P.fpos, set_last]
    simp only [f1, f2, and_self, if_true, Fl.thn_nx]
    simp_arith
    rw [List.take_of_length_le (by simp)]
theorem c_mk (k : Nat) (th : Store → R D) (S : Store) {ks : List (Int × Int)} {m : Int} (hk : KO ks) (h0 : 0 ≤ m) (h1 : m ≤ 1000000) :
    mkO (cfAt F G (k + 4) th) G 100 [.lst (ks.map kindD), .int m] S = .ok (slabD ks m) S := by
  unfold mkO
  have e1 : G.init 100 = 3 := by rw [P.init]; rfl
  have e2 : G.fields 100 = 2 := by rw [P.fields]; rfl
  rw [e1, e2, cf_call]
  simp only [List.replicate_succ, List.replicate_zero]
  rw [c_init P k S hk h0 h1, R.bind_ok]
  simp only [at_last, if_true, allFs, Option.map_some, take_last]
theorem c_len (k : Nat) (S : Store) {ks : List (Int × Int)} {m : Int} : callF F G (k + 1) 5 [slabD ks m] S = .ok (.int ks.length) S := by
  rw [call_eq ((P.F 5 (by decide))) rfl]
  simp only [f_Slab___len__, b_Slab___len__]
  simp_arith [fpos_kept P.fpos, List.length_map]
/-- len(slab) -/
theorem c_lenO (k : Nat) (th : Store → R D) (S : Store) {ks : List (Int × Int)} {m : Int} (hk : KO ks) : bfO (cfAt F G (k + 1) th) G .len [slabD ks m] S = .ok (.int ks.length) S := by
  have h6 := hk.most
  have e1 : G.len 100 = some 5 := by rw [P.len]; rfl
  simp only [bfO, e1, cf_call]
  rw [c_len P, R.noEx_ok, R.bind_ok]
  have : (0 : Int) ≤ (ks.length : Int) ∧ (ks.length : Int) < 2 ^ 63 := ⟨by omega, by
    have : (6 : Int) < 2 ^ 63 := by decide
    omega⟩
  simp only [this, and_self, if_true]
theorem c_check_table (k : Nat) (S : Store) {ks : List (Int × Int)} {m : Int} {t : List (List Int)} (hk : KO ks) (ht : TO ks m t) :
    callF F G (k + 3) 12 [slabD ks m, tabD t] S = .ok .non S := by
  have g1 := hk.pos
  have g2 := hk.most
  have g3 := ht.len
  rw [call_eq ((P.F 12 (by decide))) rfl]
  simp only [f_check_table, b_check_table]
  simp_arith [c_lenO P _ _ _ hk, List.length_map, g3, eqD_int, decide_true]
  refine ret_for (L := t.zipIdx) (g := fun p => .tup [.int p.2, tupI p.1]) (Inv := fun _ ρ S2 => S2 = S ∧ ∃ a b c, ρ = [some (slabD ks m), some (tabD t), a, b, c]) (by simp_arith; rw [enumD_map]) ⟨rfl, _, _, _, rfl⟩ (fun i hi ρ S2 hI => ?_) (fun ρ2 S2 hI => ?_)
  · obtain ⟨rfl, a, b, c, rfl⟩ := hI
    refine ⟨_, rfl, ?_⟩
    have hi2 : i < t.length := by simpa using hi
    have e1 : (t.zipIdx)[i] = (cnt t i, i) := by
      simp [cnt, List.getElem_zipIdx, hi2]
    have hl : (cnt t i).length ≤ 60 := Nat.le_trans (mem_sum t (c := cnt t i) (by
      unfold cnt
      simp [hi2])) ht.pages
    have e2 : (((cnt t i).map fun x => decide (1 ≤ x) && decide (x ≤ slk ks i)).all id) = true := by
      simp only [List.all_map, List.all_eq_true]
      intro x hx
      have := ht.all i hi2 x hx
      simp [this.1, this.2]
    simp only [e1]
    simp_arith
    rw [ev_compB (L := cnt t i) (g := .int) (fun x => decide (1 ≤ x) && decide (x ≤ slk ks i)) (by simp_arith; rfl) (by omega) (fun x _ => rfl) (fun x hx S' => ?_)]
    · simp_arith [boolsD_map, e2, intsD_map, sortI_of (ht.srt i hi2), eqD_lst, decide_true]
      exact ⟨trivial, _, _, _, rfl⟩
    · simp only [slotsT, wipeE]
      simp_arith [c_is_from P, fpos_kept P.fpos, ix_kind (show i < ks.length by omega), ix_1]
  · obtain ⟨rfl, a, b, c, rfl⟩ := hI
    simp_arith
    rw [ev_compI (L := t) (g := tupI) (fun x => (x.length : Int)) (by simp_arith; rfl) (by omega) (fun x _ => rfl) (fun x hx S' => ?_)]
    rotate_left
    · simp_arith [List.length_map]
    have e3 : ((60 : Int) < (t.map fun x => (x.length : Int)).sum) = False := by
      rw [sum_len]
      have := ht.pages
      exact eq_false (by omega)
    have e4 : (m < liveB ks t) = False := eq_false (by have := ht.live; omega)
    simp_arith [intsD_map, e3, decide_false, c_live_bytes P _ _ hk (show t.length ≤ ks.length by omega), fpos_most P.fpos, e4]
end
end SP
end
section
set_option Elab.async false
set_option linter.all false
set_option autoImplicit false
set_option maxRecDepth 100000
set_option maxHeartbeats 2000000
namespace SP
open PySem
local macro_rules
  | `(tactic| simp_arith) => `(tactic| simp -dsimp -implicitDefEqProofs only [q_evE_var, q_evE_frz, q_evE_non, q_evE_bl, q_evE_int, q_evE_neg, q_evE_str, q_evE_cst, q_evE_tt, q_evE_bin, q_evE_cmp, q_evE_cmp2, q_evE_isN, q_evE_notN, q_evE_and, q_evE_or, q_evE_not, q_evE_ite, q_evE_tup, q_evE_lst, q_evE_new, q_evE_dic0, q_evE_ix, q_evE_slA, q_evE_slB, q_evE_slC, q_evE_rev, q_evE_fld, q_evE_call, q_evE_callK, q_evE_meth, q_evE_mk, q_evE_mkX, q_evE_mkXK, q_evE_thw, q_evE_sset, q_evE_addN, q_evE_lstN, q_evE_lrng, q_evE_trng, q_evE_bf, q_evE_isi, q_evE_isis, q_evEs_nil, q_evEs_cons, q_evI_of, q_evI_enum, q_evI_zip, q_exS_set, q_exS_sets, q_exS_aug, q_exS_put, q_exS_sfld, q_exS_app, q_exS_ext, q_exS_rem, q_exS_clr, q_exS_fz, q_exS_exp, q_exS_ret, q_exS_retN, q_exS_pass, q_exS_ife, q_exS_rse, q_exSs_nil, q_exSs_cons, Nat.reduceSub, List.length_cons, List.length_nil, Nat.reduceAdd, Nat.zero_add, R.bnd_ok, R.fln_ok, R.bind_ok, R.fl_ok, R.opt_some, R.noEx_ok, Fl.opt_some, Option.map_some, Option.bind_some, List.map_cons, List.map_nil, List.cons_append, List.nil_append, List.replicate_zero, List.replicate_succ, List.getElem?_cons_zero, List.getElem?_cons_succ, List.set_cons_zero, List.set_cons_succ, bindT, bindTs, cf_call, rdD, cmpO, cmpD, n1, n2, b1, b2, b3, b4, b5, b6, b7, b8, b9, b10, b11, b12, b13, b14, b15, b16, b17, ty1, ty2, ty3, ty4, ty5, ty6, ty7, z0, z1, z2, z3, z4, z5, z6, z7, z8, z9, z10, z11, z12, z13, NxI_nx, slotsT, slotsTs, wipeE, Fl.thn_nx, Fl.thn_rt, Fl.thn_ex, R.fln_ex, R.bnd_ex, R.fl_ex, R.bind_ex, retF_nx, retF_rt, retF_ex, retD_non, retD_bl, retD_int, retD_str, retD_tup, retD_lst, retD_obj, take_len, isNon, itemsD, Bool.not_true, Bool.not_false, Bool.and_true, Bool.and_false, Bool.true_and, Bool.false_and, ixD])
  | `(tactic| simp_arith [$ls,*]) => `(tactic| simp -dsimp -implicitDefEqProofs only [q_evE_var, q_evE_frz, q_evE_non, q_evE_bl, q_evE_int, q_evE_neg, q_evE_str, q_evE_cst, q_evE_tt, q_evE_bin, q_evE_cmp, q_evE_cmp2, q_evE_isN, q_evE_notN, q_evE_and, q_evE_or, q_evE_not, q_evE_ite, q_evE_tup, q_evE_lst, q_evE_new, q_evE_dic0, q_evE_ix, q_evE_slA, q_evE_slB, q_evE_slC, q_evE_rev, q_evE_fld, q_evE_call, q_evE_callK, q_evE_meth, q_evE_mk, q_evE_mkX, q_evE_mkXK, q_evE_thw, q_evE_sset, q_evE_addN, q_evE_lstN, q_evE_lrng, q_evE_trng, q_evE_bf, q_evE_isi, q_evE_isis, q_evEs_nil, q_evEs_cons, q_evI_of, q_evI_enum, q_evI_zip, q_exS_set, q_exS_sets, q_exS_aug, q_exS_put, q_exS_sfld, q_exS_app, q_exS_ext, q_exS_rem, q_exS_clr, q_exS_fz, q_exS_exp, q_exS_ret, q_exS_retN, q_exS_pass, q_exS_ife, q_exS_rse, q_exSs_nil, q_exSs_cons, Nat.reduceSub, List.length_cons, List.length_nil, Nat.reduceAdd, Nat.zero_add, R.bnd_ok, R.fln_ok, R.bind_ok, R.fl_ok, R.opt_some, R.noEx_ok, Fl.opt_some, Option.map_some, Option.bind_some, List.map_cons, List.map_nil, List.cons_append, List.nil_append, List.replicate_zero, List.replicate_succ, List.getElem?_cons_zero, List.getElem?_cons_succ, List.set_cons_zero, List.set_cons_succ, bindT, bindTs, cf_call, rdD, cmpO, cmpD, n1, n2, b1, b2, b3, b4, b5, b6, b7, b8, b9, b10, b11, b12, b13, b14, b15, b16, b17, ty1, ty2, ty3, ty4, ty5, ty6, ty7, z0, z1, z2, z3, z4, z5, z6, z7, z8, z9, z10, z11, z12, z13, NxI_nx, slotsT, slotsTs, wipeE, Fl.thn_nx, Fl.thn_rt, Fl.thn_ex, R.fln_ex, R.bnd_ex, R.fl_ex, R.bind_ex, retF_nx, retF_rt, retF_ex, retD_non, retD_bl, retD_int, retD_str, retD_tup, retD_lst, retD_obj, take_len, isNon, itemsD, Bool.not_true, Bool.not_false, Bool.and_true, Bool.and_false, Bool.true_and, Bool.false_and, ixD, $ls,*])
/-- pins as they must be -/
structure PO (t p : List (List Int)) : Prop where
  len : p.length = t.length
  le : ∀ i, i < t.length → (cnt p i).length ≤ (cnt t i).length
  dom : ∀ i, i < t.length → ∀ q ∈ (cnt t i).reverse.zip (cnt p i).reverse, q.2 ≤ q.1
def grownI (t p : List (List Int)) : List Int := (grownB t p).map fun (i : Nat) => (i : Int)
section
variable {F : Nat → Option Fn} {G : Cls} (P : PG F G)
include P
theorem c_is_table (k : Nat) (S : Store) {ks : List (Int × Int)} {m : Int} {t : List (List Int)} (hk : KO ks) (ht : TO ks m t) :
    callF F G (k + 4) 13 [slabD ks m, tabD t] S = .ok (.bl true) S := by
  rw [call_eq ((P.F 13 (by decide))) rfl]
  simp only [f_is_table, b_is_table]
  simp_arith
  rw [q_try_nx (by simp_arith [c_check_table P _ _ hk ht]; rfl)]
  simp_arith
theorem c_empty (k : Nat) (S : Store) {ks : List (Int × Int)} {m : Int} (hk : KO ks) : callF F G (k + 2) 14 [slabD ks m] S = .ok (tabD (List.replicate ks.length [])) S := by
  have h6 := hk.most
  rw [call_eq ((P.F 14 (by decide))) rfl]
  simp only [f_empty, b_empty]
  have e4 : (List.replicate ks.length [D.tup []]).flatten = (List.replicate ks.length ([] : List Int)).map tupI := by
    rw [List.map_replicate, List.flatten_replicate_singleton]
    rfl
  simp_arith [c_lenO P _ _ _ hk, bin_mulT (xs := [D.tup []]) (show (ks.length : Int) ≤ 1000 by omega) (by simp) (by omega), Int.toNat_natCast, e4]
theorem c_has_pins (k : Nat) (S : Store) {t p : List (List Int)} (h6 : t.length ≤ 6) (hp : PO t p) (hl : ∀ i, i < t.length → (cnt t i).length ≤ 1000000) : callF F G (k + 1) 23 [tabD t, tabD p] S = .ok (.bl true) S := by
  rw [call_eq ((P.F 23 (by decide))) rfl]
  simp only [f_has_pins, b_has_pins]
  simp_arith
  refine ret_for (L := t.zip p) (g := fun q => .tup [tupI q.1, tupI q.2]) (Inv := fun _ ρ S2 => S2 = S ∧ ∃ a b c d, ρ = [some (tabD t), some (tabD p), a, b, c, d]) (by simp_arith; rw [zipD_map]) ⟨rfl, _, _, _, _, rfl⟩ (fun i hi ρ S2 hI => ?_) (fun ρ2 S2 hI => ?_)
  · obtain ⟨rfl, a, b, c, d, rfl⟩ := hI
    refine ⟨_, rfl, ?_⟩
    have hz := hp.len
    have hi2 : i < t.length := by simp at hi; omega
    have e1 : (t.zip p)[i] = (cnt t i, cnt p i) := by
      simp [cnt, hi2, hz]
    have e2 : (((cnt t i).length : Int) < ((cnt p i).length : Int)) = False := eq_false (by have := hp.le i hi2; omega)
    simp only [e1]
    simp_arith [List.length_map, e2, decide_false]
    rw [ev_compF (L := (cnt t i).reverse.zip (cnt p i).reverse) (g := fun q => .tup [.int q.1, .int q.2]) (fun q => decide (q.1 < q.2)) (fun q => .int q.1) (by simp_arith [revD, ← List.map_reverse, zipD_map]; rfl) (by simp; have := hl i hi2; omega) (fun x _ => rfl) (fun x hx S' => by simp_arith) (fun _ _ _ => rfl) (fun x hx _ S' => by simp_arith)]
    have e3 : ((cnt t i).reverse.zip (cnt p i).reverse).filter (fun q => decide (q.1 < q.2)) = [] := by
      rw [List.filter_eq_nil_iff]
      intro q hq
      have := hp.dom i hi2 q hq
      simp
      omega
    simp_arith [e3, eqD_nil]
    exact ⟨trivial, _, _, _, _, rfl⟩
  · obtain ⟨rfl, a, b, c, d, rfl⟩ := hI
    simp_arith
theorem c_check_pins (k : Nat) (S : Store) {ks : List (Int × Int)} {m : Int} {t p : List (List Int)} (hk : KO ks) (ht : TO ks m t) (h2 : TO ks m p) (hp : PO t p) : callF F G (k + 5) 24 [slabD ks m, tabD t, tabD p] S = .ok (tabD p) S := by
  have h6 := hk.most
  have h7 := ht.len
  rw [call_eq ((P.F 24 (by decide))) rfl]
  simp only [f_check_pins, b_check_pins]
  simp_arith [c_is_table P _ _ hk h2, c_has_pins P _ _ (show t.length ≤ 6 by omega) hp (fun i hi => Nat.le_trans (mem_sum t (c := cnt t i) (by unfold cnt; simp [hi])) (Nat.le_trans ht.pages (by decide)))]
theorem c_check_pins0 (k : Nat) (S : Store) {ks : List (Int × Int)} {m : Int} {t : D} (hk : KO ks) : callF F G (k + 5) 24 [slabD ks m, t, .non] S = .ok (tabD (List.replicate ks.length [])) S := by
  rw [call_eq ((P.F 24 (by decide))) rfl]
  simp only [f_check_pins, b_check_pins]
  simp_arith [c_empty P _ _ hk]
theorem c_pinned (k : Nat) (S : Store) {ks : List (Int × Int)} {m : Int} {p : List (List Int)} {i : Nat} (hk : KO ks) (h1 : i < ks.length) (h2 : i < p.length) : callF F G (k + 1) 25 [slabD ks m, tabD p, .int i] S = .ok (.int (pinnedB ks p i)) S := by
  rw [call_eq ((P.F 25 (by decide))) rfl]
  simp only [f_pinned, b_pinned]
  simp_arith [ix_tab h2, ix_kind h1, fpos_kept P.fpos, ix_0, intsD_map, n3, (hk.small _).1, Bool.or_true, if_true, pinnedB]
theorem c_held (k : Nat) (S : Store) {ks : List (Int × Int)} {m : Int} {t p : List (List Int)} {i : Nat} (hk : KO ks) (h1 : i < ks.length) (h2 : i < p.length) (h3 : i < t.length) : callF F G (k + 1) 26 [slabD ks m, tabD t, tabD p, .int i] S = .ok (.int (heldB ks t p i)) S := by
  rw [call_eq ((P.F 26 (by decide))) rfl]
  simp only [f_held, b_held]
  simp_arith [ix_tab h2, ix_tab h3, ix_kind h1, fpos_kept P.fpos, ix_0, List.length_map, n3, (hk.small _).1, Bool.or_true, if_true, heldB]
theorem c_filled (k : Nat) (S : Store) {ks : List (Int × Int)} {m : Int} {t p : List (List Int)} {i : Nat} (hk : KO ks) (h1 : i < ks.length) (h2 : i < p.length) (h3 : i < t.length) : callF F G (k + 2) 27 [slabD ks m, tabD t, tabD p, .int i] S = .ok (.int (filledB ks t p i)) S := by
  rw [call_eq ((P.F 27 (by decide))) rfl]
  simp only [f_filled, b_filled]
  simp_arith [ix_tab h2, ix_tab h3, ix_kind h1, fpos_kept P.fpos, ix_0, List.length_map, n3, (hk.small _).1, (hk.small _).2, Bool.or_true, if_true, c_pinned P _ _ hk h1 h2, filledB]
theorem c_spare (k : Nat) (S : Store) {ks : List (Int × Int)} {m : Int} {t p : List (List Int)} {i : Nat} (hk : KO ks) (h1 : i < ks.length) (h2 : i < p.length) (h3 : i < t.length) : callF F G (k + 3) 28 [slabD ks m, tabD t, tabD p, .int i] S = .ok (.int (spareB ks t p i)) S := by
  rw [call_eq ((P.F 28 (by decide))) rfl]
  simp only [f_spare, b_spare]
  simp_arith [c_filled P _ _ hk h1 h2 h3, c_held P _ _ hk h1 h2 h3, spareB]
theorem c_grown (k : Nat) (S : Store) {t p : List (List Int)} (h6 : t.length ≤ 6) (hp : p.length = t.length) : callF F G (k + 1) 29 [tabD t, tabD p] S = .ok (.lst ((grownI t p).map .int)) S := by
  rw [call_eq ((P.F 29 (by decide))) rfl]
  simp only [f_grown_classes, b_grown_classes]
  simp_arith
  rw [ev_compF (L := List.range t.length) (g := fun (i : Nat) => .int (i : Int)) (fun i => decide ((cnt p i).length < (cnt t i).length)) (fun i => .int (i : Int)) (evI_rng1 (n := t.length) (by simp_arith [List.length_map]; rfl) (by omega)) (by simp; omega) (fun x _ => rfl) (fun x hx S' => ?_) (fun _ _ _ => rfl) (fun x hx _ S' => by simp_arith)]
  · simp_arith [grownI, grownB, List.map_map, Function.comp_def]
  · have h1 := List.mem_range.mp hx
    simp_arith [ix_tab h1, ix_tab (show x < p.length by omega), List.length_map]
    simp
end
end SP
end
section
set_option Elab.async false
set_option linter.all false
set_option autoImplicit false
set_option maxRecDepth 100000
set_option maxHeartbeats 2000000
namespace SP
open PySem
local macro_rules
  | `(tactic| simp_arith) => `(tactic| simp -dsimp -implicitDefEqProofs only [q_evE_var, q_evE_frz, q_evE_non, q_evE_bl, q_evE_int, q_evE_neg, q_evE_str, q_evE_cst, q_evE_tt, q_evE_bin, q_evE_cmp, q_evE_cmp2, q_evE_isN, q_evE_notN, q_evE_and, q_evE_or, q_evE_not, q_evE_ite, q_evE_tup, q_evE_lst, q_evE_new, q_evE_dic0, q_evE_ix, q_evE_slA, q_evE_slB, q_evE_slC, q_evE_rev, q_evE_fld, q_evE_call, q_evE_callK, q_evE_meth, q_evE_mk, q_evE_mkX, q_evE_mkXK, q_evE_thw, q_evE_sset, q_evE_addN, q_evE_lstN, q_evE_lrng, q_evE_trng, q_evE_bf, q_evE_isi, q_evE_isis, q_evEs_nil, q_evEs_cons, q_evI_of, q_evI_enum, q_evI_zip, q_exS_set, q_exS_sets, q_exS_aug, q_exS_put, q_exS_sfld, q_exS_app, q_exS_ext, q_exS_rem, q_exS_clr, q_exS_fz, q_exS_exp, q_exS_ret, q_exS_retN, q_exS_pass, q_exS_ife, q_exS_rse, q_exSs_nil, q_exSs_cons, Nat.reduceSub, List.length_cons, List.length_nil, Nat.reduceAdd, Nat.zero_add, R.bnd_ok, R.fln_ok, R.bind_ok, R.fl_ok, R.opt_some, R.noEx_ok, Fl.opt_some, Option.map_some, Option.bind_some, List.map_cons, List.map_nil, List.cons_append, List.nil_append, List.replicate_zero, List.replicate_succ, List.getElem?_cons_zero, List.getElem?_cons_succ, List.set_cons_zero, List.set_cons_succ, bindT, bindTs, cf_call, rdD, cmpO, cmpD, n1, n2, b1, b2, b3, b4, b5, b6, b7, b8, b9, b10, b11, b12, b13, b14, b15, b16, b17, ty1, ty2, ty3, ty4, ty5, ty6, ty7, z0, z1, z2, z3, z4, z5, z6, z7, z8, z9, z10, z11, z12, z13, NxI_nx, slotsT, slotsTs, wipeE, Fl.thn_nx, Fl.thn_rt, Fl.thn_ex, R.fln_ex, R.bnd_ex, R.fl_ex, R.bind_ex, retF_nx, retF_rt, retF_ex, retD_non, retD_bl, retD_int, retD_str, retD_tup, retD_lst, retD_obj, take_len, isNon, itemsD, Bool.not_true, Bool.not_false, Bool.and_true, Bool.and_false, Bool.true_and, Bool.false_and, ixD])
  | `(tactic| simp_arith [$ls,*]) => `(tactic| simp -dsimp -implicitDefEqProofs only [q_evE_var, q_evE_frz, q_evE_non, q_evE_bl, q_evE_int, q_evE_neg, q_evE_str, q_evE_cst, q_evE_tt, q_evE_bin, q_evE_cmp, q_evE_cmp2, q_evE_isN, q_evE_notN, q_evE_and, q_evE_or, q_evE_not, q_evE_ite, q_evE_tup, q_evE_lst, q_evE_new, q_evE_dic0, q_evE_ix, q_evE_slA, q_evE_slB, q_evE_slC, q_evE_rev, q_evE_fld, q_evE_call, q_evE_callK, q_evE_meth, q_evE_mk, q_evE_mkX, q_evE_mkXK, q_evE_thw, q_evE_sset, q_evE_addN, q_evE_lstN, q_evE_lrng, q_evE_trng, q_evE_bf, q_evE_isi, q_evE_isis, q_evEs_nil, q_evEs_cons, q_evI_of, q_evI_enum, q_evI_zip, q_exS_set, q_exS_sets, q_exS_aug, q_exS_put, q_exS_sfld, q_exS_app, q_exS_ext, q_exS_rem, q_exS_clr, q_exS_fz, q_exS_exp, q_exS_ret, q_exS_retN, q_exS_pass, q_exS_ife, q_exS_rse, q_exSs_nil, q_exSs_cons, Nat.reduceSub, List.length_cons, List.length_nil, Nat.reduceAdd, Nat.zero_add, R.bnd_ok, R.fln_ok, R.bind_ok, R.fl_ok, R.opt_some, R.noEx_ok, Fl.opt_some, Option.map_some, Option.bind_some, List.map_cons, List.map_nil, List.cons_append, List.nil_append, List.replicate_zero, List.replicate_succ, List.getElem?_cons_zero, List.getElem?_cons_succ, List.set_cons_zero, List.set_cons_succ, bindT, bindTs, cf_call, rdD, cmpO, cmpD, n1, n2, b1, b2, b3, b4, b5, b6, b7, b8, b9, b10, b11, b12, b13, b14, b15, b16, b17, ty1, ty2, ty3, ty4, ty5, ty6, ty7, z0, z1, z2, z3, z4, z5, z6, z7, z8, z9, z10, z11, z12, z13, NxI_nx, slotsT, slotsTs, wipeE, Fl.thn_nx, Fl.thn_rt, Fl.thn_ex, R.fln_ex, R.bnd_ex, R.fl_ex, R.bind_ex, retF_nx, retF_rt, retF_ex, retD_non, retD_bl, retD_int, retD_str, retD_tup, retD_lst, retD_obj, take_len, isNon, itemsD, Bool.not_true, Bool.not_false, Bool.and_true, Bool.and_false, Bool.true_and, Bool.false_and, ixD, $ls,*])
def minS (xs : List Int) : Int := (minL xs).getD 0
theorem minL_ne {xs : List Int} (h : xs ≠ []) : minL xs = some (minS xs) := by
  cases xs with
  | nil => exact absurd rfl h
  | cons x xs => rfl
/-- a class's number -/
def InR (t : List (List Int)) (x : Int) : Prop := 0 ≤ x ∧ x.toNat < t.length
def keyO (ks : List (Int × Int)) (t p : List (List Int)) (x : Int) : Int × Int := (0 - spareB ks t p x.toNat, x)
def orderI (ks : List (Int × Int)) (t p : List (List Int)) : List Int := (grownI t p).mergeSort fun a b => leP (keyO ks t p a) (keyO ks t p b)
def shown (ks : List (Int × Int)) (t p : List (List Int)) (some : List Int) : Int := liveB ks p + (some.map fun x => heldB ks t p x.toNat).sum + minS (some.map fun x => spareB ks t p x.toNat)
def leastStep (ks : List (Int × Int)) (t p : List (List Int)) (s : (Int × List Int) × List Int) (x : Int) : (Int × List Int) × List Int :=
  if s.1.1 < shown ks t p (s.2 ++ [x]) then ((shown ks t p (s.2 ++ [x]), sortI (s.2 ++ [x])), s.2 ++ [x]) else (s.1, s.2 ++ [x])
def leastAt (ks : List (Int × Int)) (t p : List (List Int)) (L : List Int) : (Int × List Int) × List Int := L.foldl (leastStep ks t p) ((liveB ks t, []), [])
def leastB (ks : List (Int × Int)) (t p : List (List Int)) : Int × List Int := (leastAt ks t p (orderI ks t p)).1
/-- how much is held behind i of the order, the pins with it -/
def totAt (ks : List (Int × Int)) (t p : List (List Int)) (i : Nat) : Int := liveB ks p + (((orderI ks t p).take i).map fun x => heldB ks t p x.toNat).sum
def stuckQ (ks : List (Int × Int)) (m : Int) (t p : List (List Int)) (i : Nat) : Bool := decide (m < totAt ks t p (i + 1) + spareB ks t p ((orderI ks t p).getD i 0).toNat)
def stuckAt (ks : List (Int × Int)) (m : Int) (t p : List (List Int)) : Option Nat := (List.range (orderI ks t p).length).find? (stuckQ ks m t p)
def orderR (ks : List (Int × Int)) (m : Int) (t p : List (List Int)) : D := match stuckAt ks m t p with
  | some i => .tup [.str "stuck", tupI (sortI ((orderI ks t p).take (i + 1)))]
  | none => .tup [.str "order", tupI (orderI ks t p)]
theorem grown_in {t p : List (List Int)} {x : Int} (h : x ∈ grownI t p) : InR t x := by
  obtain ⟨i, hi, rfl⟩ := List.mem_map.mp h
  have := List.mem_range.mp (List.mem_filter.mp hi).1
  exact ⟨by omega, by simpa using this⟩
theorem grown_len (t p : List (List Int)) : (grownI t p).length ≤ t.length := by
  unfold grownI grownB
  rw [List.length_map]
  exact Nat.le_trans (List.length_filter_le _ _) (by simp)
theorem order_perm (ks : List (Int × Int)) (t p : List (List Int)) : (orderI ks t p).Perm (grownI t p) := List.mergeSort_perm _ _
theorem order_in {ks : List (Int × Int)} {t p : List (List Int)} {x : Int} (h : x ∈ orderI ks t p) : InR t x := grown_in ((order_perm ks t p).mem_iff.mp h)
theorem order_len (ks : List (Int × Int)) (t p : List (List Int)) : (orderI ks t p).length ≤ t.length := by
  rw [(order_perm ks t p).length_eq]
  exact grown_len t p
section
variable {F : Nat → Option Fn} {G : Cls} (P : PG F G)
include P
section
variable {ks : List (Int × Int)} {m : Int} {t p : List (List Int)} (hk : KO ks) (ht : t.length = ks.length) (hp : p.length = t.length)
include hk ht hp
theorem c_heldZ (k : Nat) (S : Store) {x : Int} (h : InR t x) : callF F G (k + 1) 26 [slabD ks m, tabD t, tabD p, .int x] S = .ok (.int (heldB ks t p x.toNat)) S := by
  obtain ⟨i, rfl⟩ := Int.eq_ofNat_of_zero_le h.1
  have h2 := h.2
  rw [Int.toNat_natCast] at h2 ⊢
  exact c_held P k S hk (by omega) (by omega) (by omega)
theorem c_spareZ (k : Nat) (S : Store) {x : Int} (h : InR t x) : callF F G (k + 3) 28 [slabD ks m, tabD t, tabD p, .int x] S = .ok (.int (spareB ks t p x.toNat)) S := by
  obtain ⟨i, rfl⟩ := Int.eq_ofNat_of_zero_le h.1
  have h2 := h.2
  rw [Int.toNat_natCast] at h2 ⊢
  exact c_spare P k S hk (by omega) (by omega) (by omega)
theorem c_shown_by (k : Nat) (S : Store) {some : List Int} (hs : some ≠ []) (hl : some.length ≤ 1000000) (h : ∀ x ∈ some, InR t x) : callF F G (k + 4) 41 [slabD ks m, tabD t, tabD p, tupI some] S = .ok (.int (shown ks t p some)) S := by
  rw [call_eq ((P.F 41 (by decide))) rfl]
  simp only [f_shown_by, b_shown_by]
  simp_arith [c_live_bytes P _ _ hk (show p.length ≤ ks.length by omega)]
  rw [ev_compI (L := some) (g := .int) (fun x => heldB ks t p x.toNat) (by simp_arith; rfl) hl (fun x _ => rfl) (fun x hx S' => by simp_arith [c_heldZ P hk ht hp _ _ (h x hx)])]
  simp_arith [intsD_map]
  rw [ev_compI (L := some) (g := .int) (fun x => spareB ks t p x.toNat) (by simp_arith; rfl) hl (fun x _ => rfl) (fun x hx S' => by simp_arith [c_spareZ P hk ht hp _ _ (h x hx)])]
  simp_arith [intsD_map, minL_ne (show some.map (fun x => spareB ks t p x.toNat) ≠ [] by simpa using hs), shown]
theorem c_order (k : Nat) (th : Store → R D) (S : Store) {ρ : Env} {i : Nat} {e : Ex} {e1 : evE (cfAt F G (k + 3) th) G e ρ S = .ok (.lst ((grownI t p).map .int)) S} {a b c d : Ex}
    (h1 : ∀ x S, evE (cfAt F G (k + 3) th) G a (ρ.set i (some (.int x))) S = .ok (slabD ks m) S) (h2 : ∀ x S, evE (cfAt F G (k + 3) th) G b (ρ.set i (some (.int x))) S = .ok (tabD t) S) (h3 : ∀ x S, evE (cfAt F G (k + 3) th) G c (ρ.set i (some (.int x))) S = .ok (tabD p) S) (h4 : ∀ x S, evE (cfAt F G (k + 3) th) G d (ρ.set i (some (.int x))) S = .ok (.int x) S) :
    evE (cfAt F G (k + 3) th) G (.sortK i e (.tup (.cons (.bin .sub (.int 0) (.call 28 (.cons a (.cons b (.cons c (.cons d .nil)))))) (.cons d .nil)))) ρ S = .ok (.lst ((orderI ks t p).map .int)) S := by
  rw [ev_sortK (keyO ks t p) e1 (by have := grown_len t p; have := hk.most; omega) (fun x hx S' => ?_)]
  · rfl
  · simp_arith [h1, h2, h3, h4, c_spareZ P hk ht hp _ _ (grown_in hx), keyO]
theorem c_least_bytes (k : Nat) (S : Store) : callF F G (k + 5) 42 [slabD ks m, tabD t, tabD p] S = .ok (.tup [.int (leastB ks t p).1, tupI (leastB ks t p).2]) S := by
  have h6 := hk.most
  have hol := order_len ks t p
  rw [call_eq ((P.F 42 (by decide))) rfl]
  simp only [f_least_bytes, b_least_bytes]
  simp_arith [c_live_bytes P _ _ hk (show t.length ≤ ks.length by omega)]
  have es : ∀ i, (leastAt ks t p ((orderI ks t p).take i)).2 = (orderI ks t p).take i := fun i => by
    have : ∀ (L : List Int) (s : (Int × List Int) × List Int), (L.foldl (leastStep ks t p) s).2 = s.2 ++ L := fun L => by
      induction L with
      | nil => intro s; simp
      | cons x L ih =>
        intro s
        rw [List.foldl_cons, ih]
        unfold leastStep
        split <;> simp
    unfold leastAt
    rw [this]
    rfl
  refine ret_for (L := orderI ks t p) (g := .int) (Inv := fun i ρ S2 => S2 = S ∧ ∃ a b c, ρ = [some (slabD ks m), some (tabD t), some (tabD p), some (.tup [.int (leastAt ks t p ((orderI ks t p).take i)).1.1, tupI (leastAt ks t p ((orderI ks t p).take i)).1.2]), some (tupI ((orderI ks t p).take i)), a, b, c]) ?_ ⟨rfl, _, _, _, rfl⟩ (fun i hi ρ S2 hI => ?_) (fun ρ2 S2 hI => ?_)
  · simp_arith
    rw [c_order (m := m) P hk ht hp (k + 1) _ S (e1 := by simp_arith [c_grown P _ _ (show t.length ≤ 6 by omega) hp]) (fun x S => by simp_arith) (fun x S => by simp_arith) (fun x S => by simp_arith) (fun x S => by simp_arith)]
    simp_arith
  · obtain ⟨rfl, a, b, c, rfl⟩ := hI
    refine ⟨_, rfl, ?_⟩
    have e2 : (orderI ks t p).take (i + 1) = (orderI ks t p).take i ++ [(orderI ks t p)[i]] := List.take_succ_eq_append_getElem hi
    have e3 : (((orderI ks t p).take i).map D.int ++ [D.int (orderI ks t p)[i]]) = ((orderI ks t p).take (i + 1)).map D.int := by rw [e2, List.map_append]; rfl
    have e4 : (orderI ks t p).take (i + 1) ≠ [] := by rw [e2]; exact List.append_ne_nil_of_right_ne_nil _ (by intro z; cases z)
    have e5 : ∀ x ∈ (orderI ks t p).take (i + 1), InR t x := fun x hx => order_in (List.mem_of_mem_take hx)
    have e6 : ((orderI ks t p).take (i + 1)).length ≤ 1000000 := by simp; omega
    have e7 : leastAt ks t p ((orderI ks t p).take (i + 1)) = leastStep ks t p (leastAt ks t p ((orderI ks t p).take i)) (orderI ks t p)[i] := by
      rw [e2]
      unfold leastAt
      rw [List.foldl_append]
      rfl
    simp_arith [bin_addT (xs := ((orderI ks t p).take i).map D.int) (ys := [D.int (orderI ks t p)[i]]) (by simp; omega), e3, c_shown_by P hk ht hp _ _ e4 e6 e5, ix_0]
    by_cases hlt : (leastAt ks t p ((orderI ks t p).take i)).1.1 < shown ks t p ((orderI ks t p).take (i + 1))
    · have e8 : (leastAt ks t p ((orderI ks t p).take (i + 1))).1 = (shown ks t p ((orderI ks t p).take (i + 1)), sortI ((orderI ks t p).take (i + 1))) := by
        rw [e7]
        unfold leastStep
        rw [es i, ← e2, if_pos hlt]
      simp_arith [hlt, decide_true, intsD_map]
      rw [e8]
      exact ⟨trivial, _, _, _, rfl⟩
    · have e8 : (leastAt ks t p ((orderI ks t p).take (i + 1))).1 = (leastAt ks t p ((orderI ks t p).take i)).1 := by
        rw [e7]
        unfold leastStep
        rw [es i, ← e2, if_neg hlt]
      simp_arith [hlt, decide_false]
      rw [e8]
      exact ⟨trivial, _, _, _, rfl⟩
  · obtain ⟨rfl, a, b, c, rfl⟩ := hI
    simp_arith [List.take_length, leastB]
end
end
end SP
end
section
set_option Elab.async false
set_option linter.all false
set_option autoImplicit false
set_option maxRecDepth 100000
set_option maxHeartbeats 2000000
namespace SP
open PySem
local macro_rules
  | `(tactic| simp_arith) => `(tactic| simp -dsimp -implicitDefEqProofs only [q_evE_var, q_evE_frz, q_evE_non, q_evE_bl, q_evE_int, q_evE_neg, q_evE_str, q_evE_cst, q_evE_tt, q_evE_bin, q_evE_cmp, q_evE_cmp2, q_evE_isN, q_evE_notN, q_evE_and, q_evE_or, q_evE_not, q_evE_ite, q_evE_tup, q_evE_lst, q_evE_new, q_evE_dic0, q_evE_ix, q_evE_slA, q_evE_slB, q_evE_slC, q_evE_rev, q_evE_fld, q_evE_call, q_evE_callK, q_evE_meth, q_evE_mk, q_evE_mkX, q_evE_mkXK, q_evE_thw, q_evE_sset, q_evE_addN, q_evE_lstN, q_evE_lrng, q_evE_trng, q_evE_bf, q_evE_isi, q_evE_isis, q_evEs_nil, q_evEs_cons, q_evI_of, q_evI_enum, q_evI_zip, q_exS_set, q_exS_sets, q_exS_aug, q_exS_put, q_exS_sfld, q_exS_app, q_exS_ext, q_exS_rem, q_exS_clr, q_exS_fz, q_exS_exp, q_exS_ret, q_exS_retN, q_exS_pass, q_exS_ife, q_exS_rse, q_exSs_nil, q_exSs_cons, Nat.reduceSub, List.length_cons, List.length_nil, Nat.reduceAdd, Nat.zero_add, R.bnd_ok, R.fln_ok, R.bind_ok, R.fl_ok, R.opt_some, R.noEx_ok, Fl.opt_some, Option.map_some, Option.bind_some, List.map_cons, List.map_nil, List.cons_append, List.nil_append, List.replicate_zero, List.replicate_succ, List.getElem?_cons_zero, List.getElem?_cons_succ, List.set_cons_zero, List.set_cons_succ, bindT, bindTs, cf_call, rdD, cmpO, cmpD, n1, n2, b1, b2, b3, b4, b5, b6, b7, b8, b9, b10, b11, b12, b13, b14, b15, b16, b17, ty1, ty2, ty3, ty4, ty5, ty6, ty7, z0, z1, z2, z3, z4, z5, z6, z7, z8, z9, z10, z11, z12, z13, NxI_nx, slotsT, slotsTs, wipeE, Fl.thn_nx, Fl.thn_rt, Fl.thn_ex, R.fln_ex, R.bnd_ex, R.fl_ex, R.bind_ex, retF_nx, retF_rt, retF_ex, retD_non, retD_bl, retD_int, retD_str, retD_tup, retD_lst, retD_obj, take_len, isNon, itemsD, Bool.not_true, Bool.not_false, Bool.and_true, Bool.and_false, Bool.true_and, Bool.false_and, ixD])
  | `(tactic| simp_arith [$ls,*]) => `(tactic| simp -dsimp -implicitDefEqProofs only [q_evE_var, q_evE_frz, q_evE_non, q_evE_bl, q_evE_int, q_evE_neg, q_evE_str, q_evE_cst, q_evE_tt, q_evE_bin, q_evE_cmp, q_evE_cmp2, q_evE_isN, q_evE_notN, q_evE_and, q_evE_or, q_evE_not, q_evE_ite, q_evE_tup, q_evE_lst, q_evE_new, q_evE_dic0, q_evE_ix, q_evE_slA, q_evE_slB, q_evE_slC, q_evE_rev, q_evE_fld, q_evE_call, q_evE_callK, q_evE_meth, q_evE_mk, q_evE_mkX, q_evE_mkXK, q_evE_thw, q_evE_sset, q_evE_addN, q_evE_lstN, q_evE_lrng, q_evE_trng, q_evE_bf, q_evE_isi, q_evE_isis, q_evEs_nil, q_evEs_cons, q_evI_of, q_evI_enum, q_evI_zip, q_exS_set, q_exS_sets, q_exS_aug, q_exS_put, q_exS_sfld, q_exS_app, q_exS_ext, q_exS_rem, q_exS_clr, q_exS_fz, q_exS_exp, q_exS_ret, q_exS_retN, q_exS_pass, q_exS_ife, q_exS_rse, q_exSs_nil, q_exSs_cons, Nat.reduceSub, List.length_cons, List.length_nil, Nat.reduceAdd, Nat.zero_add, R.bnd_ok, R.fln_ok, R.bind_ok, R.fl_ok, R.opt_some, R.noEx_ok, Fl.opt_some, Option.map_some, Option.bind_some, List.map_cons, List.map_nil, List.cons_append, List.nil_append, List.replicate_zero, List.replicate_succ, List.getElem?_cons_zero, List.getElem?_cons_succ, List.set_cons_zero, List.set_cons_succ, bindT, bindTs, cf_call, rdD, cmpO, cmpD, n1, n2, b1, b2, b3, b4, b5, b6, b7, b8, b9, b10, b11, b12, b13, b14, b15, b16, b17, ty1, ty2, ty3, ty4, ty5, ty6, ty7, z0, z1, z2, z3, z4, z5, z6, z7, z8, z9, z10, z11, z12, z13, NxI_nx, slotsT, slotsTs, wipeE, Fl.thn_nx, Fl.thn_rt, Fl.thn_ex, R.fln_ex, R.bnd_ex, R.fl_ex, R.bind_ex, retF_nx, retF_rt, retF_ex, retD_non, retD_bl, retD_int, retD_str, retD_tup, retD_lst, retD_obj, take_len, isNon, itemsD, Bool.not_true, Bool.not_false, Bool.and_true, Bool.and_false, Bool.true_and, Bool.false_and, ixD, $ls,*])
theorem cutL_hi {α : Type} (xs : List α) (j : Nat) : cutL xs none (some (j : Int)) = xs.take j := by
  unfold cutL
  rw [HT.sIx_none, HT.sIx_nat]
  simp [List.take_eq_take_iff]
theorem eq_str (a b : Str) (ha : (PyData.str a).canLay0 = true) (hb : (PyData.str b).canLay0 = true) : eqD (.str a) (.str b) = some (a == b) := by
  have h : ∀ x : Str, (PyData.str x).canLay0 = true → okPy (.str x) = true := fun x hx => by
    unfold okPy
    rw [hx]
    simp only [PyData.depth]
    rfl
  simp only [eqD, D.py, Option.bind_some, h a ha, h b hb, Bool.and_self, if_true, PyData.eqv]
/-- pins that are numbers of classes where pages are more than pins -/
structure SO (t p : List (List Int)) (some : List Int) : Prop where
  all : ∀ x ∈ some, x ∈ grownI t p
  nd : some.Nodup
section
variable {F : Nat → Option Fn} {G : Cls} (P : PG F G)
include P
section
variable {ks : List (Int × Int)} {m : Int} {t p : List (List Int)} (hk : KO ks) (ht : TO ks m t) (hp : TO ks m p) (ho : PO t p)
include hk ht hp ho
/-- order_of, its pins given as qd, which check_pins reads as p -/
theorem c_order_of (k : Nat) (S : Store) (qd : D) (hq : ∀ k S, callF F G (k + 5) 24 [slabD ks m, tabD t, qd] S = .ok (tabD p) S) : callF F G (k + 6) 30 [slabD ks m, tabD t, qd] S = .ok (orderR ks m t p) S := by
  have h6 := hk.most
  have h7 := ht.len
  have h8 := ho.len
  have hol := order_len ks t p
  rw [call_eq ((P.F 30 (by decide))) rfl]
  simp only [f_order_of, b_order_of]
  simp_arith [c_check_table P _ _ hk ht, hq]
  rw [c_order (m := m) P hk h7 h8 (k + 2) _ S (e1 := by simp_arith [c_grown P _ _ (show t.length ≤ 6 by omega) h8]) (fun x S => by simp_arith) (fun x S => by simp_arith) (fun x S => by simp_arith) (fun x S => by simp_arith)]
  simp_arith [c_live_bytes P _ _ hk (show p.length ≤ ks.length by omega)]
  refine ret_forQ (L := (orderI ks t p).zipIdx) (g := fun q => .tup [.int q.2, .int q.1]) (Inv := fun i ρ S2 => S2 = S ∧ ∃ a b, ρ = [some (slabD ks m), some (tabD t), some (tabD p), some (.lst ((orderI ks t p).map .int)), a, some (.int (totAt ks t p i)), b]) (stuckQ ks m t p) (fun i => .tup [.str "stuck", tupI (sortI ((orderI ks t p).take (i + 1)))]) (by simp_arith; rw [enumD_map]) ⟨rfl, none, none, by rw [show totAt ks t p 0 = liveB ks p from by simp [totAt]]⟩ (fun i hi ρ S2 hI => ?_) (fun hq ρ2 S2 hI => ?_) (fun i hi hqi hq => ?_)
  · obtain ⟨rfl, a, b, rfl⟩ := hI
    have hi : i < (orderI ks t p).length := by simpa using hi
    refine ⟨_, rfl, ?_⟩
    have e1 : ((orderI ks t p).zipIdx)[i] = ((orderI ks t p)[i], i) := by simp [List.getElem_zipIdx]
    have e2 : InR t (orderI ks t p)[i] := order_in (List.getElem_mem hi)
    have e3 : totAt ks t p i + heldB ks t p ((orderI ks t p)[i]).toNat = totAt ks t p (i + 1) := by
      unfold totAt
      rw [List.take_succ_eq_append_getElem hi, List.map_append, List.sum_append]
      simp only [List.map_cons, List.map_nil, List.sum_cons, List.sum_nil]
      omega
    have e4 : (orderI ks t p).getD i 0 = (orderI ks t p)[i] := by simp [hi]
    have e5 : stuckQ ks m t p i = decide (m < totAt ks t p (i + 1) + spareB ks t p ((orderI ks t p)[i]).toNat) := by
      unfold stuckQ
      rw [e4]
    have e6 : cutL ((orderI ks t p).map D.int) none (some ((i : Int) + 1)) = ((orderI ks t p).take (i + 1)).map D.int := by
      have := cutL_hi ((orderI ks t p).map D.int) (i + 1)
      rw [show ((i + 1 : Nat) : Int) = (i : Int) + 1 by omega] at this
      rw [this, List.map_take]
    simp only [e1]
    constructor
    · intro hf
      rw [e5] at hf
      simp_arith [c_heldZ P hk h7 h8 _ _ e2, c_spareZ P hk h7 h8 _ _ e2, e3, fpos_most P.fpos, hf]
      exact ⟨trivial, _, _, rfl⟩
    · intro hf
      rw [e5] at hf
      simp_arith [c_heldZ P hk h7 h8 _ _ e2, c_spareZ P hk h7 h8 _ _ e2, e3, fpos_most P.fpos, hf, slD, e6, intsD_map]
  · obtain ⟨rfl, a, b, rfl⟩ := hI
    have : stuckAt ks m t p = none := by
      unfold stuckAt
      rw [List.find?_eq_none]
      intro x hx
      have := List.mem_range.mp hx
      simp [hq x (by simpa using this)]
    simp_arith [orderR, this]
  · have : stuckAt ks m t p = some i := by
      unfold stuckAt
      rw [List.find?_range_eq_some]
      refine ⟨hqi, List.mem_range.mpr (by simpa using hi), fun j hj => by simp [hq j hj]⟩
    simp_arith [orderR, this]
theorem c_check_numbers (k : Nat) (S : Store) {some : List Int} (hs : SO t p some) : callF F G (k + 3) 33 [tabD t, tabD p, tupI some] S = .ok .non S := by
  have h6 := hk.most
  have h7 := ht.len
  have h8 := ho.len
  rw [call_eq ((P.F 33 (by decide))) rfl]
  simp only [f_check_numbers, b_check_numbers]
  simp_arith [c_grown P _ _ (show t.length ≤ 6 by omega) h8]
  refine ret_for (L := some.zipIdx) (g := fun q => .tup [.int q.2, .int q.1]) (Inv := fun i ρ S2 => S2 = S ∧ ∃ a b, ρ = [Option.some (tabD t), Option.some (tabD p), Option.some (tupI some), Option.some (.lst ((grownI t p).map .int)), a, b]) (by simp_arith; rw [enumD_map]) ⟨rfl, _, _, rfl⟩ (fun i hi ρ S2 hI => ?_) (fun ρ2 S2 hI => ?_)
  · obtain ⟨rfl, a, b, rfl⟩ := hI
    have hi : i < some.length := by simpa using hi
    refine ⟨_, rfl, ?_⟩
    have e1 : (some.zipIdx)[i] = (some[i], i) := by simp [List.getElem_zipIdx]
    have e2 := hs.all _ (List.getElem_mem hi)
    have e3 := grown_in e2
    have e4 : decide ((0 : Int) ≤ some[i]) = true := decide_eq_true e3.1
    have e5 : decide (some[i] ≤ (t.length : Int) - 1) = true := decide_eq_true (by have := e3.2; have := e3.1; omega)
    have e6 : cutL (some.map D.int) none (Option.some (i : Int)) = (some.take i).map D.int := by rw [cutL_hi, List.map_take]
    have e7 : decide (some[i] ∈ some.take i) = false := decide_eq_false (fun h => by
      have := hs.nd
      obtain ⟨j, hj, e⟩ := List.mem_take_iff_getElem.mp h
      exact List.pairwise_iff_getElem.mp this j i (by omega) hi (by omega) e)
    simp only [e1]
    simp_arith [c_is_from P, List.length_map, e4, e5, slD, e6, inD_int, e7, decide_eq_true e2]
    exact ⟨trivial, _, _, rfl⟩
  · obtain ⟨rfl, a, b, rfl⟩ := hI
    simp_arith
end
end
end SP
end
section
set_option Elab.async false
set_option linter.all false
set_option autoImplicit false
set_option maxRecDepth 100000
set_option maxHeartbeats 2000000
namespace SP
open PySem
local macro_rules
  | `(tactic| simp_arith) => `(tactic| simp -dsimp -implicitDefEqProofs only [q_evE_var, q_evE_frz, q_evE_non, q_evE_bl, q_evE_int, q_evE_neg, q_evE_str, q_evE_cst, q_evE_tt, q_evE_bin, q_evE_cmp, q_evE_cmp2, q_evE_isN, q_evE_notN, q_evE_and, q_evE_or, q_evE_not, q_evE_ite, q_evE_tup, q_evE_lst, q_evE_new, q_evE_dic0, q_evE_ix, q_evE_slA, q_evE_slB, q_evE_slC, q_evE_rev, q_evE_fld, q_evE_call, q_evE_callK, q_evE_meth, q_evE_mk, q_evE_mkX, q_evE_mkXK, q_evE_thw, q_evE_sset, q_evE_addN, q_evE_lstN, q_evE_lrng, q_evE_trng, q_evE_bf, q_evE_isi, q_evE_isis, q_evEs_nil, q_evEs_cons, q_evI_of, q_evI_enum, q_evI_zip, q_exS_set, q_exS_sets, q_exS_aug, q_exS_put, q_exS_sfld, q_exS_app, q_exS_ext, q_exS_rem, q_exS_clr, q_exS_fz, q_exS_exp, q_exS_ret, q_exS_retN, q_exS_pass, q_exS_ife, q_exS_rse, q_exSs_nil, q_exSs_cons, Nat.reduceSub, List.length_cons, List.length_nil, Nat.reduceAdd, Nat.zero_add, R.bnd_ok, R.fln_ok, R.bind_ok, R.fl_ok, R.opt_some, R.noEx_ok, Fl.opt_some, Option.map_some, Option.bind_some, List.map_cons, List.map_nil, List.cons_append, List.nil_append, List.replicate_zero, List.replicate_succ, List.getElem?_cons_zero, List.getElem?_cons_succ, List.set_cons_zero, List.set_cons_succ, bindT, bindTs, cf_call, rdD, cmpO, cmpD, n1, n2, b1, b2, b3, b4, b5, b6, b7, b8, b9, b10, b11, b12, b13, b14, b15, b16, b17, ty1, ty2, ty3, ty4, ty5, ty6, ty7, z0, z1, z2, z3, z4, z5, z6, z7, z8, z9, z10, z11, z12, z13, NxI_nx, slotsT, slotsTs, wipeE, Fl.thn_nx, Fl.thn_rt, Fl.thn_ex, R.fln_ex, R.bnd_ex, R.fl_ex, R.bind_ex, retF_nx, retF_rt, retF_ex, retD_non, retD_bl, retD_int, retD_str, retD_tup, retD_lst, retD_obj, take_len, isNon, itemsD, Bool.not_true, Bool.not_false, Bool.and_true, Bool.and_false, Bool.true_and, Bool.false_and, ixD])
  | `(tactic| simp_arith [$ls,*]) => `(tactic| simp -dsimp -implicitDefEqProofs only [q_evE_var, q_evE_frz, q_evE_non, q_evE_bl, q_evE_int, q_evE_neg, q_evE_str, q_evE_cst, q_evE_tt, q_evE_bin, q_evE_cmp, q_evE_cmp2, q_evE_isN, q_evE_notN, q_evE_and, q_evE_or, q_evE_not, q_evE_ite, q_evE_tup, q_evE_lst, q_evE_new, q_evE_dic0, q_evE_ix, q_evE_slA, q_evE_slB, q_evE_slC, q_evE_rev, q_evE_fld, q_evE_call, q_evE_callK, q_evE_meth, q_evE_mk, q_evE_mkX, q_evE_mkXK, q_evE_thw, q_evE_sset, q_evE_addN, q_evE_lstN, q_evE_lrng, q_evE_trng, q_evE_bf, q_evE_isi, q_evE_isis, q_evEs_nil, q_evEs_cons, q_evI_of, q_evI_enum, q_evI_zip, q_exS_set, q_exS_sets, q_exS_aug, q_exS_put, q_exS_sfld, q_exS_app, q_exS_ext, q_exS_rem, q_exS_clr, q_exS_fz, q_exS_exp, q_exS_ret, q_exS_retN, q_exS_pass, q_exS_ife, q_exS_rse, q_exSs_nil, q_exSs_cons, Nat.reduceSub, List.length_cons, List.length_nil, Nat.reduceAdd, Nat.zero_add, R.bnd_ok, R.fln_ok, R.bind_ok, R.fl_ok, R.opt_some, R.noEx_ok, Fl.opt_some, Option.map_some, Option.bind_some, List.map_cons, List.map_nil, List.cons_append, List.nil_append, List.replicate_zero, List.replicate_succ, List.getElem?_cons_zero, List.getElem?_cons_succ, List.set_cons_zero, List.set_cons_succ, bindT, bindTs, cf_call, rdD, cmpO, cmpD, n1, n2, b1, b2, b3, b4, b5, b6, b7, b8, b9, b10, b11, b12, b13, b14, b15, b16, b17, ty1, ty2, ty3, ty4, ty5, ty6, ty7, z0, z1, z2, z3, z4, z5, z6, z7, z8, z9, z10, z11, z12, z13, NxI_nx, slotsT, slotsTs, wipeE, Fl.thn_nx, Fl.thn_rt, Fl.thn_ex, R.fln_ex, R.bnd_ex, R.fl_ex, R.bind_ex, retF_nx, retF_rt, retF_ex, retD_non, retD_bl, retD_int, retD_str, retD_tup, retD_lst, retD_obj, take_len, isNon, itemsD, Bool.not_true, Bool.not_false, Bool.and_true, Bool.and_false, Bool.true_and, Bool.false_and, ixD, $ls,*])
/-! ### the least of ints -/
theorem foldl_min (x : Int) : ∀ xs : List Int, xs.foldl min x ≤ x ∧ (∀ y ∈ xs, xs.foldl min x ≤ y) ∧ (xs.foldl min x = x ∨ xs.foldl min x ∈ xs) := by
  intro xs
  induction xs generalizing x with
  | nil => exact ⟨Int.le_refl _, fun y hy => (by cases hy), .inl rfl⟩
  | cons a xs ih =>
    obtain ⟨h1, h2, h3⟩ := ih (min x a)
    simp only [List.foldl_cons]
    refine ⟨by omega, fun y hy => ?_, ?_⟩
    · rcases List.mem_cons.mp hy with rfl | hy
      · omega
      · exact h2 y hy
    · rcases h3 with h3 | h3
      · by_cases hxa : x ≤ a
        · exact .inl (by rw [h3]; omega)
        · exact .inr (by rw [h3, show min x a = a by omega]; exact List.mem_cons_self ..)
      · exact .inr (List.mem_cons_of_mem _ h3)
theorem minS_le {xs : List Int} {y : Int} (h : y ∈ xs) : minS xs ≤ y := by
  cases xs with
  | nil => cases h
  | cons x xs =>
    show xs.foldl min x ≤ y
    rcases List.mem_cons.mp h with rfl | h
    · exact (foldl_min _ xs).1
    · exact (foldl_min x xs).2.1 y h
theorem minS_mem {xs : List Int} (h : xs ≠ []) : minS xs ∈ xs := by
  cases xs with
  | nil => exact absurd rfl h
  | cons x xs =>
    show xs.foldl min x ∈ x :: xs
    rcases (foldl_min x xs).2.2 with h | h
    · rw [h]; exact List.mem_cons_self ..
    · exact List.mem_cons_of_mem _ h
theorem minS_perm {xs ys : List Int} (h : xs.Perm ys) : minS xs = minS ys := by
  by_cases hx : xs = []
  · subst hx
    rw [h.nil_eq]
  · have hy : ys ≠ [] := fun e => hx (by rw [e] at h; exact h.eq_nil)
    have h1 := minS_le (h.mem_iff.mpr (minS_mem hy))
    have h2 := minS_le (h.mem_iff.mp (minS_mem hx))
    omega
theorem sum_perm {xs ys : List Int} (h : xs.Perm ys) : xs.sum = ys.sum := by
  induction h with
  | nil => rfl
  | cons x _ ih => simp only [List.sum_cons, ih]
  | swap x y l => simp only [List.sum_cons]; omega
  | trans _ _ ih1 ih2 => rw [ih1, ih2]
theorem shown_perm {ks : List (Int × Int)} {t p : List (List Int)} {a b : List Int} (h : a.Perm b) : shown ks t p a = shown ks t p b := by
  unfold shown
  rw [sum_perm (h.map fun x => heldB ks t p x.toNat), minS_perm (h.map fun x => spareB ks t p x.toNat)]
theorem sortI_perm (xs : List Int) : (sortI xs).Perm xs := List.mergeSort_perm _ _
theorem grown_nd (t p : List (List Int)) : (grownI t p).Nodup := by
  unfold grownI grownB
  refine List.Pairwise.map _ (fun a b h e => h (by omega)) (List.Pairwise.filter _ List.nodup_range)
theorem order_nd (ks : List (Int × Int)) (t p : List (List Int)) : (orderI ks t p).Nodup := (order_perm ks t p).nodup_iff.mpr (grown_nd t p)
/-- what the best is behind some of the order -/
theorem leastAt_is (ks : List (Int × Int)) (t p : List (List Int)) (i : Nat) : (leastAt ks t p ((orderI ks t p).take i)).1 = (liveB ks t, []) ∨ ∃ j, (orderI ks t p).take j ≠ [] ∧ (leastAt ks t p ((orderI ks t p).take i)).1 = (shown ks t p ((orderI ks t p).take j), sortI ((orderI ks t p).take j)) := by
  have es : ∀ (L : List Int) (s : (Int × List Int) × List Int), (L.foldl (leastStep ks t p) s).2 = s.2 ++ L := fun L => by
    induction L with
    | nil => intro s; simp
    | cons x L ih =>
      intro s
      rw [List.foldl_cons, ih]
      unfold leastStep
      split <;> simp
  induction i with
  | zero => exact .inl rfl
  | succ i ih =>
    by_cases hi : i < (orderI ks t p).length
    · have e2 : (orderI ks t p).take (i + 1) = (orderI ks t p).take i ++ [(orderI ks t p)[i]] := List.take_succ_eq_append_getElem hi
      have e7 : leastAt ks t p ((orderI ks t p).take (i + 1)) = leastStep ks t p (leastAt ks t p ((orderI ks t p).take i)) (orderI ks t p)[i] := by
        rw [e2]
        unfold leastAt
        rw [List.foldl_append]
        rfl
      have e8 : (leastAt ks t p ((orderI ks t p).take i)).2 = (orderI ks t p).take i := by
        unfold leastAt
        rw [es]
        rfl
      rw [e7]
      unfold leastStep
      rw [e8, ← e2]
      split
      · exact .inr ⟨i + 1, by rw [e2]; exact List.append_ne_nil_of_right_ne_nil _ (by intro z; cases z), rfl⟩
      · exact ih
    · have e1 : (orderI ks t p).take (i + 1) = (orderI ks t p).take i := by rw [List.take_of_length_le (by omega), List.take_of_length_le (by omega)]
      rw [e1]
      exact ih
theorem leastB_is (ks : List (Int × Int)) (t p : List (List Int)) : leastB ks t p = (liveB ks t, []) ∨ ((leastB ks t p).2 ≠ [] ∧ (leastB ks t p).1 = shown ks t p (leastB ks t p).2 ∧ SO t p (leastB ks t p).2) := by
  have h := leastAt_is ks t p (orderI ks t p).length
  rw [List.take_length] at h
  unfold leastB
  rcases h with h | ⟨j, h1, h2⟩
  · exact .inl h
  · refine .inr ?_
    rw [h2]
    refine ⟨fun e => h1 ?_, shown_perm (sortI_perm _).symm, fun x hx => ?_, ?_⟩
    · have e : sortI ((orderI ks t p).take j) = [] := e
      have := (sortI_perm ((orderI ks t p).take j)).symm
      rw [e] at this
      exact this.eq_nil
    · exact (order_perm ks t p).mem_iff.mp (List.mem_of_mem_take ((sortI_perm _).mem_iff.mp hx))
    · exact (sortI_perm _).nodup_iff.mpr (List.Pairwise.sublist (List.take_sublist _ _) (order_nd ks t p))
theorem leastB_so (ks : List (Int × Int)) (t p : List (List Int)) : SO t p (leastB ks t p).2 := by
  rcases leastB_is ks t p with h | h
  · rw [h]
    exact ⟨fun x hx => (by cases hx), List.nodup_nil⟩
  · exact h.2.2
theorem eqD_tup0 (xs : List Int) : eqD (.tup (xs.map .int)) (.tup []) = some (decide (xs = [])) := eqD_tup xs []
abbrev leastD (ks : List (Int × Int)) (t p : List (List Int)) : D := .tup [.int (leastB ks t p).1, tupI (leastB ks t p).2]
theorem nodup_len : ∀ {xs ys : List Int}, xs.Nodup → (∀ x ∈ xs, x ∈ ys) → xs.length ≤ ys.length
  | [], _, _, _ => Nat.zero_le _
  | x :: xs, ys, nd, h => by
    obtain ⟨h1, h2⟩ := List.nodup_cons.mp nd
    have hx := h x (List.mem_cons_self ..)
    have := nodup_len (xs := xs) (ys := ys.erase x) h2 fun y hy => (List.mem_erase_of_ne (show y ≠ x from fun e => h1 (by rw [← e]; exact hy))).mpr (h y (List.mem_cons_of_mem _ hy))
    rw [List.length_erase_of_mem hx] at this
    have := List.length_pos_of_mem hx
    simp only [List.length_cons]
    omega
theorem so_len {t p : List (List Int)} {some : List Int} (h : SO t p some) : some.length ≤ t.length := by
  have : some.length ≤ (grownI t p).length := by
    exact nodup_len h.nd h.all
  exact Nat.le_trans this (grown_len t p)
section
variable {F : Nat → Option Fn} {G : Cls} (P : PG F G)
include P
section
variable {ks : List (Int × Int)} {t p : List (List Int)} (hk : KO ks) (ht : TO ks 1000000 t) (hp : TO ks 1000000 p) (ho : PO t p)
include hk ht hp ho
theorem c_least_limit (k : Nat) (S : Store) (qd : D) (hq : ∀ k S, callF F G (k + 5) 24 [slabD ks 1000000, tabD t, qd] S = .ok (tabD p) S) : callF F G (k + 6) 43 [.lst (ks.map kindD), tabD t, qd] S = .ok (leastD ks t p) S := by
  have h7 := ht.len
  have h8 := ho.len
  rw [call_eq ((P.F 43 (by decide))) rfl]
  simp only [f_least_limit, b_least_limit]
  simp_arith [c_mk P _ _ _ hk (show (0 : Int) ≤ 1000000 by decide) (Int.le_refl _), c_check_table P _ _ hk ht, hq, c_least_bytes P hk h7 h8]
theorem c_check_limit (k : Nat) (S : Store) (qd : D) (hq : ∀ k S, callF F G (k + 5) 24 [slabD ks 1000000, tabD t, qd] S = .ok (tabD p) S) : callF F G (k + 6) 44 [.lst (ks.map kindD), tabD t, leastD ks t p, qd] S = .ok .non S := by
  have h6 := hk.most
  have h7 := ht.len
  have h8 := ho.len
  have hso := leastB_so ks t p
  have hsl := so_len hso
  rw [call_eq ((P.F 44 (by decide))) rfl]
  simp only [f_check_limit, b_check_limit]
  have e2 : (((1 + 1 : Nat) : Int) = 2) = True := by simp
  have e3 : ((leastB ks t p).1 < (leastB ks t p).1) = False := eq_false (by omega)
  rcases leastB_is ks t p with h | ⟨h1, h2, _⟩
  · have e4 : ((leastB ks t p).2 = []) = True := eq_true (by rw [h])
    have e5 : (liveB ks t < (leastB ks t p).1) = False := eq_false (by rw [h]; simp)
    simp_arith [c_mk P _ _ _ hk (show (0 : Int) ≤ 1000000 by decide) (Int.le_refl _), c_check_table P _ _ hk ht, hq, c_least_bytes P hk h7 h8, e2, eqD_int, decide_true, decide_false, ix_0, ix_1, c_is_int P, c_check_numbers P hk ht hp ho _ _ hso, e3, eqD_tup0, e4, c_live_bytes P _ _ hk (show t.length ≤ ks.length by omega), e5]
  · have e4 : ((leastB ks t p).2 = []) = False := eq_false h1
    have e5 : (shown ks t p (leastB ks t p).2 < (leastB ks t p).1) = False := eq_false (by rw [h2]; omega)
    simp_arith [c_mk P _ _ _ hk (show (0 : Int) ≤ 1000000 by decide) (Int.le_refl _), c_check_table P _ _ hk ht, hq, c_least_bytes P hk h7 h8, e2, eqD_int, decide_true, decide_false, ix_0, ix_1, c_is_int P, c_check_numbers P hk ht hp ho _ _ hso, e3, eqD_tup0, e4, c_shown_by P hk h7 h8 _ _ h1 (by omega) (fun x hx => grown_in (hso.all x hx)), e5]
end
end
end SP
end
section
set_option Elab.async false
set_option linter.all false
set_option autoImplicit false
set_option maxRecDepth 100000
set_option maxHeartbeats 2000000
namespace SP
open PySem
local macro_rules
  | `(tactic| simp_arith) => `(tactic| simp -dsimp -implicitDefEqProofs only [q_evE_var, q_evE_frz, q_evE_non, q_evE_bl, q_evE_int, q_evE_neg, q_evE_str, q_evE_cst, q_evE_tt, q_evE_bin, q_evE_cmp, q_evE_cmp2, q_evE_isN, q_evE_notN, q_evE_and, q_evE_or, q_evE_not, q_evE_ite, q_evE_tup, q_evE_lst, q_evE_new, q_evE_dic0, q_evE_ix, q_evE_slA, q_evE_slB, q_evE_slC, q_evE_rev, q_evE_fld, q_evE_call, q_evE_callK, q_evE_meth, q_evE_mk, q_evE_mkX, q_evE_mkXK, q_evE_thw, q_evE_sset, q_evE_addN, q_evE_lstN, q_evE_lrng, q_evE_trng, q_evE_bf, q_evE_isi, q_evE_isis, q_evEs_nil, q_evEs_cons, q_evI_of, q_evI_enum, q_evI_zip, q_exS_set, q_exS_sets, q_exS_aug, q_exS_put, q_exS_sfld, q_exS_app, q_exS_ext, q_exS_rem, q_exS_clr, q_exS_fz, q_exS_exp, q_exS_ret, q_exS_retN, q_exS_pass, q_exS_ife, q_exS_rse, q_exSs_nil, q_exSs_cons, Nat.reduceSub, List.length_cons, List.length_nil, Nat.reduceAdd, Nat.zero_add, R.bnd_ok, R.fln_ok, R.bind_ok, R.fl_ok, R.opt_some, R.noEx_ok, Fl.opt_some, Option.map_some, Option.bind_some, List.map_cons, List.map_nil, List.cons_append, List.nil_append, List.replicate_zero, List.replicate_succ, List.getElem?_cons_zero, List.getElem?_cons_succ, List.set_cons_zero, List.set_cons_succ, bindT, bindTs, cf_call, rdD, cmpO, cmpD, n1, n2, b1, b2, b3, b4, b5, b6, b7, b8, b9, b10, b11, b12, b13, b14, b15, b16, b17, ty1, ty2, ty3, ty4, ty5, ty6, ty7, z0, z1, z2, z3, z4, z5, z6, z7, z8, z9, z10, z11, z12, z13, NxI_nx, slotsT, slotsTs, wipeE, Fl.thn_nx, Fl.thn_rt, Fl.thn_ex, R.fln_ex, R.bnd_ex, R.fl_ex, R.bind_ex, retF_nx, retF_rt, retF_ex, retD_non, retD_bl, retD_int, retD_str, retD_tup, retD_lst, retD_obj, take_len, isNon, itemsD, Bool.not_true, Bool.not_false, Bool.and_true, Bool.and_false, Bool.true_and, Bool.false_and, ixD])
  | `(tactic| simp_arith [$ls,*]) => `(tactic| simp -dsimp -implicitDefEqProofs only [q_evE_var, q_evE_frz, q_evE_non, q_evE_bl, q_evE_int, q_evE_neg, q_evE_str, q_evE_cst, q_evE_tt, q_evE_bin, q_evE_cmp, q_evE_cmp2, q_evE_isN, q_evE_notN, q_evE_and, q_evE_or, q_evE_not, q_evE_ite, q_evE_tup, q_evE_lst, q_evE_new, q_evE_dic0, q_evE_ix, q_evE_slA, q_evE_slB, q_evE_slC, q_evE_rev, q_evE_fld, q_evE_call, q_evE_callK, q_evE_meth, q_evE_mk, q_evE_mkX, q_evE_mkXK, q_evE_thw, q_evE_sset, q_evE_addN, q_evE_lstN, q_evE_lrng, q_evE_trng, q_evE_bf, q_evE_isi, q_evE_isis, q_evEs_nil, q_evEs_cons, q_evI_of, q_evI_enum, q_evI_zip, q_exS_set, q_exS_sets, q_exS_aug, q_exS_put, q_exS_sfld, q_exS_app, q_exS_ext, q_exS_rem, q_exS_clr, q_exS_fz, q_exS_exp, q_exS_ret, q_exS_retN, q_exS_pass, q_exS_ife, q_exS_rse, q_exSs_nil, q_exSs_cons, Nat.reduceSub, List.length_cons, List.length_nil, Nat.reduceAdd, Nat.zero_add, R.bnd_ok, R.fln_ok, R.bind_ok, R.fl_ok, R.opt_some, R.noEx_ok, Fl.opt_some, Option.map_some, Option.bind_some, List.map_cons, List.map_nil, List.cons_append, List.nil_append, List.replicate_zero, List.replicate_succ, List.getElem?_cons_zero, List.getElem?_cons_succ, List.set_cons_zero, List.set_cons_succ, bindT, bindTs, cf_call, rdD, cmpO, cmpD, n1, n2, b1, b2, b3, b4, b5, b6, b7, b8, b9, b10, b11, b12, b13, b14, b15, b16, b17, ty1, ty2, ty3, ty4, ty5, ty6, ty7, z0, z1, z2, z3, z4, z5, z6, z7, z8, z9, z10, z11, z12, z13, NxI_nx, slotsT, slotsTs, wipeE, Fl.thn_nx, Fl.thn_rt, Fl.thn_ex, R.fln_ex, R.bnd_ex, R.fl_ex, R.bind_ex, retF_nx, retF_rt, retF_ex, retD_non, retD_bl, retD_int, retD_str, retD_tup, retD_lst, retD_obj, take_len, isNon, itemsD, Bool.not_true, Bool.not_false, Bool.and_true, Bool.and_false, Bool.true_and, Bool.false_and, ixD, $ls,*])
theorem isCL_last (S : Store) (xs : List D) : isCL (S ++ [some (.lst xs)]) (.loc S.length) = true := by simp [isCL]
theorem toCell_app (S : Store) {xs : List D} {d : D} (h : xs.length < 1000000) : toCell (.loc S.length) (S ++ [some (.lst xs)]) (fun xs => if lenOk (xs.length + 1) = true then some (xs ++ [d]) else none) = some (S ++ [some (.lst (xs ++ [d]))]) := by
  unfold toCell
  rw [cellOf_last]
  show ((if lenOk (xs.length + 1) = true then some (xs ++ [d]) else none).map fun ys => (S ++ [some (Cell.lst xs)]).set S.length (some (.lst ys))) = _
  rw [if_pos (lenOk_of (by omega)), Option.map_some, set_last]
/-- with thin pages -/
def thinB (t p : List (List Int)) (n : Nat) (j : Nat) : List (List Int) := (t.zipIdx).map fun q => List.replicate ((if q.2 = n then j else q.1.length) - (cnt p q.2).length) 1 ++ cnt p q.2
theorem thin_len (t p : List (List Int)) (n j : Nat) : (thinB t p n j).length = t.length := by simp [thinB]
theorem thin_at {t p : List (List Int)} {n j i : Nat} (h : i < t.length) : cnt (thinB t p n j) i = List.replicate ((if i = n then j else (cnt t i).length) - (cnt p i).length) 1 ++ cnt p i := by
  unfold thinB cnt
  simp [h]
theorem rd_last (S : Store) (xs : List D) : rdD (S ++ [some (.lst xs)]) (.loc S.length) = .lst xs := by
  unfold rdD
  simp
theorem set_last2 (S : Store) (xs : List D) : frzD (.loc S.length) (S ++ [some (.lst xs)]) = .ok (.lst xs) (S ++ [none]) := by
  simp [frzD]
def pagesN (t : List (List Int)) : Int := (t.map fun c => (c.length : Int)).sum
/-- can n have j pages beside the others -/
def haveB (ks : List (Int × Int)) (m : Int) (t p : List (List Int)) (n j : Nat) : Bool :=
  if 60 < pagesN (thinB t p n j) ∨ m < liveB ks (thinB t p n j) then false else (stuckAt ks m (thinB t p n j) p).isNone
theorem cnt_mem {t : List (List Int)} {i : Nat} (h : i < t.length) : cnt t i ∈ t := by
  unfold cnt
  simp [h]
theorem TO.cnt_len {ks : List (Int × Int)} {m : Int} {t : List (List Int)} (h : TO ks m t) {i : Nat} (hi : i < t.length) : (cnt t i).length ≤ 60 := Nat.le_trans (mem_sum t (cnt_mem hi)) h.pages
theorem zip_self {α : Type} (a b : List α) : ∀ q ∈ (a ++ b).zip a, q.1 = q.2 := by
  induction a with
  | nil => intro q hq; simp at hq
  | cons x a ih =>
    intro q hq
    simp only [List.cons_append, List.zip_cons_cons, List.mem_cons] at hq
    rcases hq with rfl | hq
    · rfl
    · exact ih q hq
theorem thin_TO {ks : List (Int × Int)} {m : Int} {t p : List (List Int)} {n j : Nat} (hk : KO ks) (ht : TO ks m t) (hp : TO ks m p) (ho : PO t p) (h1 : pagesN (thinB t p n j) ≤ 60) (h2 : liveB ks (thinB t p n j) ≤ m) : TO ks m (thinB t p n j) := by
  have h7 := ht.len
  have h8 := ho.len
  refine ⟨by rw [thin_len]; exact h7, fun i hi c hc => ?_, fun i hi => ?_, ?_, h2⟩
  · rw [thin_len] at hi
    rw [thin_at hi] at hc
    rcases List.mem_append.mp hc with hc | hc
    · have := List.eq_of_mem_replicate hc
      have h3 : 1 ≤ slk ks i := by
        have := hk.all ks[i] (List.getElem_mem (by omega))
        unfold slk
        rw [List.getD_eq_getElem?_getD, List.getElem?_eq_getElem (by omega), Option.getD_some]
        omega
      omega
    · exact hp.all i (by omega) c hc
  · rw [thin_len] at hi
    rw [thin_at hi]
    unfold Sorted
    rw [List.pairwise_append]
    refine ⟨?_, hp.srt i (by omega), fun a ha b hb => ?_⟩
    · rw [List.pairwise_replicate]
      exact .inr (Int.le_refl _)
    · have := List.eq_of_mem_replicate ha
      have := (hp.all i (by omega) b hb).1
      omega
  · unfold pagesN at h1
    rw [sum_len] at h1
    omega
theorem thin_PO {t p : List (List Int)} {n j : Nat} (ho : PO t p) : PO (thinB t p n j) p := by
  have h8 := ho.len
  refine ⟨by rw [thin_len]; exact h8, fun i hi => ?_, fun i hi q hq => ?_⟩
  · rw [thin_len] at hi
    rw [thin_at hi]
    simp
  · rw [thin_len] at hi
    rw [thin_at hi, List.reverse_append] at hq
    rw [zip_self _ _ q hq]
    exact Int.le_refl _
theorem pages_n {t p : List (List Int)} {n j : Nat} (hn : n < t.length) (hj : 60 < j) (hpn : (cnt p n).length ≤ j) : 60 < pagesN (thinB t p n j) := by
  unfold pagesN
  rw [sum_len]
  have h1 : (cnt (thinB t p n j) n).length = j := by
    rw [thin_at hn, if_pos rfl]
    simp
    omega
  have h2 := mem_sum (thinB t p n j) (cnt_mem (show n < (thinB t p n j).length by rw [thin_len]; exact hn))
  omega
theorem ord_pl : (PyData.str "order").canLay0 = true := by decide +kernel
theorem stk_pl : (PyData.str "stuck").canLay0 = true := by decide +kernel
theorem ord_eq : eqD (.str "order") (.str "order") = some true := by rw [eq_str _ _ ord_pl ord_pl]; rfl
theorem stk_eq : eqD (.str "stuck") (.str "order") = some false := by rw [eq_str _ _ stk_pl ord_pl]; rfl
section
variable {F : Nat → Option Fn} {G : Cls} (P : PG F G)
include P
theorem c_thin (k : Nat) (S : Store) {t p : List (List Int)} {n j : Nat} (h6 : t.length ≤ 6) (hp : p.length = t.length) (hb : ∀ i, i < t.length → (cnt t i).length ≤ 1000 ∧ (cnt p i).length ≤ 1000) (hj : j ≤ 1000) :
    callF F G (k + 1) 45 [tabD t, tabD p, .int n, .int j] S = .ok (tabD (thinB t p n j)) S := by
  rw [call_eq ((P.F 45 (by decide))) rfl]
  simp only [f_with_thin_pages, b_with_thin_pages]
  simp_arith
  refine ret_for (L := t.zipIdx) (g := fun q => .tup [.int q.2, tupI q.1]) (Inv := fun i ρ S2 => S2 = S ++ [some (.lst (((thinB t p n j).take i).map tupI))] ∧ ∃ a b c, ρ = [some (tabD t), some (tabD p), some (.int n), some (.int j), some (.loc S.length), a, b, c]) (by simp_arith; rw [enumD_map]; rfl) ⟨rfl, _, _, _, rfl⟩ (fun i hi ρ S2 hI => ?_) (fun ρ2 S2 hI => ?_)
  · obtain ⟨rfl, a, b, c, rfl⟩ := hI
    refine ⟨_, rfl, ?_⟩
    have hi2 : i < t.length := by simpa using hi
    have e1 : (t.zipIdx)[i] = (cnt t i, i) := by
      simp [cnt, List.getElem_zipIdx, hi2]
    have e2 : (thinB t p n j).take (i + 1) = (thinB t p n j).take i ++ [cnt (thinB t p n j) i] := by
      rw [List.take_succ_eq_append_getElem (by rw [thin_len]; exact hi2)]
      unfold cnt
      simp [thin_len, hi2]
    have hb1 := hb i hi2
    have e3 : ∀ a : Nat, a ≤ 1000 → (List.replicate ((a : Int) - ((cnt p i).length : Int)).toNat [D.int 1]).flatten ++ (cnt p i).map D.int = (List.replicate (a - (cnt p i).length) 1 ++ cnt p i).map D.int := fun a _ => by
      rw [List.flatten_replicate_singleton, List.map_append, List.map_replicate]
      congr 2
      omega
    have e4 : ∀ a : Nat, a ≤ 1000 → (List.replicate ((a : Int) - ((cnt p i).length : Int)).toNat [D.int 1]).flatten.length + ((cnt p i).map D.int).length ≤ 1000000 := fun a ha => by
      rw [List.flatten_replicate_singleton, List.length_replicate, List.length_map]
      omega
    have e5 : ((List.take i (thinB t p n j)).map tupI).length < 1000000 := by simp [thin_len]; omega
    simp only [e1]
    by_cases hin : i = n
    · subst hin
      simp_arith [eqD_int, decide_true, ix_tab (show i < p.length by omega), List.length_map, bin_mulT (xs := [D.int 1]) (show (j : Int) - ((cnt p i).length : Int) ≤ 1000 by omega) (by simp) (by omega), bin_addT (e4 j hj), e3 j hj, isCL_last, if_true, toCell_app S e5]
      refine ⟨?_, _, _, _, rfl⟩
      rw [e2, List.map_append, thin_at hi2, if_pos rfl]
      simp
    · have hne : ((i : Int) = (n : Int)) = False := eq_false (by omega)
      simp_arith [eqD_int, hne, decide_false, ix_tab (show i < p.length by omega), List.length_map, bin_mulT (xs := [D.int 1]) (show ((cnt t i).length : Int) - ((cnt p i).length : Int) ≤ 1000 by omega) (by simp) (by omega), bin_addT (e4 _ hb1.1), e3 _ hb1.1, isCL_last, if_true, toCell_app S e5]
      refine ⟨?_, _, _, _, rfl⟩
      rw [e2, List.map_append, thin_at hi2, if_neg hin]
      simp
  · obtain ⟨rfl, a, b, c, rfl⟩ := hI
    have e6 : (thinB t p n j).take (t.zipIdx).length = thinB t p n j := List.take_of_length_le (by simp [thin_len])
    rw [e6]
    simp_arith
    rw [b20, rd_last]
    simp only [bfD]
    simp_arith
    simp
section
variable {ks : List (Int × Int)} {m : Int} {t p : List (List Int)} (hk : KO ks) (ht : TO ks m t) (hp : TO ks m p) (ho : PO t p)
include hk ht hp ho
theorem c_can_have (k : Nat) (S : Store) {n j : Nat} (hj : j ≤ 1000) : callF F G (k + 7) 46 [slabD ks m, tabD t, tabD p, .int n, .int j] S = .ok (.bl (haveB ks m t p n j)) S := by
  have h6 := hk.most
  have h7 := ht.len
  have h8 := ho.len
  rw [call_eq ((P.F 46 (by decide))) rfl]
  simp only [f_can_have, b_can_have]
  simp_arith [c_thin P (k + 5) S (t := t) (p := p) (n := n) (j := j) (by omega) h8 (fun i hi => ⟨Nat.le_trans (ht.cnt_len hi) (by decide), Nat.le_trans (hp.cnt_len (by omega)) (by decide)⟩) hj]
  rw [ev_compI (L := thinB t p n j) (g := tupI) (fun c => (c.length : Int)) (by simp_arith; rfl) (by rw [thin_len]; omega) (fun x _ => rfl) (fun x hx S' => by simp_arith [List.length_map])]
  have e0 : ((thinB t p n j).map fun c => (c.length : Int)).sum = pagesN (thinB t p n j) := rfl
  by_cases h1 : 60 < pagesN (thinB t p n j)
  · have e1 : haveB ks m t p n j = false := by
      unfold haveB
      rw [if_pos (.inl h1)]
    simp_arith [intsD_map, e0, h1, decide_true, e1]
  · by_cases h2 : m < liveB ks (thinB t p n j)
    · have e1 : haveB ks m t p n j = false := by
        unfold haveB
        rw [if_pos (.inr h2)]
      simp_arith [intsD_map, e0, h1, decide_false, c_live_bytes P _ _ hk (show (thinB t p n j).length ≤ ks.length by rw [thin_len]; omega), fpos_most P.fpos, h2, decide_true, e1]
    · have e1 : haveB ks m t p n j = (stuckAt ks m (thinB t p n j) p).isNone := by
        unfold haveB
        rw [if_neg (fun h => h.elim h1 h2)]
      have hT := thin_TO hk ht hp ho (n := n) (j := j) (by omega) (by omega)
      have hP := thin_PO (n := n) (j := j) ho
      have hO := c_order_of P hk hT hp hP k S (tabD p) (fun k S => c_check_pins P k S hk hT hp hP)
      simp_arith [intsD_map, e0, h1, decide_false, c_live_bytes P _ _ hk (show (thinB t p n j).length ≤ ks.length by rw [thin_len]; omega), fpos_most P.fpos, h2, planD, Src.get, hO, e1]
      unfold orderR
      cases stuckAt ks m (thinB t p n j) p with
      | none => simp_arith [ix_0, ord_eq, Option.isNone_none]
      | some i => simp_arith [ix_0, stk_eq, Option.isNone_some]
end
end
end SP
end
section
set_option Elab.async false
set_option linter.all false
set_option autoImplicit false
set_option maxRecDepth 100000
set_option maxHeartbeats 2000000
namespace SP
open PySem
local macro_rules
  | `(tactic| simp_arith) => `(tactic| simp -dsimp -implicitDefEqProofs only [q_evE_var, q_evE_frz, q_evE_non, q_evE_bl, q_evE_int, q_evE_neg, q_evE_str, q_evE_cst, q_evE_tt, q_evE_bin, q_evE_cmp, q_evE_cmp2, q_evE_isN, q_evE_notN, q_evE_and, q_evE_or, q_evE_not, q_evE_ite, q_evE_tup, q_evE_lst, q_evE_new, q_evE_dic0, q_evE_ix, q_evE_slA, q_evE_slB, q_evE_slC, q_evE_rev, q_evE_fld, q_evE_call, q_evE_callK, q_evE_meth, q_evE_mk, q_evE_mkX, q_evE_mkXK, q_evE_thw, q_evE_sset, q_evE_addN, q_evE_lstN, q_evE_lrng, q_evE_trng, q_evE_bf, q_evE_isi, q_evE_isis, q_evEs_nil, q_evEs_cons, q_evI_of, q_evI_enum, q_evI_zip, q_exS_set, q_exS_sets, q_exS_aug, q_exS_put, q_exS_sfld, q_exS_app, q_exS_ext, q_exS_rem, q_exS_clr, q_exS_fz, q_exS_exp, q_exS_ret, q_exS_retN, q_exS_pass, q_exS_ife, q_exS_rse, q_exSs_nil, q_exSs_cons, Nat.reduceSub, List.length_cons, List.length_nil, Nat.reduceAdd, Nat.zero_add, R.bnd_ok, R.fln_ok, R.bind_ok, R.fl_ok, R.opt_some, R.noEx_ok, Fl.opt_some, Option.map_some, Option.bind_some, List.map_cons, List.map_nil, List.cons_append, List.nil_append, List.replicate_zero, List.replicate_succ, List.getElem?_cons_zero, List.getElem?_cons_succ, List.set_cons_zero, List.set_cons_succ, bindT, bindTs, cf_call, rdD, cmpO, cmpD, n1, n2, b1, b2, b3, b4, b5, b6, b7, b8, b9, b10, b11, b12, b13, b14, b15, b16, b17, ty1, ty2, ty3, ty4, ty5, ty6, ty7, z0, z1, z2, z3, z4, z5, z6, z7, z8, z9, z10, z11, z12, z13, NxI_nx, slotsT, slotsTs, wipeE, Fl.thn_nx, Fl.thn_rt, Fl.thn_ex, R.fln_ex, R.bnd_ex, R.fl_ex, R.bind_ex, retF_nx, retF_rt, retF_ex, retD_non, retD_bl, retD_int, retD_str, retD_tup, retD_lst, retD_obj, take_len, isNon, itemsD, Bool.not_true, Bool.not_false, Bool.and_true, Bool.and_false, Bool.true_and, Bool.false_and, ixD])
  | `(tactic| simp_arith [$ls,*]) => `(tactic| simp -dsimp -implicitDefEqProofs only [q_evE_var, q_evE_frz, q_evE_non, q_evE_bl, q_evE_int, q_evE_neg, q_evE_str, q_evE_cst, q_evE_tt, q_evE_bin, q_evE_cmp, q_evE_cmp2, q_evE_isN, q_evE_notN, q_evE_and, q_evE_or, q_evE_not, q_evE_ite, q_evE_tup, q_evE_lst, q_evE_new, q_evE_dic0, q_evE_ix, q_evE_slA, q_evE_slB, q_evE_slC, q_evE_rev, q_evE_fld, q_evE_call, q_evE_callK, q_evE_meth, q_evE_mk, q_evE_mkX, q_evE_mkXK, q_evE_thw, q_evE_sset, q_evE_addN, q_evE_lstN, q_evE_lrng, q_evE_trng, q_evE_bf, q_evE_isi, q_evE_isis, q_evEs_nil, q_evEs_cons, q_evI_of, q_evI_enum, q_evI_zip, q_exS_set, q_exS_sets, q_exS_aug, q_exS_put, q_exS_sfld, q_exS_app, q_exS_ext, q_exS_rem, q_exS_clr, q_exS_fz, q_exS_exp, q_exS_ret, q_exS_retN, q_exS_pass, q_exS_ife, q_exS_rse, q_exSs_nil, q_exSs_cons, Nat.reduceSub, List.length_cons, List.length_nil, Nat.reduceAdd, Nat.zero_add, R.bnd_ok, R.fln_ok, R.bind_ok, R.fl_ok, R.opt_some, R.noEx_ok, Fl.opt_some, Option.map_some, Option.bind_some, List.map_cons, List.map_nil, List.cons_append, List.nil_append, List.replicate_zero, List.replicate_succ, List.getElem?_cons_zero, List.getElem?_cons_succ, List.set_cons_zero, List.set_cons_succ, bindT, bindTs, cf_call, rdD, cmpO, cmpD, n1, n2, b1, b2, b3, b4, b5, b6, b7, b8, b9, b10, b11, b12, b13, b14, b15, b16, b17, ty1, ty2, ty3, ty4, ty5, ty6, ty7, z0, z1, z2, z3, z4, z5, z6, z7, z8, z9, z10, z11, z12, z13, NxI_nx, slotsT, slotsTs, wipeE, Fl.thn_nx, Fl.thn_rt, Fl.thn_ex, R.fln_ex, R.bnd_ex, R.fl_ex, R.bind_ex, retF_nx, retF_rt, retF_ex, retD_non, retD_bl, retD_int, retD_str, retD_tup, retD_lst, retD_obj, take_len, isNon, itemsD, Bool.not_true, Bool.not_false, Bool.and_true, Bool.and_false, Bool.true_and, Bool.false_and, ixD, $ls,*])
/-- how many turns -/
def offQ (N : Nat) (q : Nat → Bool) : Nat := ((List.range (N + 1)).find? fun i => !q i).getD 0
theorem offQ_is {N : Nat} {q : Nat → Bool} (h : q N = false) : offQ N q ≤ N ∧ q (offQ N q) = false ∧ ∀ i, i < offQ N q → q i = true := by
  unfold offQ
  cases e : (List.range (N + 1)).find? fun i => !q i with
  | none =>
    have := List.find?_eq_none.mp e N (List.mem_range.mpr (by omega))
    simp [h] at this
  | some i =>
    obtain ⟨h1, h2, h3⟩ := List.find?_range_eq_some.mp e
    have h2 := List.mem_range.mp h2
    refine ⟨by simp; omega, by simpa using h1, fun j hj => ?_⟩
    have := h3 j hj
    simpa using this
section
variable {cf : Cf} {G : Cls}
theorem q_whl {n : Nat} {c : Ex} {b : Sms} {ρ : Env} {S : Store} : exS cf G (.whl n c b) ρ S = whlL (fun ρ S => evE cf G c ρ S) (fun ρ S => exSs cf G b ρ S) n ρ S := rfl
theorem nx_whl {N fuel : Nat} {c : Ex} {b : Sms} {ρ : Env} {S : Store} {f : Env → Store → Fl} {I : Env → Store → Prop} (en : Nat → Env) (q : Nat → Bool) (hρ : ρ = en 0) (hN : q N = false) (hf : N < fuel)
    (hc : ∀ i, i ≤ N → evE cf G c (en i) S = .ok (.bl (q i)) S) (hb : ∀ i, i < N → exSs cf G b (en i) S = .nx (en (i + 1)) S) (hk : NxI (f (en (offQ N q)) S) I) : NxI (Fl.thn (exS cf G (.whl fuel c b) ρ S) f) I := by
  obtain ⟨h1, h2, h3⟩ := offQ_is hN
  have key : ∀ (d i fuel : Nat), i + d = offQ N q → d < fuel → whlL (fun ρ S => evE cf G c ρ S) (fun ρ S => exSs cf G b ρ S) fuel (en i) S = .nx (en (offQ N q)) S := by
    intro d
    induction d with
    | zero =>
      intro i fuel hi hd
      have : i = offQ N q := by omega
      subst this
      cases fuel with
      | zero => omega
      | succ fuel =>
        simp only [whlL]
        rw [hc _ h1, R.fl_ok, h2]
    | succ d ih =>
      intro i fuel hi hd
      cases fuel with
      | zero => omega
      | succ fuel =>
        simp only [whlL]
        rw [hc i (by omega), R.fl_ok, h3 i (by omega)]
        simp only [hb i (by omega)]
        exact ih (i + 1) fuel (by omega) (by omega)
  rw [q_whl, hρ, key (offQ N q) 0 fuel (by omega) (by omega)]
  exact hk
end
def mostD (j0 i : Nat) : D := if i = 0 then .non else .int ((j0 + i : Nat) - 1 : Int)
theorem mostD_frz (j0 i : Nat) (S : Store) : frzD (mostD j0 i) S = .ok (mostD j0 i) S := by
  unfold mostD
  split <;> rfl
def mostB (ks : List (Int × Int)) (m : Int) (t p : List (List Int)) (n : Nat) : D := mostD (cnt p n).length (offQ 61 fun i => haveB ks m t p n ((cnt p n).length + i))
section
variable {F : Nat → Option Fn} {G : Cls} (P : PG F G)
include P
variable {ks : List (Int × Int)} {m : Int} {t p : List (List Int)} (hk : KO ks) (ht : TO ks m t) (hp : TO ks m p) (ho : PO t p)
include hk ht hp ho
theorem c_most_beside (h47 : F 47 = some f_most_beside) (k : Nat) (S : Store) (qd : D) (hq : ∀ k S, callF F G (k + 5) 24 [slabD ks m, tabD t, qd] S = .ok (tabD p) S) : callF F G (k + 8) 47 [slabD ks m, tabD t, qd] S = .ok (.lst ((List.range ks.length).map (mostB ks m t p))) S := by
  have h6 := hk.most
  have h7 := ht.len
  have h8 := ho.len
  rw [call_eq (h47) rfl]
  simp only [f_most_beside, b_most_beside]
  simp_arith [c_check_table P _ _ hk ht, hq]
  refine ret_for (L := List.range ks.length) (g := fun (i : Nat) => .int (i : Int)) (Inv := fun i ρ S2 => S2 = S ++ [some (.lst ((List.range i).map (mostB ks m t p)))] ∧ ∃ a b c, ρ = [some (slabD ks m), some (tabD t), some (tabD p), some (.loc S.length), a, b, c]) (evI_rng1 (n := ks.length) (by simp_arith [c_lenO P _ _ _ hk]; rfl) (by omega)) ⟨rfl, _, _, _, rfl⟩ (fun i hi ρ S2 hI => ?_) (fun ρ2 S2 hI => ?_)
  · obtain ⟨rfl, a, b, c, rfl⟩ := hI
    refine ⟨_, rfl, ?_⟩
    have hi2 : i < ks.length := by simpa using hi
    have e1 : (List.range ks.length)[i] = i := by simp
    have hl := hp.cnt_len (show i < p.length by omega)
    simp only [e1]
    simp_arith [ix_tab (show i < p.length by omega), List.length_map]
    refine nx_whl (N := 61) (fun j => [some (slabD ks m), some (tabD t), some (tabD p), some (.loc S.length), some (.int i), some (.int (((cnt p i).length + j : Nat) : Int)), some (mostD (cnt p i).length j)]) (fun j => haveB ks m t p i ((cnt p i).length + j)) rfl ?_ (by decide) (fun j hj => ?_) (fun j hj => ?_) ?_
    · unfold haveB
      rw [if_pos (.inl (pages_n (by omega) (by omega) (by omega)))]
    · simp_arith [c_can_have P hk ht hp ho k _ (n := i) (j := (cnt p i).length + j) (by omega)]
    · simp_arith
      simp only [Fl.nx.injEq, List.cons.injEq, Option.some.injEq, true_and, and_true]
      refine ⟨?_, ?_⟩
      · congr 1
      · unfold mostD
        rw [if_neg (by omega)]
        congr 1
        omega
    · simp_arith [isCL_last, if_true, mostD_frz, toCell_app S (show ((List.range i).map (mostB ks m t p)).length < 1000000 by simp; omega)]
      refine ⟨?_, _, _, _, rfl⟩
      rw [List.range_succ, List.map_append]
      rfl
  · obtain ⟨rfl, a, b, c, rfl⟩ := hI
    rw [List.length_range]
    simp_arith [set_last2]
    simp
end
end SP
end
section
set_option Elab.async false
set_option linter.all false
set_option autoImplicit false
set_option maxRecDepth 100000
set_option maxHeartbeats 2000000
namespace SP
open PySem
local macro_rules
  | `(tactic| simp_arith) => `(tactic| simp -dsimp -implicitDefEqProofs only [q_evE_var, q_evE_frz, q_evE_non, q_evE_bl, q_evE_int, q_evE_neg, q_evE_str, q_evE_cst, q_evE_tt, q_evE_bin, q_evE_cmp, q_evE_cmp2, q_evE_isN, q_evE_notN, q_evE_and, q_evE_or, q_evE_not, q_evE_ite, q_evE_tup, q_evE_lst, q_evE_new, q_evE_dic0, q_evE_ix, q_evE_slA, q_evE_slB, q_evE_slC, q_evE_rev, q_evE_fld, q_evE_call, q_evE_callK, q_evE_meth, q_evE_mk, q_evE_mkX, q_evE_mkXK, q_evE_thw, q_evE_sset, q_evE_addN, q_evE_lstN, q_evE_lrng, q_evE_trng, q_evE_bf, q_evE_isi, q_evE_isis, q_evEs_nil, q_evEs_cons, q_evI_of, q_evI_enum, q_evI_zip, q_exS_set, q_exS_sets, q_exS_aug, q_exS_put, q_exS_sfld, q_exS_app, q_exS_ext, q_exS_rem, q_exS_clr, q_exS_fz, q_exS_exp, q_exS_ret, q_exS_retN, q_exS_pass, q_exS_ife, q_exS_rse, q_exSs_nil, q_exSs_cons, Nat.reduceSub, List.length_cons, List.length_nil, Nat.reduceAdd, Nat.zero_add, R.bnd_ok, R.fln_ok, R.bind_ok, R.fl_ok, R.opt_some, R.noEx_ok, Fl.opt_some, Option.map_some, Option.bind_some, List.map_cons, List.map_nil, List.cons_append, List.nil_append, List.replicate_zero, List.replicate_succ, List.getElem?_cons_zero, List.getElem?_cons_succ, List.set_cons_zero, List.set_cons_succ, bindT, bindTs, cf_call, rdD, cmpO, cmpD, n1, n2, b1, b2, b3, b4, b5, b6, b7, b8, b9, b10, b11, b12, b13, b14, b15, b16, b17, ty1, ty2, ty3, ty4, ty5, ty6, ty7, z0, z1, z2, z3, z4, z5, z6, z7, z8, z9, z10, z11, z12, z13, NxI_nx, slotsT, slotsTs, wipeE, Fl.thn_nx, Fl.thn_rt, Fl.thn_ex, R.fln_ex, R.bnd_ex, R.fl_ex, R.bind_ex, retF_nx, retF_rt, retF_ex, retD_non, retD_bl, retD_int, retD_str, retD_tup, retD_lst, retD_obj, take_len, isNon, itemsD, Bool.not_true, Bool.not_false, Bool.and_true, Bool.and_false, Bool.true_and, Bool.false_and, ixD])
  | `(tactic| simp_arith [$ls,*]) => `(tactic| simp -dsimp -implicitDefEqProofs only [q_evE_var, q_evE_frz, q_evE_non, q_evE_bl, q_evE_int, q_evE_neg, q_evE_str, q_evE_cst, q_evE_tt, q_evE_bin, q_evE_cmp, q_evE_cmp2, q_evE_isN, q_evE_notN, q_evE_and, q_evE_or, q_evE_not, q_evE_ite, q_evE_tup, q_evE_lst, q_evE_new, q_evE_dic0, q_evE_ix, q_evE_slA, q_evE_slB, q_evE_slC, q_evE_rev, q_evE_fld, q_evE_call, q_evE_callK, q_evE_meth, q_evE_mk, q_evE_mkX, q_evE_mkXK, q_evE_thw, q_evE_sset, q_evE_addN, q_evE_lstN, q_evE_lrng, q_evE_trng, q_evE_bf, q_evE_isi, q_evE_isis, q_evEs_nil, q_evEs_cons, q_evI_of, q_evI_enum, q_evI_zip, q_exS_set, q_exS_sets, q_exS_aug, q_exS_put, q_exS_sfld, q_exS_app, q_exS_ext, q_exS_rem, q_exS_clr, q_exS_fz, q_exS_exp, q_exS_ret, q_exS_retN, q_exS_pass, q_exS_ife, q_exS_rse, q_exSs_nil, q_exSs_cons, Nat.reduceSub, List.length_cons, List.length_nil, Nat.reduceAdd, Nat.zero_add, R.bnd_ok, R.fln_ok, R.bind_ok, R.fl_ok, R.opt_some, R.noEx_ok, Fl.opt_some, Option.map_some, Option.bind_some, List.map_cons, List.map_nil, List.cons_append, List.nil_append, List.replicate_zero, List.replicate_succ, List.getElem?_cons_zero, List.getElem?_cons_succ, List.set_cons_zero, List.set_cons_succ, bindT, bindTs, cf_call, rdD, cmpO, cmpD, n1, n2, b1, b2, b3, b4, b5, b6, b7, b8, b9, b10, b11, b12, b13, b14, b15, b16, b17, ty1, ty2, ty3, ty4, ty5, ty6, ty7, z0, z1, z2, z3, z4, z5, z6, z7, z8, z9, z10, z11, z12, z13, NxI_nx, slotsT, slotsTs, wipeE, Fl.thn_nx, Fl.thn_rt, Fl.thn_ex, R.fln_ex, R.bnd_ex, R.fl_ex, R.bind_ex, retF_nx, retF_rt, retF_ex, retD_non, retD_bl, retD_int, retD_str, retD_tup, retD_lst, retD_obj, take_len, isNon, itemsD, Bool.not_true, Bool.not_false, Bool.and_true, Bool.and_false, Bool.true_and, Bool.false_and, ixD, $ls,*])
/-! the laws' own drawing -/
def b_draw : Sms := (.cons (.ife (.cmp .gt (.ix (.var 0) (.int 0)) (.int 0)) (.cons (.set (.nm 2) (.bin .mod (.bf .toInt (.cons (.ix (.var 0) (.int 0)) .nil)) (.var 1))) (.cons (.put (.var 0) (.int 0) (.bin .fdv (.ix (.var 0) (.int 0)) (.var 1))) (.cons (.ret (.var 2)) .nil))) .nil) (.cons (.put (.var 0) (.int 2) (.bin .add (.ix (.var 0) (.int 2)) (.int 1))) (.cons (.set (.nm 3) (.bin .mod (.bf .toInt (.cons (.bin .mul (.bin .add (.bin .add (.ix (.var 0) (.int 1)) (.bin .mul (.int 104729) (.ix (.var 0) (.int 2)))) (.int 1)) (.int 48271)) .nil)) (.int 2147483647))) (.cons (.set (.nm 3) (.bin .mod (.bf .toInt (.cons (.bin .mul (.var 3) (.bin .add (.bin .fdv (.var 3) (.int 1009)) (.int 69621))) .nil)) (.int 2147483647))) (.cons (.ret (.bin .mod (.bf .toInt (.cons (.bin .mod (.bf .toInt (.cons (.bin .mul (.var 3) (.bin .add (.bin .fdv (.var 3) (.int 2003)) (.int 40692))) .nil)) (.int 2147483399)) .nil)) (.var 1))) .nil)))))
def WellC (u : Option Cell) : Prop := ∃ a b c : Int, u = some (.lst [.int a, .int b, .int c])
theorem put_at {S : Store} {w : Nat} {xs : List D} {f : List D → Option (List D)} (h : S[w]? = some (some (.lst xs))) : toCell (.loc w) S f = (f xs).map fun ys => S.set w (some (.lst ys)) := by
  simp [toCell, cellOf, h]
theorem i30 (a b c : D) : L2.atI [a, b, c] 0 = some a := rfl
theorem i31 (a b c : D) : L2.atI [a, b, c] 1 = some b := rfl
theorem i32 (a b c : D) : L2.atI [a, b, c] 2 = some c := rfl
theorem x30 : L2.ixN 3 0 = some 0 := rfl
theorem x32 : L2.ixN 3 2 = some 2 := rfl
theorem fdv_ok {i j : Int} (h : 0 < j) (h2 : j < 1073741824) : binD .fdv (.int i) (.int j) = some (.int (i / j)) := by
  show (if (decide (0 < j) && decide (j < 1073741824)) = true then some (D.int (i / j)) else none) = _
  rw [if_pos (by rw [decide_eq_true h, decide_eq_true h2]; rfl)]
theorem mod_ok {i j : Int} (h : 0 < j) : binD .mod (.int i) (.int j) = some (.int (i % j)) := by
  show (if decide (0 < j) = true then some (D.int (i % j)) else none) = _
  rw [if_pos (decide_eq_true h)]
theorem small31 {i : Int} (h : 0 ≤ i) (h2 : i < 2147483648) : small64 i = true := by
  unfold small64
  rw [Bool.and_eq_true, decide_eq_true_eq, decide_eq_true_eq]
  have h3 : (2 : Int) ^ 64 = 18446744073709551616 := by decide
  rw [h3]
  omega
theorem mul_ok {i j : Int} (h : 0 ≤ j) (h2 : j < 2147483648) : binD .mul (.int i) (.int j) = some (.int (i * j)) := by
  show (if (small64 i || small64 j) = true then some (D.int (i * j)) else none) = _
  rw [if_pos (by rw [small31 h h2, Bool.or_true])]
theorem mul_okL {i j : Int} (h : 0 ≤ i) (h2 : i < 2147483648) : binD .mul (.int i) (.int j) = some (.int (i * j)) := by
  show (if (small64 i || small64 j) = true then some (D.int (i * j)) else none) = _
  rw [if_pos (by rw [small31 h h2, Bool.true_or])]
def dr1 (b c : Int) : Int := ((b + 104729 * c + 1) * 48271) % 2147483647
def dr2 (x : Int) : Int := (x * (x / 1009 + 69621)) % 2147483647
def dr3 (x : Int) : Int := (x * (x / 2003 + 40692)) % 2147483399
section
variable {F : Nat → Option Fn} {G : Cls}
theorem c_draw {d : Nat} (hd : F d = some ⟨2, 4, b_draw⟩) (k : Nat) {S : Store} {w : Nat} {u : Option Cell} (h : S[w]? = some u) (hu : WellC u) {n : Int} (h1 : 1 ≤ n) (h2 : n ≤ 100000) :
    ∃ (v : Int) (u' : Option Cell), 0 ≤ v ∧ v < n ∧ WellC u' ∧ callF F G (k + 1) d [.loc w, .int n] S = .ok (.int v) (S.set w u') := by
  obtain ⟨a, b, c, rfl⟩ := hu
  have hw : w < S.length := (List.getElem?_eq_some_iff.mp h).1
  have hs : ∀ x, (S.set w x)[w]? = some x := fun x => by simp [hw]
  have ht : ∀ x, (S.set w x).take S.length = S.set w x := fun x => List.take_of_length_le (by simp)
  have hss : ∀ x y, (S.set w x).set w y = S.set w y := fun x y => by simp
  by_cases hp : 0 < a
  · refine ⟨a % n, some (.lst [.int (a / n), .int b, .int c]), Int.emod_nonneg _ (by omega), Int.emod_lt_of_pos _ (by omega), ⟨_, _, _, rfl⟩, ?_⟩
    rw [call_eq (hd) rfl]
    simp only [b_draw]
    simp_arith [h, i30, hp, decide_true, mod_ok (show (0 : Int) < n by omega), fdv_ok (show (0 : Int) < n by omega) (show n < 1073741824 by omega), put_at h, x30, ht]
  · have e1 : (0 < a) = False := eq_false hp
    have p31 : (0 : Int) < 2147483647 := by decide
    have q31 : (0 : Int) < 2147483399 := by decide
    have hm : ∀ x : Int, 0 ≤ x % 2147483647 ∧ x % 2147483647 < 2147483648 := fun x => by omega
    refine ⟨dr3 (dr2 (dr1 b (c + 1))) % n, some (.lst [.int a, .int b, .int (c + 1)]), Int.emod_nonneg _ (by omega), Int.emod_lt_of_pos _ (by omega), ⟨_, _, _, rfl⟩, ?_⟩
    have g1 : 0 ≤ dr1 b (c + 1) ∧ dr1 b (c + 1) < 2147483648 := hm _
    have g2 : 0 ≤ dr2 (dr1 b (c + 1)) ∧ dr2 (dr1 b (c + 1)) < 2147483648 := hm _
    have e2 : ((b + 104729 * (c + 1) + 1) * 48271) % 2147483647 = dr1 b (c + 1) := rfl
    have e3 : (dr1 b (c + 1) * (dr1 b (c + 1) / 1009 + 69621)) % 2147483647 = dr2 (dr1 b (c + 1)) := rfl
    have e4 : (dr2 (dr1 b (c + 1)) * (dr2 (dr1 b (c + 1)) / 2003 + 40692)) % 2147483399 = dr3 (dr2 (dr1 b (c + 1))) := rfl
    rw [call_eq (hd) rfl]
    simp only [b_draw]
    simp_arith [h, i30, e1, decide_false, i32, put_at h, x32, hs, i31, mul_okL (i := 104729) (by decide) (by decide), mul_ok (j := 48271) (by decide) (by decide), mod_ok p31, e2, fdv_ok (j := 1009) (by decide) (by decide), fdv_ok (j := 2003) (by decide) (by decide), mul_okL g1.1 g1.2, e3, mul_okL g2.1 g2.2, mod_ok q31, e4, mod_ok (show (0 : Int) < n by omega), ht]
end
end SP
end
section
set_option Elab.async false
set_option linter.all false
set_option autoImplicit false
set_option maxRecDepth 100000
set_option maxHeartbeats 2000000
namespace SP
open PySem
local macro_rules
  | `(tactic| simp_arith) => `(tactic| simp -dsimp -implicitDefEqProofs only [q_evE_var, q_evE_frz, q_evE_non, q_evE_bl, q_evE_int, q_evE_neg, q_evE_str, q_evE_cst, q_evE_tt, q_evE_bin, q_evE_cmp, q_evE_cmp2, q_evE_isN, q_evE_notN, q_evE_and, q_evE_or, q_evE_not, q_evE_ite, q_evE_tup, q_evE_lst, q_evE_new, q_evE_dic0, q_evE_ix, q_evE_slA, q_evE_slB, q_evE_slC, q_evE_rev, q_evE_fld, q_evE_call, q_evE_callK, q_evE_meth, q_evE_mk, q_evE_mkX, q_evE_mkXK, q_evE_thw, q_evE_sset, q_evE_addN, q_evE_lstN, q_evE_lrng, q_evE_trng, q_evE_bf, q_evE_isi, q_evE_isis, q_evEs_nil, q_evEs_cons, q_evI_of, q_evI_enum, q_evI_zip, q_exS_set, q_exS_sets, q_exS_aug, q_exS_put, q_exS_sfld, q_exS_app, q_exS_ext, q_exS_rem, q_exS_clr, q_exS_fz, q_exS_exp, q_exS_ret, q_exS_retN, q_exS_pass, q_exS_ife, q_exS_rse, q_exSs_nil, q_exSs_cons, Nat.reduceSub, List.length_cons, List.length_nil, Nat.reduceAdd, Nat.zero_add, R.bnd_ok, R.fln_ok, R.bind_ok, R.fl_ok, R.opt_some, R.noEx_ok, Fl.opt_some, Option.map_some, Option.bind_some, List.map_cons, List.map_nil, List.cons_append, List.nil_append, List.replicate_zero, List.replicate_succ, List.getElem?_cons_zero, List.getElem?_cons_succ, List.set_cons_zero, List.set_cons_succ, bindT, bindTs, cf_call, rdD, cmpO, cmpD, n1, n2, b1, b2, b3, b4, b5, b6, b7, b8, b9, b10, b11, b12, b13, b14, b15, b16, b17, ty1, ty2, ty3, ty4, ty5, ty6, ty7, z0, z1, z2, z3, z4, z5, z6, z7, z8, z9, z10, z11, z12, z13, NxI_nx, slotsT, slotsTs, wipeE, Fl.thn_nx, Fl.thn_rt, Fl.thn_ex, R.fln_ex, R.bnd_ex, R.fl_ex, R.bind_ex, retF_nx, retF_rt, retF_ex, retD_non, retD_bl, retD_int, retD_str, retD_tup, retD_lst, retD_obj, take_len, isNon, itemsD, Bool.not_true, Bool.not_false, Bool.and_true, Bool.and_false, Bool.true_and, Bool.false_and, ixD])
  | `(tactic| simp_arith [$ls,*]) => `(tactic| simp -dsimp -implicitDefEqProofs only [q_evE_var, q_evE_frz, q_evE_non, q_evE_bl, q_evE_int, q_evE_neg, q_evE_str, q_evE_cst, q_evE_tt, q_evE_bin, q_evE_cmp, q_evE_cmp2, q_evE_isN, q_evE_notN, q_evE_and, q_evE_or, q_evE_not, q_evE_ite, q_evE_tup, q_evE_lst, q_evE_new, q_evE_dic0, q_evE_ix, q_evE_slA, q_evE_slB, q_evE_slC, q_evE_rev, q_evE_fld, q_evE_call, q_evE_callK, q_evE_meth, q_evE_mk, q_evE_mkX, q_evE_mkXK, q_evE_thw, q_evE_sset, q_evE_addN, q_evE_lstN, q_evE_lrng, q_evE_trng, q_evE_bf, q_evE_isi, q_evE_isis, q_evEs_nil, q_evEs_cons, q_evI_of, q_evI_enum, q_evI_zip, q_exS_set, q_exS_sets, q_exS_aug, q_exS_put, q_exS_sfld, q_exS_app, q_exS_ext, q_exS_rem, q_exS_clr, q_exS_fz, q_exS_exp, q_exS_ret, q_exS_retN, q_exS_pass, q_exS_ife, q_exS_rse, q_exSs_nil, q_exSs_cons, Nat.reduceSub, List.length_cons, List.length_nil, Nat.reduceAdd, Nat.zero_add, R.bnd_ok, R.fln_ok, R.bind_ok, R.fl_ok, R.opt_some, R.noEx_ok, Fl.opt_some, Option.map_some, Option.bind_some, List.map_cons, List.map_nil, List.cons_append, List.nil_append, List.replicate_zero, List.replicate_succ, List.getElem?_cons_zero, List.getElem?_cons_succ, List.set_cons_zero, List.set_cons_succ, bindT, bindTs, cf_call, rdD, cmpO, cmpD, n1, n2, b1, b2, b3, b4, b5, b6, b7, b8, b9, b10, b11, b12, b13, b14, b15, b16, b17, ty1, ty2, ty3, ty4, ty5, ty6, ty7, z0, z1, z2, z3, z4, z5, z6, z7, z8, z9, z10, z11, z12, z13, NxI_nx, slotsT, slotsTs, wipeE, Fl.thn_nx, Fl.thn_rt, Fl.thn_ex, R.fln_ex, R.bnd_ex, R.fl_ex, R.bind_ex, retF_nx, retF_rt, retF_ex, retD_non, retD_bl, retD_int, retD_str, retD_tup, retD_lst, retD_obj, take_len, isNon, itemsD, Bool.not_true, Bool.not_false, Bool.and_true, Bool.and_false, Bool.true_and, Bool.false_and, ixD, $ls,*])
inductive Prd {α β : Type} (Q : α → β → Prop) : List α → List β → Prop
  | nil : Prd Q [] []
  | cons {x : α} {y : β} {xs : List α} {ys : List β} : Q x y → Prd Q xs ys → Prd Q (x :: xs) (y :: ys)
theorem Prd.length {α β : Type} {Q : α → β → Prop} {xs : List α} {ys : List β} (h : Prd Q xs ys) : ys.length = xs.length := by
  induction h with
  | nil => rfl
  | cons _ _ ih => simp only [List.length_cons, ih]
theorem Prd.right {α β : Type} {Q : α → β → Prop} {P : β → Prop} {xs : List α} {ys : List β} (h : Prd Q xs ys) (hq : ∀ x ∈ xs, ∀ y, Q x y → P y) : ∀ y ∈ ys, P y := by
  induction h with
  | nil => intro y hy; cases hy
  | cons q _ ih =>
    intro y hy
    rcases List.mem_cons.mp hy with rfl | hy
    · exact hq _ (List.mem_cons_self ..) _ q
    · exact ih (fun x hx => hq x (List.mem_cons_of_mem _ hx)) y hy
theorem Prd.at {α β : Type} {Q : α → β → Prop} {xs : List α} {ys : List β} (h : Prd Q xs ys) : ∀ (i : Nat) (h1 : i < xs.length) (h2 : i < ys.length), Q xs[i] ys[i] := by
  induction h with
  | nil => intro i h1; simp at h1
  | cons q _ ih =>
    intro i h1 h2
    cases i with
    | zero => exact q
    | succ i => exact ih i (by simpa using h1) (by simpa using h2)
theorem set_app {S : Store} {w : Nat} {u : Option Cell} {T : Store} (h : w < S.length) : (S ++ T).set w u = S.set w u ++ T := by rw [List.set_append_left _ _ h]
section
variable {cf : Cf} {G : Cls} {α β : Type}
/-- a comprehension whose elements draw -/
theorem ev_compW {tg : Tg} {it : It} {e : Ex} {ρ : Env} {S S1 : Store} {L : List α} {g : α → D} {ρ1 : α → Env} {w : Nat} {u : Option Cell} (f : β → D) (Q : α → β → Prop) (hw : S1[w]? = some u) (hu : WellC u) (hi : evI cf G it ρ S = .ok (L.map g) S1) (hl : L.length ≤ 1000000)
    (hb : ∀ x ∈ L, bindT tg (g x) (wipeE ρ (slotsT tg)) = some (ρ1 x)) (hn : ∀ y, (f y).noLoc = true)
    (he : ∀ x ∈ L, ∀ S' u, S'[w]? = some u → WellC u → ∃ y u', WellC u' ∧ Q x y ∧ evE cf G e (ρ1 x) S' = .ok (f y) (S'.set w u')) :
    ∃ ys u', WellC u' ∧ Prd Q L ys ∧ evE cf G (.comp tg it .tt e) ρ S = .ok (.lst (ys.map f)) (S1.set w u') := by
  have hlt : w < S1.length := (List.getElem?_eq_some_iff.mp hw).1
  have key : ∀ (fn : D → Store → R (Option D)), (∀ x ∈ L, ∀ S' u, S'[w]? = some u → WellC u → ∃ y u', WellC u' ∧ Q x y ∧ fn (g x) S' = .ok (some (f y)) (S'.set w u')) → ∀ M : List α, (∀ x ∈ M, x ∈ L) → ∀ (acc : List D) (u : Option Cell), WellC u → acc.length + M.length ≤ 1000000 →
      ∃ ys u', WellC u' ∧ Prd Q M ys ∧ compL fn S1.length (M.map g) (S1.set w u ++ [some (.lst acc)]) = .ok () (S1.set w u' ++ [some (.lst (acc ++ ys.map f))]) := by
    intro fn hf M
    induction M with
    | nil => intro _ acc u hu _; exact ⟨[], u, hu, .nil, by simp [compL]⟩
    | cons x M ih =>
      intro hM acc u hu hlen
      simp only [List.length_cons] at hlen
      have h0 : (S1.set w u ++ [some (Cell.lst acc)])[w]? = some u := by
        rw [List.getElem?_append_left (by simpa using hlt)]
        simp [hlt]
      obtain ⟨y, u1, hu1, hq, e1⟩ := hf x (hM x (List.mem_cons_self ..)) _ u h0 hu
      obtain ⟨ys, u2, hu2, hp, e2⟩ := ih (fun y hy => hM y (List.mem_cons_of_mem _ hy)) (acc ++ [f y]) u1 hu1 (by simp; omega)
      refine ⟨y :: ys, u2, hu2, .cons hq hp, ?_⟩
      simp only [List.map_cons, compL]
      rw [e1, R.bind_ok]
      have hset : (S1.set w u ++ [some (Cell.lst acc)]).set w u1 = S1.set w u1 ++ [some (.lst acc)] := by
        rw [set_app (by simpa using hlt)]
        simp
      rw [hset]
      have hlen1 : S1.length = (S1.set w u1).length := by simp
      have h1 : (S1.set w u1 ++ [some (Cell.lst acc)])[S1.length]? = some (some (.lst acc)) := by rw [hlen1]; exact at_last _ _
      have h2 : (S1.set w u1 ++ [some (Cell.lst acc)]).set S1.length (some (.lst (acc ++ [f y]))) = S1.set w u1 ++ [some (.lst (acc ++ [f y]))] := by rw [hlen1]; exact set_last _ _ _
      simp only [h1, lenOk_of (show acc.length + 1 ≤ 1000000 by omega), if_true, h2]
      rw [e2]
      simp
  have hset0 : S1.set w u = S1 := by
    apply List.ext_getElem?
    intro i
    by_cases hi : i = w
    · subst hi
      rw [List.getElem?_set_self hlt, hw]
    · rw [List.getElem?_set_ne (fun e => hi e.symm)]
  have step : ∀ (fn : D → Store → R (Option D)), (∀ x ∈ L, ∀ S' u, S'[w]? = some u → WellC u → ∃ y u', WellC u' ∧ Q x y ∧ fn (g x) S' = .ok (some (f y)) (S'.set w u')) →
      ∃ ys u', WellC u' ∧ Prd Q L ys ∧ ((compL fn S1.length (L.map g) (S1 ++ [some (.lst [])])).noEx.bind fun _ S2 => compE S1.length S2) = .ok (.lst (ys.map f)) (S1.set w u') := by
    intro fn hf
    obtain ⟨ys, u', hu', hp, e⟩ := key fn hf L (fun _ h => h) [] u hu (by simpa using hl)
    rw [hset0] at e
    refine ⟨ys, u', hu', hp, ?_⟩
    rw [e, R.noEx_ok, R.bind_ok]
    have hlen1 : S1.length = (S1.set w u').length := by simp
    unfold compE
    rw [hlen1, at_last]
    simp only [List.nil_append, take_last]
  simp only [evE]
  rw [hi, R.bind_ok]
  refine step _ fun x hx S' u h hu => ?_
  obtain ⟨y, u', hu', hq, e⟩ := he x hx S' u h hu
  refine ⟨y, u', hu', hq, ?_⟩
  simp only [hb x hx, R.bind_ok, e, frzD_of (hn y)]
end
def b_classes (d : Nat) : Sms := (.cons (.ret (.comp (.nm 3) (.rng1 (.bin .add (.int 1) (.call d (.cons (.var 0) (.cons (.var 1) .nil))))) .tt (.tup (.cons (.bin .add (.int 1) (.call d (.cons (.var 0) (.cons (.var 2) .nil)))) (.cons (.bin .add (.int 1) (.call d (.cons (.var 0) (.cons (.var 2) .nil)))) .nil))))) .nil)
section
variable {F : Nat → Option Fn} {G : Cls}
theorem c_classes {d cl : Nat} (hd : F d = some ⟨2, 4, b_draw⟩) (hc : F cl = some ⟨3, 4, b_classes d⟩) (k : Nat) {S : Store} {w : Nat} {u : Option Cell} (h : S[w]? = some u) (hu : WellC u) {most wide : Int} (h1 : 1 ≤ most) (h2 : most ≤ 6) (h3 : 1 ≤ wide) (h4 : wide ≤ 60) :
    ∃ (ks : List (Int × Int)) (u' : Option Cell), WellC u' ∧ 1 ≤ ks.length ∧ (ks.length : Int) ≤ most ∧ (∀ p ∈ ks, 1 ≤ p.1 ∧ p.1 ≤ wide ∧ 1 ≤ p.2 ∧ p.2 ≤ wide) ∧ callF F G (k + 2) cl [.loc w, .int most, .int wide] S = .ok (.lst (ks.map kindD)) (S.set w u') := by
  have hlt : w < S.length := (List.getElem?_eq_some_iff.mp h).1
  obtain ⟨v, u1, v0, v1, hu1, e1⟩ := c_draw (G := G) hd k h hu h1 (show most ≤ 100000 by omega)
  obtain ⟨n, rfl⟩ := Int.eq_ofNat_of_zero_le v0
  have hs1 : (S.set w u1)[w]? = some u1 := by simp [hlt]
  have hcmp := ev_compW (cf := cf0 F G (k + 1)) (G := G) (tg := .nm 3) (it := .rng1 (.bin .add (.int 1) (.call d (.cons (.var 0) (.cons (.var 1) .nil))))) (e := (.tup (.cons (.bin .add (.int 1) (.call d (.cons (.var 0) (.cons (.var 2) .nil)))) (.cons (.bin .add (.int 1) (.call d (.cons (.var 0) (.cons (.var 2) .nil)))) .nil)))) (ρ := [some (.loc w), some (.int most), some (.int wide), none]) (S := S) (L := List.range (1 + n)) (g := fun (i : Nat) => .int (i : Int)) kindD (fun _ p => 1 ≤ p.1 ∧ p.1 ≤ wide ∧ 1 ≤ p.2 ∧ p.2 ≤ wide) hs1 hu1
    (evI_rng1 (n := 1 + n) (by simp_arith [e1]; rw [show ((1 + n : Nat) : Int) = 1 + (n : Int) by omega]) (by omega)) (by simp; omega) (fun x _ => rfl) (fun _ => rfl) (fun x hx S' u h hu => by
      obtain ⟨a, ua, a0, a1, hua, ea⟩ := c_draw (G := G) hd k h hu h3 (show wide ≤ 100000 by omega)
      have hlt' : w < S'.length := (List.getElem?_eq_some_iff.mp h).1
      obtain ⟨b, ub, b0, b1, hub, eb⟩ := c_draw (G := G) hd k (S := S'.set w ua) (w := w) (u := ua) (by simp [hlt']) hua h3 (show wide ≤ 100000 by omega)
      refine ⟨(1 + a, 1 + b), ub, hub, by simp; omega, ?_⟩
      simp_arith [ea, eb, List.set_set])
  obtain ⟨ks, u', hu', hp, e⟩ := hcmp
  refine ⟨ks, u', hu', ?_, ?_, hp.right (fun _ _ _ h => h), ?_⟩
  · have := hp.length
    simp at this
    omega
  · have := hp.length
    simp at this
    omega
  · rw [call_eq (hc) rfl]
    simp only [b_classes]
    simp_arith [e, List.set_set]
    rw [List.take_of_length_le (by simp)]
end
end SP
end
section
set_option Elab.async false
set_option linter.all false
set_option autoImplicit false
set_option maxRecDepth 100000
set_option maxHeartbeats 2000000
namespace SP
open PySem
local macro_rules
  | `(tactic| simp_arith) => `(tactic| simp -dsimp -implicitDefEqProofs only [q_evE_var, q_evE_frz, q_evE_non, q_evE_bl, q_evE_int, q_evE_neg, q_evE_str, q_evE_cst, q_evE_tt, q_evE_bin, q_evE_cmp, q_evE_cmp2, q_evE_isN, q_evE_notN, q_evE_and, q_evE_or, q_evE_not, q_evE_ite, q_evE_tup, q_evE_lst, q_evE_new, q_evE_dic0, q_evE_ix, q_evE_slA, q_evE_slB, q_evE_slC, q_evE_rev, q_evE_fld, q_evE_call, q_evE_callK, q_evE_meth, q_evE_mk, q_evE_mkX, q_evE_mkXK, q_evE_thw, q_evE_sset, q_evE_addN, q_evE_lstN, q_evE_lrng, q_evE_trng, q_evE_bf, q_evE_isi, q_evE_isis, q_evEs_nil, q_evEs_cons, q_evI_of, q_evI_enum, q_evI_zip, q_exS_set, q_exS_sets, q_exS_aug, q_exS_put, q_exS_sfld, q_exS_app, q_exS_ext, q_exS_rem, q_exS_clr, q_exS_fz, q_exS_exp, q_exS_ret, q_exS_retN, q_exS_pass, q_exS_ife, q_exS_rse, q_exSs_nil, q_exSs_cons, Nat.reduceSub, List.length_cons, List.length_nil, Nat.reduceAdd, Nat.zero_add, R.bnd_ok, R.fln_ok, R.bind_ok, R.fl_ok, R.opt_some, R.noEx_ok, Fl.opt_some, Option.map_some, Option.bind_some, List.map_cons, List.map_nil, List.cons_append, List.nil_append, List.replicate_zero, List.replicate_succ, List.getElem?_cons_zero, List.getElem?_cons_succ, List.set_cons_zero, List.set_cons_succ, bindT, bindTs, cf_call, rdD, cmpO, cmpD, n1, n2, b1, b2, b3, b4, b5, b6, b7, b8, b9, b10, b11, b12, b13, b14, b15, b16, b17, ty1, ty2, ty3, ty4, ty5, ty6, ty7, z0, z1, z2, z3, z4, z5, z6, z7, z8, z9, z10, z11, z12, z13, NxI_nx, slotsT, slotsTs, wipeE, Fl.thn_nx, Fl.thn_rt, Fl.thn_ex, R.fln_ex, R.bnd_ex, R.fl_ex, R.bind_ex, retF_nx, retF_rt, retF_ex, retD_non, retD_bl, retD_int, retD_str, retD_tup, retD_lst, retD_obj, take_len, isNon, itemsD, Bool.not_true, Bool.not_false, Bool.and_true, Bool.and_false, Bool.true_and, Bool.false_and, ixD])
  | `(tactic| simp_arith [$ls,*]) => `(tactic| simp -dsimp -implicitDefEqProofs only [q_evE_var, q_evE_frz, q_evE_non, q_evE_bl, q_evE_int, q_evE_neg, q_evE_str, q_evE_cst, q_evE_tt, q_evE_bin, q_evE_cmp, q_evE_cmp2, q_evE_isN, q_evE_notN, q_evE_and, q_evE_or, q_evE_not, q_evE_ite, q_evE_tup, q_evE_lst, q_evE_new, q_evE_dic0, q_evE_ix, q_evE_slA, q_evE_slB, q_evE_slC, q_evE_rev, q_evE_fld, q_evE_call, q_evE_callK, q_evE_meth, q_evE_mk, q_evE_mkX, q_evE_mkXK, q_evE_thw, q_evE_sset, q_evE_addN, q_evE_lstN, q_evE_lrng, q_evE_trng, q_evE_bf, q_evE_isi, q_evE_isis, q_evEs_nil, q_evEs_cons, q_evI_of, q_evI_enum, q_evI_zip, q_exS_set, q_exS_sets, q_exS_aug, q_exS_put, q_exS_sfld, q_exS_app, q_exS_ext, q_exS_rem, q_exS_clr, q_exS_fz, q_exS_exp, q_exS_ret, q_exS_retN, q_exS_pass, q_exS_ife, q_exS_rse, q_exSs_nil, q_exSs_cons, Nat.reduceSub, List.length_cons, List.length_nil, Nat.reduceAdd, Nat.zero_add, R.bnd_ok, R.fln_ok, R.bind_ok, R.fl_ok, R.opt_some, R.noEx_ok, Fl.opt_some, Option.map_some, Option.bind_some, List.map_cons, List.map_nil, List.cons_append, List.nil_append, List.replicate_zero, List.replicate_succ, List.getElem?_cons_zero, List.getElem?_cons_succ, List.set_cons_zero, List.set_cons_succ, bindT, bindTs, cf_call, rdD, cmpO, cmpD, n1, n2, b1, b2, b3, b4, b5, b6, b7, b8, b9, b10, b11, b12, b13, b14, b15, b16, b17, ty1, ty2, ty3, ty4, ty5, ty6, ty7, z0, z1, z2, z3, z4, z5, z6, z7, z8, z9, z10, z11, z12, z13, NxI_nx, slotsT, slotsTs, wipeE, Fl.thn_nx, Fl.thn_rt, Fl.thn_ex, R.fln_ex, R.bnd_ex, R.fl_ex, R.bind_ex, retF_nx, retF_rt, retF_ex, retD_non, retD_bl, retD_int, retD_str, retD_tup, retD_lst, retD_obj, take_len, isNon, itemsD, Bool.not_true, Bool.not_false, Bool.and_true, Bool.and_false, Bool.true_and, Bool.false_and, ixD, $ls,*])
theorem Prd.snoc {α β : Type} {Q : α → β → Prop} {xs : List α} {ys : List β} {x : α} {y : β} (h : Prd Q xs ys) (q : Q x y) : Prd Q (xs ++ [x]) (ys ++ [y]) := by
  induction h with
  | nil => exact .cons q .nil
  | cons q' _ ih => exact .cons q' ih
theorem isCL_len {S : Store} {n : Nat} (h : S.length = n) (xs : List D) : isCL (S ++ [some (.lst xs)]) (.loc n) = true := by
  subst h
  exact isCL_last S xs
theorem toCell_len {S : Store} {n : Nat} (h : S.length = n) {xs : List D} {d : D} (h2 : xs.length < 1000000) : toCell (.loc n) (S ++ [some (.lst xs)]) (fun xs => if lenOk (xs.length + 1) = true then some (xs ++ [d]) else none) = some (S ++ [some (.lst (xs ++ [d]))]) := by
  subst h
  exact toCell_app S h2
theorem rd_len {S : Store} {n : Nat} (h : S.length = n) (xs : List D) : rdD (S ++ [some (.lst xs)]) (.loc n) = .lst xs := by
  subst h
  exact rd_last S xs
theorem idx4 {v : Int} (h0 : 0 ≤ v) (h1 : v < 4) : ∃ c : Int, 0 ≤ c ∧ c < 3 ∧ L2.atI [D.int 0, .int 0, .int 1, .int 2] v = some (.int c) := by
  have : v = 0 ∨ v = 1 ∨ v = 2 ∨ v = 3 := by omega
  rcases this with rfl | rfl | rfl | rfl
  · exact ⟨0, by decide, by decide, rfl⟩
  · exact ⟨0, by decide, by decide, rfl⟩
  · exact ⟨1, by decide, by decide, rfl⟩
  · exact ⟨2, by decide, by decide, rfl⟩
theorem pick3 {v a b c : Int} (h0 : 0 ≤ v) (h1 : v < 3) : ∃ m : Int, (m = a ∨ m = b ∨ m = c) ∧ L2.atI [D.int a, .int b, .int c] v = some (.int m) := by
  have : v = 0 ∨ v = 1 ∨ v = 2 := by omega
  rcases this with rfl | rfl | rfl
  · exact ⟨a, .inl rfl, rfl⟩
  · exact ⟨b, .inr (.inl rfl), rfl⟩
  · exact ⟨c, .inr (.inr rfl), rfl⟩
theorem pick2 {v a b : Int} (h0 : 0 ≤ v) (h1 : v < 2) : ∃ m : Int, (m = a ∨ m = b) ∧ L2.atI [D.int a, .int b] v = some (.int m) := by
  have : v = 0 ∨ v = 1 := by omega
  rcases this with rfl | rfl
  · exact ⟨a, .inl rfl, rfl⟩
  · exact ⟨b, .inr rfl, rfl⟩
theorem sortI_sorted (xs : List Int) : Sorted (sortI xs) := by
  have := List.pairwise_mergeSort (le := fun a b : Int => decide (a ≤ b)) (by intro a b c; simp; omega) (by intro a b; simp; omega) xs
  exact List.Pairwise.imp (by intro a b h; simpa using h) this
def b_table (d : Nat) : Sms := (.cons (.set (.nm 3) (.new .nil)) (.cons (.for_ (.tp (.cons (.nm 4) (.cons (.nm 5) .nil))) (.of (.var 1)) (.cons (.set (.nm 6) (.ix (.lst (.cons (.call d (.cons (.var 0) (.cons (.bin .add (.var 2) (.int 1)) .nil))) (.cons (.int 0) (.cons (.int 1) .nil)))) (.ix (.lst (.cons (.int 0) (.cons (.int 0) (.cons (.int 1) (.cons (.int 2) .nil))))) (.call d (.cons (.var 0) (.cons (.int 4) .nil)))))) (.cons (.set (.nm 7) (.ix (.lst (.cons (.int 1) (.cons (.var 5) .nil))) (.call d (.cons (.var 0) (.cons (.int 2) .nil))))) (.cons (.app (.var 3) (.bf .tuple (.cons (.bf .sorted (.cons (.comp (.nm 8) (.rng1 (.var 6)) .tt (.ix (.lst (.cons (.var 7) (.cons (.bin .add (.int 1) (.call d (.cons (.var 0) (.cons (.var 5) .nil)))) .nil))) (.call d (.cons (.var 0) (.cons (.int 2) .nil))))) .nil)) .nil))) .nil)))) (.cons (.ret (.bf .tuple (.cons (.var 3) .nil))) .nil)))
/-- counts of a class's pages as drawn -/
def CntOk (most : Int) (p : Int × Int) (c : List Int) : Prop := (c.length : Int) ≤ most ∧ (∀ x ∈ c, 1 ≤ x ∧ x ≤ p.2) ∧ Sorted c
section
variable {F : Nat → Option Fn} {G : Cls}
theorem c_table {d tb : Nat} (hd : F d = some ⟨2, 4, b_draw⟩) (hc : F tb = some ⟨3, 9, b_table d⟩) (k : Nat) {S : Store} {w : Nat} {u : Option Cell} (h : S[w]? = some u) (hu : WellC u) {ks : List (Int × Int)} (h6 : ks.length ≤ 1000) (hks : ∀ p ∈ ks, 1 ≤ p.2 ∧ p.2 ≤ 60) {most : Int} (h1 : 1 ≤ most) (h2 : most ≤ 60) :
    ∃ (t : List (List Int)) (u' : Option Cell), WellC u' ∧ Prd (CntOk most) ks t ∧ callF F G (k + 2) tb [.loc w, .lst (ks.map kindD), .int most] S = .ok (tabD t) (S.set w u') := by
  have hlt : w < S.length := (List.getElem?_eq_some_iff.mp h).1
  have hset0 : S.set w u = S := by
    apply List.ext_getElem?
    intro i
    by_cases hi : i = w
    · subst hi
      rw [List.getElem?_set_self hlt, h]
    · rw [List.getElem?_set_ne (fun e => hi e.symm)]
  rw [call_eq hc rfl]
  simp only [b_table]
  simp_arith
  rw [q_for, show evI (cf0 F G (k + 1)) G (.of (.var 1)) [some (.loc w), some (.lst (ks.map kindD)), some (.int most), some (.loc S.length), none, none, none, none, none] (S ++ [some (.lst [])]) = .ok (ks.map kindD) (S ++ [some (.lst [])]) from (by simp_arith), R.fl_ok]
  obtain ⟨ρ2, S2, e, ⟨u2, t, hu2, rfl, hp, a1, a2, a3, a4, a5, rfl⟩⟩ := forL_inv (L := ks) (g := kindD) (tg := .tp (.cons (.nm 4) (.cons (.nm 5) .nil))) (Inv := fun i ρ S2 => ∃ u t, WellC u ∧ S2 = S.set w u ++ [some (.lst (t.map tupI))] ∧ Prd (CntOk most) (ks.take i) t ∧ ∃ a b c d e, ρ = [some (.loc w), some (.lst (ks.map kindD)), some (.int most), some (.loc S.length), a, b, c, d, e]) (b := fun ρ S => exSs (cf0 F G (k + 1)) G (.cons (.set (.nm 6) (.ix (.lst (.cons (.call d (.cons (.var 0) (.cons (.bin .add (.var 2) (.int 1)) .nil))) (.cons (.int 0) (.cons (.int 1) .nil)))) (.ix (.lst (.cons (.int 0) (.cons (.int 0) (.cons (.int 1) (.cons (.int 2) .nil))))) (.call d (.cons (.var 0) (.cons (.int 4) .nil)))))) (.cons (.set (.nm 7) (.ix (.lst (.cons (.int 1) (.cons (.var 5) .nil))) (.call d (.cons (.var 0) (.cons (.int 2) .nil))))) (.cons (.app (.var 3) (.bf .tuple (.cons (.bf .sorted (.cons (.comp (.nm 8) (.rng1 (.var 6)) .tt (.ix (.lst (.cons (.var 7) (.cons (.bin .add (.int 1) (.call d (.cons (.var 0) (.cons (.var 5) .nil)))) .nil))) (.call d (.cons (.var 0) (.cons (.int 2) .nil))))) .nil)) .nil))) .nil))) ρ S)
    (fun i hi ρ S2 hI => by
      obtain ⟨u, t, hu, rfl, hp, a1, a2, a3, a4, a5, rfl⟩ := hI
      have hkp := hks _ (List.getElem_mem hi)
      refine ⟨_, rfl, NxI_to ?_⟩
      have hw : ∀ u T, (S.set w u ++ T)[w]? = some u := fun u T => by
        rw [List.getElem?_append_left (by simpa using hlt)]
        simp [hlt]
      have hst : ∀ u u' T, (S.set w u ++ T).set w u' = S.set w u' ++ T := fun u u' T => by
        rw [set_app (by simpa using hlt)]
        simp
      have hlen : ∀ u, (S.set w u).length = S.length := fun u => by simp
      have htl := hp.length
      obtain ⟨a, ua, a0, ha1, hua, ea⟩ := c_draw (G := G) hd k (w := w) (hw u [some (.lst (t.map tupI))]) hu (show 1 ≤ most + 1 by omega) (by omega)
      rw [hst] at ea
      obtain ⟨b, ub, b0, hb1, hub, eb⟩ := c_draw (G := G) hd k (w := w) (hw ua [some (.lst (t.map tupI))]) hua (show (1 : Int) ≤ 4 by decide) (by decide)
      rw [hst] at eb
      obtain ⟨c, c0, c1, ec⟩ := idx4 b0 hb1
      obtain ⟨m, hm, em⟩ := pick3 (a := a) (b := 0) (c := 1) c0 c1
      have hm0 : 0 ≤ m ∧ m ≤ most := by omega
      obtain ⟨v, uv, v0, hv1, huv, evv⟩ := c_draw (G := G) hd k (w := w) (hw ub [some (.lst (t.map tupI))]) hub (show (1 : Int) ≤ 2 by decide) (by decide)
      rw [hst] at evv
      obtain ⟨lo, hlo, elo⟩ := pick2 (a := 1) (b := (ks[i]).2) v0 hv1
      obtain ⟨mn, rfl⟩ := Int.eq_ofNat_of_zero_le hm0.1
      obtain ⟨ys, uy, huy, hpy, ey⟩ := ev_compW (cf := cf0 F G (k + 1)) (G := G) (tg := .nm 8) (it := .rng1 (.var 6)) (e := (.ix (.lst (.cons (.var 7) (.cons (.bin .add (.int 1) (.call d (.cons (.var 0) (.cons (.var 5) .nil)))) .nil))) (.call d (.cons (.var 0) (.cons (.int 2) .nil))))) (ρ := [some (.loc w), some (.lst (ks.map kindD)), some (.int most), some (.loc S.length), some (.int (ks[i]).1), some (.int (ks[i]).2), some (.int (mn : Int)), some (.int lo), a5]) (S := S.set w uv ++ [some (.lst (t.map tupI))]) (L := List.range mn) (g := fun (i : Nat) => .int (i : Int)) D.int (fun _ y => 1 ≤ y ∧ y ≤ (ks[i]).2) (hw uv [some (.lst (t.map tupI))]) huv
        (evI_rng1 (n := mn) (by simp_arith) (by omega)) (by simp; omega) (fun x _ => rfl) (fun _ => rfl) (fun x hx S' u h hu => by
          have hlt' : w < S'.length := (List.getElem?_eq_some_iff.mp h).1
          obtain ⟨a, ua, a0, a1, hua, ea⟩ := c_draw (G := G) hd k h hu hkp.1 (show (ks[i]).2 ≤ 100000 by omega)
          obtain ⟨b, ub, b0, b1, hub, eb⟩ := c_draw (G := G) hd k (S := S'.set w ua) (w := w) (u := ua) (by simp [hlt']) hua (show (1 : Int) ≤ 2 by decide) (by decide)
          obtain ⟨y, hy, ey⟩ := pick2 (a := lo) (b := 1 + a) b0 b1
          refine ⟨y, ub, hub, by omega, ?_⟩
          simp_arith [ea, eb, ey, List.set_set])
      rw [hst] at ey
      have hq : CntOk most ks[i] (sortI ys) := by
        refine ⟨?_, fun x hx => ?_, sortI_sorted ys⟩
        · have := hpy.length
          rw [(sortI_perm ys).length_eq, this]
          simp
          omega
        · exact hpy.right (P := fun y => 1 ≤ y ∧ y ≤ (ks[i]).2) (fun _ _ _ h => h) x ((sortI_perm ys).mem_iff.mp hx)
      simp_arith [ea, eb, ec, em, evv, elo, isCL_len (hlen _), if_true, ey, intsD_map, toCell_len (hlen uy) (xs := t.map tupI) (show (t.map tupI).length < 1000000 by simp at htl ⊢; omega)]
      refine ⟨uy, t ++ [sortI ys], huy, ?_, ?_, _, _, _, _, _, rfl⟩
      · rw [List.map_append]
        rfl
      · rw [List.take_succ_eq_append_getElem hi]
        exact hp.snoc hq)
    (ρ := [some (.loc w), some (.lst (ks.map kindD)), some (.int most), some (.loc S.length), none, none, none, none, none]) (S := S ++ [some (.lst [])]) ⟨u, [], hu, by rw [hset0]; rfl, .nil, _, _, _, _, _, rfl⟩
  rw [e]
  rw [List.take_length] at hp
  refine ⟨t, u2, hu2, hp, ?_⟩
  simp_arith
  rw [b20, rd_len (by simp)]
  simp only [bfD]
  simp_arith
  rw [List.take_append_of_le_length (by simp), List.take_of_length_le (by simp)]
end
end SP
end
section
set_option Elab.async false
set_option linter.all false
set_option autoImplicit false
set_option maxRecDepth 100000
set_option maxHeartbeats 2000000
namespace SP
open PySem
local macro_rules
  | `(tactic| simp_arith) => `(tactic| simp -dsimp -implicitDefEqProofs only [q_evE_var, q_evE_frz, q_evE_non, q_evE_bl, q_evE_int, q_evE_neg, q_evE_str, q_evE_cst, q_evE_tt, q_evE_bin, q_evE_cmp, q_evE_cmp2, q_evE_isN, q_evE_notN, q_evE_and, q_evE_or, q_evE_not, q_evE_ite, q_evE_tup, q_evE_lst, q_evE_new, q_evE_dic0, q_evE_ix, q_evE_slA, q_evE_slB, q_evE_slC, q_evE_rev, q_evE_fld, q_evE_call, q_evE_callK, q_evE_meth, q_evE_mk, q_evE_mkX, q_evE_mkXK, q_evE_thw, q_evE_sset, q_evE_addN, q_evE_lstN, q_evE_lrng, q_evE_trng, q_evE_bf, q_evE_isi, q_evE_isis, q_evEs_nil, q_evEs_cons, q_evI_of, q_evI_enum, q_evI_zip, q_exS_set, q_exS_sets, q_exS_aug, q_exS_put, q_exS_sfld, q_exS_app, q_exS_ext, q_exS_rem, q_exS_clr, q_exS_fz, q_exS_exp, q_exS_ret, q_exS_retN, q_exS_pass, q_exS_ife, q_exS_rse, q_exSs_nil, q_exSs_cons, Nat.reduceSub, List.length_cons, List.length_nil, Nat.reduceAdd, Nat.zero_add, R.bnd_ok, R.fln_ok, R.bind_ok, R.fl_ok, R.opt_some, R.noEx_ok, Fl.opt_some, Option.map_some, Option.bind_some, List.map_cons, List.map_nil, List.cons_append, List.nil_append, List.replicate_zero, List.replicate_succ, List.getElem?_cons_zero, List.getElem?_cons_succ, List.set_cons_zero, List.set_cons_succ, bindT, bindTs, cf_call, rdD, cmpO, cmpD, n1, n2, b1, b2, b3, b4, b5, b6, b7, b8, b9, b10, b11, b12, b13, b14, b15, b16, b17, ty1, ty2, ty3, ty4, ty5, ty6, ty7, z0, z1, z2, z3, z4, z5, z6, z7, z8, z9, z10, z11, z12, z13, NxI_nx, slotsT, slotsTs, wipeE, Fl.thn_nx, Fl.thn_rt, Fl.thn_ex, R.fln_ex, R.bnd_ex, R.fl_ex, R.bind_ex, retF_nx, retF_rt, retF_ex, retD_non, retD_bl, retD_int, retD_str, retD_tup, retD_lst, retD_obj, take_len, isNon, itemsD, Bool.not_true, Bool.not_false, Bool.and_true, Bool.and_false, Bool.true_and, Bool.false_and, ixD])
  | `(tactic| simp_arith [$ls,*]) => `(tactic| simp -dsimp -implicitDefEqProofs only [q_evE_var, q_evE_frz, q_evE_non, q_evE_bl, q_evE_int, q_evE_neg, q_evE_str, q_evE_cst, q_evE_tt, q_evE_bin, q_evE_cmp, q_evE_cmp2, q_evE_isN, q_evE_notN, q_evE_and, q_evE_or, q_evE_not, q_evE_ite, q_evE_tup, q_evE_lst, q_evE_new, q_evE_dic0, q_evE_ix, q_evE_slA, q_evE_slB, q_evE_slC, q_evE_rev, q_evE_fld, q_evE_call, q_evE_callK, q_evE_meth, q_evE_mk, q_evE_mkX, q_evE_mkXK, q_evE_thw, q_evE_sset, q_evE_addN, q_evE_lstN, q_evE_lrng, q_evE_trng, q_evE_bf, q_evE_isi, q_evE_isis, q_evEs_nil, q_evEs_cons, q_evI_of, q_evI_enum, q_evI_zip, q_exS_set, q_exS_sets, q_exS_aug, q_exS_put, q_exS_sfld, q_exS_app, q_exS_ext, q_exS_rem, q_exS_clr, q_exS_fz, q_exS_exp, q_exS_ret, q_exS_retN, q_exS_pass, q_exS_ife, q_exS_rse, q_exSs_nil, q_exSs_cons, Nat.reduceSub, List.length_cons, List.length_nil, Nat.reduceAdd, Nat.zero_add, R.bnd_ok, R.fln_ok, R.bind_ok, R.fl_ok, R.opt_some, R.noEx_ok, Fl.opt_some, Option.map_some, Option.bind_some, List.map_cons, List.map_nil, List.cons_append, List.nil_append, List.replicate_zero, List.replicate_succ, List.getElem?_cons_zero, List.getElem?_cons_succ, List.set_cons_zero, List.set_cons_succ, bindT, bindTs, cf_call, rdD, cmpO, cmpD, n1, n2, b1, b2, b3, b4, b5, b6, b7, b8, b9, b10, b11, b12, b13, b14, b15, b16, b17, ty1, ty2, ty3, ty4, ty5, ty6, ty7, z0, z1, z2, z3, z4, z5, z6, z7, z8, z9, z10, z11, z12, z13, NxI_nx, slotsT, slotsTs, wipeE, Fl.thn_nx, Fl.thn_rt, Fl.thn_ex, R.fln_ex, R.bnd_ex, R.fl_ex, R.bind_ex, retF_nx, retF_rt, retF_ex, retD_non, retD_bl, retD_int, retD_str, retD_tup, retD_lst, retD_obj, take_len, isNon, itemsD, Bool.not_true, Bool.not_false, Bool.and_true, Bool.and_false, Bool.true_and, Bool.false_and, ixD, $ls,*])
/-! ### sorting keeps below -/
theorem prd_count {s q : List Int} (h : Prd (fun c x : Int => x ≤ c) s q) (k : Int) : q.countP (fun x => decide (k < x)) ≤ s.countP (fun x => decide (k < x)) := by
  induction h with
  | nil => exact Nat.le_refl _
  | @cons x y xs ys hq _ ih =>
    rw [List.countP_cons, List.countP_cons]
    by_cases h1 : k < y
    · have h2 : k < x := by omega
      simp only [h1, h2, decide_true, if_true]
      omega
    · simp only [h1, decide_false]
      simp only [Bool.false_eq_true, if_false]
      omega
theorem srt_le {s : List Int} (h : Sorted s) {i j : Nat} (hi : i < s.length) (hj : j < s.length) (hij : i ≤ j) : s[i] ≤ s[j] := by
  by_cases e : i = j
  · subst e
    exact Int.le_refl _
  · exact List.pairwise_iff_getElem.mp h i j hi hj (by omega)
theorem srt_count {s : List Int} (h : Sorted s) {i : Nat} (hi : i < s.length) : s.countP (fun x => decide (s[i] < x)) + (i + 1) ≤ s.length := by
  have e : s = s.take (i + 1) ++ s.drop (i + 1) := (List.take_append_drop _ _).symm
  have h1 : (s.take (i + 1)).countP (fun x => decide (s[i] < x)) = 0 := by
    rw [List.countP_eq_zero]
    intro x hx
    obtain ⟨j, hj, rfl⟩ := List.mem_take_iff_getElem.mp hx
    have := srt_le h (show j < s.length by omega) hi (by omega)
    simp
    omega
  have h2 : (s.drop (i + 1)).countP (fun x => decide (s[i] < x)) ≤ s.length - (i + 1) := by
    have := List.countP_le_length (p := fun x => decide (s[i] < x)) (l := s.drop (i + 1))
    rw [List.length_drop] at this
    exact this
  have h3 : s.countP (fun x => decide (s[i] < x)) = (s.take (i + 1)).countP (fun x => decide (s[i] < x)) + (s.drop (i + 1)).countP (fun x => decide (s[i] < x)) := by
    rw [← List.countP_append, List.take_append_drop]
  omega
theorem srt_count2 {q : List Int} (h : Sorted q) {i : Nat} (hi : i < q.length) {k : Int} (hk : k < q[i]) : q.length ≤ q.countP (fun x => decide (k < x)) + i := by
  have h2 : (q.drop i).countP (fun x => decide (k < x)) = (q.drop i).length := by
    rw [List.countP_eq_length]
    intro x hx
    obtain ⟨j, hj, rfl⟩ := List.mem_iff_getElem.mp hx
    rw [List.length_drop] at hj
    rw [List.getElem_drop]
    have := srt_le h hi (show i + j < q.length by omega) (by omega)
    simp
    omega
  have h3 : q.countP (fun x => decide (k < x)) = (q.take i).countP (fun x => decide (k < x)) + (q.drop i).countP (fun x => decide (k < x)) := by
    rw [← List.countP_append, List.take_append_drop]
  rw [List.length_drop] at h2
  omega
theorem srt_below {s q : List Int} (hs : Sorted s) (h : Prd (fun c x : Int => x ≤ c) s q) {i : Nat} (h1 : i < s.length) (h2 : i < (sortI q).length) : (sortI q)[i] ≤ s[i] := by
  by_cases hc : (sortI q)[i] ≤ s[i]
  · exact hc
  · exfalso
    have a1 := srt_count2 (sortI_sorted q) h2 (k := s[i]) (by omega)
    have a2 := prd_count h s[i]
    have a3 := srt_count hs h1
    have a4 : (sortI q).countP (fun x => decide (s[i] < x)) = q.countP (fun x => decide (s[i] < x)) := (sortI_perm q).countP_eq _
    have a5 := (sortI_perm q).length_eq
    have a6 := h.length
    omega
/-- pins of a class as drawn -/
def PinOk (c q : List Int) : Prop := ∃ (i : Nat) (q0 : List Int), q = sortI q0 ∧ Prd (fun c x : Int => 1 ≤ x ∧ x ≤ c) (c.drop i) q0
theorem Prd.imp {α β : Type} {Q Q' : α → β → Prop} {xs : List α} {ys : List β} (h : Prd Q xs ys) (hq : ∀ x y, Q x y → Q' x y) : Prd Q' xs ys := by
  induction h with
  | nil => exact .nil
  | cons q _ ih => exact .cons (hq _ _ q) ih
theorem PinOk.len {c q : List Int} (h : PinOk c q) : q.length ≤ c.length := by
  obtain ⟨i, q0, rfl, h⟩ := h
  rw [(sortI_perm q0).length_eq, h.length, List.length_drop]
  omega
theorem PinOk.srt {c q : List Int} (h : PinOk c q) : Sorted q := by
  obtain ⟨i, q0, rfl, h⟩ := h
  exact sortI_sorted q0
theorem PinOk.all {c q : List Int} (h : PinOk c q) {m : Int} (hm : ∀ x ∈ c, x ≤ m) : ∀ x ∈ q, 1 ≤ x ∧ x ≤ m := by
  obtain ⟨i, q0, rfl, h⟩ := h
  intro x hx
  exact h.right (P := fun x => 1 ≤ x ∧ x ≤ m) (fun c hc x hx => ⟨hx.1, Int.le_trans hx.2 (hm c (List.mem_of_mem_drop hc))⟩) x ((sortI_perm q0).mem_iff.mp hx)
theorem PinOk.dom {c q : List Int} (hc : Sorted c) (h : PinOk c q) : ∀ z ∈ c.reverse.zip q.reverse, z.2 ≤ z.1 := by
  obtain ⟨i, q0, rfl, h⟩ := h
  have hl : (sortI q0).length = (c.drop i).length := by rw [(sortI_perm q0).length_eq, h.length]
  have hs : Sorted (c.drop i) := List.Pairwise.sublist (List.drop_sublist _ _) hc
  intro z hz
  have e : c = c.take i ++ c.drop i := (List.take_append_drop _ _).symm
  rw [e, List.reverse_append] at hz
  obtain ⟨j, hj, rfl⟩ := List.mem_iff_getElem.mp hz
  rw [List.getElem_zip]
  rw [List.length_zip, List.length_reverse] at hj
  have hj2 : j < (c.drop i).length := by omega
  rw [List.getElem_append_left (by simpa using hj2), List.getElem_reverse, List.getElem_reverse]
  have := srt_below hs (h.imp fun _ _ z => z.2) (i := (c.drop i).length - 1 - j) (by omega) (by omega)
  simp only [hl]
  exact this
theorem PinOk.nil (c : List Int) : PinOk c [] := ⟨c.length, [], (by simp [sortI]), by rw [List.drop_length]; exact .nil⟩
theorem sum_zip : ∀ (a b : List Int), (∀ z ∈ a.zip b, z.2 ≤ z.1) → b.length ≤ a.length → (∀ x ∈ a, 0 ≤ x) → b.sum ≤ a.sum
  | a, [], _, _, h => by
    have : ∀ a : List Int, (∀ x ∈ a, 0 ≤ x) → 0 ≤ a.sum := fun a => by
      induction a with
      | nil => intro _; simp
      | cons x a ih =>
        intro h
        have h1 := h x (List.mem_cons_self ..)
        have h2 := ih fun y hy => h y (List.mem_cons_of_mem _ hy)
        simp only [List.sum_cons]
        omega
    exact this a h
  | [], y :: b, _, hl, _ => by simp at hl
  | x :: a, y :: b, hz, hl, h => by
    have h1 := hz (x, y) (by simp)
    have h2 := sum_zip a b (fun z hz' => hz z (by simp [hz'])) (by simpa using hl) fun y hy => h y (List.mem_cons_of_mem _ hy)
    simp only [List.sum_cons]
    omega
theorem PinOk.sum {c q : List Int} (hc : Sorted c) (h0 : ∀ x ∈ c, 0 ≤ x) (h : PinOk c q) : q.sum ≤ c.sum := by
  rw [← sum_perm (List.reverse_perm q), ← sum_perm (List.reverse_perm c)]
  exact sum_zip _ _ (h.dom hc) (by simpa using h.len) (by simpa using h0)
def b_pins (d : Nat) : Sms := (.cons (.ife (.cmp .eq (.call d (.cons (.var 0) (.cons (.int 2) .nil))) (.int 0)) (.cons (.ret (.bf .tuple (.cons (.comp (.nm 2) (.of (.var 1)) .tt (.tup .nil)) .nil))) .nil) .nil) (.cons (.set (.nm 3) (.new .nil)) (.cons (.for_ (.nm 2) (.of (.var 1)) (.cons (.set (.nm 4) (.slA (.var 2) (.call d (.cons (.var 0) (.cons (.bin .add (.bf .len (.cons (.var 2) .nil)) (.int 1)) .nil))))) (.cons (.app (.var 3) (.bf .tuple (.cons (.bf .sorted (.cons (.comp (.nm 5) (.of (.var 4)) .tt (.bin .add (.int 1) (.call d (.cons (.var 0) (.cons (.var 5) .nil))))) .nil)) .nil))) .nil))) (.cons (.ret (.bf .tuple (.cons (.var 3) .nil))) .nil))))
theorem cutL_lo {α : Type} (xs : List α) (j : Nat) (h : j ≤ xs.length) : cutL xs (some (j : Int)) none = xs.drop j := by
  unfold cutL
  rw [HT.sIx_none, HT.sIx_nat]
  rw [List.take_of_length_le (by simp)]
  rw [Nat.min_eq_left h]
section
variable {F : Nat → Option Fn} {G : Cls}
theorem c_pins {d tb : Nat} (hd : F d = some ⟨2, 4, b_draw⟩) (hc : F tb = some ⟨2, 6, b_pins d⟩) (k : Nat) {S : Store} {w : Nat} {u : Option Cell} (h : S[w]? = some u) (hu : WellC u) {t : List (List Int)} (h6 : t.length ≤ 1000) (ht : ∀ c ∈ t, c.length ≤ 1000 ∧ ∀ x ∈ c, 1 ≤ x ∧ x ≤ 1000) :
    ∃ (p : List (List Int)) (u' : Option Cell), WellC u' ∧ Prd PinOk t p ∧ callF F G (k + 2) tb [.loc w, tabD t] S = .ok (tabD p) (S.set w u') := by
  have hlt : w < S.length := (List.getElem?_eq_some_iff.mp h).1
  obtain ⟨z, uz, z0, hz1, huz, ez⟩ := c_draw (G := G) hd k (w := w) h hu (show (1 : Int) ≤ 2 by decide) (by decide)
  rw [call_eq hc rfl]
  simp only [b_pins]
  by_cases hz : z = 0
  · subst hz
    refine ⟨t.map fun _ => [], uz, huz, ?_, ?_⟩
    · clear ht h6
      induction t with
      | nil => exact .nil
      | cons c t ih => exact .cons (PinOk.nil c) ih
    · simp_arith [ez, eqD_int, decide_true]
      rw [ev_compM (L := t) (g := tupI) (fun _ => D.tup []) (by simp_arith; rfl) (by omega) (fun x _ => rfl) (fun _ _ => rfl) (fun x hx S' => by simp_arith)]
      simp_arith
      rw [List.take_of_length_le (by simp)]
      show R.ok (D.tup (t.map fun _ => D.tup [])) _ = R.ok (D.tup ((t.map fun _ => ([] : List Int)).map tupI)) _
      rw [List.map_map]
      rfl
  · have hz' : (z = 0) = False := eq_false hz
    simp_arith [ez, eqD_int, hz', decide_false]
    have hsl : (S.set w uz).length = S.length := by simp
    rw [hsl]
    rw [q_for, show evI (cf0 F G (k + 1)) G (.of (.var 1)) [some (.loc w), some (tabD t), none, some (.loc S.length), none, none] (S.set w uz ++ [some (.lst [])]) = .ok (t.map tupI) (S.set w uz ++ [some (.lst [])]) from (by simp_arith), R.fl_ok]
    obtain ⟨ρ2, S2, e, ⟨u2, p, hu2, rfl, hp, a1, a2, a3, rfl⟩⟩ := forL_inv (L := t) (g := tupI) (tg := .nm 2) (Inv := fun i ρ S2 => ∃ u p, WellC u ∧ S2 = S.set w u ++ [some (.lst (p.map tupI))] ∧ Prd PinOk (t.take i) p ∧ ∃ a b c, ρ = [some (.loc w), some (tabD t), a, some (.loc S.length), b, c]) (b := fun ρ S => exSs (cf0 F G (k + 1)) G (.cons (.set (.nm 4) (.slA (.var 2) (.call d (.cons (.var 0) (.cons (.bin .add (.bf .len (.cons (.var 2) .nil)) (.int 1)) .nil))))) (.cons (.app (.var 3) (.bf .tuple (.cons (.bf .sorted (.cons (.comp (.nm 5) (.of (.var 4)) .tt (.bin .add (.int 1) (.call d (.cons (.var 0) (.cons (.var 5) .nil))))) .nil)) .nil))) .nil)) ρ S)
      (fun i hi ρ S2 hI => by
        obtain ⟨u, p, hu, rfl, hp, a1, a2, a3, rfl⟩ := hI
        have htc := ht _ (List.getElem_mem hi)
        refine ⟨_, rfl, NxI_to ?_⟩
        have hw : ∀ u T, (S.set w u ++ T)[w]? = some u := fun u T => by
          rw [List.getElem?_append_left (by simpa using hlt)]
          simp [hlt]
        have hst : ∀ u u' T, (S.set w u ++ T).set w u' = S.set w u' ++ T := fun u u' T => by
          rw [set_app (by simpa using hlt)]
          simp
        have hlen : ∀ u, (S.set w u).length = S.length := fun u => by simp
        have htl := hp.length
        obtain ⟨a, ua, a0, ha1, hua, ea⟩ := c_draw (G := G) hd k (w := w) (hw u [some (.lst (p.map tupI))]) hu (show (1 : Int) ≤ ((t[i].length : Nat) : Int) + 1 by omega) (by omega)
        rw [hst] at ea
        obtain ⟨j, rfl⟩ := Int.eq_ofNat_of_zero_le a0
        have ecut : cutL (t[i].map D.int) (some (j : Int)) none = (t[i].drop j).map D.int := by rw [cutL_lo _ _ (by simp; omega), List.map_drop]
        obtain ⟨ys, uy, huy, hpy, ey⟩ := ev_compW (cf := cf0 F G (k + 1)) (G := G) (tg := .nm 5) (it := .of (.var 4)) (e := (.bin .add (.int 1) (.call d (.cons (.var 0) (.cons (.var 5) .nil))))) (ρ := [some (.loc w), some (tabD t), some (tupI t[i]), some (.loc S.length), some (tupI (t[i].drop j)), a3]) (S := S.set w ua ++ [some (.lst (p.map tupI))]) (L := t[i].drop j) (g := D.int) D.int (fun c x => 1 ≤ x ∧ x ≤ c) (hw ua [some (.lst (p.map tupI))]) hua
          (by simp_arith) (by simp; omega) (fun x _ => rfl) (fun _ => rfl) (fun x hx S' u h hu => by
            have hx2 := htc.2 x (List.mem_of_mem_drop hx)
            obtain ⟨a, ua, a0, a1, hua, ea⟩ := c_draw (G := G) hd k h hu hx2.1 (show x ≤ 100000 by omega)
            refine ⟨1 + a, ua, hua, by omega, ?_⟩
            simp_arith [ea])
        rw [hst] at ey
        simp_arith [List.length_map, ea, slD, ecut, isCL_len (hlen _), if_true, ey, intsD_map, toCell_len (hlen uy) (xs := p.map tupI) (show (p.map tupI).length < 1000000 by simp at htl ⊢; omega)]
        refine ⟨uy, p ++ [sortI ys], huy, ?_, ?_, _, _, _, rfl⟩
        · rw [List.map_append]
          rfl
        · rw [List.take_succ_eq_append_getElem hi]
          exact hp.snoc ⟨j, ys, rfl, hpy⟩)
      (ρ := [some (.loc w), some (tabD t), none, some (.loc S.length), none, none]) (S := S.set w uz ++ [some (.lst [])]) ⟨uz, [], huz, rfl, .nil, _, _, _, rfl⟩
    rw [e]
    rw [List.take_length] at hp
    refine ⟨p, u2, hu2, hp, ?_⟩
    simp_arith
    rw [b20, rd_len (by simp)]
    simp only [bfD]
    simp_arith
    rw [List.take_append_of_le_length (by simp), List.take_of_length_le (by simp)]
end
end SP
end
section
set_option Elab.async false
set_option linter.all false
set_option autoImplicit false
set_option maxRecDepth 100000
set_option maxHeartbeats 2000000
namespace SP
open PySem
/-! rows as the laws draw them -/
structure Row (most wide : Int) (ks : List (Int × Int)) (t p : List (List Int)) : Prop where
  pos : 1 ≤ ks.length
  len : ks.length ≤ 6
  all : ∀ q ∈ ks, 1 ≤ q.1 ∧ q.1 ≤ wide ∧ 1 ≤ q.2 ∧ q.2 ≤ wide
  tab : Prd (CntOk most) ks t
  pin : Prd PinOk t p
theorem sum_le (L : List Int) (B : Int) (hB : 0 ≤ B) (h : ∀ x ∈ L, x ≤ B) : L.sum ≤ L.length * B := by
  induction L with
  | nil => simp
  | cons x L ih =>
    have h1 := h x (List.mem_cons_self ..)
    have h2 := ih fun y hy => h y (List.mem_cons_of_mem _ hy)
    simp only [List.sum_cons, List.length_cons]
    rw [show ((L.length + 1 : Nat) : Int) = (L.length : Int) + 1 by omega, Int.add_mul, Int.one_mul]
    omega
section
variable {most wide : Int} {ks : List (Int × Int)} {t p : List (List Int)} (h : Row most wide ks t p) (hm : most ≤ 10) (hw : wide ≤ 60)
include h hm hw
theorem Row.ko : KO ks := ⟨h.pos, h.len, fun q hq => by have := h.all q hq; omega⟩
theorem Row.tl : t.length = ks.length := h.tab.length
theorem Row.pl : p.length = t.length := h.pin.length
theorem Row.cnt {i : Nat} (hi : i < t.length) : ∃ hk : i < ks.length, CntOk most ks[i] (SP.cnt t i) := by
  have hl := h.tab.length
  refine ⟨by omega, ?_⟩
  have := h.tab.at i (by omega) hi
  unfold SP.cnt
  simpa [hi] using this
theorem Row.pn {i : Nat} (hi : i < t.length) : PinOk (SP.cnt t i) (SP.cnt p i) := by
  have hl := h.pin.length
  have := h.pin.at i hi (by omega)
  unfold SP.cnt
  simpa [hi, hl] using this
theorem Row.sl {i : Nat} (hi : i < ks.length) : slk ks i = (ks[i]).2 := by simp [slk, hi]
theorem Row.po : PO t p := ⟨h.pin.length, fun i hi => (h.pn hm hw hi).len, fun i hi => (h.pn hm hw hi).dom ((h.cnt hm hw hi).2.2.2)⟩
theorem Row.pagesT : (t.map (·.length)).sum ≤ 60 := by
  have h1 : ∀ c ∈ t, (c.length : Int) ≤ 10 := h.tab.right (P := fun c => (c.length : Int) ≤ 10) fun _ _ c hc => Int.le_trans hc.1 hm
  have h2 := sum_le (t.map fun c => (c.length : Int)) 10 (by decide) (fun x hx => by
    obtain ⟨c, hc, rfl⟩ := List.mem_map.mp hx
    exact h1 c hc)
  rw [sum_len, List.length_map] at h2
  have := h.tab.length
  have := h.len
  omega
theorem Row.pagesP : (p.map (·.length)).sum ≤ 60 := by
  have h1 : ∀ c ∈ p, (c.length : Int) ≤ 10 := fun c hc => by
    obtain ⟨i, hi, rfl⟩ := List.mem_iff_getElem.mp hc
    have hl := h.pin.length
    have := (h.pn hm hw (i := i) (by omega)).len
    have h3 := (h.cnt hm hw (i := i) (by omega)).2.1
    have e : SP.cnt p i = p[i] := by simp [SP.cnt, hi]
    rw [e] at this
    omega
  have h2 := sum_le (p.map fun c => (c.length : Int)) 10 (by decide) (fun x hx => by
    obtain ⟨c, hc, rfl⟩ := List.mem_map.mp hx
    exact h1 c hc)
  rw [sum_len, List.length_map] at h2
  have := h.pin.length
  have := h.tab.length
  have := h.len
  omega
theorem Row.cs {i : Nat} (hi : i < t.length) : 0 ≤ (SP.cnt t i).sum ∧ (SP.cnt t i).sum ≤ 600 := by
  obtain ⟨hk, h1, h2, _⟩ := h.cnt hm hw hi
  have h3 := h.all _ (List.getElem_mem hk)
  constructor
  · have := sum_zip (SP.cnt t i) [] (by simp) (by simp) (fun x hx => by have := h2 x hx; omega)
    simpa using this
  · have := sum_le (SP.cnt t i) 60 (by decide) (fun x hx => by have := h2 x hx; omega)
    omega
theorem Row.liveP : liveB ks p ≤ liveB ks t := by
  have hl := h.pin.length
  unfold liveB
  have key : ∀ (L M : List Nat), L = M → (L.map fun i => (SP.cnt p i).sum * szk ks i).sum ≤ (M.map fun i => (SP.cnt t i).sum * szk ks i).sum ∨ ∃ i ∈ M, ¬ i < t.length := by
    intro L M e
    subst e
    by_cases hall : ∀ i ∈ L, i < t.length
    · left
      induction L with
      | nil => simp
      | cons i L ih =>
        have h1 := ih fun j hj => hall j (List.mem_cons_of_mem _ hj)
        have hi := hall i (List.mem_cons_self ..)
        have h2 := (h.pn hm hw hi).sum ((h.cnt hm hw hi).2.2.2) (fun x hx => by have := (h.cnt hm hw hi).2.2.1 x hx; omega)
        have h3 := (h.ko hm hw).sz i
        have h4 := Int.mul_le_mul_of_nonneg_right h2 h3.1
        simp only [List.map_cons, List.sum_cons]
        omega
    · right
      simpa using hall
  have conv : ∀ (l : List (List Int)), (l.zipIdx).map (fun q => q.1.sum * szk ks q.2) = (List.range l.length).map fun i => (SP.cnt l i).sum * szk ks i := fun l => by
    apply List.ext_getElem
    · simp
    · intro i h1 h2
      simp at h1
      simp [SP.cnt, h1]
  rw [conv, conv, hl]
  rcases key (List.range t.length) _ rfl with h1 | ⟨i, hi, h2⟩
  · exact h1
  · exact absurd (List.mem_range.mp hi) h2
theorem Row.liveT : 0 ≤ liveB ks t ∧ liveB ks t ≤ 216000 := by
  have conv : (t.zipIdx).map (fun q => q.1.sum * szk ks q.2) = (List.range t.length).map fun i => (SP.cnt t i).sum * szk ks i := by
    apply List.ext_getElem
    · simp
    · intro i h1 h2
      simp at h1
      simp [SP.cnt, h1]
  unfold liveB
  rw [conv]
  have hb : ∀ x ∈ (List.range t.length).map (fun i => (SP.cnt t i).sum * szk ks i), 0 ≤ x ∧ x ≤ 36000 := fun x hx => by
    obtain ⟨i, hi, rfl⟩ := List.mem_map.mp hx
    have h1 := h.cs hm hw (List.mem_range.mp hi)
    have h2 := (h.ko hm hw).sz i
    have h4 : szk ks i ≤ 60 := by
      have h5 := List.mem_range.mp hi
      have h6 := h.tab.length
      have := h.all _ (List.getElem_mem (show i < ks.length by omega))
      unfold szk
      rw [List.getD_eq_getElem?_getD, List.getElem?_eq_getElem (by omega), Option.getD_some]
      omega
    refine ⟨Int.mul_nonneg h1.1 h2.1, ?_⟩
    have := Int.mul_le_mul h1.2 h4 h2.1 (by decide)
    omega
  have h2 := sum_le _ 36000 (by decide) (fun x hx => (hb x hx).2)
  have h3 := sum_zip _ [] (by simp) (by simp) (fun x hx => (hb x hx).1)
  rw [List.length_map, List.length_range] at h2
  have := h.tab.length
  have := h.len
  refine ⟨by simpa using h3, by omega⟩
theorem Row.toT {m : Int} (hl : liveB ks t ≤ m) : TO ks m t := by
  refine ⟨h.tab.length, fun i hi c hc => ?_, fun i hi => (h.cnt hm hw hi).2.2.2, h.pagesT hm hw, hl⟩
  obtain ⟨hk, _, h2, _⟩ := h.cnt hm hw hi
  rw [h.sl hm hw hk]
  exact h2 c hc
theorem Row.toP {m : Int} (hl : liveB ks t ≤ m) : TO ks m p := by
  have hpl := h.pin.length
  have htl := h.tab.length
  refine ⟨by omega, fun i hi c hc => ?_, fun i hi => (h.pn hm hw (by omega)).srt, h.pagesP hm hw, Int.le_trans (h.liveP hm hw) hl⟩
  obtain ⟨hk, _, h2, _⟩ := h.cnt hm hw (i := i) (by omega)
  rw [h.sl hm hw hk]
  exact (h.pn hm hw (i := i) (by omega)).all (fun x hx => (h2 x hx).2) c hc
/-- without pins -/
theorem Row.none : Row most wide ks t (t.map fun _ => []) := ⟨h.pos, h.len, h.all, h.tab, by
  have : ∀ t : List (List Int), Prd PinOk t (t.map fun _ => []) := fun t => by
    induction t with
    | nil => exact .nil
    | cons c t ih => exact .cons (PinOk.nil c) ih
  exact this t⟩
end
theorem none_eq {t : List (List Int)} {n : Nat} (h : t.length = n) : (List.replicate n ([] : List Int)) = t.map fun _ => [] := by
  subst h
  rw [List.map_const']
theorem plDs_map {α : Type} (f : α → D) : ∀ L : List α, (∀ x ∈ L, plD (f x) = true) → plDs (L.map f) = true
  | [], _ => rfl
  | x :: L, h => by simp only [List.map_cons, plDs, h x (List.mem_cons_self ..), plDs_map f L fun y hy => h y (List.mem_cons_of_mem _ hy), Bool.and_self]
theorem depDs_map {α : Type} (f : α → D) (n : Nat) : ∀ L : List α, (∀ x ∈ L, depD (f x) ≤ n) → depDs (L.map f) ≤ n
  | [], _ => Nat.zero_le _
  | x :: L, h => by
    simp only [List.map_cons, depDs]
    exact Nat.max_le.mpr ⟨h x (List.mem_cons_self ..), depDs_map f n L fun y hy => h y (List.mem_cons_of_mem _ hy)⟩
def Nice (n : Nat) (d : D) : Prop := plD d = true ∧ depD d ≤ n
theorem nice_int (i : Int) : Nice 0 (.int i) := ⟨rfl, Nat.le_refl _⟩
theorem nice_lst {α : Type} {f : α → D} {n : Nat} {L : List α} (h : ∀ x ∈ L, Nice n (f x)) : Nice (n + 1) (.lst (L.map f)) := ⟨by simp only [plD]; exact plDs_map f L fun x hx => (h x hx).1, by simp only [depD]; exact Nat.succ_le_succ (depDs_map f n L fun x hx => (h x hx).2)⟩
theorem nice_tup {α : Type} {f : α → D} {n : Nat} {L : List α} (h : ∀ x ∈ L, Nice n (f x)) : Nice (n + 1) (.tup (L.map f)) := ⟨by simp only [plD]; exact plDs_map f L fun x hx => (h x hx).1, by simp only [depD]; exact Nat.succ_le_succ (depDs_map f n L fun x hx => (h x hx).2)⟩
theorem nice_lst' {n : Nat} {L : List D} (h : ∀ x ∈ L, Nice n x) : Nice (n + 1) (.lst L) := by
  have := nice_lst (f := id) h
  simpa using this
theorem nice_tup' {n : Nat} {L : List D} (h : ∀ x ∈ L, Nice n x) : Nice (n + 1) (.tup L) := by
  have := nice_tup (f := id) h
  simpa using this
theorem Nice.mono {n m : Nat} {d : D} (h : Nice n d) (hm : n ≤ m) : Nice m d := ⟨h.1, Nat.le_trans h.2 hm⟩
theorem Nice.eq {n : Nat} {d : D} (h : Nice n d) (hn : n ≤ 40) : eqD d d = some true := eqD_self h.1 (Nat.le_trans h.2 hn)
theorem nice_least (ks : List (Int × Int)) (t p : List (List Int)) : Nice 2 (leastD ks t p) := by
  refine nice_tup' fun x hx => ?_
  simp only [List.mem_cons, List.not_mem_nil, or_false] at hx
  rcases hx with rfl | rfl
  · exact (nice_int _).mono (by decide)
  · exact nice_tup fun i _ => nice_int i
theorem nice_most (ks : List (Int × Int)) (m : Int) (t p : List (List Int)) : Nice 1 (.lst ((List.range ks.length).map (mostB ks m t p))) := nice_lst fun i _ => by
  unfold mostB mostD
  split
  · exact ⟨rfl, Nat.le_refl _⟩
  · exact nice_int _
end SP
end
section
set_option Elab.async false
set_option linter.all false
set_option autoImplicit false
set_option maxRecDepth 100000
set_option maxHeartbeats 2000000
namespace SP
open PySem
local macro_rules
  | `(tactic| simp_arith) => `(tactic| simp -dsimp -implicitDefEqProofs only [q_evE_var, q_evE_frz, q_evE_non, q_evE_bl, q_evE_int, q_evE_neg, q_evE_str, q_evE_cst, q_evE_tt, q_evE_bin, q_evE_cmp, q_evE_cmp2, q_evE_isN, q_evE_notN, q_evE_and, q_evE_or, q_evE_not, q_evE_ite, q_evE_tup, q_evE_lst, q_evE_new, q_evE_dic0, q_evE_ix, q_evE_slA, q_evE_slB, q_evE_slC, q_evE_rev, q_evE_fld, q_evE_call, q_evE_callK, q_evE_meth, q_evE_mk, q_evE_mkX, q_evE_mkXK, q_evE_thw, q_evE_sset, q_evE_addN, q_evE_lstN, q_evE_lrng, q_evE_trng, q_evE_bf, q_evE_isi, q_evE_isis, q_evEs_nil, q_evEs_cons, q_evI_of, q_evI_enum, q_evI_zip, q_exS_set, q_exS_sets, q_exS_aug, q_exS_put, q_exS_sfld, q_exS_app, q_exS_ext, q_exS_rem, q_exS_clr, q_exS_fz, q_exS_exp, q_exS_ret, q_exS_retN, q_exS_pass, q_exS_ife, q_exS_rse, q_exSs_nil, q_exSs_cons, Nat.reduceSub, List.length_cons, List.length_nil, Nat.reduceAdd, Nat.zero_add, R.bnd_ok, R.fln_ok, R.bind_ok, R.fl_ok, R.opt_some, R.noEx_ok, Fl.opt_some, Option.map_some, Option.bind_some, List.map_cons, List.map_nil, List.cons_append, List.nil_append, List.replicate_zero, List.replicate_succ, List.getElem?_cons_zero, List.getElem?_cons_succ, List.set_cons_zero, List.set_cons_succ, bindT, bindTs, cf_call, rdD, cmpO, cmpD, n1, n2, b1, b2, b3, b4, b5, b6, b7, b8, b9, b10, b11, b12, b13, b14, b15, b16, b17, ty1, ty2, ty3, ty4, ty5, ty6, ty7, z0, z1, z2, z3, z4, z5, z6, z7, z8, z9, z10, z11, z12, z13, NxI_nx, slotsT, slotsTs, wipeE, Fl.thn_nx, Fl.thn_rt, Fl.thn_ex, R.fln_ex, R.bnd_ex, R.fl_ex, R.bind_ex, retF_nx, retF_rt, retF_ex, retD_non, retD_bl, retD_int, retD_str, retD_tup, retD_lst, retD_obj, take_len, isNon, itemsD, Bool.not_true, Bool.not_false, Bool.and_true, Bool.and_false, Bool.true_and, Bool.false_and, ixD])
  | `(tactic| simp_arith [$ls,*]) => `(tactic| simp -dsimp -implicitDefEqProofs only [q_evE_var, q_evE_frz, q_evE_non, q_evE_bl, q_evE_int, q_evE_neg, q_evE_str, q_evE_cst, q_evE_tt, q_evE_bin, q_evE_cmp, q_evE_cmp2, q_evE_isN, q_evE_notN, q_evE_and, q_evE_or, q_evE_not, q_evE_ite, q_evE_tup, q_evE_lst, q_evE_new, q_evE_dic0, q_evE_ix, q_evE_slA, q_evE_slB, q_evE_slC, q_evE_rev, q_evE_fld, q_evE_call, q_evE_callK, q_evE_meth, q_evE_mk, q_evE_mkX, q_evE_mkXK, q_evE_thw, q_evE_sset, q_evE_addN, q_evE_lstN, q_evE_lrng, q_evE_trng, q_evE_bf, q_evE_isi, q_evE_isis, q_evEs_nil, q_evEs_cons, q_evI_of, q_evI_enum, q_evI_zip, q_exS_set, q_exS_sets, q_exS_aug, q_exS_put, q_exS_sfld, q_exS_app, q_exS_ext, q_exS_rem, q_exS_clr, q_exS_fz, q_exS_exp, q_exS_ret, q_exS_retN, q_exS_pass, q_exS_ife, q_exS_rse, q_exSs_nil, q_exSs_cons, Nat.reduceSub, List.length_cons, List.length_nil, Nat.reduceAdd, Nat.zero_add, R.bnd_ok, R.fln_ok, R.bind_ok, R.fl_ok, R.opt_some, R.noEx_ok, Fl.opt_some, Option.map_some, Option.bind_some, List.map_cons, List.map_nil, List.cons_append, List.nil_append, List.replicate_zero, List.replicate_succ, List.getElem?_cons_zero, List.getElem?_cons_succ, List.set_cons_zero, List.set_cons_succ, bindT, bindTs, cf_call, rdD, cmpO, cmpD, n1, n2, b1, b2, b3, b4, b5, b6, b7, b8, b9, b10, b11, b12, b13, b14, b15, b16, b17, ty1, ty2, ty3, ty4, ty5, ty6, ty7, z0, z1, z2, z3, z4, z5, z6, z7, z8, z9, z10, z11, z12, z13, NxI_nx, slotsT, slotsTs, wipeE, Fl.thn_nx, Fl.thn_rt, Fl.thn_ex, R.fln_ex, R.bnd_ex, R.fl_ex, R.bind_ex, retF_nx, retF_rt, retF_ex, retD_non, retD_bl, retD_int, retD_str, retD_tup, retD_lst, retD_obj, take_len, isNon, itemsD, Bool.not_true, Bool.not_false, Bool.and_true, Bool.and_false, Bool.true_and, Bool.false_and, ixD, $ls,*])
/-- it gives d, whatever the store -/
def OkD (d : D) (r : R D) : Prop := ∃ S, r = .ok d S
theorem OkD.mk (d : D) (S : Store) : OkD d (.ok d S) := ⟨S, rfl⟩
section
variable {cf : Cf} {G : Cls} {α : Type}
/-- a loop by its invariant, then the others: any wish of the result -/
theorem ret_forP {P : R D → Prop} {t : Tg} {it : It} {b : Sms} {ρ : Env} {S S1 : Store} {L : List α} {g : α → D} {n : Nat} {f : Env → Store → Fl} (Inv : Nat → Env → Store → Prop) (hi : evI cf G it ρ S = .ok (L.map g) S1) (h0 : Inv 0 ρ S1)
    (h : ∀ i (hi : i < L.length) ρ S, Inv i ρ S → ∃ ρ1, bindT t (g L[i]) ρ = some ρ1 ∧ NxI (exSs cf G b ρ1 S) (Inv (i + 1))) (hk : ∀ ρ2 S2, Inv L.length ρ2 S2 → P (retF n (f ρ2 S2))) : P (retF n (Fl.thn (exS cf G (.for_ t it b) ρ S) f)) := by
  rw [q_for, hi, R.fl_ok]
  obtain ⟨ρ2, S2, h1, h2⟩ := forL_inv (b := fun ρ S => exSs cf G b ρ S) Inv (fun i hi ρ S hI => let ⟨ρ1, h1, h2⟩ := h i hi ρ S hI; ⟨ρ1, h1, NxI_to h2⟩) h0
  rw [h1, Fl.thn_nx]
  exact hk ρ2 S2 h2
end
theorem set_self {S : Store} {w : Nat} {u : Option Cell} (h : S[w]? = some u) : S.set w u = S := by
  have hlt : w < S.length := (List.getElem?_eq_some_iff.mp h).1
  apply List.ext_getElem?
  intro i
  by_cases hi : i = w
  · subst hi
    rw [List.getElem?_set_self hlt, h]
  · rw [List.getElem?_set_ne (fun e => hi e.symm)]
theorem get_app {S T : Store} {w : Nat} {u : Option Cell} (hlt : w < S.length) : (S.set w u ++ T)[w]? = some u := by
  rw [List.getElem?_append_left (by simpa using hlt)]
  simp [hlt]
theorem set_appS {S T : Store} {w : Nat} {u u' : Option Cell} (hlt : w < S.length) : (S.set w u ++ T).set w u' = S.set w u' ++ T := by
  rw [set_app (by simpa using hlt), List.set_set]
theorem frz_len {S : Store} {n : Nat} (h : S.length = n) (xs : List D) : frzD (.loc n) (S ++ [some (.lst xs)]) = .ok (.lst xs) (S ++ [none]) := by
  subst h
  exact set_last2 S xs
/-! the law's own loop: so many turns, each with a new well -/
def b_turns (n : Int) (c : Ex) : Sm := .for_ (.tp (.cons (.nm 1) (.cons (.nm 2) .nil))) (.enum (.slB (.bin .add (.var 0) (.lst (.cons (.int 0) .nil))) (.int n))) (.cons (.ife (.not c) (.cons (.ret (.bl false)) .nil) .nil) .nil)
def e_well : Ex := .new (.cons (.bin .mul (.var 2) (.bf .toInt (.cons (.cmp .ge (.var 2) (.bin .pow (.int 10) (.int 18))) .nil))) (.cons (.bin .add (.bin .mod (.bf .toInt (.cons (.var 2) .nil)) (.int 2147483647)) (.bin .mul (.int 7919) (.var 1))) (.cons (.int 0) .nil)))
def e_turn1 (r : Nat) : Ex := .call r (.cons e_well .nil)
def e_turn2 (r : Nat) : Ex := .call r (.cons e_well (.cons (.var 1) .nil))
theorem ten18 : binD .pow (.int 10) (.int 18) = some (.int 1000000000000000000) := by
  show (if (decide ((0 : Int) ≤ 18) && decide ((18 : Int) ≤ 1000) && decide ((10 : Int).natAbs < 2 ^ 60)) = true then some (D.int ((10 : Int) ^ (18 : Int).toNat)) else none) = _
  rw [if_pos (by decide +kernel)]
  exact congrArg (fun x => some (D.int x)) (by decide +kernel)
theorem add_scr {is : List Int} {ys : List D} (h : is.length + ys.length ≤ 1000000) : binD .add (.scr is) (.lst ys) = some (.lst (is.map .int ++ ys)) := by
  show (if lenOk (is.length + ys.length) = true then some (D.lst (is.map .int ++ ys)) else none) = _
  rw [if_pos (lenOk_of h)]
section
variable {F : Nat → Option Fn} {G : Cls}
theorem ev_well (k : Nat) (th : Store → R D) {ρ : Env} {S : Store} {x i : Int} (h1 : ρ[1]? = some (some (.int i))) (h2 : ρ[2]? = some (some (.int x))) (hi : 0 ≤ i) (hi2 : i < 100) :
    ∃ u, WellC u ∧ evE (cfAt F G k th) G e_well ρ S = .ok (.loc S.length) (S ++ [u]) := by
  have h31 : (0 : Int) < 2147483647 := by decide
  refine ⟨some (.lst [.int (x * (if decide (1000000000000000000 ≤ x) = true then 1 else 0)), .int (x % 2147483647 + 7919 * i), .int 0]), ⟨_, _, _, rfl⟩, ?_⟩
  unfold e_well
  have h5 : ∀ b : Bool, binD .mul (.int x) (.int (if b = true then 1 else 0)) = some (.int (x * (if b = true then 1 else 0))) := fun b => mul_ok (by cases b <;> decide) (by cases b <;> decide)
  simp_arith [h1, h2, ten18, h5, mod_ok h31, mul_okL (i := 7919) (j := i) (by decide) (by decide)]
theorem enum_scr {n : Nat} {ns : List Int} {k : Nat} {th : Store → R D} {ρ : Env} {S : Store} (hns : ns.length ≤ 63) (h0 : ρ[0]? = some (some (.scr ns))) :
    evI (cfAt F G k th) G (.enum (.slB (.bin .add (.var 0) (.lst (.cons (.int 0) .nil))) (.int (n : Int)))) ρ S = .ok ((((ns ++ [0]).take n).zipIdx).map fun (p : Int × Nat) => .tup [.int p.2, .int p.1]) S := by
  have e1 : (ns.map D.int ++ [D.int 0]) = (ns ++ [0]).map .int := by simp
  simp_arith [h0, add_scr (is := ns) (ys := [D.int 0]) (by simp; omega), e1, slD, cutL_hi, ← List.map_take, enumD_map]
/-- the turns: right holds of each well -/
theorem ret_turns {P : R D → Prop} {rt : Nat} {n lv k : Nat} {th : Store → R D} {ns : List Int} {rest : Env} {S : Store} {f : Env → Store → Fl} {c : Ex} {two : Bool} (hc : c = if two then e_turn2 rt else e_turn1 rt) (hns : ns.length ≤ 63) (hn : n ≤ 10)
    (hr : ∀ (S : Store) (w : Nat) (u : Option Cell) (i : Int), S[w]? = some u → WellC u → 0 ≤ i → i < 100 → OkD (.bl true) (callF F G k rt (.loc w :: if two then [.int i] else []) S))
    (hk : ∀ a b S2, P (retF lv (f (some (.scr ns) :: a :: b :: rest) S2))) : P (retF lv (Fl.thn (exS (cfAt F G k th) G (b_turns (n : Int) c) (some (.scr ns) :: none :: none :: rest) S) f)) := by
  refine ret_forP (L := ((ns ++ [0]).take n).zipIdx) (g := fun (p : Int × Nat) => .tup [.int p.2, .int p.1]) (Inv := fun _ ρ S2 => ∃ a b, ρ = some (.scr ns) :: a :: b :: rest) (enum_scr hns rfl) ⟨_, _, rfl⟩ (fun j hj ρ S2 hI => ?_) (fun ρ2 S2 hI => ?_)
  · obtain ⟨a, b, rfl⟩ := hI
    refine ⟨_, rfl, ?_⟩
    have hm : (((ns ++ [0]).take n).zipIdx)[j].2 < 10 := by
      simp at hj ⊢
      omega
    generalize (((ns ++ [0]).take n).zipIdx)[j] = p at hm ⊢
    obtain ⟨u, hu, ew⟩ := ev_well (F := F) (G := G) k th (ρ := some (.scr ns) :: some (.int p.2) :: some (.int p.1) :: rest) (S := S2) (x := p.1) (i := (p.2 : Int)) rfl rfl (by omega) (by omega)
    obtain ⟨S', er⟩ := hr (S2 ++ [u]) S2.length u (p.2 : Int) (by simp) hu (by omega) (by omega)
    subst hc
    cases two with
    | true =>
      simp only [if_true, e_turn2] at er ⊢
      simp_arith [ew, er]
      exact ⟨_, _, rfl⟩
    | false =>
      simp only [Bool.false_eq_true, if_false, e_turn1] at er ⊢
      simp_arith [ew, er]
      exact ⟨_, _, rfl⟩
  · obtain ⟨a, b, rfl⟩ := hI
    exact hk a b S2
end
end SP
end
section
set_option Elab.async false
set_option linter.all false
set_option autoImplicit false
set_option maxRecDepth 100000
set_option maxHeartbeats 2000000
namespace SP
open PySem
/-! ### which orders fit below a limit; no program here -/
section
variable (h s : Int → Int) (M : Int)
def fitsI : Int → List Int → Prop
  | _, [] => True
  | L, x :: l => L + h x + s x ≤ M ∧ fitsI (L + h x) l
theorem fits_iff : ∀ (l : List Int) (L : Int), fitsI h s M L l ↔ ∀ i (hi : i < l.length), L + ((l.take (i + 1)).map h).sum + s l[i] ≤ M
  | [], L => ⟨fun _ i hi => by simp at hi, fun _ => trivial⟩
  | x :: l, L => by
    simp only [fitsI]
    rw [fits_iff l (L + h x)]
    constructor
    · rintro ⟨h1, h2⟩ i hi
      cases i with
      | zero => simpa using h1
      | succ i =>
        have := h2 i (by simpa using hi)
        simp only [List.take_succ_cons, List.map_cons, List.sum_cons, List.getElem_cons_succ]
        omega
    · intro h1
      refine ⟨by have := h1 0 (by simp); simpa only [Nat.zero_add, List.take_succ_cons, List.take_zero, List.map_cons, List.map_nil, List.sum_cons, List.sum_nil, Int.add_zero, List.getElem_cons_zero] using this, fun i hi => ?_⟩
      have := h1 (i + 1) (by simpa using hi)
      simp only [List.take_succ_cons, List.map_cons, List.sum_cons, List.getElem_cons_succ] at this
      omega
/-- of any of the classes one is the last in an order that fits -/
theorem fits_last (q : Int → Bool) : ∀ (l : List Int) (L : Int), (∀ x ∈ l, 0 ≤ h x) → fitsI h s M L l → (∃ x ∈ l, q x = true) → ∃ y ∈ l, q y = true ∧ L + ((l.filter q).map h).sum + s y ≤ M
  | [], _, _, _, ⟨x, hx, _⟩ => by cases hx
  | x :: l, L, h0, hf, he => by
    simp only [fitsI] at hf
    by_cases hl : ∃ y ∈ l, q y = true
    · obtain ⟨y, hy, hq, hs⟩ := fits_last q l (L + h x) (fun y hy => h0 y (List.mem_cons_of_mem _ hy)) hf.2 hl
      refine ⟨y, List.mem_cons_of_mem _ hy, hq, ?_⟩
      have hx := h0 x (List.mem_cons_self ..)
      rw [List.filter_cons]
      split
      · simp only [List.map_cons, List.sum_cons]
        omega
      · omega
    · obtain ⟨y, hy, hq⟩ := he
      rcases List.mem_cons.mp hy with rfl | hy
      · refine ⟨y, List.mem_cons_self .., hq, ?_⟩
        have : l.filter q = [] := List.filter_eq_nil_iff.mpr fun z hz hz2 => hl ⟨z, hz, hz2⟩
        rw [List.filter_cons, if_pos hq, this]
        simp
        omega
      · exact absurd ⟨y, hy, hq⟩ hl
theorem filter_take {l : List Int} (nd : l.Nodup) (n : Nat) : l.filter (fun x => decide (x ∈ l.take n)) = l.take n := by
  conv => lhs; arg 2; rw [← List.take_append_drop n l]
  rw [List.filter_append, List.filter_eq_self.mpr (fun x hx => by simpa using hx), List.filter_eq_nil_iff.mpr (fun x hx hx2 => ?_), List.append_nil]
  have h2 : x ∈ l.take n := by simpa using hx2
  rw [← List.take_append_drop n l, List.nodup_append] at nd
  exact nd.2.2 x h2 x hx rfl
/-- the order by falling spare is the best one -/
theorem fits_best {l l' : List Int} {L : Int} (nd : l.Nodup) (hp : l.Perm l') (h0 : ∀ x ∈ l, 0 ≤ h x) (hs : l.Pairwise fun a b => s b ≤ s a) (hf : fitsI h s M L l') : fitsI h s M L l := by
  rw [fits_iff]
  intro i hi
  obtain ⟨y, hy, hq, hle⟩ := fits_last h s M (fun x => decide (x ∈ l.take (i + 1))) l' L (fun x hx => h0 x (hp.mem_iff.mpr hx)) hf ⟨l[i], hp.mem_iff.mp (List.getElem_mem hi), by
    rw [decide_eq_true_eq]
    exact List.mem_take_iff_getElem.mpr ⟨i, by omega, rfl⟩⟩
  have e1 : ((l'.filter fun x => decide (x ∈ l.take (i + 1))).map h).sum = ((l.take (i + 1)).map h).sum := by
    rw [← filter_take nd (i + 1)]
    refine sum_perm (List.Perm.map _ ?_)
    have : (l.filter fun x => decide (x ∈ l.take (i + 1))).Perm (l'.filter fun x => decide (x ∈ l.take (i + 1))) := hp.filter _
    rw [filter_take nd]
    rw [filter_take nd] at this
    exact this.symm
  rw [e1] at hle
  have hy2 : y ∈ l.take (i + 1) := by simpa using hq
  obtain ⟨j, hj, rfl⟩ := List.mem_take_iff_getElem.mp hy2
  have : s l[i] ≤ s l[j] := by
    by_cases e : j = i
    · subst e; exact Int.le_refl _
    · exact List.pairwise_iff_getElem.mp hs j i (by omega) hi (by omega)
  omega
end
/-! ### the order of the program -/
abbrev hB (ks : List (Int × Int)) (t p : List (List Int)) (x : Int) : Int := heldB ks t p x.toNat
abbrev sB (ks : List (Int × Int)) (t p : List (List Int)) (x : Int) : Int := spareB ks t p x.toNat
theorem leP_iff (a b : Int × Int) : leP a b = true ↔ a.1 < b.1 ∨ a.1 = b.1 ∧ a.2 ≤ b.2 := by
  simp only [leP, Bool.or_eq_true, Bool.and_eq_true, decide_eq_true_eq]
section
variable (ks : List (Int × Int)) (t p : List (List Int))
theorem order_desc : (orderI ks t p).Pairwise fun a b => sB ks t p b ≤ sB ks t p a := by
  have h := List.pairwise_mergeSort (le := fun a b => leP (keyO ks t p a) (keyO ks t p b)) (fun a b c h1 h2 => ?_) (fun a b => ?_) (grownI t p)
  · refine h.imp fun {a b} hab => ?_
    have hab := (leP_iff _ _).mp hab
    have e1 : ∀ x, (keyO ks t p x).1 = 0 - sB ks t p x := fun _ => rfl
    rw [e1, e1] at hab
    omega
  · rw [leP_iff] at h1 h2 ⊢
    omega
  · simp only [Bool.or_eq_true, leP_iff]
    omega
theorem minS_eq {xs : List Int} {m : Int} (h : m ∈ xs) (hl : ∀ x ∈ xs, m ≤ x) : minS xs = m := by
  have h1 := minS_le h
  have h2 := hl _ (minS_mem (fun e => by rw [e] at h; cases h))
  omega
theorem shown_take {i : Nat} (hi : i < (orderI ks t p).length) : shown ks t p ((orderI ks t p).take (i + 1)) = liveB ks p + (((orderI ks t p).take (i + 1)).map (hB ks t p)).sum + sB ks t p (orderI ks t p)[i] := by
  unfold shown
  congr 1
  refine minS_eq (List.mem_map.mpr ⟨(orderI ks t p)[i], List.mem_take_iff_getElem.mpr ⟨i, by omega, rfl⟩, rfl⟩) fun x hx => ?_
  obtain ⟨y, hy, rfl⟩ := List.mem_map.mp hx
  obtain ⟨j, hj, rfl⟩ := List.mem_take_iff_getElem.mp hy
  by_cases e : j = i
  · subst e; exact Int.le_refl _
  · exact List.pairwise_iff_getElem.mp (order_desc ks t p) j i (by omega) hi (by omega)
theorem leastAt_le (M : Int) : ∀ n, n ≤ (orderI ks t p).length → ((leastAt ks t p ((orderI ks t p).take n)).1.1 ≤ M ↔ liveB ks t ≤ M ∧ ∀ i, i < n → shown ks t p ((orderI ks t p).take (i + 1)) ≤ M) := by
  have es : ∀ (L : List Int) (s : (Int × List Int) × List Int), (L.foldl (leastStep ks t p) s).2 = s.2 ++ L := fun L => by
    induction L with
    | nil => intro s; simp
    | cons x L ih =>
      intro s
      rw [List.foldl_cons, ih]
      unfold leastStep
      split <;> simp
  intro n
  induction n with
  | zero =>
    intro _
    rw [List.take_zero]
    exact ⟨fun h => ⟨h, fun i hi => by omega⟩, fun h => h.1⟩
  | succ n ih =>
    intro hn
    have ih := ih (by omega)
    have e2 : (orderI ks t p).take (n + 1) = (orderI ks t p).take n ++ [(orderI ks t p)[n]] := List.take_succ_eq_append_getElem (by omega)
    have e7 : leastAt ks t p ((orderI ks t p).take (n + 1)) = leastStep ks t p (leastAt ks t p ((orderI ks t p).take n)) (orderI ks t p)[n] := by
      rw [e2]
      unfold leastAt
      rw [List.foldl_append]
      rfl
    have e8 : (leastAt ks t p ((orderI ks t p).take n)).2 = (orderI ks t p).take n := by
      unfold leastAt
      rw [es]
      rfl
    rw [e7]
    unfold leastStep
    rw [e8, ← e2]
    have split_ : (∀ i, i < n + 1 → shown ks t p ((orderI ks t p).take (i + 1)) ≤ M) ↔ (∀ i, i < n → shown ks t p ((orderI ks t p).take (i + 1)) ≤ M) ∧ shown ks t p ((orderI ks t p).take (n + 1)) ≤ M :=
      ⟨fun h => ⟨fun i hi => h i (by omega), h n (by omega)⟩, fun h i hi => by
        by_cases e : i = n
        · subst e; exact h.2
        · exact h.1 i (by omega)⟩
    rw [split_, ← and_assoc, ← ih]
    split
    · constructor
      · intro h
        have h : shown ks t p ((orderI ks t p).take (n + 1)) ≤ M := h
        exact ⟨by omega, h⟩
      · exact fun h => h.2
    · constructor
      · intro h
        have h : (leastAt ks t p ((orderI ks t p).take n)).1.1 ≤ M := h
        exact ⟨h, by omega⟩
      · exact fun h => h.1
theorem least_le (M : Int) : (leastB ks t p).1 ≤ M ↔ liveB ks t ≤ M ∧ fitsI (hB ks t p) (sB ks t p) M (liveB ks p) (orderI ks t p) := by
  have h := leastAt_le ks t p M (orderI ks t p).length (Nat.le_refl _)
  rw [List.take_length] at h
  unfold leastB
  rw [h, fits_iff]
  exact ⟨fun h => ⟨h.1, fun i hi => by rw [← shown_take ks t p hi]; exact h.2 i hi⟩, fun h => ⟨h.1, fun i hi => by rw [shown_take ks t p hi]; exact h.2 i hi⟩⟩
theorem live_least : liveB ks t ≤ (leastB ks t p).1 := ((least_le ks t p _).mp (Int.le_refl _)).1
theorem stuck_none (m : Int) : stuckAt ks m t p = none ↔ fitsI (hB ks t p) (sB ks t p) m (liveB ks p) (orderI ks t p) := by
  unfold stuckAt
  rw [List.find?_eq_none, fits_iff]
  constructor
  · intro h i hi
    have := h i (List.mem_range.mpr hi)
    unfold stuckQ totAt at this
    rw [List.getD_eq_getElem?_getD, List.getElem?_eq_getElem hi, Option.getD_some, decide_eq_true_eq, Int.not_lt] at this
    exact this
  · intro h i hi
    have hi := List.mem_range.mp hi
    have := h i hi
    unfold stuckQ totAt
    rw [List.getD_eq_getElem?_getD, List.getElem?_eq_getElem hi, Option.getD_some, decide_eq_true_eq, Int.not_lt]
    exact this
/-- a table arises exactly with limits from the least one on -/
theorem order_iff {m : Int} (hl : liveB ks t ≤ m) : stuckAt ks m t p = none ↔ (leastB ks t p).1 ≤ m := by
  rw [stuck_none, least_le]
  exact ⟨fun h => ⟨hl, h⟩, fun h => h.2⟩
theorem have_eq (m : Int) (n j : Nat) : haveB ks m t p n j = decide (pagesN (thinB t p n j) ≤ 60 ∧ (leastB ks (thinB t p n j) p).1 ≤ m) := by
  unfold haveB
  have hl := live_least ks (thinB t p n j) p
  by_cases h : 60 < pagesN (thinB t p n j) ∨ m < liveB ks (thinB t p n j)
  · rw [if_pos h, eq_comm, decide_eq_false_iff_not]
    omega
  · rw [if_neg h]
    have h2 := order_iff ks (thinB t p n j) p (m := m) (by omega)
    by_cases h3 : (leastB ks (thinB t p n j) p).1 ≤ m
    · rw [h2.mpr h3, decide_eq_true ⟨by omega, h3⟩]
      rfl
    · rw [decide_eq_false (fun z => h3 z.2)]
      cases e : stuckAt ks m (thinB t p n j) p with
      | none => exact absurd (h2.mp e) h3
      | some _ => rfl
/-- the number of pages that a class can have, never less with more bytes -/
theorem have_mono {m m' : Int} (h : m ≤ m') {n j : Nat} (hh : haveB ks m t p n j = true) : haveB ks m' t p n j = true := by
  rw [have_eq, decide_eq_true_eq] at hh ⊢
  omega
theorem off_mono {N : Nat} {q q' : Nat → Bool} (hN : q N = false) (hN' : q' N = false) (h : ∀ i, q i = true → q' i = true) : offQ N q ≤ offQ N q' := by
  obtain ⟨_, _, h3⟩ := offQ_is hN
  obtain ⟨_, h2', _⟩ := offQ_is hN'
  by_cases e : offQ N q ≤ offQ N q'
  · exact e
  · have := h _ (h3 _ (by omega : offQ N q' < offQ N q))
    rw [h2'] at this
    cases this
end
end SP
end
section
set_option Elab.async false
set_option linter.all false
set_option autoImplicit false
set_option maxRecDepth 100000
set_option maxHeartbeats 2000000
namespace SP
open PySem
/-! ### sums over the classes -/
theorem sum_range_le {f g : Nat → Int} : ∀ {n : Nat}, (∀ i, i < n → f i ≤ g i) → ((List.range n).map f).sum ≤ ((List.range n).map g).sum
  | 0, _ => by simp
  | n + 1, h => by
    have := sum_range_le (n := n) fun i hi => h i (by omega)
    have h2 := h n (by omega)
    simp only [List.range_succ, List.map_append, List.sum_append, List.map_cons, List.map_nil, List.sum_cons, List.sum_nil]
    omega
theorem sum_range_eq {f g : Nat → Int} {n : Nat} (h : ∀ i, i < n → f i = g i) : ((List.range n).map f).sum = ((List.range n).map g).sum := by
  congr 1
  exact List.map_congr_left fun i hi => h i (List.mem_range.mp hi)
theorem sum_range_mul (f : Nat → Int) (c : Int) : ∀ n : Nat, ((List.range n).map fun i => c * f i).sum = c * ((List.range n).map f).sum
  | 0 => by simp
  | n + 1 => by
    have := sum_range_mul f c n
    simp only [List.range_succ, List.map_append, List.sum_append, List.map_cons, List.map_nil, List.sum_cons, List.sum_nil, this, Int.mul_add]
    omega
theorem sum_const_le {f : Nat → Int} {B : Int} : ∀ {n : Nat}, (∀ i, i < n → f i ≤ B) → ((List.range n).map f).sum ≤ n * B
  | 0, _ => by simp
  | n + 1, h => by
    have := sum_const_le (n := n) (B := B) fun i hi => h i (by omega)
    have h2 := h n (by omega)
    simp only [List.range_succ, List.map_append, List.sum_append, List.map_cons, List.map_nil, List.sum_cons, List.sum_nil]
    rw [show ((n + 1 : Nat) : Int) = (n : Int) + 1 by omega, Int.add_mul]
    omega
theorem map_mul_sum (f : Int → Int) (c : Int) : ∀ l : List Int, (l.map fun x => c * f x).sum = c * (l.map f).sum
  | [] => by simp
  | x :: l => by
    simp only [List.map_cons, List.sum_cons, map_mul_sum f c l, Int.mul_add]
theorem nonneg_sum : ∀ {l : List Int}, (∀ x ∈ l, 0 ≤ x) → 0 ≤ l.sum
  | [], _ => by simp
  | x :: l, h => by
    have h1 := h x (List.mem_cons_self ..)
    have h2 := nonneg_sum (l := l) fun y hy => h y (List.mem_cons_of_mem _ hy)
    simp only [List.sum_cons]
    omega
theorem sum_take_le {l : List Int} (h : ∀ x ∈ l, 0 ≤ x) (n : Nat) : (l.take n).sum ≤ l.sum := by
  have := nonneg_sum (l := l.drop n) fun x hx => h x (List.mem_of_mem_drop hx)
  have e : (l.take n ++ l.drop n).sum = l.sum := by rw [List.take_append_drop]
  rw [List.sum_append] at e
  omega
theorem live_range (ks : List (Int × Int)) (t : List (List Int)) : liveB ks t = ((List.range t.length).map fun i => (cnt t i).sum * szk ks i).sum := by
  unfold liveB
  congr 1
  apply List.ext_getElem
  · simp
  · intro i h1 h2
    simp at h1
    simp [cnt, h1]
theorem pages_range (t : List (List Int)) : pagesN t = ((List.range t.length).map fun i => ((cnt t i).length : Int)).sum := by
  unfold pagesN
  congr 1
  apply List.ext_getElem
  · simp
  · intro i h1 h2
    simp at h1
    simp [cnt, h1]
theorem pagesN_nat (t : List (List Int)) : pagesN t = ((t.map (·.length)).sum : Nat) := sum_len t
/-! ### classes, a table and pins of it -/
structure RX (ks : List (Int × Int)) (t p : List (List Int)) : Prop where
  ko : KO ks
  tl : t.length = ks.length
  all : ∀ i, i < t.length → ∀ c ∈ cnt t i, 1 ≤ c ∧ c ≤ slk ks i
  srt : ∀ i, i < t.length → Sorted (cnt t i)
  pages : (t.map (·.length)).sum ≤ 60
  pin : Prd PinOk t p
section
variable {ks : List (Int × Int)} {t p : List (List Int)} (h : RX ks t p)
include h
theorem RX.pl : p.length = t.length := h.pin.length
theorem RX.pn {i : Nat} (hi : i < t.length) : PinOk (cnt t i) (cnt p i) := by
  have hl := h.pin.length
  have := h.pin.at i hi (by omega)
  unfold cnt
  simpa [hi, hl] using this
theorem RX.po : PO t p := ⟨h.pin.length, fun i hi => (h.pn hi).len, fun i hi => (h.pn hi).dom (h.srt i hi)⟩
theorem RX.slB (i : Nat) : slk ks i ≤ 60 := (h.ko.sz i).2.2.2
theorem RX.szP {i : Nat} (hi : i < ks.length) : 1 ≤ szk ks i := by
  have := (h.ko.all _ (List.getElem_mem hi)).1
  unfold szk
  simpa [hi] using this
theorem RX.slP {i : Nat} (hi : i < ks.length) : 1 ≤ slk ks i := by
  have := (h.ko.all _ (List.getElem_mem hi)).2.2.1
  unfold slk
  simpa [hi] using this
theorem RX.cs {i : Nat} (hi : i < t.length) : 0 ≤ (cnt t i).sum ∧ (cnt p i).sum ≤ (cnt t i).sum ∧ 0 ≤ (cnt p i).sum := by
  refine ⟨nonneg_sum fun x hx => by have := h.all i hi x hx; omega, (h.pn hi).sum (h.srt i hi) fun x hx => by have := h.all i hi x hx; omega, nonneg_sum fun x hx => ?_⟩
  have := (h.pn hi).all (m := slk ks i) (fun x hx => (h.all i hi x hx).2) x hx
  omega
theorem RX.clen {i : Nat} (hi : i < t.length) : (cnt p i).length ≤ (cnt t i).length ∧ (cnt t i).length ≤ 60 := ⟨(h.pn hi).len, Nat.le_trans (mem_sum t (cnt_mem hi)) h.pages⟩
theorem RX.liveP : liveB ks p ≤ liveB ks t ∧ 0 ≤ liveB ks p := by
  rw [live_range, live_range, h.pl]
  constructor
  · refine sum_range_le fun i hi => ?_
    exact Int.mul_le_mul_of_nonneg_right (h.cs hi).2.1 (h.ko.sz i).1
  · refine nonneg_sum fun x hx => ?_
    obtain ⟨i, hi, rfl⟩ := List.mem_map.mp hx
    exact Int.mul_nonneg (h.cs (List.mem_range.mp hi)).2.2 (h.ko.sz i).1
theorem RX.pagesP : (p.map (·.length)).sum ≤ 60 := by
  have h1 : pagesN p ≤ pagesN t := by
    rw [pages_range, pages_range, h.pl]
    exact sum_range_le fun i hi => by have := (h.clen hi).1; omega
  rw [pagesN_nat, pagesN_nat] at h1
  have := h.pages
  omega
theorem RX.toT {m : Int} (hl : liveB ks t ≤ m) : TO ks m t := ⟨h.tl, h.all, h.srt, h.pages, hl⟩
theorem RX.toP {m : Int} (hl : liveB ks t ≤ m) : TO ks m p := by
  have hpl := h.pl
  have htl := h.tl
  refine ⟨by omega, fun i hi c hc => (h.pn (by omega)).all (fun x hx => (h.all i (by omega) x hx).2) c hc, fun i hi => (h.pn (by omega)).srt, h.pagesP, Int.le_trans h.liveP.1 hl⟩
theorem RX.none : RX ks t (t.map fun _ => []) := ⟨h.ko, h.tl, h.all, h.srt, h.pages, by
  have : ∀ t : List (List Int), Prd PinOk t (t.map fun _ => []) := fun t => by
    induction t with
    | nil => exact .nil
    | cons c t ih => exact .cons (PinOk.nil c) ih
  exact this t⟩
theorem RX.held0 {i : Nat} (hi : i < t.length) : 0 ≤ heldB ks t p i := Int.mul_nonneg (by have := (h.clen hi).1; omega) (h.ko.sz i).1
/-- bounds by the greatest size and slots -/
theorem RX.liveB {A B : Int} (hA : ∀ i, szk ks i ≤ A) (hB : ∀ i, slk ks i ≤ B) (hA0 : 0 ≤ A) (hB0 : 0 ≤ B) : SP.liveB ks t ≤ 360 * (A * B) := by
  rw [live_range]
  have h1 := sum_const_le (f := fun i => (cnt t i).sum * szk ks i) (B := 60 * (A * B)) (n := t.length) fun i hi => by
    have h2 := sum_le (cnt t i) B hB0 fun x hx => Int.le_trans (h.all i hi x hx).2 (hB i)
    have h3 := (h.clen hi).2
    have h4 : ((cnt t i).length : Int) * B ≤ 60 * B := Int.mul_le_mul_of_nonneg_right (by omega) hB0
    have h5 := Int.mul_le_mul (Int.le_trans h2 h4) (hA i) (h.ko.sz i).1 (Int.mul_nonneg (by decide) hB0)
    rw [Int.mul_assoc, Int.mul_comm B A] at h5
    exact h5
  have h6 := h.tl
  have h7 := h.ko.most
  have h8 : (t.length : Int) * (60 * (A * B)) ≤ 6 * (60 * (A * B)) := Int.mul_le_mul_of_nonneg_right (by omega) (Int.mul_nonneg (by decide) (Int.mul_nonneg hA0 hB0))
  omega
theorem RX.leastB {A B : Int} (hA : ∀ i, szk ks i ≤ A) (hB : ∀ i, slk ks i ≤ B) (hA0 : 0 ≤ A) (hB0 : 1 ≤ B) : (SP.leastB ks t p).1 ≤ 420 * (A * B) + 360 * A := by
  have hAB := Int.mul_nonneg hA0 (show 0 ≤ B by omega)
  have hl := h.liveB hA hB hA0 (by omega)
  rw [least_le, fits_iff]
  refine ⟨by omega, fun i hi => ?_⟩
  have hol := order_len ks t p
  have h6 := h.ko.most
  have h7 := h.tl
  have hin : ∀ x ∈ orderI ks t p, InR t x := fun x hx => order_in hx
  have h1 : ∀ x ∈ ((orderI ks t p).take (i + 1)).map (SP.hB ks t p), x ≤ 60 * A := fun y hy => by
    obtain ⟨x, hx, rfl⟩ := List.mem_map.mp hy
    have hx2 := hin x (List.mem_of_mem_take hx)
    show heldB ks t p x.toNat ≤ _
    unfold heldB
    have h3 := h.clen hx2.2
    exact Int.mul_le_mul (by omega) (hA _) (h.ko.sz _).1 (by decide)
  have h2 := sum_le _ (60 * A) (by omega) h1
  rw [List.length_map, List.length_take] at h2
  have h3 : ((min (i + 1) (orderI ks t p).length : Nat) : Int) * (60 * A) ≤ 6 * (60 * A) := Int.mul_le_mul_of_nonneg_right (by omega) (by omega)
  have hx2 := hin _ (List.getElem_mem hi)
  have h4 : sB ks t p (orderI ks t p)[i] ≤ 60 * (A * B) := by
    show spareB ks t p _ ≤ _
    unfold spareB filledB pinnedB
    have h5 := h.held0 hx2.2
    have h8 := (h.cs hx2.2).2.2
    have h9 := Int.mul_nonneg h8 (h.ko.sz (orderI ks t p)[i].toNat).1
    have h10 := (h.clen hx2.2).2
    have h11 : ((((cnt t (orderI ks t p)[i].toNat).length : Int) - 1) * slk ks (orderI ks t p)[i].toNat + 1) * szk ks (orderI ks t p)[i].toNat ≤ 60 * B * A := by
      have hm := grown_in ((order_perm ks t p).mem_iff.mp (List.getElem_mem hi))
      have hg := (order_perm ks t p).mem_iff.mp (List.getElem_mem hi)
      have hpos : 1 ≤ (cnt t (orderI ks t p)[i].toNat).length := by
        obtain ⟨j, hj, e⟩ := List.mem_map.mp hg
        have := (List.mem_filter.mp hj).2
        rw [decide_eq_true_eq] at this
        rw [← e, Int.toNat_natCast]
        omega
      have hs := h.slP (i := (orderI ks t p)[i].toNat) (by have := hx2.2; omega)
      have hs2 := hB (orderI ks t p)[i].toNat
      have q1 : (((cnt t (orderI ks t p)[i].toNat).length : Int) - 1) * slk ks (orderI ks t p)[i].toNat ≤ 59 * B := Int.mul_le_mul (by omega) hs2 (by omega) (by decide)
      have q2 : 0 ≤ (((cnt t (orderI ks t p)[i].toNat).length : Int) - 1) * slk ks (orderI ks t p)[i].toNat := Int.mul_nonneg (by omega) (by omega)
      exact Int.mul_le_mul (by omega) (hA _) (h.ko.sz _).1 (by omega)
    rw [Int.mul_assoc, Int.mul_comm B A] at h11
    omega
  have h5 := h.liveP.1
  omega
end
/-- a row drawn -/
theorem rx_of {most : Int} {ks : List (Int × Int)} {t p : List (List Int)} (hk : KO ks) (ht : Prd (CntOk most) ks t) (hp : Prd PinOk t p) (hm : most * ks.length ≤ 60) (h0 : 0 ≤ most) : RX ks t p := by
  have hl := ht.length
  have hc : ∀ i, i < t.length → ∃ hk : i < ks.length, CntOk most ks[i] (cnt t i) := fun i hi => by
    refine ⟨by omega, ?_⟩
    have := ht.at i (by omega) hi
    unfold cnt
    simpa [hi] using this
  refine ⟨hk, hl, fun i hi c hc' => ?_, fun i hi => (hc i hi).2.2.2, ?_, hp⟩
  · obtain ⟨hki, h1⟩ := hc i hi
    have := h1.2.1 c hc'
    unfold slk
    simpa [hki] using this
  · have h1 : ∀ c ∈ t, (c.length : Int) ≤ most := ht.right (P := fun c => (c.length : Int) ≤ most) fun _ _ c hc => hc.1
    have h2 := sum_le (t.map fun c => (c.length : Int)) most h0 (fun x hx => by
      obtain ⟨c, hc, rfl⟩ := List.mem_map.mp hx
      exact h1 c hc)
    rw [sum_len, List.length_map, hl, Int.mul_comm] at h2
    omega
/-! ### the least limit is attained -/
theorem least_at (ks : List (Int × Int)) (t p : List (List Int)) : (leastB ks t p).1 = liveB ks t ∨ ∃ i, ∃ hi : i < (orderI ks t p).length, (leastB ks t p).1 = liveB ks p + (((orderI ks t p).take (i + 1)).map (hB ks t p)).sum + sB ks t p (orderI ks t p)[i] := by
  have h1 := (least_le ks t p _).mp (Int.le_refl _)
  have h2 : ¬ (leastB ks t p).1 ≤ (leastB ks t p).1 - 1 := by omega
  rw [least_le] at h2
  by_cases h3 : (leastB ks t p).1 = liveB ks t
  · exact .inl h3
  · right
    have h4 : ¬ fitsI (hB ks t p) (sB ks t p) ((leastB ks t p).1 - 1) (liveB ks p) (orderI ks t p) := fun z => h2 ⟨by have := h1.1; omega, z⟩
    rw [fits_iff] at h4
    have h5 := (fits_iff _ _ _ _ _).mp h1.2
    refine Classical.byContradiction fun hn => h4 fun i hi => ?_
    have h6 := h5 i hi
    by_cases h7 : (leastB ks t p).1 = liveB ks p + (((orderI ks t p).take (i + 1)).map (hB ks t p)).sum + sB ks t p (orderI ks t p)[i]
    · exact absurd ⟨i, hi, h7⟩ hn
    · omega
theorem least_two (ks : List (Int × Int)) (t p : List (List Int)) : leastB ks t p = (liveB ks t, []) ∨ liveB ks t < (leastB ks t p).1 := by
  have key : ∀ (L : List Int) (s : (Int × List Int) × List Int), (s.1 = (liveB ks t, []) ∨ liveB ks t < s.1.1) → ((L.foldl (leastStep ks t p) s).1 = (liveB ks t, []) ∨ liveB ks t < (L.foldl (leastStep ks t p) s).1.1) := fun L => by
    induction L with
    | nil => exact fun s h => h
    | cons x L ih =>
      intro s hs
      rw [List.foldl_cons]
      refine ih _ ?_
      unfold leastStep
      split
      · rename_i hlt
        right
        show liveB ks t < shown ks t p (s.2 ++ [x])
        rcases hs with hs | hs
        · rw [hs] at hlt; exact hlt
        · omega
      · exact hs
  exact key _ _ (.inl rfl)
/-! ### other classes -/
theorem sort_congr {l : List Int} {r r' : Int → Int → Bool} (h : ∀ a ∈ l, ∀ b ∈ l, r a b = r' a b) : l.mergeSort r = l.mergeSort r' := by
  have := List.map_mergeSort (f := (id : Int → Int)) (r := r) (s := r') (l := l) (fun a ha b hb => h a ha b hb)
  simpa using this
def sclK (f : Int) (ks : List (Int × Int)) : List (Int × Int) := ks.map fun q => (q.1 * f, q.2)
section
variable {f : Int} (hf : 0 < f) (ks : List (Int × Int)) (t p : List (List Int))
theorem scl_sz (i : Nat) : szk (sclK f ks) i = f * szk ks i := by
  unfold szk sclK
  by_cases hi : i < ks.length
  · simp [hi, Int.mul_comm]
  · simp [hi]
theorem scl_sl (i : Nat) : slk (sclK f ks) i = slk ks i := by
  unfold slk sclK
  by_cases hi : i < ks.length
  · simp [hi]
  · simp [hi]
theorem scl_live : liveB (sclK f ks) t = f * liveB ks t := by
  rw [live_range, live_range, ← sum_range_mul]
  refine sum_range_eq fun i _ => ?_
  rw [scl_sz, Int.mul_left_comm]
theorem scl_held (i : Nat) : heldB (sclK f ks) t p i = f * heldB ks t p i := by
  unfold heldB
  rw [scl_sz, Int.mul_left_comm]
theorem scl_spare (i : Nat) : spareB (sclK f ks) t p i = f * spareB ks t p i := by
  unfold spareB filledB pinnedB
  rw [scl_held, scl_sz, scl_sl, Int.mul_left_comm _ f, Int.mul_left_comm _ f, Int.mul_sub, Int.mul_sub]
include hf
theorem scl_order : orderI (sclK f ks) t p = orderI ks t p := by
  unfold orderI
  refine sort_congr fun a _ b _ => ?_
  have h1 : ∀ x y : Int, (0 - f * x < 0 - f * y) ↔ (0 - x < 0 - y) := fun x y => by
    have : (f * y < f * x) ↔ y < x := Int.mul_lt_mul_left hf
    omega
  have h2 : ∀ x y : Int, (0 - f * x = 0 - f * y) ↔ (0 - x = 0 - y) := fun x y => by
    have : (f * x = f * y) ↔ x = y := ⟨fun e => Int.eq_of_mul_eq_mul_left (by omega) e, fun e => by rw [e]⟩
    omega
  have h3 : ∀ x, keyO (sclK f ks) t p x = (0 - f * sB ks t p x, x) := fun x => by
    unfold keyO
    rw [scl_spare]
  have h4 : ∀ x, keyO ks t p x = (0 - sB ks t p x, x) := fun _ => rfl
  rw [Bool.eq_iff_iff, leP_iff, leP_iff, h3, h3, h4, h4]
  show 0 - f * sB ks t p a < 0 - f * sB ks t p b ∨ 0 - f * sB ks t p a = 0 - f * sB ks t p b ∧ a ≤ b ↔ 0 - sB ks t p a < 0 - sB ks t p b ∨ 0 - sB ks t p a = 0 - sB ks t p b ∧ a ≤ b
  rw [h1, h2]
theorem scl_least : (leastB (sclK f ks) t p).1 = f * (leastB ks t p).1 := by
  have hv : ∀ i (hi : i < (orderI ks t p).length), liveB (sclK f ks) p + (((orderI ks t p).take (i + 1)).map (hB (sclK f ks) t p)).sum + sB (sclK f ks) t p (orderI ks t p)[i] = f * (liveB ks p + (((orderI ks t p).take (i + 1)).map (hB ks t p)).sum + sB ks t p (orderI ks t p)[i]) := fun i hi => by
    have e1 : (((orderI ks t p).take (i + 1)).map (hB (sclK f ks) t p)) = ((orderI ks t p).take (i + 1)).map fun x => f * hB ks t p x := List.map_congr_left fun x _ => scl_held ks t p _
    have e2 : sB (sclK f ks) t p (orderI ks t p)[i] = f * sB ks t p (orderI ks t p)[i] := scl_spare ks t p _
    rw [e1, e2, map_mul_sum, scl_live, Int.mul_add, Int.mul_add]
  have h1 : (leastB (sclK f ks) t p).1 ≤ f * (leastB ks t p).1 := by
    rw [least_le, scl_live, fits_iff]
    have h2 := (least_le ks t p _).mp (Int.le_refl _)
    refine ⟨Int.mul_le_mul_of_nonneg_left h2.1 (by omega), ?_⟩
    rw [scl_order hf]
    intro i hi
    rw [hv i hi]
    exact Int.mul_le_mul_of_nonneg_left ((fits_iff _ _ _ _ _).mp h2.2 i hi) (by omega)
  have h2 := (least_le (sclK f ks) t p _).mp (Int.le_refl _)
  rcases least_at ks t p with h3 | ⟨i, hi, h3⟩
  · rw [h3] at h1 ⊢
    have := h2.1
    rw [scl_live] at this
    omega
  · have h4 := (fits_iff _ _ _ _ _).mp h2.2 i (by rw [scl_order hf]; exact hi)
    simp only [scl_order hf] at h4
    rw [hv i hi, ← h3] at h4
    omega
end
section
variable {ks : List (Int × Int)} {t p : List (List Int)} (x : Int × Int)
theorem cnt_snoc (t : List (List Int)) (i : Nat) : cnt (t ++ [[]]) i = cnt t i := by
  unfold cnt
  rw [List.getD_eq_getElem?_getD, List.getD_eq_getElem?_getD, List.getElem?_append]
  split
  · rfl
  · rename_i h
    rw [List.getElem?_eq_none (by omega : t.length ≤ i)]
    cases e : i - t.length with
    | zero => rfl
    | succ n => rfl
theorem sz_snoc {i : Nat} (hi : i < ks.length) : szk (ks ++ [x]) i = szk ks i ∧ slk (ks ++ [x]) i = slk ks i := by
  unfold szk slk
  rw [List.getD_eq_getElem?_getD, List.getD_eq_getElem?_getD, List.getElem?_append_left hi]
  exact ⟨rfl, rfl⟩
theorem live_snoc (ht : t.length = ks.length) : liveB (ks ++ [x]) (t ++ [[]]) = liveB ks t := by
  rw [live_range, live_range, List.length_append, List.length_singleton, List.range_succ, List.map_append, List.sum_append]
  simp only [List.map_cons, List.map_nil, List.sum_cons, List.sum_nil, cnt_snoc]
  have e : cnt t t.length = [] := by simp [cnt]
  rw [e, sum_range_eq (g := fun i => (cnt t i).sum * szk ks i) fun i hi => by rw [(sz_snoc x (by omega)).1]]
  simp
theorem grown_snoc (hp : p.length = t.length) : grownI (t ++ [[]]) (p ++ [[]]) = grownI t p := by
  unfold grownI grownB
  simp only [cnt_snoc]
  rw [List.length_append, List.length_singleton, List.range_succ, List.filter_append]
  have e : cnt t t.length = [] := by simp [cnt]
  simp [e]
theorem spare_snoc {i : Nat} (hi : i < ks.length) : spareB (ks ++ [x]) (t ++ [[]]) (p ++ [[]]) i = spareB ks t p i ∧ heldB (ks ++ [x]) (t ++ [[]]) (p ++ [[]]) i = heldB ks t p i := by
  unfold spareB filledB pinnedB heldB
  simp only [cnt_snoc, (sz_snoc x hi).1, (sz_snoc x hi).2, and_self]
theorem order_snoc (ht : t.length = ks.length) (hp : p.length = t.length) : orderI (ks ++ [x]) (t ++ [[]]) (p ++ [[]]) = orderI ks t p := by
  unfold orderI
  rw [grown_snoc hp]
  refine sort_congr fun a ha b hb => ?_
  have h1 := grown_in ha
  have h2 := grown_in hb
  unfold keyO
  rw [(spare_snoc x (by have := h1.2; omega)).1, (spare_snoc x (by have := h2.2; omega)).1]
theorem least_snoc (ht : t.length = ks.length) (hp : p.length = t.length) : (leastB (ks ++ [x]) (t ++ [[]]) (p ++ [[]])).1 = (leastB ks t p).1 := by
  have key : ∀ M, (leastB (ks ++ [x]) (t ++ [[]]) (p ++ [[]])).1 ≤ M ↔ (leastB ks t p).1 ≤ M := fun M => by
    rw [least_le, least_le, live_snoc x ht, live_snoc x (by omega), order_snoc x ht hp, fits_iff, fits_iff]
    have hv : ∀ i (hi : i < (orderI ks t p).length), ((((orderI ks t p).take (i + 1)).map (hB (ks ++ [x]) (t ++ [[]]) (p ++ [[]]))).sum + sB (ks ++ [x]) (t ++ [[]]) (p ++ [[]]) (orderI ks t p)[i]) = ((((orderI ks t p).take (i + 1)).map (hB ks t p)).sum + sB ks t p (orderI ks t p)[i]) := fun i hi => by
      have e1 : (((orderI ks t p).take (i + 1)).map (hB (ks ++ [x]) (t ++ [[]]) (p ++ [[]]))) = ((orderI ks t p).take (i + 1)).map (hB ks t p) := List.map_congr_left fun y hy => (spare_snoc x (by have := (order_in (List.mem_of_mem_take hy)).2; omega)).2
      have e2 : sB (ks ++ [x]) (t ++ [[]]) (p ++ [[]]) (orderI ks t p)[i] = sB ks t p (orderI ks t p)[i] := (spare_snoc x (by have := (order_in (List.getElem_mem hi)).2; omega)).1
      rw [e1, e2]
    constructor
    · exact fun h => ⟨h.1, fun i hi => by have := h.2 i hi; have := hv i hi; omega⟩
    · exact fun h => ⟨h.1, fun i hi => by have := h.2 i hi; have := hv i hi; omega⟩
  have h1 := (key _).mp (Int.le_refl _)
  have h2 := (key _).mpr (Int.le_refl _)
  omega
end
/-! ### one slot a page -/
def oneK (ks : List (Int × Int)) : List (Int × Int) := ks.map fun q => (q.1, 1)
def oneT (t : List (List Int)) : List (List Int) := t.map fun c => List.replicate c.length 1
theorem one_cnt (t : List (List Int)) (i : Nat) : cnt (oneT t) i = List.replicate (cnt t i).length 1 := by
  unfold cnt oneT
  by_cases hi : i < t.length
  · simp [hi]
  · simp [hi]
theorem one_sz (ks : List (Int × Int)) (i : Nat) : szk (oneK ks) i = szk ks i := by
  unfold szk oneK
  by_cases hi : i < ks.length
  · simp [hi]
  · simp [hi]
theorem one_sl (ks : List (Int × Int)) {i : Nat} (hi : i < ks.length) : slk (oneK ks) i = 1 := by
  unfold slk oneK
  simp [hi]
theorem rep_sum : ∀ n : Nat, (List.replicate n (1 : Int)).sum = n
  | 0 => rfl
  | n + 1 => by
    rw [List.replicate_succ, List.sum_cons, rep_sum n]
    omega
theorem filter_sum_le {f : Nat → Int} {q : Nat → Bool} : ∀ {l : List Nat}, (∀ x ∈ l, 0 ≤ f x) → ((l.filter q).map f).sum ≤ (l.map f).sum
  | [], _ => by simp
  | x :: l, h => by
    have h1 := filter_sum_le (q := q) (l := l) fun y hy => h y (List.mem_cons_of_mem _ hy)
    have h2 := h x (List.mem_cons_self ..)
    rw [List.filter_cons]
    split <;> simp only [List.map_cons, List.sum_cons] <;> omega
/-- what a part of the order holds is no more than all hold -/
theorem order_sum_le {ks : List (Int × Int)} {t p : List (List Int)} {f : Nat → Int} (h : ∀ i, i < t.length → 0 ≤ f i) (n : Nat) : (((orderI ks t p).take n).map fun x => f x.toNat).sum ≤ ((List.range t.length).map f).sum := by
  rw [List.map_take]
  refine Int.le_trans (sum_take_le (fun x hx => ?_) n) ?_
  · obtain ⟨y, hy, rfl⟩ := List.mem_map.mp hx
    exact h _ (order_in hy).2
  · rw [sum_perm ((order_perm ks t p).map fun x => f x.toNat)]
    unfold grownI grownB
    rw [List.map_map]
    exact filter_sum_le (f := fun i => f i) fun i hi => h i (List.mem_range.mp hi)
theorem one_least {ks : List (Int × Int)} {t : List (List Int)} (hk : KO ks) (ht : t.length = ks.length) : leastB (oneK ks) (oneT t) ((oneT t).map fun _ => []) = (liveB (oneK ks) (oneT t), []) := by
  have hn : ∀ i, cnt ((oneT t).map fun _ => ([] : List Int)) i = [] := fun i => by
    unfold cnt
    by_cases hi : i < (oneT t).length
    · simp [hi]
    · simp [hi]
  have hl0 : liveB (oneK ks) ((oneT t).map fun _ => []) = 0 := by
    rw [live_range]
    have : ∀ n : Nat, ((List.range n).map fun _ => (0 : Int)).sum = 0 := fun n => by
      induction n with
      | zero => rfl
      | succ n ih => rw [List.range_succ, List.map_append, List.sum_append, ih]; rfl
    rw [sum_range_eq (g := fun _ => 0) fun i _ => by rw [hn]; simp]
    exact this _
  rcases least_two (oneK ks) (oneT t) ((oneT t).map fun _ => []) with h | h
  · exact h
  · exfalso
    have h2 : (leastB (oneK ks) (oneT t) ((oneT t).map fun _ => [])).1 ≤ liveB (oneK ks) (oneT t) := by
      rw [least_le, fits_iff]
      refine ⟨Int.le_refl _, fun i hi => ?_⟩
      have hlen : (oneT t).length = ks.length := by simp [oneT, ht]
      have hin := (order_in (List.getElem_mem hi)).2
      have e1 : sB (oneK ks) (oneT t) ((oneT t).map fun _ => []) (orderI (oneK ks) (oneT t) ((oneT t).map fun _ => []))[i] = 0 := by
        show spareB _ _ _ _ = 0
        unfold spareB filledB pinnedB heldB
        rw [hn, one_sl ks (by omega)]
        simp only [List.sum_nil, List.length_nil, Int.zero_mul, Int.mul_one, Int.sub_zero]
        have : ∀ a b : Int, (a - 1 + 1) * b - (a - ((0 : Nat) : Int)) * b = 0 := fun a b => by
          rw [show a - 1 + 1 = a by omega, show a - ((0 : Nat) : Int) = a by omega, Int.sub_self]
        exact this _ _
      have e2 := order_sum_le (ks := oneK ks) (t := oneT t) (p := (oneT t).map fun _ => []) (f := fun i => heldB (oneK ks) (oneT t) ((oneT t).map fun _ => []) i) (fun i hi => by
        show 0 ≤ heldB _ _ _ _
        unfold heldB
        rw [hn, one_sz]
        exact Int.mul_nonneg (by simp) (hk.sz i).1) (i + 1)
      have e3 : ((List.range (oneT t).length).map fun i => heldB (oneK ks) (oneT t) ((oneT t).map fun _ => []) i).sum = liveB (oneK ks) (oneT t) := by
        rw [live_range]
        refine sum_range_eq fun i hi => ?_
        unfold heldB
        rw [hn, one_cnt, rep_sum]
        simp
      rw [e1, hl0]
      rw [e3] at e2
      show 0 + (((orderI (oneK ks) (oneT t) ((oneT t).map fun _ => [])).take (i + 1)).map fun x => heldB (oneK ks) (oneT t) ((oneT t).map fun _ => []) x.toNat).sum + 0 ≤ _
      omega
    omega
end SP
end
section
set_option Elab.async false
set_option linter.all false
set_option autoImplicit false
set_option maxRecDepth 100000
set_option maxHeartbeats 2000000
namespace SP
open PySem
local macro_rules
  | `(tactic| simp_arith) => `(tactic| simp -dsimp -implicitDefEqProofs only [q_evE_var, q_evE_frz, q_evE_non, q_evE_bl, q_evE_int, q_evE_neg, q_evE_str, q_evE_cst, q_evE_tt, q_evE_bin, q_evE_cmp, q_evE_cmp2, q_evE_isN, q_evE_notN, q_evE_and, q_evE_or, q_evE_not, q_evE_ite, q_evE_tup, q_evE_lst, q_evE_new, q_evE_dic0, q_evE_ix, q_evE_slA, q_evE_slB, q_evE_slC, q_evE_rev, q_evE_fld, q_evE_call, q_evE_callK, q_evE_meth, q_evE_mk, q_evE_mkX, q_evE_mkXK, q_evE_thw, q_evE_sset, q_evE_addN, q_evE_lstN, q_evE_lrng, q_evE_trng, q_evE_bf, q_evE_isi, q_evE_isis, q_evEs_nil, q_evEs_cons, q_evI_of, q_evI_enum, q_evI_zip, q_exS_set, q_exS_sets, q_exS_aug, q_exS_put, q_exS_sfld, q_exS_app, q_exS_ext, q_exS_rem, q_exS_clr, q_exS_fz, q_exS_exp, q_exS_ret, q_exS_retN, q_exS_pass, q_exS_ife, q_exS_rse, q_exSs_nil, q_exSs_cons, Nat.reduceSub, List.length_cons, List.length_nil, Nat.reduceAdd, Nat.zero_add, R.bnd_ok, R.fln_ok, R.bind_ok, R.fl_ok, R.opt_some, R.noEx_ok, Fl.opt_some, Option.map_some, Option.bind_some, List.map_cons, List.map_nil, List.cons_append, List.nil_append, List.replicate_zero, List.replicate_succ, List.getElem?_cons_zero, List.getElem?_cons_succ, List.set_cons_zero, List.set_cons_succ, bindT, bindTs, cf_call, rdD, cmpO, cmpD, n1, n2, b1, b2, b3, b4, b5, b6, b7, b8, b9, b10, b11, b12, b13, b14, b15, b16, b17, ty1, ty2, ty3, ty4, ty5, ty6, ty7, z0, z1, z2, z3, z4, z5, z6, z7, z8, z9, z10, z11, z12, z13, NxI_nx, slotsT, slotsTs, wipeE, Fl.thn_nx, Fl.thn_rt, Fl.thn_ex, R.fln_ex, R.bnd_ex, R.fl_ex, R.bind_ex, retF_nx, retF_rt, retF_ex, retD_non, retD_bl, retD_int, retD_str, retD_tup, retD_lst, retD_obj, take_len, isNon, itemsD, Bool.not_true, Bool.not_false, Bool.and_true, Bool.and_false, Bool.true_and, Bool.false_and, ixD])
  | `(tactic| simp_arith [$ls,*]) => `(tactic| simp -dsimp -implicitDefEqProofs only [q_evE_var, q_evE_frz, q_evE_non, q_evE_bl, q_evE_int, q_evE_neg, q_evE_str, q_evE_cst, q_evE_tt, q_evE_bin, q_evE_cmp, q_evE_cmp2, q_evE_isN, q_evE_notN, q_evE_and, q_evE_or, q_evE_not, q_evE_ite, q_evE_tup, q_evE_lst, q_evE_new, q_evE_dic0, q_evE_ix, q_evE_slA, q_evE_slB, q_evE_slC, q_evE_rev, q_evE_fld, q_evE_call, q_evE_callK, q_evE_meth, q_evE_mk, q_evE_mkX, q_evE_mkXK, q_evE_thw, q_evE_sset, q_evE_addN, q_evE_lstN, q_evE_lrng, q_evE_trng, q_evE_bf, q_evE_isi, q_evE_isis, q_evEs_nil, q_evEs_cons, q_evI_of, q_evI_enum, q_evI_zip, q_exS_set, q_exS_sets, q_exS_aug, q_exS_put, q_exS_sfld, q_exS_app, q_exS_ext, q_exS_rem, q_exS_clr, q_exS_fz, q_exS_exp, q_exS_ret, q_exS_retN, q_exS_pass, q_exS_ife, q_exS_rse, q_exSs_nil, q_exSs_cons, Nat.reduceSub, List.length_cons, List.length_nil, Nat.reduceAdd, Nat.zero_add, R.bnd_ok, R.fln_ok, R.bind_ok, R.fl_ok, R.opt_some, R.noEx_ok, Fl.opt_some, Option.map_some, Option.bind_some, List.map_cons, List.map_nil, List.cons_append, List.nil_append, List.replicate_zero, List.replicate_succ, List.getElem?_cons_zero, List.getElem?_cons_succ, List.set_cons_zero, List.set_cons_succ, bindT, bindTs, cf_call, rdD, cmpO, cmpD, n1, n2, b1, b2, b3, b4, b5, b6, b7, b8, b9, b10, b11, b12, b13, b14, b15, b16, b17, ty1, ty2, ty3, ty4, ty5, ty6, ty7, z0, z1, z2, z3, z4, z5, z6, z7, z8, z9, z10, z11, z12, z13, NxI_nx, slotsT, slotsTs, wipeE, Fl.thn_nx, Fl.thn_rt, Fl.thn_ex, R.fln_ex, R.bnd_ex, R.fl_ex, R.bind_ex, retF_nx, retF_rt, retF_ex, retD_non, retD_bl, retD_int, retD_str, retD_tup, retD_lst, retD_obj, take_len, isNon, itemsD, Bool.not_true, Bool.not_false, Bool.and_true, Bool.and_false, Bool.true_and, Bool.false_and, ixD, $ls,*])
/-! changes of slabs, computed; small tools -/
theorem eqD_bl (a b : Bool) : eqD (.bl a) (.bl b) = some (a == b) := by
  have h : ∀ x : Bool, okPy (.bool x) = true := fun x => by
    unfold okPy
    simp only [PyData.canLay0, PyData.depth]
    rfl
  simp only [eqD, D.py, Option.bind_some, h, Bool.and_self, if_true, PyData.eqv]
theorem rngD_int (lo : Int) : ∀ n : Nat, rngD lo 1 n = (List.range n).map fun (i : Nat) => .int (lo + (i : Int))
  | 0 => rfl
  | n + 1 => by
    rw [rngD, rngD_int (lo + 1) n, List.range_succ_eq_map, List.map_cons, List.map_map]
    rw [show lo + ((0 : Nat) : Int) = lo by omega]
    congr 1
    refine List.map_congr_left fun i _ => ?_
    simp only [Function.comp, D.int.injEq]
    omega
section
variable {cf : Cf} {G : Cls}
theorem evI_rng2 {a b : Ex} {ρ : Env} {S S1 S2 : Store} {i j : Int} (h : evE cf G a ρ S = .ok (.int i) S1) (h2 : evE cf G b ρ S1 = .ok (.int j) S2) (hi : 0 ≤ i) (hi2 : i ≤ 1000000000) (hj : 0 ≤ j) (hj2 : j ≤ 1000000000) : evI cf G (.rng2 a b) ρ S = .ok ((List.range (j - i).toNat).map fun (n : Nat) => .int (i + (n : Int))) S2 := by
  show ((evE cf G a ρ S).bind fun x S1 => (evE cf G b ρ S1).bind fun y S2 => match x, y with
    | .int m, .int n => if rngOk m n then R.ok (rngD m 1 (n - m).toNat) S2 else .bad
    | _, _ => .bad) = _
  rw [h, R.bind_ok, h2, R.bind_ok]
  show (if rngOk i j = true then R.ok (rngD i 1 (j - i).toNat) S2 else .bad) = _
  have hok : rngOk i j = true := by
    unfold rngOk
    simp only [two40, Bool.and_eq_true, decide_eq_true_eq]
    omega
  rw [if_pos hok, rngD_int]
end
section
variable {cf : Cf} {G : Cls} {α : Type}
/-- a loop in a loop's body -/
theorem nx_for {I : Env → Store → Prop} {t : Tg} {it : It} {b : Sms} {ρ : Env} {S S1 : Store} {L : List α} {g : α → D} {f : Env → Store → Fl} (Inv : Nat → Env → Store → Prop) (hi : evI cf G it ρ S = .ok (L.map g) S1) (h0 : Inv 0 ρ S1)
    (h : ∀ i (hi : i < L.length) ρ S, Inv i ρ S → ∃ ρ1, bindT t (g L[i]) ρ = some ρ1 ∧ NxI (exSs cf G b ρ1 S) (Inv (i + 1))) (hk : ∀ ρ2 S2, Inv L.length ρ2 S2 → NxI (f ρ2 S2) I) : NxI (Fl.thn (exS cf G (.for_ t it b) ρ S) f) I := by
  rw [q_for, hi, R.fl_ok]
  obtain ⟨ρ2, S2, h1, h2⟩ := forL_inv (b := fun ρ S => exSs cf G b ρ S) Inv (fun i hi ρ S hI => let ⟨ρ1, h1, h2⟩ := h i hi ρ S hI; ⟨ρ1, h1, NxI_to h2⟩) h0
  rw [h1, Fl.thn_nx]
  exact hk ρ2 S2 h2
end
def ordW (b : Bool) : Str := if b then "order" else "stuck"
theorem ordW_pl (b : Bool) : (PyData.str (ordW b)).canLay0 = true := by cases b <;> decide +kernel
theorem eq_ordW (a b : Bool) : eqD (.str (ordW a)) (.str (ordW b)) = some (a == b) := by
  rw [eq_str _ _ (ordW_pl a) (ordW_pl b)]
  cases a <;> cases b <;> rfl
theorem eq_ordO (a : Bool) : eqD (.str (ordW a)) (.str "order") = some a := by
  have := eq_ordW a true
  cases a <;> exact this
theorem eq_ordS (a : Bool) : eqD (.str (ordW a)) (.str "stuck") = some (!a) := by
  have := eq_ordW a false
  cases a <;> exact this
theorem orderR_at (ks : List (Int × Int)) (t p : List (List Int)) {m : Int} (hl : liveB ks t ≤ m) : ∃ xs, orderR ks m t p = .tup [.str (ordW (decide ((leastB ks t p).1 ≤ m))), tupI xs] := by
  have h := order_iff ks t p hl
  unfold orderR
  cases e : stuckAt ks m t p with
  | none =>
    rw [decide_eq_true (h.mp e)]
    exact ⟨_, rfl⟩
  | some i =>
    have : ¬ (leastB ks t p).1 ≤ m := fun z => by
      rw [h.mpr z] at e
      cases e
    rw [decide_eq_false this]
    exact ⟨_, rfl⟩
section
variable {F : Nat → Option Fn} {G : Cls} (P : PG F G)
include P
theorem c_classes_of (k : Nat) (S : Store) {ks : List (Int × Int)} {m : Int} : callF F G (k + 1) 6 [slabD ks m] S = .ok (.lst (ks.map kindD)) S := by
  rw [call_eq ((P.F 6 (by decide))) rfl]
  simp only [f_Slab_classes, b_Slab_classes]
  simp_arith [fpos_kept P.fpos]
theorem c_limit_of (k : Nat) (S : Store) {ks : List (Int × Int)} {m : Int} : callF F G (k + 1) 7 [slabD ks m] S = .ok (.int m) S := by
  rw [call_eq ((P.F 7 (by decide))) rfl]
  simp only [f_Slab_limit, b_Slab_limit]
  simp_arith [fpos_most P.fpos]
theorem c_with_limit (k : Nat) (S : Store) {ks : List (Int × Int)} {m m' : Int} (hk : KO ks) (h0 : 0 ≤ m') (h1 : m' ≤ 1000000) : callF F G (k + 5) 49 [slabD ks m, .int m'] S = .ok (slabD ks m') S := by
  rw [call_eq ((P.F 49 (by decide))) rfl]
  simp only [f_with_limit, b_with_limit]
  simp_arith [c_classes_of P, c_mk P _ _ _ hk h0 h1]
theorem c_with_class (k : Nat) (S : Store) {ks : List (Int × Int)} {m a b : Int} (hk : KO (ks ++ [(a, b)])) (h0 : 0 ≤ m) (h1 : m ≤ 1000000) : callF F G (k + 5) 48 [slabD ks m, .int a, .int b] S = .ok (slabD (ks ++ [(a, b)]) m) S := by
  have h6 := hk.most
  rw [List.length_append] at h6
  rw [call_eq ((P.F 48 (by decide))) rfl]
  simp only [f_with_class, b_with_class]
  have e1 : ks.map kindD ++ [D.tup [.int a, .int b]] = (ks ++ [(a, b)]).map kindD := by simp
  simp_arith [c_classes_of P, bin_addL (xs := ks.map kindD) (ys := [D.tup [.int a, .int b]]) (by simp; omega), fpos_most P.fpos, e1, c_mk P _ _ _ hk h0 h1]
theorem c_scaled (k : Nat) (S : Store) {ks : List (Int × Int)} {m f : Int} (hk : KO (sclK f ks)) (h0 : 0 ≤ m) (h1 : m * f ≤ 1000000) (hf : 1 ≤ f) (hf2 : f ≤ 1000000) : callF F G (k + 5) 50 [slabD ks m, .int f] S = .ok (slabD (sclK f ks) (m * f)) S := by
  have h6 := hk.most
  simp only [sclK, List.length_map] at h6
  rw [call_eq ((P.F 50 (by decide))) rfl]
  simp only [f_scaled, b_scaled]
  simp_arith [c_is_int P, decide_eq_true hf, decide_eq_true hf2]
  rw [ev_compM (L := ks) (g := kindD) (fun q => kindD (q.1 * f, q.2)) (by simp_arith [fpos_kept P.fpos]; rfl) (by omega) (fun r _ => rfl) (fun _ _ => rfl) (fun q hq S' => by simp_arith [mul_ok (j := f) (by omega) (by omega)])]
  have e1 : (ks.map fun q => kindD (q.1 * f, q.2)) = (sclK f ks).map kindD := by
    unfold sclK
    rw [List.map_map]
    rfl
  simp_arith [fpos_most P.fpos, mul_ok (i := m) (j := f) (by omega) (by omega), e1, c_mk P _ _ _ hk (Int.mul_nonneg h0 (by omega)) h1]
end
/-! the laws' own: bytes of all objects -/
def b_lawlive : Sms := (.cons (.ret (.bf .sum (.cons (.comp (.tp (.cons (.tp (.cons (.nm 2) (.cons (.nm 3) .nil))) (.cons (.nm 4) .nil))) (.zip (.var 0) (.var 1)) .tt (.bin .mul (.var 2) (.bf .sum (.cons (.var 4) .nil)))) .nil))) .nil)
theorem live_eq {ks : List (Int × Int)} {t : List (List Int)} (h : t.length = ks.length) : ((ks.zip t).map fun q => q.1.1 * q.2.sum).sum = liveB ks t := by
  unfold liveB
  congr 1
  apply List.ext_getElem
  · simp; omega
  · intro i h1 h2
    simp at h1 h2
    have h3 : i < ks.length := by omega
    simp [szk, h3, Int.mul_comm]
theorem c_lawlive {F : Nat → Option Fn} {G : Cls} {n : Nat} (hn : F n = some ⟨2, 5, b_lawlive⟩) (k : Nat) (S : Store) {ks : List (Int × Int)} {t : List (List Int)} (hk : KO ks) (h : t.length = ks.length) : callF F G (k + 1) n [.lst (ks.map kindD), tabD t] S = .ok (.int (liveB ks t)) S := by
  have := hk.most
  rw [call_eq (hn) rfl]
  simp only [b_lawlive]
  simp_arith
  rw [ev_compI (L := ks.zip t) (g := fun q => .tup [kindD q.1, tupI q.2]) (fun q => q.1.1 * q.2.sum) (by simp_arith; rw [zipD_map]) (by simp; omega) (fun x _ => rfl) (fun q hq S' => ?_)]
  · simp_arith [intsD_map, live_eq h]
  · have h1 := hk.all q.1 (List.of_mem_zip hq).1
    simp_arith [intsD_map, mul_okL (i := q.1.1) (j := q.2.sum) (by omega) (by omega)]
end SP
end
section
set_option Elab.async false
set_option linter.all false
set_option autoImplicit false
set_option maxRecDepth 100000
set_option maxHeartbeats 2000000
namespace SP
open PySem
local macro_rules
  | `(tactic| simp_arith) => `(tactic| simp -dsimp -implicitDefEqProofs only [q_evE_var, q_evE_frz, q_evE_non, q_evE_bl, q_evE_int, q_evE_neg, q_evE_str, q_evE_cst, q_evE_tt, q_evE_bin, q_evE_cmp, q_evE_cmp2, q_evE_isN, q_evE_notN, q_evE_and, q_evE_or, q_evE_not, q_evE_ite, q_evE_tup, q_evE_lst, q_evE_new, q_evE_dic0, q_evE_ix, q_evE_slA, q_evE_slB, q_evE_slC, q_evE_rev, q_evE_fld, q_evE_call, q_evE_callK, q_evE_meth, q_evE_mk, q_evE_mkX, q_evE_mkXK, q_evE_thw, q_evE_sset, q_evE_addN, q_evE_lstN, q_evE_lrng, q_evE_trng, q_evE_bf, q_evE_isi, q_evE_isis, q_evEs_nil, q_evEs_cons, q_evI_of, q_evI_enum, q_evI_zip, q_exS_set, q_exS_sets, q_exS_aug, q_exS_put, q_exS_sfld, q_exS_app, q_exS_ext, q_exS_rem, q_exS_clr, q_exS_fz, q_exS_exp, q_exS_ret, q_exS_retN, q_exS_pass, q_exS_ife, q_exS_rse, q_exSs_nil, q_exSs_cons, Nat.reduceSub, List.length_cons, List.length_nil, Nat.reduceAdd, Nat.zero_add, R.bnd_ok, R.fln_ok, R.bind_ok, R.fl_ok, R.opt_some, R.noEx_ok, Fl.opt_some, Option.map_some, Option.bind_some, List.map_cons, List.map_nil, List.cons_append, List.nil_append, List.replicate_zero, List.replicate_succ, List.getElem?_cons_zero, List.getElem?_cons_succ, List.set_cons_zero, List.set_cons_succ, bindT, bindTs, cf_call, rdD, cmpO, cmpD, n1, n2, b1, b2, b3, b4, b5, b6, b7, b8, b9, b10, b11, b12, b13, b14, b15, b16, b17, ty1, ty2, ty3, ty4, ty5, ty6, ty7, z0, z1, z2, z3, z4, z5, z6, z7, z8, z9, z10, z11, z12, z13, NxI_nx, slotsT, slotsTs, wipeE, Fl.thn_nx, Fl.thn_rt, Fl.thn_ex, R.fln_ex, R.bnd_ex, R.fl_ex, R.bind_ex, retF_nx, retF_rt, retF_ex, retD_non, retD_bl, retD_int, retD_str, retD_tup, retD_lst, retD_obj, take_len, isNon, itemsD, Bool.not_true, Bool.not_false, Bool.and_true, Bool.and_false, Bool.true_and, Bool.false_and, ixD])
  | `(tactic| simp_arith [$ls,*]) => `(tactic| simp -dsimp -implicitDefEqProofs only [q_evE_var, q_evE_frz, q_evE_non, q_evE_bl, q_evE_int, q_evE_neg, q_evE_str, q_evE_cst, q_evE_tt, q_evE_bin, q_evE_cmp, q_evE_cmp2, q_evE_isN, q_evE_notN, q_evE_and, q_evE_or, q_evE_not, q_evE_ite, q_evE_tup, q_evE_lst, q_evE_new, q_evE_dic0, q_evE_ix, q_evE_slA, q_evE_slB, q_evE_slC, q_evE_rev, q_evE_fld, q_evE_call, q_evE_callK, q_evE_meth, q_evE_mk, q_evE_mkX, q_evE_mkXK, q_evE_thw, q_evE_sset, q_evE_addN, q_evE_lstN, q_evE_lrng, q_evE_trng, q_evE_bf, q_evE_isi, q_evE_isis, q_evEs_nil, q_evEs_cons, q_evI_of, q_evI_enum, q_evI_zip, q_exS_set, q_exS_sets, q_exS_aug, q_exS_put, q_exS_sfld, q_exS_app, q_exS_ext, q_exS_rem, q_exS_clr, q_exS_fz, q_exS_exp, q_exS_ret, q_exS_retN, q_exS_pass, q_exS_ife, q_exS_rse, q_exSs_nil, q_exSs_cons, Nat.reduceSub, List.length_cons, List.length_nil, Nat.reduceAdd, Nat.zero_add, R.bnd_ok, R.fln_ok, R.bind_ok, R.fl_ok, R.opt_some, R.noEx_ok, Fl.opt_some, Option.map_some, Option.bind_some, List.map_cons, List.map_nil, List.cons_append, List.nil_append, List.replicate_zero, List.replicate_succ, List.getElem?_cons_zero, List.getElem?_cons_succ, List.set_cons_zero, List.set_cons_succ, bindT, bindTs, cf_call, rdD, cmpO, cmpD, n1, n2, b1, b2, b3, b4, b5, b6, b7, b8, b9, b10, b11, b12, b13, b14, b15, b16, b17, ty1, ty2, ty3, ty4, ty5, ty6, ty7, z0, z1, z2, z3, z4, z5, z6, z7, z8, z9, z10, z11, z12, z13, NxI_nx, slotsT, slotsTs, wipeE, Fl.thn_nx, Fl.thn_rt, Fl.thn_ex, R.fln_ex, R.bnd_ex, R.fl_ex, R.bind_ex, retF_nx, retF_rt, retF_ex, retD_non, retD_bl, retD_int, retD_str, retD_tup, retD_lst, retD_obj, take_len, isNon, itemsD, Bool.not_true, Bool.not_false, Bool.and_true, Bool.and_false, Bool.true_and, Bool.false_and, ixD, $ls,*])
/-! all orders of some items; the least limit over all orders -/
theorem snocI {α : Type} {P : List α → Prop} (h0 : P []) (h1 : ∀ xs x, P xs → P (xs ++ [x])) (xs : List α) : P xs := by
  have key : ∀ l : List α, P l.reverse := fun l => by
    induction l with
    | nil => exact h0
    | cons x l ih => rw [List.reverse_cons]; exact h1 _ _ ih
  have := key xs.reverse
  rwa [List.reverse_reverse] at this
section
variable {α : Type}
def insAll (x : α) (row : List α) : List (List α) := (List.range (row.length + 1)).map fun i => row.take i ++ [x] ++ row.drop i
def ordersP (xs : List α) : List (List α) := xs.foldl (fun f x => (f.map (insAll x)).flatten) [[]]
theorem orders_snoc (xs : List α) (x : α) : ordersP (xs ++ [x]) = ((ordersP xs).map (insAll x)).flatten := by
  unfold ordersP
  rw [List.foldl_append]
  rfl
theorem ins_perm {x : α} {row r : List α} (h : r ∈ insAll x row) : r.Perm (row ++ [x]) := by
  obtain ⟨i, hi, rfl⟩ := List.mem_map.mp h
  have h1 : (row.take i ++ [x] ++ row.drop i).Perm (row.take i ++ row.drop i ++ [x]) := by
    rw [List.append_assoc, List.append_assoc]
    exact List.Perm.append_left _ List.perm_append_comm
  rwa [List.take_append_drop] at h1
theorem orders_perm (xs : List α) : ∀ r ∈ ordersP xs, r.Perm xs := by
  induction xs using snocI with
  | h0 => intro r hr; rw [List.mem_singleton.mp hr]
  | h1 xs x ih =>
    intro r hr
    rw [orders_snoc] at hr
    obtain ⟨l, hl, hr⟩ := List.mem_flatten.mp hr
    obtain ⟨row, hrow, rfl⟩ := List.mem_map.mp hl
    exact (ins_perm hr).trans ((ih row hrow).append_right [x])
theorem perm_orders (xs : List α) : ∀ r : List α, r.Perm xs → r ∈ ordersP xs := by
  induction xs using snocI with
  | h0 => intro r hr; rw [hr.eq_nil]; exact List.mem_singleton.mpr rfl
  | h1 xs x ih =>
    intro r hr
    have hx : x ∈ r := hr.mem_iff.mpr (by simp)
    obtain ⟨a, b, rfl⟩ := List.append_of_mem hx
    have h1 : (a ++ b).Perm xs := by
      have h2 : (a ++ x :: b).Perm ((a ++ b) ++ [x]) := by
        rw [List.append_assoc]
        exact List.Perm.append_left a (List.perm_append_comm (l₁ := [x]) (l₂ := b))
      exact (List.perm_append_right_iff [x]).mp (h2.symm.trans hr)
    rw [orders_snoc]
    refine List.mem_flatten.mpr ⟨insAll x (a ++ b), List.mem_map.mpr ⟨_, ih _ h1, rfl⟩, ?_⟩
    refine List.mem_map.mpr ⟨a.length, List.mem_range.mpr (by simp; omega), ?_⟩
    simp
theorem orders_ne (xs : List α) : ordersP xs ≠ [] := fun e => by
  have := perm_orders xs xs (.refl _)
  rw [e] at this
  cases this
theorem orders_len (xs : List α) : ∀ r ∈ ordersP xs, r.length = xs.length := fun r hr => (orders_perm xs r hr).length_eq
def factN : Nat → Nat
  | 0 => 1
  | n + 1 => factN n * (n + 1)
theorem flat_len (x : α) (n : Nat) : ∀ L : List (List α), (∀ r ∈ L, r.length = n) → ((L.map (insAll x)).flatten).length = L.length * (n + 1)
  | [], _ => by simp
  | r :: L, h => by
    have h1 := flat_len x n L fun r hr => h r (List.mem_cons_of_mem _ hr)
    have h2 := h r (List.mem_cons_self ..)
    rw [List.map_cons, List.flatten_cons, List.length_append, h1]
    simp only [insAll, List.length_map, List.length_range, h2, List.length_cons]
    rw [Nat.add_mul, Nat.one_mul, Nat.add_comm]
theorem orders_many (xs : List α) : (ordersP xs).length = factN xs.length := by
  induction xs using snocI with
  | h0 => rfl
  | h1 xs x ih =>
    rw [orders_snoc, flat_len x xs.length _ (orders_len xs), ih, List.length_append]
    rfl
theorem fact_le {n : Nat} (h : n ≤ 6) : factN n ≤ 720 := by
  have : n = 0 ∨ n = 1 ∨ n = 2 ∨ n = 3 ∨ n = 4 ∨ n = 5 ∨ n = 6 := by omega
  rcases this with rfl | rfl | rfl | rfl | rfl | rfl | rfl <;> decide
theorem fact_mono {n m : Nat} (h : n ≤ m) : factN n ≤ factN m := by
  induction m with
  | zero => rw [show n = 0 by omega]; exact Nat.le_refl _
  | succ m ih =>
    by_cases e : n = m + 1
    · rw [e]; exact Nat.le_refl _
    · refine Nat.le_trans (ih (by omega)) ?_
      show factN m ≤ factN m * (m + 1)
      exact Nat.le_mul_of_pos_right _ (by omega)
end
/-! the laws' own defs -/
def b_jobs : Sms := (.cons (.set (.nm 3) (.new .nil)) (.cons (.for_ (.tp (.cons (.nm 4) (.cons (.tp (.cons (.nm 5) (.cons (.nm 6) .nil))) .nil))) (.enum (.var 0)) (.cons (.sets (.cons (.nm 7) (.cons (.nm 8) .nil)) (.cons (.bf .len (.cons (.ix (.var 1) (.var 4)) .nil)) (.cons (.bf .len (.cons (.ix (.var 2) (.var 4)) .nil)) .nil))) (.cons (.ife (.cmp .gt (.var 7) (.var 8)) (.cons (.set (.nm 9) (.bin .sub (.bin .mul (.bin .add (.bin .mul (.bin .sub (.var 7) (.int 1)) (.var 6)) (.int 1)) (.var 5)) (.bin .mul (.var 5) (.bf .sum (.cons (.ix (.var 2) (.var 4)) .nil))))) (.cons (.app (.var 3) (.tup (.cons (.var 4) (.cons (.bin .mul (.bin .sub (.var 7) (.var 8)) (.var 5)) (.cons (.var 9) .nil))))) .nil)) .nil) .nil))) (.cons (.fz 3) (.cons (.ret (.var 3)) .nil))))
def b_orders : Sms := (.cons (.set (.nm 1) (.lst (.cons (.lst .nil) .nil))) (.cons (.for_ (.nm 2) (.of (.var 0)) (.cons (.set (.nm 3) (.lst .nil)) (.cons (.for_ (.nm 4) (.of (.var 1)) (.cons (.set (.nm 3) (.bin .add (.var 3) (.comp (.nm 5) (.rng1 (.bin .add (.bf .len (.cons (.var 4) .nil)) (.int 1))) .tt (.bin .add (.bin .add (.slB (.var 4) (.var 5)) (.lst (.cons (.var 2) .nil))) (.slA (.var 4) (.var 5)))))) .nil)) (.cons (.set (.nm 1) (.var 3)) .nil)))) (.cons (.ret (.var 1)) .nil)))
def b_least (live jobs orders : Nat) : Sms := (.cons (.set (.nm 3) .non) (.cons (.for_ (.nm 4) (.of (.call orders (.cons (.call jobs (.cons (.var 0) (.cons (.var 1) (.cons (.var 2) .nil)))) .nil))) (.cons (.set (.nm 5) (.call live (.cons (.var 0) (.cons (.var 2) .nil)))) (.cons (.set (.nm 6) (.var 5)) (.cons (.for_ (.tp (.cons (.nm 7) (.cons (.nm 8) (.cons (.nm 9) .nil)))) (.of (.var 4)) (.cons (.set (.nm 6) (.bf .max2 (.cons (.var 6) (.cons (.bin .add (.var 5) (.var 9)) .nil)))) (.cons (.set (.nm 5) (.bin .add (.var 5) (.var 8))) .nil))) (.cons (.set (.nm 3) (.ite (.isN (.var 3)) (.var 6) (.bf .min2 (.cons (.var 3) (.cons (.var 6) .nil))))) .nil))))) (.cons (.ret (.bf .max2 (.cons (.var 3) (.cons (.call live (.cons (.var 0) (.cons (.var 1) .nil))) .nil)))) .nil)))
/-- a class with more pages than pins: its number, what it holds, what it needs -/
def jobD (ks : List (Int × Int)) (t p : List (List Int)) (x : Int) : D := .tup [.int x, .int (heldB ks t p x.toNat), .int (filledB ks t p x.toNat)]
theorem filter_succ {q : Nat → Bool} (i : Nat) : (List.range (i + 1)).filter q = (List.range i).filter q ++ (if q i then [i] else []) := by
  rw [List.range_succ, List.filter_append]
  cases h : q i <;> simp [h]
section
variable {F : Nat → Option Fn} {G : Cls}
theorem c_jobs {n : Nat} (hn : F n = some ⟨3, 10, b_jobs⟩) (k : Nat) (S : Store) {ks : List (Int × Int)} {t p : List (List Int)} (hk : KO ks) (ht : t.length = ks.length) (hp : p.length = t.length) : callF F G (k + 1) n [.lst (ks.map kindD), tabD t, tabD p] S = .ok (.lst ((grownI t p).map (jobD ks t p))) S := by
  have h6 := hk.most
  rw [call_eq (hn) rfl]
  simp only [b_jobs]
  simp_arith
  refine ret_for (L := ks.zipIdx) (g := fun q => .tup [.int q.2, kindD q.1]) (Inv := fun i ρ S2 => S2 = S ++ [some (.lst (((List.range i).filter fun j => decide ((cnt p j).length < (cnt t j).length)).map fun (j : Nat) => jobD ks t p (j : Int)))] ∧ ∃ a b c d e f, ρ = [some (.lst (ks.map kindD)), some (tabD t), some (tabD p), some (.loc S.length), a, b, c, d, e, f]) (by simp_arith; rw [enumD_map]; rfl) ⟨rfl, _, _, _, _, _, _, rfl⟩ (fun i hi ρ S2 hI => ?_) (fun ρ2 S2 hI => ?_)
  · obtain ⟨rfl, a, b, c, d, e, f, rfl⟩ := hI
    refine ⟨_, rfl, ?_⟩
    have hi2 : i < ks.length := by simpa using hi
    have e1 : (ks.zipIdx)[i] = ((szk ks i, slk ks i), i) := by
      simp [szk, slk, List.getElem_zipIdx, hi2]
    have hs := hk.sz i
    simp only [e1]
    simp_arith [ix_tab (show i < t.length by omega), ix_tab (show i < p.length by omega), List.length_map]
    by_cases hq : (((cnt p i).length : Int) < ((cnt t i).length : Int))
    · have hq2 : (cnt p i).length < (cnt t i).length := by omega
      have hlen : (((List.range i).filter fun j => decide ((cnt p j).length < (cnt t j).length)).map fun (j : Nat) => jobD ks t p (j : Int)).length < 1000000 := by
        rw [List.length_map]
        have := List.length_filter_le (fun j => decide ((cnt p j).length < (cnt t j).length)) (List.range i)
        rw [List.length_range] at this
        omega
      simp_arith [hq, decide_true, intsD_map, ix_tab (show i < p.length by omega), mul_ok (j := slk ks i) hs.2.2.1 (by omega), mul_ok (j := szk ks i) hs.1 (by omega), mul_okL (i := szk ks i) hs.1 (by omega), isCL_last, if_true, toCell_app S hlen]
      refine ⟨?_, _, _, _, _, _, _, rfl⟩
      rw [filter_succ, if_pos (by simpa using hq2), List.map_append]
      congr 3
      simp only [List.map_cons, List.map_nil, List.cons.injEq, and_true]
      unfold jobD filledB pinnedB heldB
      rw [Int.toNat_natCast, Int.mul_comm (szk ks i) (cnt p i).sum]
    · have hq2 : ¬ (cnt p i).length < (cnt t i).length := by omega
      simp_arith [eq_false hq, decide_false]
      refine ⟨?_, _, _, _, _, _, _, rfl⟩
      rw [filter_succ, if_neg (by simpa using hq2), List.append_nil]
  · obtain ⟨rfl, a, b, c, d, e, f, rfl⟩ := hI
    simp_arith [set_last2]
    rw [List.take_append_of_le_length (by simp), List.take_of_length_le (by simp), List.length_zipIdx]
    unfold grownI grownB
    rw [List.map_map, ht]
    rfl
theorem cut_lo {α : Type} (xs : List α) (i : Nat) (h : i ≤ xs.length) : cutL xs (some (i : Int)) none = xs.drop i := cutL_lo xs i h
theorem c_orders {n : Nat} (hn : F n = some ⟨1, 6, b_orders⟩) (k : Nat) (S : Store) {α : Type} {f : α → D} (hf : ∀ x, (f x).noLoc = true) {xs : List α} (h6 : xs.length ≤ 6) : callF F G (k + 1) n [.lst (xs.map f)] S = .ok (.lst ((ordersP xs).map fun r => .lst (r.map f))) S := by
  have hfz : ∀ x S, frzD (f x) S = .ok (f x) S := fun x S => frzD_of (hf x) S
  rw [call_eq (hn) rfl]
  simp only [b_orders]
  simp_arith
  refine ret_for (L := xs) (g := f) (Inv := fun i ρ S2 => S2 = S ∧ ∃ a b c d, ρ = [some (.lst (xs.map f)), some (.lst ((ordersP (xs.take i)).map fun r => .lst (r.map f))), a, b, c, d]) (by simp_arith) ⟨rfl, _, _, _, _, rfl⟩ (fun i hi ρ S2 hI => ?_) (fun ρ2 S2 hI => ?_)
  · obtain ⟨hS, a, b, c, d, rfl⟩ := hI
    subst hS
    refine ⟨_, rfl, ?_⟩
    have hlen := orders_len (xs.take i)
    have hil : (xs.take i).length = i := by rw [List.length_take]; omega
    have hmany : (ordersP (xs.take i)).length * (i + 1) ≤ 720 := by
      rw [orders_many, hil]
      have h1 : factN (i + 1) ≤ 720 := fact_le (by omega)
      exact h1
    simp_arith
    refine nx_for (L := ordersP (xs.take i)) (g := fun r => .lst (r.map f)) (Inv := fun j ρ S3 => S3 = S2 ∧ ∃ a b, ρ = [some (.lst (xs.map f)), some (.lst ((ordersP (xs.take i)).map fun r => .lst (r.map f))), some (f xs[i]), some (.lst (((((ordersP (xs.take i)).take j).map (insAll xs[i])).flatten).map fun r => .lst (r.map f))), a, b]) (by simp_arith) ⟨rfl, _, _, rfl⟩ (fun j hj ρ S3 hI => ?_) (fun ρ2 S3 hI => ?_)
    · obtain ⟨rfl, a, b, rfl⟩ := hI
      refine ⟨_, rfl, ?_⟩
      have hrow := hlen _ (List.getElem_mem hj)
      generalize hr : (ordersP (xs.take i))[j] = row at hrow ⊢
      have hl2 : ((((ordersP (xs.take i)).take j).map (insAll xs[i])).flatten).length = j * (i + 1) := by
        rw [flat_len _ i _ (fun r hr => by rw [hlen r (List.mem_of_mem_take hr), hil]), List.length_take, Nat.min_eq_left (by omega)]
      have hj2 : j * (i + 1) + (i + 1) ≤ 720 := by
        have : (j + 1) * (i + 1) ≤ (ordersP (xs.take i)).length * (i + 1) := Nat.mul_le_mul_right _ (by omega)
        rw [Nat.add_mul, Nat.one_mul] at this
        omega
      simp_arith
      rw [ev_compM (L := List.range (row.length + 1)) (g := fun (i : Nat) => .int (i : Int)) (fun l => .lst ((row.take l ++ [xs[i]] ++ row.drop l).map f)) (evI_rng1 (n := row.length + 1) (by simp_arith [List.length_map]; rfl) (by omega)) (by simp; omega) (fun r _ => rfl) (fun _ _ => rfl) (fun l hl S' => by
        have hl := List.mem_range.mp hl
        simp_arith [slD, cutL_hi, cut_lo (row.map f) l (by simp; omega), ← List.map_take, ← List.map_drop, hfz, bin_addL (xs := (row.take l).map f) (ys := [f xs[i]]) (by simp; omega), bin_addL (xs := (row.take l).map f ++ [f xs[i]]) (ys := (row.drop l).map f) (by simp; omega)]
        rw [List.map_append, List.map_append]
        rfl)]
      have e3 : ((List.range (row.length + 1)).map fun l => D.lst ((row.take l ++ [xs[i]] ++ row.drop l).map f)) = (insAll xs[i] row).map fun r => D.lst (r.map f) := by
        unfold insAll
        rw [List.map_map]
        rfl
      rw [e3]
      simp_arith [bin_addL (xs := ((((ordersP (xs.take i)).take j).map (insAll xs[i])).flatten).map fun r => D.lst (r.map f)) (ys := (insAll xs[i] row).map fun r => D.lst (r.map f)) (by rw [List.length_map, List.length_map, hl2]; simp only [insAll, List.length_map, List.length_range]; omega)]
      have e4 : ((((ordersP (xs.take i)).take (j + 1)).map (insAll xs[i])).flatten).map (fun r => D.lst (r.map f)) = ((((ordersP (xs.take i)).take j).map (insAll xs[i])).flatten).map (fun r => D.lst (r.map f)) ++ (insAll xs[i] row).map fun r => D.lst (r.map f) := by
        rw [List.take_succ_eq_append_getElem hj, List.map_append, List.flatten_append, List.map_append, hr]
        simp only [List.map_cons, List.map_nil, List.flatten_cons, List.flatten_nil, List.append_nil]
      rw [e4]
      exact ⟨trivial, _, _, rfl⟩
    · obtain ⟨rfl, a, b, rfl⟩ := hI
      rw [List.take_length, ← orders_snoc, ← List.take_succ_eq_append_getElem hi]
      simp_arith
      exact ⟨trivial, _, _, _, _, rfl⟩
  · obtain ⟨rfl, a, b, c, d, rfl⟩ := hI
    rw [List.take_length]
    simp_arith
/-- the most that an order needs -/
def peakI (h n : Int → Int) : Int → Int → List Int → Int
  | _, m, [] => m
  | L, m, x :: l => peakI h n (L + h x) (max m (L + n x)) l
theorem peak_le (h s n : Int → Int) (hn : ∀ x, n x = h x + s x) (M : Int) : ∀ (l : List Int) (L m : Int), peakI h n L m l ≤ M ↔ m ≤ M ∧ fitsI h s M L l
  | [], L, m => by simp [peakI, fitsI]
  | x :: l, L, m => by
    simp only [peakI, fitsI]
    rw [peak_le h s n hn M l, hn x, Int.max_le, ← Int.add_assoc, and_assoc]
theorem minS_snoc {l : List Int} (h : l ≠ []) (x : Int) : minS (l ++ [x]) = min (minS l) x := by
  cases l with
  | nil => exact absurd rfl h
  | cons y l =>
    show (l ++ [x]).foldl min y = min (l.foldl min y) x
    rw [List.foldl_append]
    rfl
theorem minS_one (x : Int) : minS [x] = x := rfl
theorem minS_le_iff {l : List Int} (h : l ≠ []) (M : Int) : minS l ≤ M ↔ ∃ x ∈ l, x ≤ M := by
  constructor
  · intro h1
    exact ⟨_, minS_mem h, h1⟩
  · rintro ⟨x, hx, h1⟩
    have := minS_le hx
    omega
abbrev nB (ks : List (Int × Int)) (t p : List (List Int)) (x : Int) : Int := filledB ks t p x.toNat
/-- the least limit over all orders is the program's -/
theorem least_orders {ks : List (Int × Int)} {t p : List (List Int)} (h : RX ks t p) : max (minS ((ordersP (grownI t p)).map fun r => peakI (hB ks t p) (nB ks t p) (liveB ks p) (liveB ks p) r)) (liveB ks t) = (leastB ks t p).1 := by
  have hn : ∀ x, nB ks t p x = hB ks t p x + sB ks t p x := fun x => by
    show filledB _ _ _ _ = heldB _ _ _ _ + spareB _ _ _ _
    unfold spareB
    omega
  have hne : (ordersP (grownI t p)).map (fun r => peakI (hB ks t p) (nB ks t p) (liveB ks p) (liveB ks p) r) ≠ [] := by simp [orders_ne]
  have hp := h.liveP
  have key : ∀ M, max (minS ((ordersP (grownI t p)).map fun r => peakI (hB ks t p) (nB ks t p) (liveB ks p) (liveB ks p) r)) (liveB ks t) ≤ M ↔ (leastB ks t p).1 ≤ M := fun M => by
    rw [least_le, Int.max_le, minS_le_iff hne]
    constructor
    · rintro ⟨⟨x, hx, h1⟩, h2⟩
      obtain ⟨r, hr, rfl⟩ := List.mem_map.mp hx
      refine ⟨h2, ?_⟩
      have h3 := ((peak_le _ (sB ks t p) _ hn M r _ _).mp h1).2
      have hperm := (order_perm ks t p).trans (orders_perm _ r hr).symm
      exact fits_best _ _ M (order_nd ks t p) hperm (fun x hx => h.held0 (order_in hx).2) (order_desc ks t p) h3
    · rintro ⟨h1, h2⟩
      refine ⟨⟨_, List.mem_map.mpr ⟨orderI ks t p, perm_orders _ _ (order_perm ks t p), rfl⟩, ?_⟩, h1⟩
      exact (peak_le _ (sB ks t p) _ hn M _ _ _).mpr ⟨by omega, h2⟩
  have h1 := (key _).mp (Int.le_refl _)
  have h2 := (key _).mpr (Int.le_refl _)
  omega
/-- fits, decided -/
def fitsQ (h s : Int → Int) (M : Int) : Int → List Int → Bool
  | _, [] => true
  | L, x :: l => decide (L + h x + s x ≤ M) && fitsQ h s M (L + h x) l
theorem fitsQ_iff (h s : Int → Int) (M : Int) : ∀ (l : List Int) (L : Int), fitsQ h s M L l = true ↔ fitsI h s M L l
  | [], L => by simp [fitsQ, fitsI]
  | x :: l, L => by simp only [fitsQ, fitsI, Bool.and_eq_true, decide_eq_true_eq, fitsQ_iff h s M l]
def leastQ (ks : List (Int × Int)) (t p : List (List Int)) (M : Int) : Bool := decide (liveB ks t ≤ M) && (ordersP (grownI t p)).any fun r => fitsQ (hB ks t p) (sB ks t p) M (liveB ks p) r
theorem least_q {ks : List (Int × Int)} {t p : List (List Int)} (h : RX ks t p) (M : Int) : (leastB ks t p).1 ≤ M ↔ leastQ ks t p M = true := by
  rw [least_le]
  simp only [leastQ, Bool.and_eq_true, decide_eq_true_eq, List.any_eq_true, fitsQ_iff]
  constructor
  · exact fun h => ⟨h.1, _, perm_orders _ _ (order_perm ks t p), h.2⟩
  · rintro ⟨h1, r, hr, h2⟩
    exact ⟨h1, fits_best _ _ M (order_nd ks t p) ((order_perm ks t p).trans (orders_perm _ r hr).symm) (fun x hx => h.held0 (order_in hx).2) (order_desc ks t p) h2⟩
theorem c_lawleast {nl nj no n : Nat} (hl : F nl = some ⟨2, 5, b_lawlive⟩) (hj : F nj = some ⟨3, 10, b_jobs⟩) (ho : F no = some ⟨1, 6, b_orders⟩) (hn : F n = some ⟨3, 10, b_least nl nj no⟩) (k : Nat) (S : Store) {ks : List (Int × Int)} {t p : List (List Int)} (h : RX ks t p) :
    callF F G (k + 2) n [.lst (ks.map kindD), tabD t, tabD p] S = .ok (.int (leastB ks t p).1) S := by
  have hk := h.ko
  have h6 := hk.most
  have tl := h.tl
  have pl := h.pl
  have hg := grown_len t p
  rw [call_eq (hn) rfl]
  simp only [b_least]
  simp_arith
  refine ret_for (L := ordersP (grownI t p)) (g := fun r => .lst (r.map (jobD ks t p))) (Inv := fun i ρ S2 => S2 = S ∧ ∃ a b c d e f, ρ = [some (.lst (ks.map kindD)), some (tabD t), some (tabD p), some (if i = 0 then .non else .int (minS (((ordersP (grownI t p)).take i).map fun r => peakI (hB ks t p) (nB ks t p) (liveB ks p) (liveB ks p) r))), a, b, c, d, e, f])
    (by simp_arith [c_jobs hj _ _ hk tl pl, c_orders ho _ _ (f := jobD ks t p) (fun _ => rfl) (xs := grownI t p) (by omega)]) ⟨rfl, _, _, _, _, _, _, rfl⟩ (fun i hi ρ S2 hI => ?_) (fun ρ2 S2 hI => ?_)
  · obtain ⟨hS, a, b, c, d, e, f, rfl⟩ := hI
    subst hS
    refine ⟨_, rfl, ?_⟩
    generalize hr : (ordersP (grownI t p))[i] = row
    simp_arith [c_lawlive hl _ _ hk (show p.length = ks.length by omega)]
    refine nx_for (L := row) (g := jobD ks t p) (Inv := fun j ρ S3 => S3 = S2 ∧ ∃ a b c T m, peakI (hB ks t p) (nB ks t p) T m (row.drop j) = peakI (hB ks t p) (nB ks t p) (liveB ks p) (liveB ks p) row ∧ ρ = [some (.lst (ks.map kindD)), some (tabD t), some (tabD p), some (if i = 0 then .non else .int (minS (((ordersP (grownI t p)).take i).map fun r => peakI (hB ks t p) (nB ks t p) (liveB ks p) (liveB ks p) r))), some (.lst (row.map (jobD ks t p))), some (.int T), some (.int m), a, b, c]) (by simp_arith) ⟨rfl, _, _, _, _, _, rfl, rfl⟩ (fun j hj2 ρ S3 hI => ?_) (fun ρ2 S3 hI => ?_)
    · obtain ⟨rfl, a, b, c, T, m, hpk, rfl⟩ := hI
      refine ⟨_, rfl, ?_⟩
      simp_arith
      refine ⟨trivial, _, _, _, _, _, ?_, rfl⟩
      rw [← hpk, List.drop_eq_getElem_cons hj2]
      rfl
    · obtain ⟨rfl, a, b, c, T, m, hpk, rfl⟩ := hI
      rw [List.drop_length] at hpk
      have hpk : m = peakI (hB ks t p) (nB ks t p) (liveB ks p) (liveB ks p) row := hpk
      have e4 : ((ordersP (grownI t p)).take (i + 1)).map (fun r => peakI (hB ks t p) (nB ks t p) (liveB ks p) (liveB ks p) r) = ((ordersP (grownI t p)).take i).map (fun r => peakI (hB ks t p) (nB ks t p) (liveB ks p) (liveB ks p) r) ++ [m] := by
        rw [List.take_succ_eq_append_getElem hi, List.map_append, hr, hpk]
        rfl
      rw [e4]
      by_cases h0 : i = 0
      · subst h0
        rw [if_pos rfl, if_neg (Nat.succ_ne_zero 0), List.take_zero, List.map_nil, List.nil_append, minS_one]
        simp_arith
        exact ⟨trivial, _, _, _, _, _, _, rfl⟩
      · rw [minS_snoc (by
          intro z
          have := congrArg List.length z
          rw [List.length_map, List.length_take, List.length_nil] at this
          omega)]
        rw [if_neg h0, if_neg (Nat.succ_ne_zero i)]
        simp_arith
        exact ⟨trivial, _, _, _, _, _, _, rfl⟩
  · obtain ⟨rfl, a, b, c, d, e, f, rfl⟩ := hI
    have hne : (ordersP (grownI t p)).length ≠ 0 := fun z => orders_ne _ (List.length_eq_zero_iff.mp z)
    rw [List.take_length, if_neg hne]
    simp_arith [c_lawlive hl _ _ hk tl, least_orders h]
end
end SP
end
section
set_option Elab.async false
set_option linter.all false
set_option autoImplicit false
set_option maxRecDepth 100000
set_option maxHeartbeats 4000000
namespace SP
local macro_rules
  | `(tactic| simp_arith) => `(tactic| simp -dsimp -implicitDefEqProofs only [q_evE_var, q_evE_frz, q_evE_non, q_evE_bl, q_evE_int, q_evE_neg, q_evE_str, q_evE_cst, q_evE_tt, q_evE_bin, q_evE_cmp, q_evE_cmp2, q_evE_isN, q_evE_notN, q_evE_and, q_evE_or, q_evE_not, q_evE_ite, q_evE_tup, q_evE_lst, q_evE_new, q_evE_dic0, q_evE_ix, q_evE_slA, q_evE_slB, q_evE_slC, q_evE_rev, q_evE_fld, q_evE_call, q_evE_callK, q_evE_meth, q_evE_mk, q_evE_mkX, q_evE_mkXK, q_evE_thw, q_evE_sset, q_evE_addN, q_evE_lstN, q_evE_lrng, q_evE_trng, q_evE_bf, q_evE_isi, q_evE_isis, q_evEs_nil, q_evEs_cons, q_evI_of, q_evI_enum, q_evI_zip, q_exS_set, q_exS_sets, q_exS_aug, q_exS_put, q_exS_sfld, q_exS_app, q_exS_ext, q_exS_rem, q_exS_clr, q_exS_fz, q_exS_exp, q_exS_ret, q_exS_retN, q_exS_pass, q_exS_ife, q_exS_rse, q_exSs_nil, q_exSs_cons, Nat.reduceSub, List.length_cons, List.length_nil, Nat.reduceAdd, Nat.zero_add, R.bnd_ok, R.fln_ok, R.bind_ok, R.fl_ok, R.opt_some, R.noEx_ok, Fl.opt_some, Option.map_some, Option.bind_some, List.map_cons, List.map_nil, List.cons_append, List.nil_append, List.replicate_zero, List.replicate_succ, List.getElem?_cons_zero, List.getElem?_cons_succ, List.set_cons_zero, List.set_cons_succ, bindT, bindTs, cf_call, rdD, cmpO, cmpD, n1, n2, b1, b2, b3, b4, b5, b6, b7, b8, b9, b10, b11, b12, b13, b14, b15, b16, b17, ty1, ty2, ty3, ty4, ty5, ty6, ty7, z0, z1, z2, z3, z4, z5, z6, z7, z8, z9, z10, z11, z12, z13, NxI_nx, slotsT, slotsTs, wipeE, Fl.thn_nx, Fl.thn_rt, Fl.thn_ex, R.fln_ex, R.bnd_ex, R.fl_ex, R.bind_ex, retF_nx, retF_rt, retF_ex, retD_non, retD_bl, retD_int, retD_str, retD_tup, retD_lst, retD_obj, take_len, isNon, itemsD, Bool.not_true, Bool.not_false, Bool.and_true, Bool.and_false, Bool.true_and, Bool.false_and, ixD])
  | `(tactic| simp_arith [$ls,*]) => `(tactic| simp -dsimp -implicitDefEqProofs only [q_evE_var, q_evE_frz, q_evE_non, q_evE_bl, q_evE_int, q_evE_neg, q_evE_str, q_evE_cst, q_evE_tt, q_evE_bin, q_evE_cmp, q_evE_cmp2, q_evE_isN, q_evE_notN, q_evE_and, q_evE_or, q_evE_not, q_evE_ite, q_evE_tup, q_evE_lst, q_evE_new, q_evE_dic0, q_evE_ix, q_evE_slA, q_evE_slB, q_evE_slC, q_evE_rev, q_evE_fld, q_evE_call, q_evE_callK, q_evE_meth, q_evE_mk, q_evE_mkX, q_evE_mkXK, q_evE_thw, q_evE_sset, q_evE_addN, q_evE_lstN, q_evE_lrng, q_evE_trng, q_evE_bf, q_evE_isi, q_evE_isis, q_evEs_nil, q_evEs_cons, q_evI_of, q_evI_enum, q_evI_zip, q_exS_set, q_exS_sets, q_exS_aug, q_exS_put, q_exS_sfld, q_exS_app, q_exS_ext, q_exS_rem, q_exS_clr, q_exS_fz, q_exS_exp, q_exS_ret, q_exS_retN, q_exS_pass, q_exS_ife, q_exS_rse, q_exSs_nil, q_exSs_cons, Nat.reduceSub, List.length_cons, List.length_nil, Nat.reduceAdd, Nat.zero_add, R.bnd_ok, R.fln_ok, R.bind_ok, R.fl_ok, R.opt_some, R.noEx_ok, Fl.opt_some, Option.map_some, Option.bind_some, List.map_cons, List.map_nil, List.cons_append, List.nil_append, List.replicate_zero, List.replicate_succ, List.getElem?_cons_zero, List.getElem?_cons_succ, List.set_cons_zero, List.set_cons_succ, bindT, bindTs, cf_call, rdD, cmpO, cmpD, n1, n2, b1, b2, b3, b4, b5, b6, b7, b8, b9, b10, b11, b12, b13, b14, b15, b16, b17, ty1, ty2, ty3, ty4, ty5, ty6, ty7, z0, z1, z2, z3, z4, z5, z6, z7, z8, z9, z10, z11, z12, z13, NxI_nx, slotsT, slotsTs, wipeE, Fl.thn_nx, Fl.thn_rt, Fl.thn_ex, R.fln_ex, R.bnd_ex, R.fl_ex, R.bind_ex, retF_nx, retF_rt, retF_ex, retD_non, retD_bl, retD_int, retD_str, retD_tup, retD_lst, retD_obj, take_len, isNon, itemsD, Bool.not_true, Bool.not_false, Bool.and_true, Bool.and_false, Bool.true_and, Bool.false_and, ixD, $ls,*])
namespace K19
open PySem
structure LW (F : Nat → Option Fn) (G : Cls) : Prop where
  P : PG F G
  h100 : F 100 = some ⟨2, 4, b_draw⟩
  h101 : F 101 = some f_law_taken
  h102 : F 102 = some f_law_by_place
  h103 : F 103 = some f_law_by_name
  h104 : F 104 = some f_law_fields
  h105 : F 105 = some f_law_right
  h106 : F 106 = some f_law
theorem lw : LW pg.F pg.G := ⟨⟨fun i h => if_pos ⟨h.1, (by decide : vars = []) ▸ List.not_mem_nil⟩, rfl, rfl, rfl, rfl⟩, rfl, rfl, rfl, rfl, rfl, rfl, rfl⟩
/-- the exceptions of a value -/
def excs (x : D) : List D := [.exc 1 [x], .exc 2 [x], .exc 3 [x], .exc 4 [x], .exc 5 [x], .exc 6 [x], .exc 7 [x], .exc 8 [x], .exc 9 [x], .exc 10 [x]]
theorem frzL_ok {ds : List D} (h : ∀ d ∈ ds, ∀ S, frzD d S = .ok d S) (hl : ds.length ≤ 1000) (S : Store) : frzL ds S = .ok ds S := by
  have h2 : ∀ (ds : List D) (S : Store), (∀ d ∈ ds, ∀ S, frzD d S = .ok d S) → frzs ds S = .ok ds S := fun ds => by
    induction ds with
    | nil => exact fun S _ => rfl
    | cons d ds ih =>
      intro S h
      rw [z6, h d (List.mem_cons_self ..), R.bnd_ok, ih S fun e he => h e (List.mem_cons_of_mem _ he), R.bnd_ok]
  unfold frzL
  rw [if_pos (lenOk_of (by omega)), h2 ds S h]
theorem frz_exc {x : D} (l : List Nat) (hl : l.length ≤ 1000) (S : Store) : frzL (l.map fun c => .exc c [x]) S = .ok (l.map fun c => .exc c [x]) S := frzL_ok (fun d hd S => by
  obtain ⟨c, _, rfl⟩ := List.mem_map.mp hd
  rfl) (by simpa using hl) S
theorem frz_bl (l : List Bool) (hl : l.length ≤ 1000) (S : Store) : frzL (l.map .bl) S = .ok (l.map .bl) S := frzL_ok (fun d hd S => by
  obtain ⟨c, _, rfl⟩ := List.mem_map.mp hd
  rfl) (by simpa using hl) S
theorem is_exc {c j : Nat} {x : D} (h0 : 0 < c) (h1 : j < 100) (h2 : 0 < j) : isTy (.exc c [x]) (.cls j) = some (decide (j = c)) := by
  show (if 0 < c ∧ j < 100 then some (excSub c j) else none) = _
  rw [if_pos ⟨h0, h1⟩]
  unfold excSub
  have e : (j == 0) = false := by simp; omega
  rw [e, Bool.or_false]
  congr 1
  by_cases h : j = c
  · simp [h]
  · have : ¬ c = j := fun z => h z.symm
    simp [h, this]
theorem is_base {c : Nat} {x : D} (h0 : 0 < c) : isTy (.exc c [x]) (.cls 0) = some true := by
  show (if 0 < c ∧ 0 < 100 then some (excSub c 0) else none) = _
  rw [if_pos ⟨h0, by decide⟩]
  simp [excSub]
theorem is_ve {c : Nat} {x : D} (h0 : 0 < c) : isTy (.exc c [x]) .ve = some true := by
  show (if 0 < c then some true else none) = _
  rw [if_pos h0]
theorem add43 (a b c d e f g : D) : binD .add (.lst [a, b, c, d]) (.lst [e, f, g]) = some (.lst [a, b, c, d, e, f, g]) := bin_addL (by simp)
theorem add73 (a b c d e f g h i j : D) : binD .add (.lst [a, b, c, d, e, f, g]) (.lst [h, i, j]) = some (.lst [a, b, c, d, e, f, g, h, i, j]) := bin_addL (by simp)
section
variable {F : Nat → Option Fn} {G : Cls} (W : LW F G) {x : D} (hf : ∀ S, frzD x S = .ok x S)
include W
theorem c_taken (k : Nat) (S : Store) {c : Nat} (h0 : 0 < c) (y : D) : callF F G (k + 1) 101 [.exc c [y]] S = .ok (.lst ((List.range 10).map fun j => .bl (decide (j + 1 = c)))) S := by
  have i1 : ∀ j, j < 100 → 0 < j → isTy (.exc c [y]) (.cls j) = some (decide (j = c)) := fun j h1 h2 => is_exc h0 h1 h2
  have f4 : ∀ a b c d S, frzL [.bl a, .bl b, .bl c, .bl d] S = .ok [.bl a, .bl b, .bl c, .bl d] S := fun a b c d S => frz_bl [a, b, c, d] (by simp) S
  have f3 : ∀ a b c S, frzL [.bl a, .bl b, .bl c] S = .ok [.bl a, .bl b, .bl c] S := fun a b c S => frz_bl [a, b, c] (by simp) S
  rw [call_eq (W.h101) rfl]
  simp only [f_law_taken, b_law_taken]
  simp_arith [i1 1 (by decide) (by decide), i1 2 (by decide) (by decide), i1 3 (by decide) (by decide), i1 4 (by decide) (by decide), i1 5 (by decide) (by decide), i1 6 (by decide) (by decide), i1 7 (by decide) (by decide), i1 8 (by decide) (by decide), i1 9 (by decide) (by decide), i1 10 (by decide) (by decide), f4, f3, add43, add73]
  rfl
include hf
theorem c_place (k : Nat) (S : Store) : callF F G (k + 1) 102 [x] S = .ok (.lst (excs x)) S := by
  have f7 : ∀ S, frzL [.exc 1 [x], .exc 2 [x], .exc 3 [x], .exc 4 [x], .exc 5 [x], .exc 6 [x], .exc 7 [x]] S = .ok [.exc 1 [x], .exc 2 [x], .exc 3 [x], .exc 4 [x], .exc 5 [x], .exc 6 [x], .exc 7 [x]] S := fun S => frz_exc [1, 2, 3, 4, 5, 6, 7] (by decide) S
  have f3 : ∀ S, frzL [.exc 8 [x], .exc 9 [x], .exc 10 [x]] S = .ok [.exc 8 [x], .exc 9 [x], .exc 10 [x]] S := fun S => frz_exc [8, 9, 10] (by decide) S
  rw [call_eq (W.h102) rfl]
  simp only [f_law_by_place, b_law_by_place]
  simp_arith [hf, f7, f3, add43, add73]
  rfl
theorem c_name (k : Nat) (S : Store) : callF F G (k + 1) 103 [x] S = .ok (.lst (excs x)) S := by
  have f4 : ∀ S, frzL [.exc 1 [x], .exc 2 [x], .exc 3 [x], .exc 4 [x]] S = .ok [.exc 1 [x], .exc 2 [x], .exc 3 [x], .exc 4 [x]] S := fun S => frz_exc [1, 2, 3, 4] (by decide) S
  have f5 : ∀ S, frzL [.exc 5 [x], .exc 6 [x], .exc 7 [x]] S = .ok [.exc 5 [x], .exc 6 [x], .exc 7 [x]] S := fun S => frz_exc [5, 6, 7] (by decide) S
  have f3 : ∀ S, frzL [.exc 8 [x], .exc 9 [x], .exc 10 [x]] S = .ok [.exc 8 [x], .exc 9 [x], .exc 10 [x]] S := fun S => frz_exc [8, 9, 10] (by decide) S
  rw [call_eq (W.h103) rfl]
  simp only [f_law_by_name, b_law_by_name]
  simp_arith [hf, f4, f5, f3, add43, add73]
  rfl
theorem c_fields (k : Nat) (S : Store) : callF F G (k + 1) 104 [.lst (excs x)] S = .ok (.lst (List.replicate 10 x)) S := by
  have fx : ∀ (n : Nat) S, n ≤ 1000 → frzL (List.replicate n x) S = .ok (List.replicate n x) S := fun n S hn => frzL_ok (fun d hd S => by
    rw [List.eq_of_mem_replicate hd]
    exact hf S) (by simpa using hn) S
  have f4 : ∀ S, frzL [x, x, x, x] S = .ok [x, x, x, x] S := fun S => fx 4 S (by decide)
  have f3 : ∀ S, frzL [x, x, x] S = .ok [x, x, x] S := fun S => fx 3 S (by decide)
  have a0 : L2.atI (excs x) 0 = some (.exc 1 [x]) := rfl
  have a1 : L2.atI (excs x) 1 = some (.exc 2 [x]) := rfl
  have a2 : L2.atI (excs x) 2 = some (.exc 3 [x]) := rfl
  have a3 : L2.atI (excs x) 3 = some (.exc 4 [x]) := rfl
  have a4 : L2.atI (excs x) 4 = some (.exc 5 [x]) := rfl
  have a5 : L2.atI (excs x) 5 = some (.exc 6 [x]) := rfl
  have a6 : L2.atI (excs x) 6 = some (.exc 7 [x]) := rfl
  have a7 : L2.atI (excs x) 7 = some (.exc 8 [x]) := rfl
  have a8 : L2.atI (excs x) 8 = some (.exc 9 [x]) := rfl
  have a9 : L2.atI (excs x) 9 = some (.exc 10 [x]) := rfl
  have p : ∀ c f, progG.fpos c f = some 0 → (G.fpos c f).bind (fun j => [x][j]?) = some x := fun c f e => by
    rw [W.P.fpos, e]
    rfl
  have q1 : ((0 : Nat) < 1) = True := eq_true (by decide)
  have q2 : ((0 : Nat) < 2) = True := eq_true (by decide)
  have q3 : ((0 : Nat) < 3) = True := eq_true (by decide)
  have q4 : ((0 : Nat) < 4) = True := eq_true (by decide)
  have q5 : ((0 : Nat) < 5) = True := eq_true (by decide)
  have q6 : ((0 : Nat) < 6) = True := eq_true (by decide)
  have q7 : ((0 : Nat) < 7) = True := eq_true (by decide)
  have q8 : ((0 : Nat) < 8) = True := eq_true (by decide)
  have q9 : ((0 : Nat) < 9) = True := eq_true (by decide)
  have q10 : ((0 : Nat) < 10) = True := eq_true (by decide)
  rw [call_eq (W.h104) rfl]
  simp only [f_law_fields, b_law_fields]
  simp_arith [a0, a1, a2, a3, a4, a5, a6, a7, a8, a9, p 1 0 rfl, p 2 1 rfl, p 3 0 rfl, p 4 0 rfl, p 5 0 rfl, p 6 2 rfl, p 7 3 rfl, p 8 4 rfl, p 9 0 rfl, p 10 5 rfl, q1, q2, q3, q4, q5, q6, q7, q8, q9, q10, if_true, f4, f3, add43, add73]
omit hf in
/-- a value all through -/
theorem c_in (k : Nat) {S S1 S2 : Store} {w : D} {d v : Int} (hf : ∀ S, frzD x S = .ok x S) (hE : eqD (.lst [x, x, x, x, x, x, x, x, x, x]) (.lst [x, x, x, x, x, x, x, x, x, x]) = some true)
    (e1 : callF F G (k + 2) 100 [w, .int 1000] S = .ok (.int d) S1) (e2 : callF F G (k + 2) 100 [w, .int 5] S1 = .ok (.int v) S2) (hx : L2.atI [.int d, .int (-1), .non, .str "v", .tup [.int 0, .int 1]] v = some x) : OkD (.bl true) (callF F G (k + 3) 105 [w] S) := by
  have em : binD .mul (.lst [x]) (.int 10) = some (.lst (List.replicate 10 x)) := rfl
  rw [call_eq (W.h105) rfl]
  simp only [f_law_right, b_law_right]
  have f5 : ∀ S, frzL [.int d, .int (-1), .non, .str "v", .tup [.int 0, .int 1]] S = .ok [.int d, .int (-1), .non, .str "v", .tup [.int 0, .int 1]] S := frzL_ok (fun y hy S => by
    simp only [List.mem_cons, List.not_mem_nil, or_false] at hy
    rcases hy with rfl | rfl | rfl | rfl | rfl <;> rfl) (by simp)
  have f2 : ∀ S, frzL [.lst (excs x), .lst (excs x)] S = .ok [.lst (excs x), .lst (excs x)] S := frzL_ok (fun y hy S => by
    simp only [List.mem_cons, List.not_mem_nil, or_false, or_self] at hy
    rw [hy]
    rfl) (by simp)
  have f1 : ∀ S, frzL [x] S = .ok [x] S := frzL_ok (fun y hy S => by
    rw [List.mem_singleton.mp hy]
    exact hf S) (by simp)
  simp_arith [e1, e2, hx, f5]
  refine ret_forP (L := [excs x, excs x]) (g := .lst) (Inv := fun _ ρ S2 => ∃ a b c d, ρ = [some w, some x, a, b, c, d]) (by simp_arith [c_place W hf (k + 1), c_name W hf (k + 1), f2]; rfl) ⟨_, _, _, _, rfl⟩ (fun j hj ρ S2 hI => ?_) (fun ρ2 S2 hI => ?_)
  · obtain ⟨a, b, c, d, rfl⟩ := hI
    refine ⟨_, rfl, ?_⟩
    have hx : [excs x, excs x][j] = excs x := by
      have : j = 0 ∨ j = 1 := by simp at hj; omega
      rcases this with rfl | rfl <;> rfl
    rw [hx]
    simp_arith [c_fields W hf (k + 1), em, hE, f1]
    refine nx_for (L := List.range 10) (g := fun i => .tup [.int i, .exc (i + 1) [x]]) (Inv := fun _ ρ S2 => ∃ a b c, ρ = [some w, some x, some (.lst (excs x)), a, b, c]) (by simp_arith; rfl) ⟨_, _, _, rfl⟩ (fun j hj ρ S2 hI => ?_) (fun ρ2 S2 hI => ?_)
    · obtain ⟨a, b, c, rfl⟩ := hI
      refine ⟨_, rfl, ?_⟩
      simp only [List.getElem_range]
      have ec : ∀ S, evE (cf0 F G (k + 2)) G (.comp (.nm 5) (.rng1 (.int 10)) .tt (.cmp .eq (.var 5) (.var 3))) [some w, some x, some (.lst (excs x)), some (.int j), some (.exc (j + 1) [x]), c] S = .ok (.lst ((List.range 10).map fun i => .bl (decide (i = j)))) S := fun S => ev_compM (L := List.range 10) (g := fun (i : Nat) => .int (i : Int)) (fun i => .bl (decide (i = j))) (evI_rng1 (n := 10) rfl (by decide)) (by decide) (fun r _ => rfl) (fun _ _ => rfl) (fun q hq S' => by
        simp only [slotsT, slotsTs, wipeE]
        simp_arith [eqD_int, Int.ofNat_inj])
      simp_arith [c_taken W (k + 1) _ (Nat.succ_pos j) x]
      rw [ec]
      have e2 : ((List.range 10).map fun i => D.bl (decide (i + 1 = j + 1))) = (List.range 10).map fun i => D.bl (decide (i = j)) := by
        refine List.map_congr_left fun i _ => ?_
        simp only [Nat.add_right_cancel_iff]
      have e3 : eqD (.lst ((List.range 10).map fun i => D.bl (decide (i = j)))) (.lst ((List.range 10).map fun i => D.bl (decide (i = j)))) = some true := eqD_self rfl (by simp [depD, depDs, List.range_succ])
      rw [e2]
      simp_arith [e3, is_base (Nat.succ_pos j), is_ve (Nat.succ_pos j)]
      exact ⟨_, _, _, rfl⟩
    · obtain ⟨a, b, c, rfl⟩ := hI
      simp_arith
      exact ⟨_, _, _, _, rfl⟩
  · obtain ⟨a, b, c, d, rfl⟩ := hI
    simp_arith
    exact .mk _ _
omit hf in
theorem c_right (k : Nat) {S : Store} {w : Nat} {u : Option Cell} (h : S[w]? = some u) (hu : WellC u) : OkD (.bl true) (callF F G (k + 3) 105 [.loc w] S) := by
  have hlt : w < S.length := (List.getElem?_eq_some_iff.mp h).1
  obtain ⟨d, u1, d0, d1, hu1, e1⟩ := c_draw (G := G) W.h100 (k + 1) h hu (n := 1000) (by decide) (by decide)
  obtain ⟨v, u2, v0, v1, hu2, e2⟩ := c_draw (G := G) W.h100 (k + 1) (show (S.set w u1)[w]? = some u1 by simp [hlt]) hu1 (n := 5) (by decide) (by decide)
  have hv : v = 0 ∨ v = 1 ∨ v = 2 ∨ v = 3 ∨ v = 4 := by omega
  rcases hv with rfl | rfl | rfl | rfl | rfl
  · exact c_in W k (x := .int d) (fun S => rfl) (eqD_self rfl (by simp [depD, depDs])) e1 e2 rfl
  · exact c_in W k (x := .int (-1)) (fun S => rfl) (eqD_self rfl (by simp [depD, depDs])) e1 e2 rfl
  · exact c_in W k (x := .non) (fun S => rfl) (eqD_self rfl (by simp [depD, depDs])) e1 e2 rfl
  · exact c_in W k (x := .str "v") (fun S => rfl) (eqD_self (by decide +kernel) (by simp [depD, depDs])) e1 e2 rfl
  · exact c_in W k (x := .tup [.int 0, .int 1]) (fun S => rfl) (eqD_self rfl (by simp [depD, depDs])) e1 e2 rfl
end
theorem plain (ns : List Int) (hns : ns.length ≤ 63) : ∃ S, callF pg.F pg.G 22 i_law [.scr ns] [] = .ok (.bl true) S := by
  rw [call_eq (lw.h106) rfl]
  show OkD (.bl true) (retF _ (exSs _ _ (.cons (b_turns (3 : Nat) (e_turn1 105)) (.cons (.ret (.bl true)) .nil)) _ _))
  simp_arith
  refine ret_turns (n := 3) (two := false) (rest := []) rfl hns (by decide) (fun S w u i h hu _ _ => c_right lw 18 h hu) fun a b S2 => ?_
  simp_arith
  exact .mk _ _
end K19
end SP
end
set_option Elab.async false
set_option linter.all false
set_option autoImplicit false
set_option maxRecDepth 100000
theorem PySem.Challenge.cw_slabpins_k19_exceptions_holds : PySem.Challenge.rw_slabpins_k19_exceptions.Holds :=
  SP.K19.holds_of fun ns h => SP.K19.plain ns h
