import PyProof.Rows.All
import PySem.Challenge.RW_duewrights_k06_whole_trees_judged
import HandS.ForExc
import PyProof.ReprRoads
import HandS.Text
import HandS.Comp
import HandS.TupAny
import HandS.TupMul
import HandS.Wide
import HandS.IsInst
import HandS.Lambda
import HandS.CallSlots
import HandS.More
import HandS.Conv
import KE.DataEq
import HandS.Deep
import HandS.Dict
import HandS.RaiseMore
import HandS.Star
import HandS.Iter
import KE.GoesEnum
import KE.KExcSuper
import KE.KSuper
import HandS.Defaults
import KE.RegKSuper
import Wide.All
import OpenK.AllK
import Wide.FinOn
import HandS.ForMost
set_option linter.all false
/-! A small language of its own and what it computes: values are data (PyData) or lists that change (cells). -/
namespace Dw
open PySem PyProof.Rows

inductive Val where
  | dat (d : PyData)
  | cell (k : Nat)
  | cells (ks : List Nat)
  | scr (l : List PyData)
  | fn (f : Nat)
  | dct (kvs : List (Str × PyData))
abbrev Sto := List (List PyData)
abbrev Rho := List (Option Val)

inductive R (α : Type) where
  | ok (a : α) (S : Sto)
  | exc (c : Nat) (d : PyData) (S : Sto)
  | bad
def R.bind {α β : Type} : R α → (α → Sto → R β) → R β
  | .ok a S, f => f a S
  | .exc c d S, _ => .exc c d S
  | .bad, _ => .bad
/-- where no error may leave -/
def R.calm {α : Type} : R α → R α
  | .exc _ _ _ => .bad
  | r => r
inductive SR where
  | nx (ρ : Rho) (S : Sto)
  | rt (v : Val) (S : Sto)
  | bk (ρ : Rho) (S : Sto)
  | ct (ρ : Rho) (S : Sto)
  | exc (c : Nat) (d : PyData) (ρ : Rho) (S : Sto)
  | bad

def LINE : Nat := 16777216

inductive Bop where
  | add | sub | mul | fdiv | mod | pow
  deriving DecidableEq
inductive Cop where
  | eq | ne | lt | le | gt | ge | inn | nin
  deriving DecidableEq
inductive Ty where
  | int | bool | str | tuple | list
  deriving DecidableEq
inductive Blt where
  | len | abs | max2 | int1 | tup1 | lst1 | divmod | all1 | repr | min2 | str1 | sum1 | any1
  deriving DecidableEq
inductive Mth where
  | append
  deriving DecidableEq
inductive Smt where
  | split | join
  deriving DecidableEq
inductive Tg where
  | name (i : Nat)
  | names (is : List Nat)

/-- the operators on data -/
def mulOk (a b : Int) : Bool := decide (a.natAbs.log2 + b.natAbs.log2 < 1000000)
def binD : Bop → PyData → PyData → Option PyData
  | .add, .int a, .int b => some (.int (a + b))
  | .add, .str a, .str b => if a.length + b.length ≤ LINE then some (.str (a ++ b)) else none
  | .add, .list a, .list b => if a.length + b.length ≤ LINE then some (.list (a ++ b)) else none
  | .add, .tuple a, .tuple b => if a.length + b.length ≤ LINE then some (.tuple (a ++ b)) else none
  | .sub, .int a, .int b => some (.int (a - b))
  | .mul, .int a, .int b => if mulOk a b = true then some (.int (a * b)) else none
  | .mul, .tuple l, .int k => if 0 < l.length ∧ l.length ≤ 1000 ∧ 2 ≤ k ∧ k ≤ 1000 then some (.tuple (List.replicate k.toNat l).flatten) else none
  | .mul, .list l, .int k => if l.length ≤ 1000 ∧ 0 ≤ k ∧ k ≤ 1000 then some (.list (List.replicate k.toNat l).flatten) else none
  | .fdiv, .int a, .int b => if 0 < b ∧ b < 1073741824 then some (.int (a / b)) else none
  | .mod, .int a, .int b => if 0 < b then some (.int (a % b)) else none
  | .pow, .int a, .int b => if 0 ≤ b ∧ b ≤ 1000 ∧ a.natAbs < 1000 then some (.int (a ^ b.toNat)) else none
  | _, _, _ => none

def eqD : PyData → PyData → Option Bool
  | .int a, .int b => some (a == b)
  | .str a, .str b => some (decide (a = b))
  | .bool a, .bool b => some (a == b)
  | a, b => if SeqAt.shaped a = true ∧ SeqAt.shaped b = true then some (PyData.eqv a b) else none
def inD : PyData → PyData → Option Bool
  | .str a, .str b => some (!(Builtin.Str.occurrences b a 0 b.length 1).isEmpty)
  | x, .list l => if SeqAt.shaped x = true ∧ SeqAt.shaped (.list l) = true then some (l.any fun z => PyData.eqv z x) else none
  | x, .tuple l => if SeqAt.shaped x = true ∧ SeqAt.shaped (.tuple l) = true then some (l.any fun z => PyData.eqv z x) else none
  | _, _ => none
def cmpD : Cop → PyData → PyData → Option Bool
  | .eq, a, b => eqD a b
  | .ne, a, b => (eqD a b).map (!·)
  | .inn, a, b => inD a b
  | .nin, a, b => (inD a b).map (!·)
  | .lt, .int a, .int b => some (decide (a < b))
  | .le, .int a, .int b => some (decide (a ≤ b))
  | .gt, .int a, .int b => some (decide (b < a))
  | .ge, .int a, .int b => some (decide (b ≤ a))
  | _, _, _ => none

/-- an item, from either end -/
def nth {α : Type} (l : List α) (i : Int) : Option α :=
  if 0 ≤ i then l[i.toNat]? else if -(l.length : Int) ≤ i then l[(i + l.length).toNat]? else none
def idxD : PyData → PyData → Option PyData
  | .list l, .int i => nth l i
  | .tuple l, .int i => nth l i
  | .str z, .int i => if z.length ≤ LINE then (nth z.cps.toList i).map fun c => .str ⟨#[c]⟩ else none
  | _, _ => none
/-- the bounds of a slice -/
def sIx (n : Nat) (dflt : Nat) : Option Int → Nat
  | none => dflt
  | some i => if 0 ≤ i then min i.toNat n else (i + n).toNat
def cutD {α : Type} (l : List α) (lo hi : Option Int) : List α :=
  (l.drop (sIx l.length 0 lo)).take (sIx l.length l.length hi - sIx l.length 0 lo)
def slD : PyData → Option Int → Option Int → Option PyData
  | .list l, lo, hi => some (.list (cutD l lo hi))
  | .tuple l, lo, hi => some (.tuple (cutD l lo hi))
  | .str z, lo, hi => if z.length ≤ LINE then some (.str ⟨(cutD z.cps.toList lo hi).toArray⟩) else none
  | _, _, _ => none
def isT : PyData → Ty → Bool
  | .int _, .int => true
  | .bool _, .int => true
  | .bool _, .bool => true
  | .str _, .str => true
  | .tuple _, .tuple => true
  | .list _, .list => true
  | _, _ => false

def reprOk (d : PyData) : Bool := d.showable && !d.hasDict && decide (d.depth ≤ 50) && decide (d.shown.length ≤ LINE)
def allTrue : List PyData → Option Bool
  | [] => some true
  | .bool b :: r => (allTrue r).map (b && ·)
  | _ => none
def anyTrue : List PyData → Option Bool
  | [] => some false
  | .bool b :: r => (anyTrue r).map (b || ·)
  | _ => none
def bAny : List PyData → Option PyData
  | [.list l] => (anyTrue l).map .bool
  | _ => none
def bLen : List PyData → Option PyData
  | [.list l] => some (.int l.length)
  | [.tuple l] => some (.int l.length)
  | [.str z] => if z.length ≤ LINE then some (.int z.length) else none
  | _ => none
def bAbs : List PyData → Option PyData
  | [.int i] => some (.int (if i < 0 then -i else i))
  | _ => none
def bMax : List PyData → Option PyData
  | [.int i, .int j] => some (.int (if j > i then j else i))
  | _ => none
def bInt : List PyData → Option PyData
  | [.int i] => some (.int i)
  | _ => none
def bTup : List PyData → Option PyData
  | [.list l] => some (.tuple l)
  | [.tuple l] => some (.tuple l)
  | _ => none
def bLst : List PyData → Option PyData
  | [.tuple l] => some (.list l)
  | _ => none
def bDivmod : List PyData → Option PyData
  | [.int i, .int j] => if 0 < j ∧ j < 1073741824 then some (.tuple [.int (i / j), .int (i % j)]) else none
  | _ => none
def bAll : List PyData → Option PyData
  | [.list l] => (allTrue l).map .bool
  | _ => none
def bRepr : List PyData → Option PyData
  | [d] => if reprOk d = true then some (.str d.shown) else none
  | _ => none
def bMin : List PyData → Option PyData
  | [.int i, .int j] => some (.int (if j < i then j else i))
  | _ => none
def bStr : List PyData → Option PyData
  | [.int i] => if i.natAbs.log2 < 1920 then some (.str (Str.ofString (toString i))) else none
  | [.str a] => some (.str a)
  | _ => none
def intsOf : List PyData → Option (List Int)
  | [] => some []
  | .int i :: r => (intsOf r).map (i :: ·)
  | _ => none
def bSum : List PyData → Option PyData
  | [.list l] => (intsOf l).map fun ns => .int ns.sum
  | _ => none
def bltD : Blt → List PyData → Option PyData
  | .len => bLen
  | .abs => bAbs
  | .max2 => bMax
  | .int1 => bInt
  | .tup1 => bTup
  | .lst1 => bLst
  | .divmod => bDivmod
  | .all1 => bAll
  | .repr => bRepr
  | .min2 => bMin
  | .str1 => bStr
  | .sum1 => bSum
  | .any1 => bAny

/-- methods of texts -/
def strsOf : List PyData → Option (List Str)
  | [] => some []
  | .str z :: r => (strsOf r).map (z :: ·)
  | _ => none
def joinS (a : Str) (l : List PyData) : Option PyData := match strsOf l with
  | some ys => if (ys.map (·.length)).sum + ys.length * a.length ≤ LINE then some (.str (Txt.join a ys)) else none
  | none => none
def smtD : Smt → PyData → PyData → Option PyData
  | .split, .str a, .str b => if 0 < b.length ∧ a.length + 2 ≤ LINE then some (.list ((Txt.split a b).map .str)) else none
  | .join, .str a, .list l => joinS a l
  | .join, .str a, .tuple l => joinS a l
  | _, _, _ => none
/-- the pairs of a dict -/
def pairsD : List PyData → Option (List (Str × PyData))
  | [] => some []
  | .tuple [.str k, d] :: r => (pairsD r).map ((k, d) :: ·)
  | _ => none
def nodupS : List Str → Bool
  | [] => true
  | x :: r => !(r.any fun y => decide (y = x)) && nodupS r
/-- a dict's items by their keys -/
def getD' (kvs : List (Str × PyData)) (k : Str) : Option PyData := (kvs.find? fun p => decide (p.1 = k)).map (·.2)
/-- what a value is read as -/
def deref (S : Sto) : Val → Option PyData
  | .dat d => some d
  | .cell k => (S[k]?).map .list
  | .scr l => some (.list l)
  | _ => none
/-- what may be added, multiplied -/
def derefB (S : Sto) : Val → Option PyData
  | .dat d => some d
  | .cell k => (S[k]?).map .list
  | _ => none
def derefs (S : Sto) : List Val → Option (List PyData)
  | [] => some []
  | v :: r => match deref S v, derefs S r with
    | some d, some ds => some (d :: ds)
    | _, _ => none
/-- plain data alone -/
def plains : List Val → Option (List PyData)
  | [] => some []
  | .dat d :: r => (plains r).map (d :: ·)
  | _ => none
def cellsOf : List Val → Option (List Nat)
  | [] => some []
  | .cell k :: r => (cellsOf r).map (k :: ·)
  | _ => none
def collect (vs : List Val) : Option Val := match plains vs with
  | some ds => some (.dat (.list ds))
  | none => (cellsOf vs).map .cells
def give {α : Type} (o : Option α) (S : Sto) : R α := match o with
  | some a => .ok a S
  | none => .bad

def binR (op : Bop) (a b : Val) (S : Sto) : R Val := match derefB S a, derefB S b with
  | some x, some y => give ((binD op x y).map .dat) S
  | _, _ => .bad
def cmpR (op : Cop) (a b : Val) (S : Sto) : R Val := match deref S a, deref S b with
  | some x, some y => give ((cmpD op x y).map fun c => .dat (.bool c)) S
  | _, _ => .bad
def idxR (x y : Val) (S : Sto) : R Val := match x, y with
  | .cells ks, .dat (.int i) => give ((nth ks i).map .cell) S
  | .dct kvs, .dat (.str k) => give ((getD' kvs k).map .dat) S
  | x, y => match deref S x, deref S y with
    | some x, some y => give ((idxD x y).map .dat) S
    | _, _ => .bad
def catR (x y : Val) (S : Sto) : R Val := match derefB S x, derefB S y with
  | some (.list a), some (.list b) => if a.length + b.length ≤ LINE then .ok (.cell S.length) (S ++ [a ++ b]) else .bad
  | _, _ => .bad
def smtR (m : Smt) (x y : Val) (S : Sto) : R Val := match x, deref S y with
  | .dat x, some y => give ((smtD m x y).map .dat) S
  | _, _ => .bad
def dicR (x : Val) (S : Sto) : R Val := match deref S x with
  | some (.list l) => match pairsD l with
    | some kvs => if nodupS (kvs.map (·.1)) = true then .ok (.dct kvs) S else .bad
    | none => .bad
  | _ => .bad
/-- sorted: of keys that stand in their order already -/
def srtR (x : Val) (S : Sto) : R Val := match x with
  | .dct kvs => if kvs.length < 64 ∧ sortedS (kvs.map (·.1)) = true then .ok (.dat (.list (kvs.map fun p => .str p.1))) S else .bad
  | _ => .bad
def slR (x : Val) (lo hi : Option Int) (S : Sto) : R Val := match deref S x with
  | some x => give ((slD x lo hi).map .dat) S
  | none => .bad
def bltR (b : Blt) (vs : List Val) (S : Sto) : R Val := match derefs S vs with
  | some ds => give ((bltD b ds).map .dat) S
  | none => .bad
def isiR (t : Ty) (x : Val) (S : Sto) : R Val := match deref S x with
  | some d => .ok (.dat (.bool (isT d t))) S
  | none => .bad
def isCell (x : Val) (S : Sto) : R Val := match x with
  | .cell k => .ok (.cell k) S
  | _ => .bad
def isStrV (x : Val) (S : Sto) : R Val := match x with
  | .dat (.str z) => .ok (.dat (.str z)) S
  | _ => .bad
def appR (x : Val) (vs : List Val) (S : Sto) : R Val := match x, vs with
  | .cell k, [.dat d] => match S[k]? with
    | some l => if l.length < LINE then .ok (.dat .none) (S.set k (l ++ [d])) else .bad
    | none => .bad
  | _, _ => .bad
def newR (vs : List Val) (S : Sto) : R Val := match plains vs with
  | some ds => .ok (.cell S.length) (S ++ [ds])
  | none => .bad
def tupR (vs : List Val) (S : Sto) : R Val := give ((plains vs).map fun ds => .dat (.tuple ds)) S
/-- what stands in a display: a thing, or the things of a row with a star -/
def splD (star : Bool) (v : Val) (S : Sto) : R (List Val) := match star with
  | false => .ok [v] S
  | true => match deref S v with
    | some (.list l) => .ok (l.map .dat) S
    | some (.tuple l) => .ok (l.map .dat) S
    | _ => .bad
def mkD (tp : Bool) (l : List PyData) : PyData := if tp = true then .tuple l else .list l
def dspR (tp : Bool) (vs : List Val) (S : Sto) : R Val := if vs.length ≤ LINE then give ((plains vs).map fun ds => .dat (mkD tp ds)) S else .bad
def lstR (vs : List Val) (S : Sto) : R Val := give (collect vs) S
def isNone : Val → Bool
  | .dat .none => true
  | _ => false
def negR (x : Val) (S : Sto) : R Val := match x with
  | .dat (.int i) => .ok (.dat (.int (-i))) S
  | _ => .bad
def toI (x : Val) (S : Sto) : R Int := match x with
  | .dat (.int i) => .ok i S
  | _ => .bad
def callKR (C : Nat → List Val → Sto → R Val) (f nu nk : Nat) (perm : List Nat) (dfl : List Int) (vs ws : List Val) (S : Sto) : R Val :=
  if vs.length = nu ∧ ws.length = nk then C f (perm.filterMap fun i => (vs ++ ws ++ dfl.map fun i => Val.dat (.int i))[i]?) S else .bad

mutual
inductive Ex where
  | var (i : Nat)
  | con (d : PyData)
  | glob (g : Nat)
  | bin (op : Bop) (a b : Ex)
  | neg (a : Ex)
  | cmp (op : Cop) (a b : Ex)
  | chn (op op' : Cop) (a b c : Ex)
  | isN (a : Ex)
  | notN (a : Ex)
  | not (a : Ex)
  | and (es : List Ex)
  | or (es : List Ex)
  | ife (c a b : Ex)
  | tup (es : List Ex)
  | lst (es : List Ex)
  | dsp (tp : Bool) (es : List Ex) (st : List Bool)
  | new (es : List Ex)
  | idx (a b : Ex)
  | sl (a : Ex) (lo hi : Option Ex)
  | call (f : Nat) (es : List Ex)
  | callK (f : Nat) (kws : List String) (perm : List Nat) (dfl : List Int) (es kes : List Ex)
  | blt (b : Blt) (es : List Ex)
  | isi (a : Ex) (t : Ty)
  | mth (m : Mth) (o : Ex) (es : List Ex)
  | smt (m : Smt) (o a : Ex)
  | cat (a b : Ex)
  | dic (e : Ex)
  | srt (e : Ex)
  | cp (e : Ex) (tg : Tg) (it : It) (ifs : List Ex) (own : List Nat)
  | cp2 (e : Ex) (tg : Tg) (it : It) (tg1 : Tg) (it1 : It) (ifs : List Ex) (own own1 : List Nat)
inductive It where
  | val (e : Ex)
  | rng1 (a : Ex)
  | rng2 (a b : Ex)
  | enu (e : Ex)
end
inductive Sx where
  | asg (tg : Tg) (e : Ex)
  | par (i j : Nat) (a b : Ex)
  | sub (o i e : Ex)
  | subn (o i : Ex) (j : Nat) (e : Ex)
  | exp (e : Ex)
  | ret (e : Ex)
  | ife (c : Ex) (a b : List Sx)
  | whl (fuel : Nat) (c : Ex) (b : List Sx)
  | fr (tg : Tg) (it : It) (b : List Sx)
  | rai (c : Nat) (e : Ex)
  | tryl (b : List Sx) (c i ne : Nat) (tp : Bool) (l : List (Option PyData))
  | pass

/-- targets -/
def setNames : List Nat → List PyData → Rho → Option Rho
  | [], [], ρ => some ρ
  | i :: is, d :: ds, ρ => setNames is ds (ρ.set i (some (.dat d)))
  | _, _, _ => none
def setTg : Tg → Val → Rho → Option Rho
  | .name i, v, ρ => some (ρ.set i (some v))
  | .names is, .dat (.tuple ds), ρ => setNames is ds ρ
  | _, _, _ => none
def wipeE (ρ : Rho) : List Nat → Rho
  | [] => ρ
  | v :: vs => (wipeE ρ vs).set v none

/-- a truth -/
def toB : Val → Sto → R Bool
  | .dat (.bool b), S => .ok b S
  | _, _ => .bad
/-- what is walked -/
def items : Val → Option (List Val)
  | .dat (.list l) => some (l.map .dat)
  | .dat (.tuple l) => some (l.map .dat)
  | .cells ks => some (ks.map .cell)
  | .scr l => some (l.map .dat)
  | .dat (.str z) => some (z.cps.toList.map fun c => .dat (.str ⟨#[c]⟩))
  | _ => none
def numb : Nat → List PyData → List Val
  | _, [] => []
  | i, d :: r => .dat (.tuple [.int i, d]) :: numb (i + 1) r
/-- what is walked by enumerate -/
def itemsE (S : Sto) (v : Val) : Option (List Val) := match v with
  | .dat (.tuple l) => some (numb 0 l)
  | .dat (.list l) => some (numb 0 l)
  | _ => none
def rangeV (lo hi : Int) : Option (List Val) :=
  if -(2 ^ 62) ≤ lo ∧ lo < 2 ^ 62 ∧ -(2 ^ 62) ≤ hi ∧ hi < 2 ^ 62 then some ((List.range (hi - lo).toNat).map fun (i : Nat) => .dat (.int (lo + i))) else none
/-- a comprehension's turns; none: left out -/
def compL (f : Val → Sto → R (Option Val)) : List Val → Sto → R (List Val)
  | [], S => .ok [] S
  | v :: r, S => (f v S).bind fun o S => (compL f r S).bind fun vs S => .ok (match o with
    | some x => x :: vs
    | none => vs) S
/-- all turns of a second clause, one after another -/
def compM (f : Val → Sto → R (List Val)) : List Val → Sto → R (List Val)
  | [], S => .ok [] S
  | v :: r, S => (f v S).bind fun xs S => (compM f r S).bind fun vs S => .ok (xs ++ vs) S
def loopW (test : Rho → Sto → R Bool) (body : Rho → Sto → SR) : Nat → Rho → Sto → SR
  | 0, _, _ => .bad
  | n + 1, ρ, S => match test ρ S with
    | .ok true S => match body ρ S with
      | .nx ρ S => loopW test body n ρ S
      | .ct ρ S => loopW test body n ρ S
      | .bk ρ S => .nx ρ S
      | r => r
    | .ok false S => .nx ρ S
    | .exc c d S => .exc c d ρ S
    | .bad => .bad
def loopF (tg : Tg) (body : Rho → Sto → SR) : List Val → Rho → Sto → SR
  | [], ρ, S => .nx ρ S
  | v :: r, ρ, S => match setTg tg v ρ with
    | some ρ => match body ρ S with
      | .nx ρ S => loopF tg body r ρ S
      | .ct ρ S => loopF tg body r ρ S
      | .bk ρ S => .nx ρ S
      | r => r
    | none => .bad

section
variable (C : Nat → List Val → Sto → R Val) (G : List PyData)
mutual
def evE : Ex → Rho → Sto → R Val
  | .var i, ρ, S => match ρ[i]? with
    | some (some v) => .ok v S
    | _ => .bad
  | .con d, _, S => .ok (.dat d) S
  | .glob g, _, S => give (G[g]?.map .dat) S
  | .bin op a b, ρ, S => (evE a ρ S).bind fun x S => (evE b ρ S).bind fun y S => binR op x y S
  | .neg a, ρ, S => (evE a ρ S).bind negR
  | .cmp op a b, ρ, S => (evE a ρ S).bind fun x S => (evE b ρ S).bind fun y S => cmpR op x y S
  | .chn op op' a b c, ρ, S => (evE a ρ S).bind fun x S => (evE b ρ S).bind fun y S => ((cmpR op x y S).bind toB).bind fun k S =>
    if k = true then (evE c ρ S).bind fun z S => cmpR op' y z S else .ok (.dat (.bool false)) S
  | .isN a, ρ, S => (evE a ρ S).bind fun x S => .ok (.dat (.bool (isNone x))) S
  | .notN a, ρ, S => (evE a ρ S).bind fun x S => .ok (.dat (.bool (!isNone x))) S
  | .not a, ρ, S => ((evE a ρ S).bind toB).bind fun c S => .ok (.dat (.bool (!c))) S
  | .and es, ρ, S => evAnd es ρ S
  | .or es, ρ, S => evOr es ρ S
  | .ife c a b, ρ, S => ((evE c ρ S).bind toB).bind fun k S => if k = true then evE a ρ S else evE b ρ S
  | .tup es, ρ, S => (evL es ρ S).bind tupR
  | .lst es, ρ, S => (evL es ρ S).bind lstR
  | .dsp tp es st, ρ, S => (evD es st ρ S).bind (dspR tp)
  | .new es, ρ, S => (evL es ρ S).bind newR
  | .idx a b, ρ, S => (evE a ρ S).bind fun x S => (evE b ρ S).bind fun y S => idxR x y S
  | .sl a lo hi, ρ, S => (evE a ρ S).bind fun x S => (evO lo ρ S).bind fun l S => (evO hi ρ S).bind fun h S => slR x l h S
  | .call f es, ρ, S => (evL es ρ S).bind fun vs S => C f vs S
  | .callK f kws perm dfl es kes, ρ, S => (evL es ρ S).bind fun vs S => (evL kes ρ S).bind fun ws S => callKR C f es.length kws.length perm dfl vs ws S
  | .blt b es, ρ, S => (evL es ρ S).bind fun vs S => bltR b vs S
  | .isi a t, ρ, S => (evE a ρ S).bind fun x S => isiR t x S
  | .mth .append o es, ρ, S => ((evE o ρ S).bind isCell).bind fun x S => (evL es ρ S).bind fun vs S => appR x vs S
  | .cp e tg it ifs own, ρ, S => (evI it ρ S).bind fun vs S =>
    if vs.length ≤ LINE then
      (compL (fun v S => match setTg tg v (wipeE ρ own) with
        | none => .bad
        | some ρ' => R.calm ((evIf ifs ρ' S).bind fun b S => if b = true then (evE e ρ' S).bind fun x S => .ok (some x) S else .ok none S)) vs S).bind lstR
    else .bad
  | .smt m o a, ρ, S => ((evE o ρ S).bind isStrV).bind fun x S => (evE a ρ S).bind fun y S => smtR m x y S
  | .cat a b, ρ, S => (evE a ρ S).bind fun x S => (evE b ρ S).bind fun y S => catR x y S
  | .dic e, ρ, S => (evE e ρ S).bind dicR
  | .srt e, ρ, S => (evE e ρ S).bind srtR
  | .cp2 e tg it tg1 it1 ifs own own1, ρ, S => (evI it ρ S).bind fun vs S =>
    (compM (fun v S => match setTg tg v (wipeE ρ own) with
      | none => .bad
      | some ρ1 => R.calm ((evI it1 ρ1 S).bind fun ws S => compL (fun w S => match setTg tg1 w (wipeE ρ1 own1) with
        | none => .bad
        | some ρ' => R.calm ((evIf ifs ρ' S).bind fun b S => if b = true then (evE e ρ' S).bind fun x S => .ok (some x) S else .ok none S)) ws S)) vs S).bind fun xs S => if xs.length ≤ LINE then lstR xs S else .bad
def evL : List Ex → Rho → Sto → R (List Val)
  | [], _, S => .ok [] S
  | e :: es, ρ, S => (evE e ρ S).bind fun v S => (evL es ρ S).bind fun vs S => .ok (v :: vs) S
def evD : List Ex → List Bool → Rho → Sto → R (List Val)
  | [], _, _, S => .ok [] S
  | e :: es, st, ρ, S => (evE e ρ S).bind fun v S => (splD (st.headD false) v S).bind fun us S => (evD es st.tail ρ S).bind fun vs S => .ok (us ++ vs) S
def evAnd : List Ex → Rho → Sto → R Val
  | [], _, _ => .bad
  | [a], ρ, S => evE a ρ S
  | a :: b :: r, ρ, S => ((evE a ρ S).bind toB).bind fun k S => if k = true then evAnd (b :: r) ρ S else .ok (.dat (.bool false)) S
def evOr : List Ex → Rho → Sto → R Val
  | [], _, _ => .bad
  | [a], ρ, S => evE a ρ S
  | a :: b :: r, ρ, S => ((evE a ρ S).bind toB).bind fun k S => if k = true then .ok (.dat (.bool true)) S else evOr (b :: r) ρ S
def evIf : List Ex → Rho → Sto → R Bool
  | [], _, S => .ok true S
  | [c], ρ, S => (evE c ρ S).bind toB
  | _, _, _ => .bad
def evO : Option Ex → Rho → Sto → R (Option Int)
  | none, _, S => .ok none S
  | some e, ρ, S => ((evE e ρ S).bind toI).bind fun i S => .ok (some i) S
def evI : It → Rho → Sto → R (List Val)
  | .val e, ρ, S => (evE e ρ S).bind fun x S => give (items x) S
  | .enu e, ρ, S => (evE e ρ S).bind fun x S => give (itemsE S x) S
  | .rng1 a, ρ, S => ((evE a ρ S).bind toI).bind fun i S => give (rangeV 0 i) S
  | .rng2 a b, ρ, S => (evE a ρ S).bind fun x S => (evE b ρ S).bind fun y S => (toI x S).bind fun i S => (toI y S).bind fun j S => give (rangeV i j) S
end
def R.st {α : Type} (r : R α) (ρ : Rho) (f : α → Sto → SR) : SR := match r with
  | .ok v S => f v S
  | .exc c d S => .exc c d ρ S
  | .bad => .bad
/-- o[i] = v -/
def setCell (k : Nat) (i : Int) (d : PyData) (S : Sto) : Option Sto := match S[k]? with
  | some l => if 0 ≤ i ∧ i < l.length then some (S.set k (l.set i.toNat d)) else none
  | none => none
def evSub (o i : Ex) (d : PyData) (ρ : Rho) (S : Sto) (f : Sto → SR) : SR :=
  R.st (evE C G o ρ S) ρ fun x S => R.st (evE C G i ρ S) ρ fun y S => match x, y with
    | .cell k, .dat (.int j) => match setCell k j d S with
      | some S => f S
      | none => .bad
    | _, _ => .bad
mutual
def evS : Sx → Rho → Sto → SR
  | .asg tg e, ρ, S => R.st (evE C G e ρ S) ρ fun v S => match setTg tg v ρ with
    | some ρ => .nx ρ S
    | none => .bad
  | .par i j a b, ρ, S => R.st (evE C G a ρ S) ρ fun v S => R.st (evE C G b ρ S) ρ fun w S => .nx ((ρ.set i (some v)).set j (some w)) S
  | .sub o i e, ρ, S => R.st (evE C G e ρ S) ρ fun v S => match v with
    | .dat d => evSub C G o i d ρ S fun S => .nx ρ S
    | _ => .bad
  | .subn o i j e, ρ, S => R.st (evE C G e ρ S) ρ fun v S => match v with
    | .dat (.tuple [d, d']) => evSub C G o i d ρ S fun S => .nx (ρ.set j (some (.dat d'))) S
    | _ => .bad
  | .exp e, ρ, S => R.st (evE C G e ρ S) ρ fun _ S => .nx ρ S
  | .ret e, ρ, S => R.st (evE C G e ρ S) ρ fun v S => .rt v S
  | .ife c a b, ρ, S => R.st ((evE C G c ρ S).bind toB) ρ fun k S => if k = true then evSs a ρ S else evSs b ρ S
  | .whl n c b, ρ, S => loopW (fun ρ S => (evE C G c ρ S).bind toB) (evSs b) n ρ S
  | .fr tg it b, ρ, S => match evI C G it ρ S with
    | .ok vs S => loopF tg (evSs b) vs ρ S
    | .exc c d S => .exc c d ρ S
    | .bad => .bad
  | .rai c e, ρ, S => R.st (evE C G e ρ S) ρ fun v S => match v with
    | .dat d => .exc c d ρ S
    | _ => .bad
  | .tryl b c i ne tp l, ρ, S => match evSs b ρ S with
    | .exc c' d ρ' S' => if c' < ne ∧ i < ρ'.length then (if c' = c then .rt (.dat (mkD tp (l.map fun o => o.getD d))) S' else .exc c' d ρ' S') else .bad
    | r => r
  | .pass, ρ, S => .nx ρ S
def evSs : List Sx → Rho → Sto → SR
  | [], ρ, S => .nx ρ S
  | s :: r, ρ, S => match evS s ρ S with
    | .nx ρ S => evSs r ρ S
    | x => x
end
end

/-- a def: its parameters' number, its names' number, its body, whether a list that it hands back goes on to change -/
structure Fd where
  np : Nat
  nn : Nat
  keep : Bool
  body : List Sx
/-- what a def hands back: the lists made within it are forgotten, the one handed back is frozen -/
def handBack (keep : Bool) (n : Nat) : SR → R Val
  | .rt (.dat d) S => .ok (.dat d) (if keep then S else S.take n)
  | .rt (.cell k) S => if keep then .ok (.cell k) S else if n ≤ k then match S[k]? with
    | some l => .ok (.dat (.list l)) (S.take n)
    | none => .bad
    else .bad
  | .rt v S => if keep then .ok v S else .bad
  | .nx _ S => .ok (.dat .none) (if keep then S else S.take n)
  | .exc c d _ S => .exc c d (if keep then S else S.take n)
  | _ => .bad
def run (T : List Fd) (G : List PyData) : Nat → Nat → List Val → Sto → R Val
  | 0, _, _, _ => .bad
  | n + 1, f, vs, S => match T[f]? with
    | some F => if vs.length = F.np ∧ F.np ≤ F.nn then
        handBack F.keep S.length (evSs (run T G n) G F.body (vs.map some ++ List.replicate (F.nn - F.np) none) S)
      else .bad
    | none => .bad
end Dw

set_option Elab.async false
set_option linter.all false
set_option maxRecDepth 100000
set_option maxHeartbeats 4000000
/-! The relations between what the small language computes and what the walk sees. -/
namespace Dw
open PySem PySem.Spec PyProof.Rows L2

def keyD : Key → PyData
  | .inl i => .int i
  | .inr s => .str s
mutual
inductive Da (K : PySem.W.Frag) (G : Hp) : V → PyData → Prop
  | non : Da K G .non .none
  | bl (b : Bool) : Da K G (.bl b) (.bool b)
  | int (i : Int) : Da K G (.int i) (.int i)
  | str (x : Str) : Da K G (.str x) (.str x)
  | lst {a : Addr} {xs : List V} {ds : List PyData} : G a = some (.lst xs) → DaAll K G xs ds → Da K G (.ref a) (.list ds)
  | tup {a : Addr} {xs : List V} {ds : List PyData} : SqT K G a xs → DaAll K G xs ds → Da K G (.ref a) (.tuple ds)
inductive DaAll (K : PySem.W.Frag) (G : Hp) : List V → List PyData → Prop
  | nil : DaAll K G [] []
  | cons {v : V} {vs : List V} {d : PyData} {ds : List PyData} : Da K G v d → DaAll K G vs ds → DaAll K G (v :: vs) (d :: ds)
end
theorem Same.seqT {K : PySem.W.Frag} {H H' : Hp} {a : Addr} {xs : List V} (e : Same H H') (h : SqT K H a xs) : SqT K H' a xs := by
  rcases h with (h | ⟨o, h⟩) | h
  · exact .inl (.inl (e _ _ h))
  · exact .inl (.inr ⟨o, e _ _ h⟩)
  · exact .inr h
section
variable {K : PySem.W.Frag} {w0 : Ew} {G G' H H' : Hp}
mutual
theorem Da.mono (h : Same G G') : ∀ (d : PyData) (v : V), Da K G v d → Da K G' v d
  | .none, _, x => by cases x; exact .non
  | .bool _, _, x => by cases x; exact .bl _
  | .int _, _, x => by cases x; exact .int _
  | .str _, _, x => by cases x; exact .str _
  | .list ds, _, x => by
    cases x with
    | lst e a => exact .lst (h _ _ e) (DaAll.mono h ds _ a)
  | .tuple ds, _, x => by
    cases x with
    | tup e a => exact .tup (Same.seqT h e) (DaAll.mono h ds _ a)
  | .dict _, _, x => by cases x
theorem DaAll.mono (h : Same G G') : ∀ (ds : List PyData) (vs : List V), DaAll K G vs ds → DaAll K G' vs ds
  | [], _, x => by cases x; exact .nil
  | d :: ds, _, x => by
    cases x with
    | cons a b => exact .cons (Da.mono h d _ a) (DaAll.mono h ds _ b)
end
mutual
theorem Da.dp (h : Same G H) : ∀ (d : PyData) (v : V), Da K G v d → Dp K H v d
  | .none, _, x => by cases x; exact .non
  | .bool _, _, x => by cases x; exact .bl _
  | .int _, _, x => by cases x; exact .int _
  | .str _, _, x => by cases x; exact .str _
  | .list ds, _, x => by
    cases x with
    | lst e a => exact .lst (SqL.of (h _ _ e)) (DaAll.dp h ds _ a)
  | .tuple ds, _, x => by
    cases x with
    | tup e a => exact .tup (Same.seqT h e) (DaAll.dp h ds _ a)
  | .dict _, _, x => by cases x
theorem DaAll.dp (h : Same G H) : ∀ (ds : List PyData) (vs : List V), DaAll K G vs ds → DpAll K H vs ds
  | [], _, x => by cases x; exact .nil
  | d :: ds, _, x => by
    cases x with
    | cons a b => exact .cons (Da.dp h d _ a) (DaAll.dp h ds _ b)
end
theorem DaAll.length : ∀ {vs : List V} {ds : List PyData}, DaAll K G vs ds → vs.length = ds.length
  | _, _, .nil => rfl
  | _, _, .cons _ b => by rw [List.length_cons, List.length_cons, DaAll.length b]
theorem DaAll.append : ∀ {vs ws : List V} {ds es : List PyData}, DaAll K G vs ds → DaAll K G ws es → DaAll K G (vs ++ ws) (ds ++ es)
  | _, _, _, _, .nil, b => b
  | _, _, _, _, .cons x a, b => .cons x (DaAll.append a b)
theorem DaAll.get : ∀ {vs : List V} {ds : List PyData} {i : Nat} {d : PyData}, DaAll K G vs ds → ds[i]? = some d → ∃ v, vs[i]? = some v ∧ Da K G v d
  | _, _, _, _, .nil, e => by simp at e
  | _, _, 0, _, .cons x _, e => by
    simp at e
    subst e
    exact ⟨_, rfl, x⟩
  | _, _, i + 1, _, .cons _ a, e => by
    obtain ⟨v, h1, h2⟩ := DaAll.get (i := i) a (by simpa using e)
    exact ⟨v, by simpa using h1, h2⟩
theorem DaAll.take : ∀ {vs : List V} {ds : List PyData} (n : Nat), DaAll K G vs ds → DaAll K G (vs.take n) (ds.take n)
  | _, _, 0, _ => by rw [List.take_zero, List.take_zero]; exact .nil
  | _, _, _ + 1, .nil => .nil
  | _, _, n + 1, .cons x a => .cons x (DaAll.take n a)
theorem DaAll.drop : ∀ {vs : List V} {ds : List PyData} (n : Nat), DaAll K G vs ds → DaAll K G (vs.drop n) (ds.drop n)
  | _, _, 0, a => a
  | _, _, _ + 1, .nil => .nil
  | _, _, n + 1, .cons _ a => DaAll.drop n a
theorem DaAll.set {v : V} {d : PyData} (x : Da K G v d) : ∀ {vs : List V} {ds : List PyData} (n : Nat), DaAll K G vs ds → DaAll K G (vs.set n v) (ds.set n d)
  | _, _, _, .nil => .nil
  | _, _, 0, .cons _ a => .cons x a
  | _, _, n + 1, .cons y a => .cons y (DaAll.set x n a)
theorem DaAll.rep {vs : List V} {ds : List PyData} (a : DaAll K G vs ds) : ∀ n : Nat, DaAll K G (List.replicate n vs).flatten (List.replicate n ds).flatten
  | 0 => .nil
  | n + 1 => by
    rw [List.replicate_succ, List.replicate_succ, List.flatten_cons, List.flatten_cons]
    exact a.append (DaAll.rep a n)

/-- where the errors' classes stand; the tables of code objects -/
structure Ew where
  cA : Nat → Addr
  cF : Nat → Str
  T : List (Addr × Str)
/-- nothing, or a table -/
def Nn (H : Hp) (b : Addr) : Prop := ∀ o, H b = some o → ∃ ps, o = .tbl ps
theorem nn_none {b : Addr} (h : H b = none) : Nn H b := fun o e => by rw [h] at e; cases e
theorem nn_lst {b : Addr} {xs : List V} (h : H b = some (.lst xs)) (n : Nn H b) : False := by
  obtain ⟨ps, e⟩ := n _ h
  cases e
theorem nn_upd {b p : Addr} {o : HO} (hp : Nn H p) (n : Nn (upd H p o) b) : Nn H b := by
  by_cases hb : b = p
  · rw [hb]; exact hp
  · intro u e
    exact n u (by rw [upd_ne hb]; exact e)
theorem tabs_upd {T : List (Addr × Str)} {p : Addr} {o : HO} (h : LamX.Tabs T H) (hp : H p = none ∨ ∃ xs, H p = some (.lst xs)) : LamX.Tabs T (upd H p o) := by
  have ne : ∀ {b : Addr} {u : HO}, H b = some u → (∀ xs, u ≠ .lst xs) → b ≠ p := fun {b u} e n z => by
    rw [z] at e
    rcases hp with q | ⟨xs, q⟩
    · rw [q] at e; cases e
    · rw [q] at e; cases e; exact n _ rfl
  intro x hx
  obtain ⟨ps, h1, h2, h3⟩ := h x hx
  refine ⟨ps, by rw [upd_ne (ne h1 fun xs z => by cases z)]; exact h1, h2, fun pos cv hc => ?_⟩
  obtain ⟨c, e1, e2⟩ := h3 pos cv hc
  exact ⟨c, e1, by rw [upd_ne (ne e2 fun xs z => by unfold LamX.CodeO at z; cases z)]; exact e2⟩
structure Rst (K : PySem.W.Frag) (w0 : Ew) (G : Hp) (as : List Addr) (S : Sto) (H : Hp) : Prop where
  same : Same G H
  len : as.length = S.length
  cl : ∀ (k : Nat) (a : Addr), as[k]? = some a → ∃ (l : List PyData) (xs : List V), S[k]? = some l ∧ H a = some (.lst xs) ∧ DaAll K G xs l ∧ G a = none
  nd : as.Nodup
  tab : LamX.Tabs w0.T H
  nt : ∀ b ps, G b ≠ some (.tbl ps)
def Refs (as : List Addr) : List Addr → List Nat → Prop := Paired fun (b : Addr) (k : Nat) => as[k]? = some b
def At (K : PySem.W.Frag) (G : Hp) (as : List Addr) (v : V) : Val → Prop
  | .dat d => Da K G v d
  | .cell k => ∃ a, v = .ref a ∧ as[k]? = some a
  | .cells ks => ∃ a bs, v = .ref a ∧ G a = some (.lst (bs.map V.ref)) ∧ Refs as bs ks
  | .scr l => ∃ a xs, v = .ref a ∧ SqL K G a xs ∧ DaAll K G xs l
  | .dct kvs => ∃ a vs, v = .ref a ∧ G a = some (.dK vs) ∧ Paired (fun (p : Key × V) (q : Str × PyData) => p.1 = .inr q.1 ∧ Da K G p.2 q.2) vs kvs
  | .fn _ => False
structure Ext (G : Hp) (as : List Addr) (H : Hp) (G' : Hp) (as' : List Addr) (H' : Hp) : Prop where
  g : Same G G'
  pre : as <+: as'
  kp : ∀ b o, H b = some o → (∀ ps, o ≠ .tbl ps) → b ∉ as → H' b = some o
  th : ∀ b, Nn H' b → Nn H b
  fr : ∀ b ∈ as', b ∈ as ∨ Nn H b
  gf : ∀ b o, G' b = some o → G b = some o ∨ Nn H b
def EnvR (K : PySem.W.Frag) (G : Hp) (as : List Addr) (σ : L2.St) (ρ : Rho) : Prop :=
  σ.length = ρ.length ∧ ∀ (i : Nat) (x : Val), ρ[i]? = some (some x) → ∃ v, σ[i]? = some (some v) ∧ At K G as v x

theorem Ext.refl {as : List Addr} : Ext G as H G as H := ⟨Same.refl _, List.prefix_refl _, fun _ _ e _ _ => e, fun _ e => e, fun _ h => .inl h, fun _ _ e => .inl e⟩
theorem Ext.trans {G1 G2 H1 H2 : Hp} {as as1 as2 : List Addr} (a : Ext G as H G1 as1 H1) (b : Ext G1 as1 H1 G2 as2 H2) : Ext G as H G2 as2 H2 where
  g := a.g.trans b.g
  pre := a.pre.trans b.pre
  kp := fun c o e nt hn => by
    refine b.kp c o (a.kp c o e nt hn) nt fun hc => ?_
    rcases a.fr c hc with h | h
    · exact hn h
    · obtain ⟨ps, z⟩ := h _ e
      exact nt ps z
  th := fun c e => a.th c (b.th c e)
  fr := fun c hc => by
    rcases b.fr c hc with h | h
    · exact a.fr c h
    · exact .inr (a.th c h)
  gf := fun c o e => by
    rcases b.gf c o e with h | h
    · exact a.gf c o h
    · exact .inr (a.th c h)
theorem pre_get {as as' : List Addr} (h : as <+: as') {k : Nat} {a : Addr} (e : as[k]? = some a) : as'[k]? = some a := by
  obtain ⟨t, rfl⟩ := h
  rw [List.getElem?_append_left (List.getElem?_eq_some_iff.mp e).1]
  exact e
theorem Refs.mono {as as' : List Addr} (h : as <+: as') : ∀ {bs : List Addr} {ks : List Nat}, Refs as bs ks → Refs as' bs ks
  | _, _, .nil => .nil
  | _, _, .cons r t => .cons (pre_get h r) (Refs.mono h t)
theorem dct_mono (g : Same G G') {vs : List (Key × V)} {kvs : List (Str × PyData)} (h : Paired (fun (p : Key × V) (q : Str × PyData) => p.1 = .inr q.1 ∧ Da K G p.2 q.2) vs kvs) : Paired (fun (p : Key × V) (q : Str × PyData) => p.1 = .inr q.1 ∧ Da K G' p.2 q.2) vs kvs := by
  induction h with
  | nil => exact .nil
  | cons a _ ih => exact .cons ⟨a.1, Da.mono g _ _ a.2⟩ ih
theorem At.mono {as as' : List Addr} (g : Same G G') (h : as <+: as') {v : V} : ∀ {x : Val}, At K G as v x → At K G' as' v x
  | .dat d, a => Da.mono g d v a
  | .cell k, ⟨a, e, q⟩ => ⟨a, e, pre_get h q⟩
  | .cells ks, ⟨a, bs, e, q, r⟩ => ⟨a, bs, e, g _ _ q, r.mono h⟩
  | .scr l, ⟨a, xs, e, q, r⟩ => ⟨a, xs, e, g.seq q, DaAll.mono g _ _ r⟩
  | .dct kvs, ⟨a, vs, e, q, r⟩ => ⟨a, vs, e, g _ _ q, dct_mono g r⟩
  | .fn _, h => h
theorem At.ext {G1 H1 : Hp} {as as1 : List Addr} (x : Ext G as H G1 as1 H1) {v : V} {y : Val} (a : At K G as v y) : At K G1 as1 v y := At.mono x.g x.pre a
theorem EnvR.ext {G1 H1 : Hp} {as as1 : List Addr} {σ : L2.St} {ρ : Rho} (x : Ext G as H G1 as1 H1) (e : EnvR K G as σ ρ) : EnvR K G1 as1 σ ρ :=
  ⟨e.1, fun i y h => by
    obtain ⟨v, h1, h2⟩ := e.2 i y h
    exact ⟨v, h1, h2.ext x⟩⟩
theorem EnvR.set {as : List Addr} {σ : L2.St} {ρ : Rho} (e : EnvR K G as σ ρ) {v : V} {x : Val} (a : At K G as v x) (j : Nat) : EnvR K G as (σ.set j (some v)) (ρ.set j (some x)) := by
  refine ⟨by rw [List.length_set, List.length_set, e.1], fun i y h => ?_⟩
  by_cases hi : j = i
  · subst hi
    by_cases hl : j < ρ.length
    · rw [List.getElem?_set_self hl] at h
      cases h
      exact ⟨v, List.getElem?_set_self (by rw [e.1]; exact hl), a⟩
    · rw [List.getElem?_eq_none (by rw [List.length_set]; omega)] at h
      cases h
  · rw [List.getElem?_set_ne hi] at h
    rw [List.getElem?_set_ne hi]
    exact e.2 i y h
theorem wipeE_some {ρ : Rho} {i : Nat} {x : Val} : ∀ {vs : List Nat}, (wipeE ρ vs)[i]? = some (some x) → ρ[i]? = some (some x) ∧ i ∉ vs
  | [], h => ⟨h, by simp⟩
  | v :: vs, h => by
    unfold wipeE at h
    by_cases hi : v = i
    · subst hi
      by_cases hv : v < (wipeE ρ vs).length
      · rw [List.getElem?_set_self hv] at h; cases h
      · rw [List.getElem?_eq_none (by simpa using hv)] at h; cases h
    · rw [List.getElem?_set_ne hi] at h
      obtain ⟨h1, h2⟩ := wipeE_some h
      exact ⟨h1, by simp only [List.mem_cons, not_or]; exact ⟨fun e => hi e.symm, h2⟩⟩
theorem wipeE_length (ρ : Rho) : ∀ vs : List Nat, (wipeE ρ vs).length = ρ.length
  | [] => rfl
  | v :: vs => by unfold wipeE; rw [List.length_set, wipeE_length ρ vs]
theorem EnvR.wipe {as : List Addr} {σ : L2.St} {ρ : Rho} (e : EnvR K G as σ ρ) (vs : List Nat) : EnvR K G as (L2.wipe σ vs) (wipeE ρ vs) := by
  refine ⟨by rw [wipe_length, wipeE_length, e.1], fun i y h => ?_⟩
  obtain ⟨h1, h2⟩ := wipeE_some h
  obtain ⟨v, h3, h4⟩ := e.2 i y h1
  exact ⟨v, by rw [wipe_out h2]; exact h3, h4⟩

/-- something new that will never change -/
theorem Rst.new {as : List Addr} {S : Sto} (r : Rst K w0 G as S H) {p : Addr} (np : H p = none) (o : HO) (no : ∀ ps, o ≠ .tbl ps := by intro ps z; cases z) : Rst K w0 (upd G p o) as S (upd H p o) ∧ Ext G as H (upd G p o) as (upd H p o) ∧ (upd G p o) p = some o := by
  have gp : G p = none := r.same.free np
  have sg : Same G (upd G p o) := fun b u e => by rw [upd_ne (ne_of_none e gp)]; exact e
  refine ⟨⟨fun b u e => ?_, r.len, fun k a e => ?_, r.nd, tabs_upd r.tab (.inl np), fun b ps e => ?_⟩, ⟨sg, List.prefix_refl _, fun b u e _ _ => ?_, fun b e => nn_upd (nn_none np) e, fun _ h => .inl h, fun b u e => ?_⟩, upd_same⟩
  · by_cases hb : b = p
    · subst hb; rw [upd_same] at e ⊢; exact e
    · rw [upd_ne hb] at e ⊢; exact r.same b u e
  · obtain ⟨l, xs, h1, h2, h3, h4⟩ := r.cl k a e
    have hap : a ≠ p := ne_of_none h2 np
    exact ⟨l, xs, h1, by rw [upd_ne hap]; exact h2, DaAll.mono sg _ _ h3, by rw [upd_ne hap]; exact h4⟩
  · by_cases hb : b = p
    · subst hb; rw [upd_same] at e; exact no ps (Option.some.inj e)
    · rw [upd_ne hb] at e; exact r.nt b ps e
  · rw [upd_ne (ne_of_none e np)]; exact e
  · by_cases hb : b = p
    · rw [hb]; exact .inr (nn_none np)
    · rw [upd_ne hb] at e; exact .inl e
/-- a new list that changes -/
theorem Rst.newCell {as : List Addr} {S : Sto} (r : Rst K w0 G as S H) {p : Addr} (np : H p = none) {xs : List V} {l : List PyData} (d : DaAll K G xs l) :
    Rst K w0 G (as ++ [p]) (S ++ [l]) (upd H p (.lst xs)) ∧ Ext G as H G (as ++ [p]) (upd H p (.lst xs)) ∧ (as ++ [p])[S.length]? = some p := by
  have gp : G p = none := r.same.free np
  have pn : p ∉ as := fun h => by
    obtain ⟨k, hk, e⟩ := List.getElem_of_mem h
    obtain ⟨l, xs, h1, h2, _, _⟩ := r.cl k p (by rw [List.getElem?_eq_getElem hk, e])
    rw [np] at h2; cases h2
  refine ⟨⟨fun b u e => ?_, by rw [List.length_append, List.length_append, r.len]; rfl, fun k a e => ?_, ?_, tabs_upd r.tab (.inl np), r.nt⟩, ⟨Same.refl _, List.prefix_append _ _, fun b u e _ _ => ?_, fun b e => nn_upd (nn_none np) e, fun b hb => ?_, fun b u e => .inl e⟩, ?_⟩
  · rw [upd_ne (ne_of_none e gp)]; exact r.same b u e
  · by_cases hk : k < as.length
    · rw [List.getElem?_append_left hk] at e
      obtain ⟨l', xs', h1, h2, h3, h4⟩ := r.cl k a e
      have hap : a ≠ p := ne_of_none h2 np
      exact ⟨l', xs', by rw [List.getElem?_append_left (by rw [← r.len]; exact hk)]; exact h1, by rw [upd_ne hap]; exact h2, h3, h4⟩
    · have hk2 : k = as.length := by
        have := (List.getElem?_eq_some_iff.mp e).1
        rw [List.length_append, List.length_singleton] at this
        omega
      subst hk2
      rw [List.getElem?_append_right (Nat.le_refl _), Nat.sub_self] at e
      have e2 : p = a := by simpa using e
      subst e2
      exact ⟨l, xs, by rw [r.len, List.getElem?_append_right (Nat.le_refl _), Nat.sub_self]; rfl, upd_same, d, gp⟩
  · rw [List.nodup_append]
    exact ⟨r.nd, by simp, fun a ha b hb => by
      rw [List.mem_singleton] at hb
      subst hb
      exact fun e => pn (e ▸ ha)⟩
  · rw [upd_ne (ne_of_none e np)]; exact e
  · rcases List.mem_append.mp hb with h | h
    · exact .inl h
    · rw [List.mem_singleton] at h; rw [h]; exact .inr (nn_none np)
  · rw [← r.len, List.getElem?_append_right (Nat.le_refl _), Nat.sub_self]; rfl
/-- a list is changed -/
theorem Rst.write {as : List Addr} {S : Sto} (r : Rst K w0 G as S H) {k : Nat} {a : Addr} (e : as[k]? = some a) {xs : List V} {l : List PyData} (d : DaAll K G xs l) :
    Rst K w0 G as (S.set k l) (upd H a (.lst xs)) ∧ Ext G as H G as (upd H a (.lst xs)) := by
  obtain ⟨l0, xs0, h1, h2, h3, h4⟩ := r.cl k a e
  have ma : a ∈ as := List.mem_of_getElem? e
  have hk : k < S.length := (List.getElem?_eq_some_iff.mp h1).1
  refine ⟨⟨fun b u eb => ?_, by rw [List.length_set]; exact r.len, fun j b eb => ?_, r.nd, tabs_upd r.tab (.inr ⟨xs0, h2⟩), r.nt⟩, ⟨Same.refl _, List.prefix_refl _, fun b u eb _ hb => ?_, fun b eb => ?_, fun _ h => .inl h, fun b u eb => .inl eb⟩⟩
  · rw [upd_ne (ne_of_none eb h4)]; exact r.same b u eb
  · by_cases hj : j = k
    · subst hj
      rw [e] at eb; cases eb
      exact ⟨l, xs, List.getElem?_set_self hk, upd_same, d, h4⟩
    · have hab : b ≠ a := fun z => hj (by subst z; exact nd_ix r.nd eb e)
      obtain ⟨l', xs', g1, g2, g3, g4⟩ := r.cl j b eb
      exact ⟨l', xs', by rw [List.getElem?_set_ne (Ne.symm hj)]; exact g1, by rw [upd_ne hab]; exact g2, g3, g4⟩
  · rw [upd_ne (show b ≠ a from fun z => hb (by rw [z]; exact ma))]; exact eb
  · by_cases hb : b = a
    · subst hb; exact (nn_lst upd_same eb).elim
    · intro u eu
      exact eb u (by rw [upd_ne hb]; exact eu)
end
end Dw

set_option Elab.async false
set_option linter.all false
set_option maxRecDepth 100000
set_option maxHeartbeats 4000000
/-! The readings that the small language gives; what a def promises. -/
namespace Dw
open PySem PySem.Spec PyProof.Rows L2

/-- the program's data: its defs, its constants, its errors, how it is called -/
structure Pg where
  T : List Fd
  names : List String
  params : List (List String)
  C : List PyData
  cnames : List String
  excs : List (String × String)
  shapes : List (Nat × Nat × List String × List Nat × List Int)
  blts : List String


section
variable (K : PySem.W.Frag) (w0 : Ew)
def FinG {α β : Type} (rel : Hp → List Addr → β → α → Prop) (W : WX) (σ : L2.St) (Q : β → Hp → Prop) (G : Hp) (as : List Addr) (H : Hp) : R α → Prop
  | .ok x S' => ∀ G' as' H' v, Ext G as H G' as' H' → Rst K w0 G' as' S' H' → rel G' as' v x → Q v H'
  | .exc c d S' => ∀ G' as' H' dx v, Ext G as H G' as' H' → Rst K w0 G' as' S' H' → H' dx = some (.xd [(w0.cF c, v)]) → Da K G' v d → W (.ref (w0.cA c)) (some dx) σ H'
  | .bad => False
def tG {α β : Type} (rel : Hp → List Addr → β → α → Prop) (W : WX) (f : Rho → Sto → R α) : L2.St → Hp → (β → Hp → Prop) → Prop := fun σ H Q =>
  ∃ G as S ρ, Rst K w0 G as S H ∧ EnvR K G as σ ρ ∧ FinG K w0 rel W σ Q G as H (f ρ S)
def relB : Hp → List Addr → Bool → Val → Prop := fun _ _ b x => x = .dat (.bool b)
abbrev Ats (G : Hp) (as : List Addr) : List V → List Val → Prop := Paired (At K G as)
def relEq {α : Type} : Hp → List Addr → α → α → Prop := fun _ _ a b => a = b
abbrev tE (W : WX) (f : Rho → Sto → R Val) : TE := tG K w0 (At K) W f
abbrev tT (W : WX) (f : Rho → Sto → R Val) : TT := tG K w0 relB W f
abbrev tTB (W : WX) (f : Rho → Sto → R Bool) : TT := tG K w0 relEq W f
abbrev tA (W : WX) (f : Rho → Sto → R (List Val)) : TA := tG K w0 (Ats K) W f
def FinS (W : WX) (D : Ends) (G : Hp) (as : List Addr) (H : Hp) : SR → Prop
  | .nx ρ S' => ∀ G' as' H' σ', Ext G as H G' as' H' → Rst K w0 G' as' S' H' → EnvR K G' as' σ' ρ → D.nx σ' H'
  | .rt x S' => ∀ G' as' H' v, Ext G as H G' as' H' → Rst K w0 G' as' S' H' → At K G' as' v x → D.rt v H'
  | .bk ρ S' => ∀ G' as' H' σ', Ext G as H G' as' H' → Rst K w0 G' as' S' H' → EnvR K G' as' σ' ρ → D.bk σ' H'
  | .ct ρ S' => ∀ G' as' H' σ', Ext G as H G' as' H' → Rst K w0 G' as' S' H' → EnvR K G' as' σ' ρ → D.ct σ' H'
  | .exc c d ρ S' => ∀ G' as' H' σ' dx v, Ext G as H G' as' H' → Rst K w0 G' as' S' H' → EnvR K G' as' σ' ρ → H' dx = some (.xd [(w0.cF c, v)]) → Da K G' v d → W (.ref (w0.cA c)) (some dx) σ' H'
  | .bad => False
def tSx (W : WX) (f : Rho → Sto → SR) : TS := fun D σ H => ∃ G as S ρ, Rst K w0 G as S H ∧ EnvR K G as σ ρ ∧ FinS K w0 W D G as H (f ρ S)
/-- a def's promise -/
def spEv (f : List Val → Sto → R Val) : Sp := fun vs H Q E => ∃ G as S xs, Rst K w0 G as S H ∧ Ats K G as vs xs ∧ FinG K w0 (At K) (fun c d _ H' => E c d H') [] Q G as H (f xs S)
end

section
variable {K : PySem.W.Frag} {w0 : Ew} {α β γ δ : Type} {rel : Hp → List Addr → β → α → Prop} {rel' : Hp → List Addr → δ → γ → Prop} {W : WX} {σ : L2.St} {Q : β → Hp → Prop} {G G' H H' : Hp} {as as' : List Addr}
theorem FinG.shift {r : R α} (h : FinG K w0 rel W σ Q G as H r) (x : Ext G as H G' as' H') : FinG K w0 rel W σ Q G' as' H' r := by
  cases r with
  | ok a S => exact fun G1 as1 H1 v e r at_ => h G1 as1 H1 v (x.trans e) r at_
  | exc c d S => exact fun G1 as1 H1 dx v e r h1 h2 => h G1 as1 H1 dx v (x.trans e) r h1 h2
  | bad => exact h.elim
theorem FinG.imp {Q' : β → Hp → Prop} {r : R α} (h : FinG K w0 rel W σ Q G as H r) (f : ∀ v H, Q v H → Q' v H) : FinG K w0 rel W σ Q' G as H r := by
  cases r with
  | ok a S => exact fun G1 as1 H1 v e r at_ => f _ _ (h G1 as1 H1 v e r at_)
  | exc c d S => exact h
  | bad => exact h
/-- what is known behind a part -/
def Step (K : PySem.W.Frag) (w0 : Ew) (rel : Hp → List Addr → β → α → Prop) (rel' : Hp → List Addr → δ → γ → Prop) (W : WX) (σ : L2.St) (Q : β → Hp → Prop) (G : Hp) (as : List Addr) (H : Hp) (g : γ → Sto → R α) (v : δ) (H1 : Hp) : Prop :=
  ∃ G1 as1 S1 x, Ext G as H G1 as1 H1 ∧ Rst K w0 G1 as1 S1 H1 ∧ rel' G1 as1 v x ∧ FinG K w0 rel W σ Q G1 as1 H1 (g x S1)
theorem FinG.bind {r : R γ} {g : γ → Sto → R α} (h : FinG K w0 rel W σ Q G as H (r.bind g)) : FinG K w0 rel' W σ (Step K w0 rel rel' W σ Q G as H g) G as H r := by
  cases r with
  | ok a S => exact fun G1 as1 H1 v e r at_ => ⟨G1, as1, S, a, e, r, at_, FinG.shift h e⟩
  | exc c d S => exact h
  | bad => exact h
/-- the end of a part that makes something by itself -/
theorem FinG.now {x : α} {S : Sto} (h : FinG K w0 rel W σ Q G as H (.ok x S)) (x1 : Ext G as H G' as' H') (r : Rst K w0 G' as' S H') {v : β} (a : rel G' as' v x) : Q v H' := h G' as' H' v x1 r a
end

section
variable {X : Cx} {e : Expr}
theorem PE.imp {t t' : TE} (h : PE X e t) (f : ∀ σ H Q, t' σ H Q → t σ H Q) : PE X e t' := ⟨fun pins s σ H Q I q => h.run pins s σ H Q I (f σ H Q q)⟩
theorem PT.imp {t t' : TT} (h : PT X e t) (f : ∀ σ H Q, t' σ H Q → t σ H Q) : PT X e t' := ⟨fun pins s σ H Q I q => h.run pins s σ H Q I (f σ H Q q)⟩
theorem PW.imp {t t' : TT} (h : PW X e t) (f : ∀ σ H Q, t' σ H Q → t σ H Q) : PW X e t' := ⟨fun wh pins s σ H Q I q => h.run wh pins s σ H Q I (f σ H Q q)⟩
theorem PA.imp {es : List Expr} {t t' : TA} (h : PA X es t) (f : ∀ σ H Q, t' σ H Q → t σ H Q) : PA X es t' := ⟨fun pos pins s σ H Q I q => h.run pos pins s σ H Q I (f σ H Q q)⟩
theorem PS.imp {st : Stmt} {t t' : TS} (h : PS X st t) (f : ∀ D σ H, t' D σ H → t D σ H) : PS X st t' := ⟨fun pins s σ H D I q => h.run pins s σ H D I (f D σ H q)⟩
theorem PSs.imp {st : List Stmt} {t t' : TS} (h : PSs X st t) (f : ∀ D σ H, t' D σ H → t D σ H) : PSs X st t' := ⟨fun pins s σ H D I q => h.run pins s σ H D I (f D σ H q)⟩
end

/-! ### a def's promise where nothing is being shown as text around it -/
structure FnG (P : Program) (w : World) (K : PySem.W.Frag) (mg : Str → Option Value) (base : Heap) (lvl : Nat) (fa : Addr) (fd : FuncData) (ps : List Str) (sp : Sp) : Prop where
  arity : ∀ vs H Q E, sp vs H Q E → vs.length = ps.length
  runs : ∀ (A : Around) (outer : List PySem.Env) (s : Shared) (H : Hp) (args : Args) (us : List Value) (vs : List V) (Q : VK) (E : XK), Room lvl A → A.guards = some [] → Env0 P w K mg base A outer s H → BindsTo s fd args (ps.zip us) →
    Vals vs us → sp vs H Q E → codeAny (model P w) A (.call (.ref fa) args) (CR (L2.CX P w) outer P w H s Q E) s
theorem FnG.lift {P : Program} {w : World} {K : PySem.W.Frag} {mg : Str → Option Value} {base : Heap} {j k : Nat} {fa : Addr} {fd : FuncData} {ps : List Str} {sp : Sp} (F : FnG P w K mg base j fa fd ps sp) (h : j ≤ k) : FnG P w K mg base k fa fd ps sp :=
  ⟨F.arity, fun A outer s H args us vs Q E hr => F.runs A outer s H args us vs Q E (hr.mono h)⟩
/-- how a call's written arguments, the keywords' and the defaults' values come to the parameters -/
structure ShapeOk (K : PySem.W.Frag) (fd : FuncData) (ps : List Str) (nu : Nat) (ks : List Str) (perm : List Nat) (dfl : List Int) : Prop where
  ex : ∃ ds : List Value, Vals (dfl.map V.int) ds ∧ ∀ (s : Shared) (us ws : List Value), K.In s.heap → us.length = nu → ws.length = ks.length → (perm.filterMap fun i => (us ++ ws ++ ds)[i]?).length = ps.length →
    BindsTo s fd ⟨us, ks.zip ws⟩ (ps.zip (perm.filterMap fun i => (us ++ ws ++ ds)[i]?))
theorem vals_perm {vs : List V} {us : List Value} (r : Vals vs us) : ∀ perm : List Nat, Vals (perm.filterMap fun i => vs[i]?) (perm.filterMap fun i => us[i]?)
  | [] => .nil
  | i :: p => by
    have ih := vals_perm r p
    rw [List.filterMap_cons, List.filterMap_cons]
    cases h : vs[i]? with
    | none => rw [r.none_of h]; exact ih
    | some v =>
      obtain ⟨u, h1, h2⟩ := r.get h
      rw [h1]
      exact .cons h2 ih

section
variable {X : Cx} {lvl : Nat} {fa : Addr} {fd : FuncData} {ps ks : List Str} {sp : Sp} {E : L2.St → XK} {x : Str} {p pos : Pos} {e : Expr} {es : List Expr} {t tk : TA} {perm : List Nat} {dfl : List Int} {nu : Nat} {kws : List Keyword}
theorem passAt' {W : WX} (tk : Takes X W) (σ : L2.St) : PassesAt (L2.CX X.prog X.w) X σ (fun c d H => W c d σ H) := passAt tk σ
theorem run_any {pins : List (Addr × Obj)} {σ : L2.St} {H : Hp} {s : Shared} {Q : VK} {us ws : List Value} {vs zs : List V} {E : XK} (F : FnG X.prog X.w X.K X.mg X.base lvl fa fd ps sp) (hr : Room lvl X.A) (hg : X.A.guards = some [])
    (sh : ShapeOk X.K fd ps nu ks perm dfl) (hx : PassesAt (L2.CX X.prog X.w) X σ E) (I : Inv X pins σ H s) (r : Vals vs us) (rz : Vals zs ws) (hu : vs.length = nu) (hz : zs.length = ks.length)
    (h : sp (perm.filterMap fun i => (vs ++ zs ++ dfl.map V.int)[i]?) H Q E) : wpAny (model X.prog X.w) X.A (call (.ref fa) us (ks.zip ws)) (EP X pins σ Q) X.xe s := by
  obtain ⟨ds, rd, hb⟩ := sh.ex
  have rall := vals_perm ((r.append rz).append rd) perm
  have hl := rall.length.symm.trans (F.arity _ _ _ _ h)
  refine wpAny_call (codeAny_mono (F.runs X.A X.stack s H _ _ _ Q E hr hg I.env0 (hb s us ws I.kIn (by rw [← r.length]; exact hu) (by rw [← rz.length]; exact hz) hl) rall h) fun o s' hq => ?_)
  match o, hq with
  | .error er, hq => exact hx pins H s er s' I hq
  | .ok (.ret u), hq => exact I.after hq
  | .ok .next, hq => exact hq.elim
  | .ok .brk, hq => exact hq.elim
  | .ok .cont, hq => exact hq.elim
def tCallG (sp : Sp) (perm : List Nat) (dfl : List Int) (nu nk : Nat) (E : L2.St → XK) (t tk : TA) : TE := fun σ H Q => t σ H fun vs H1 => tk σ H1 fun zs H2 => vs.length = nu ∧ zs.length = nk ∧ sp (perm.filterMap fun i => (vs ++ zs ++ dfl.map V.int)[i]?) H2 Q (E σ)
theorem pe_callG {e0 : Expr} (F : FnG X.prog X.w X.K X.mg X.base lvl fa fd ps sp) (hr : Room lvl X.A) (hgd : X.A.guards = some []) (hg : Gl X x) (hm : X.mg x = some (.ref fa)) (hk : PySem.W.keepIn X.K (.ref fa) = true) (sh : ShapeOk X.K fd ps nu ks perm dfl)
    (hx : ∀ σ, PassesAt (L2.CX X.prog X.w) X σ (E σ)) (ha : PA X (e0 :: es) t) (hkw : PK X kws tk) (hall : (backToKw pos (keywordEach kws X.env)).all (·.1.isSome) = true) (hks : (backToKw pos (keywordEach kws X.env)).filterMap (·.1) = ks)
    (he : starEach (e0 :: es) X.env = (false, eval e0 X.env) :: starEach es X.env)
    (hpl : ((backTo pos (starEach (e0 :: es) X.env)).any (·.1) || (backToKw pos (keywordEach kws X.env)).any (·.1.isNone)) = false) (hdb : (x == ("__debug__" : Str)) = false) :
    PE X (.Call (.Name x p) (e0 :: es) kws pos) (tCallG sp perm dfl nu ks.length E t tk) := by
  refine ⟨fun pins s σ H Q I h => ?_⟩
  refine wpAny_Call_Name_kw (ld_glob I hg hm ?_ hdb)
  refine PySem.W.callWith_KW (h₀ := X.base) I.ok.mod.kin hk hall (thn (ha.run pos pins s σ H _ I h) fun us s1 ⟨vs, H1, I1, r, q⟩ => ?_) hpl he
  refine thn (hkw.run pos pins s1 σ H1 _ I1 q) fun ws s2 ⟨zs, H2, I2, rz, hu, hz, q2⟩ => ⟨I2.kIn, ?_⟩
  rw [hks]
  exact run_any F hr hgd sh (hx σ) I2 r rz hu hz q2
theorem pe_callG0 (F : FnG X.prog X.w X.K X.mg X.base lvl fa fd ps sp) (hr : Room lvl X.A) (hgd : X.A.guards = some []) (hg : Gl X x) (hm : X.mg x = some (.ref fa)) (hk : PySem.W.keepIn X.K (.ref fa) = true) (sh : ShapeOk X.K fd ps nu ks perm dfl)
    (hx : ∀ σ, PassesAt (L2.CX X.prog X.w) X σ (E σ)) (hkw : PK X kws tk) (hall : (backToKw pos (keywordEach kws X.env)).all (·.1.isSome) = true) (hks : (backToKw pos (keywordEach kws X.env)).filterMap (·.1) = ks)
    (hpl : ((backTo pos (starEach [] X.env)).any (·.1) || (backToKw pos (keywordEach kws X.env)).any (·.1.isNone)) = false) (hdb : (x == ("__debug__" : Str)) = false) :
    PE X (.Call (.Name x p) [] kws pos) (tCallG sp perm dfl nu ks.length E tNil tk) := by
  refine ⟨fun pins s σ H Q I h => ?_⟩
  refine wpAny_Call_Name_kw (ld_glob I hg hm ?_ hdb)
  refine PySem.W.callWith_KW0 (h₀ := X.base) I.ok.mod.kin hk hall (thn (hkw.run pos pins s σ H _ I h) fun ws s2 ⟨zs, H2, I2, rz, hu, hz, q2⟩ => ⟨I2.kIn, ?_⟩) hpl
  rw [hks]
  exact run_any F hr hgd sh (hx σ) I2 .nil rz hu hz q2
end

section
variable {P : Program} {w : World} {K : PySem.W.Frag} {mg : Str → Option Value} {base : Heap}
/-- the rule for a def: its body, then its promise -/
theorem fn_ofG {k : Nat} {f : Addr} {name qual : Str} {params : Arguments} {body : List Stmt} {scope : Scope} {dV kV doc pm cdv ct oc : Value} {an od : Option Addr} {osl : Array (Option Value)} {N ps : List Str} {sp : Sp}
    (lk : K.lookup f = some ⟨oc, od, .func (PySem.W.fnOf name qual params body scope dV kV doc pm an cdv ct), osl⟩) (hcd : PySem.W.codeIn K cdv qual = true) (Sc : FnScope N ps scope) (ar : ∀ vs H Q E, sp vs H Q E → vs.length = ps.length)
    (hbody : ∀ (A : Around) (outer : List PySem.Env) (s : Shared) (H : Hp) (vs : List V) (Q : VK) (E : XK), Room k (A.deeper (envOfC qual scope s.heap.objs.size f cdv)) → A.guards = some [] → sp vs H Q E →
      ∃ t, PSs (cxOf (L2.CX P w) P w K mg base N qual scope f cdv A outer s H E) body t ∧ t { nx := fun _ H' => Q .non H', rt := Q } (start N vs) H) :
    FnG P w K mg base (k + 1) f (PySem.W.fnOf name qual params body scope dV kV doc pm an cdv ct) ps sp := by
  refine ⟨ar, fun A outer s H args us vs Q E hr hgd e0 hb r hsp => ?_⟩
  have har := ar _ _ _ _ hsp
  have kin : K.In s.heap := e0.mod.kin.keeps fun b o e => (e0.bs b o e).1
  have nlim : s.heap.NoLimit := e0.mod.nolimit.keeps fun b o e => (e0.bs b o e).1
  have kinds : ∀ y ∈ ps.zip us, scope.names.lookup y.1 = some .local ∨ (scope.names.lookup y.1 = some .cell ∧ ((cellsFrom (s.heap.objs.size + 1) scope.names []).lookup y.1).isSome = true) := fun ⟨n, v⟩ hy =>
    (Sc.par n (List.of_mem_zip hy).1).elim .inl fun q => .inr ⟨q, PySem.W.cellsFrom_some _ _ _ (.inl q)⟩
  refine codeAny_call_function hr.depth (kin _ _ lk) rfl Sc.co Sc.gen rfl (PySem.W.codeRec_of kin hcd) (hb _ _ _ _ ?_)
  refine wpAny_newFunctionEnv_cells Sc.kind kinds fun env he s1 x => ?_
  subst he
  refine ⟨nlim.keeps x.toInCall.keep, codeAny_func ?_⟩
  obtain ⟨t, ht, hq⟩ := hbody A outer s H vs Q E (hr.deeper _) hgd hsp
  have I0 : Inv (cxOf (L2.CX P w) P w K mg base N qual scope f cdv A outer s H E) [] (start N vs) H s1 := inv_start Sc hr.hd e0 har r x
  refine wpAny_mono (ht.run [] s1 (start N vs) H _ I0 hq) (fun fl s' hs => ?_) fun e s' hs => hs
  match fl, hs with
  | .ret u, ⟨v, σ', H', J, rv, q⟩ => exact ⟨v, H', J.os, J.bare, J.base, J.hok, rv, q⟩
  | .next, ⟨σ', H', J, q⟩ => exact ⟨V.non, H', J.os, J.bare, J.base, J.hok, rfl, q⟩
  | .brk, ⟨_, _, _, q⟩ => exact q.elim
  | .cont, ⟨_, _, _, q⟩ => exact q.elim
end
end Dw

set_option Elab.async false
set_option linter.all false
set_option maxRecDepth 100000
set_option maxHeartbeats 4000000
/-! Operators, built-ins: what they do with data. -/
namespace Dw
open PySem PySem.Spec PyProof.Rows L2

section
variable {K : PySem.W.Frag} {w0 : Ew} {G H : Hp} {as : List Addr} {S : Sto} {W : WX} {σ0 : L2.St} {Q : VK} {v : V}
theorem LINE_eq : LINE = sizeLine := by rw [sizeLine_eq]; rfl
/-- a list that may be read; anything else -/
def Rr (K : PySem.W.Frag) (G H : Hp) (v : V) : PyData → Prop
  | .list l => ∃ p xs, v = .ref p ∧ SqL K H p xs ∧ DaAll K G xs l
  | d => Da K G v d
def Rb (K : PySem.W.Frag) (G H : Hp) (v : V) : PyData → Prop
  | .list l => ∃ p xs, v = .ref p ∧ H p = some (.lst xs) ∧ DaAll K G xs l
  | d => Da K G v d
theorem Rr.of_da (r : Rst K w0 G as S H) : ∀ {d : PyData}, Da K G v d → Rr K G H v d
  | .none, h => h
  | .bool _, h => h
  | .int _, h => h
  | .str _, h => h
  | .tuple _, h => h
  | .dict _, h => h
  | .list l, h => by
    cases h with
    | lst e a => exact ⟨_, _, rfl, SqL.of (r.same _ _ e), a⟩
theorem Rb.of_da (r : Rst K w0 G as S H) : ∀ {d : PyData}, Da K G v d → Rb K G H v d
  | .none, h => h
  | .bool _, h => h
  | .int _, h => h
  | .str _, h => h
  | .tuple _, h => h
  | .dict _, h => h
  | .list l, h => by
    cases h with
    | lst e a => exact ⟨_, _, rfl, r.same _ _ e, a⟩
theorem cell_at (r : Rst K w0 G as S H) {k : Nat} {d : PyData} (a : At K G as v (.cell k)) (e : (S[k]?).map PyData.list = some d) : ∃ p xs l, d = .list l ∧ v = .ref p ∧ H p = some (.lst xs) ∧ DaAll K G xs l ∧ S[k]? = some l ∧ as[k]? = some p := by
  obtain ⟨p, rfl, ep⟩ := a
  obtain ⟨l, xs, h1, h2, h3, h4⟩ := r.cl k p ep
  rw [h1] at e
  cases e
  exact ⟨p, xs, l, rfl, rfl, h2, h3, h1, ep⟩
theorem rr_of (r : Rst K w0 G as S H) {x : Val} {d : PyData} (a : At K G as v x) (e : deref S x = some d) : Rr K G H v d := by
  cases x with
  | dat d' => cases e; exact Rr.of_da r a
  | cell k =>
    obtain ⟨p, xs, l, rfl, rfl, h1, h2, _, _⟩ := cell_at r a e
    exact ⟨p, xs, rfl, SqL.of h1, h2⟩
  | cells ks => cases e
  | scr l =>
    cases e
    obtain ⟨p, xs, rfl, h1, h2⟩ := a
    exact ⟨p, xs, rfl, r.same.seq h1, h2⟩
  | dct kvs => cases e
  | fn f => cases e
theorem rb_of (r : Rst K w0 G as S H) {x : Val} {d : PyData} (a : At K G as v x) (e : derefB S x = some d) : Rb K G H v d := by
  cases x with
  | dat d' => cases e; exact Rb.of_da r a
  | cell k =>
    obtain ⟨p, xs, l, rfl, rfl, h1, h2, _, _⟩ := cell_at r a e
    exact ⟨p, xs, rfl, h1, h2⟩
  | cells ks => cases e
  | scr l => cases e
  | dct kvs => cases e
  | fn f => cases e
theorem Rr.dp (r : Rst K w0 G as S H) : ∀ {d : PyData}, Rr K G H v d → Dp K H v d
  | .none, h => Da.dp r.same _ _ h
  | .bool _, h => Da.dp r.same _ _ h
  | .int _, h => Da.dp r.same _ _ h
  | .str _, h => Da.dp r.same _ _ h
  | .tuple _, h => Da.dp r.same _ _ h
  | .dict _, h => Da.dp r.same _ _ h
  | .list l, ⟨p, xs, e, h1, h2⟩ => by rw [e]; exact .lst h1 (DaAll.dp r.same _ _ h2)
theorem Rr.dpAll (r : Rst K w0 G as S H) : ∀ {ds : List PyData} {vs : List V}, Paired (fun v d => Rr K G H v d) vs ds → DpAll K H vs ds
  | _, _, .nil => .nil
  | _, _, .cons a b => .cons (Rr.dp r a) (Rr.dpAll r b)
/-- a new tuple, a new list -/
theorem new_tup (r : Rst K w0 G as S H) {ds : List PyData} (h : FinG K w0 (At K) W σ0 Q G as H (.ok (.dat (.tuple ds)) S)) {xs : List V} (a : DaAll K G xs ds) : ∀ p, H p = none → Q (.ref p) (upd H p (.tup xs)) := fun p np => by
  obtain ⟨r', x, e⟩ := r.new np (.tup xs)
  exact h.now x r' (v := .ref p) (show Da K _ _ _ from .tup (SqT.of e) (DaAll.mono x.g _ _ a))
theorem new_lst (r : Rst K w0 G as S H) {ds : List PyData} (h : FinG K w0 (At K) W σ0 Q G as H (.ok (.dat (.list ds)) S)) {xs : List V} (a : DaAll K G xs ds) : ∀ p, H p = none → Q (.ref p) (upd H p (.lst xs)) := fun p np => by
  obtain ⟨r', x, e⟩ := r.new np (.lst xs)
  exact h.now x r' (v := .ref p) (show Da K _ _ _ from .lst e (DaAll.mono x.g _ _ a))
theorem same_val (r : Rst K w0 G as S H) {d : PyData} (h : FinG K w0 (At K) W σ0 Q G as H (.ok (.dat d) S)) (a : Da K G v d) : Q v H := h.now Ext.refl r a
end

/-! ### binary operators -/
def opC : Operator → Bop → Bool
  | .Add, .add => true
  | .Sub, .sub => true
  | .Mult, .mul => true
  | .FloorDiv, .fdiv => true
  | .Mod, .mod => true
  | .Pow, .pow => true
  | _, _ => false

def rBin (K : PySem.W.Frag) (w0 : Ew) (op : Bop) : R2 := fun x y H Q => ∃ G as S a b W σ, Rst K w0 G as S H ∧ At K G as x a ∧ At K G as y b ∧ FinG K w0 (At K) W σ Q G as H (binR op a b S)
theorem fin_bin {K : PySem.W.Frag} {w0 : Ew} {G H : Hp} {as : List Addr} {S : Sto} {W : WX} {σ0 : L2.St} {Q : VK} {op : Bop} {a b : Val} (h : FinG K w0 (At K) W σ0 Q G as H (binR op a b S)) :
    ∃ x y d, derefB S a = some x ∧ derefB S b = some y ∧ binD op x y = some d ∧ FinG K w0 (At K) W σ0 Q G as H (.ok (.dat d) S) := by
  unfold binR at h
  cases h1 : derefB S a with
  | none => rw [h1] at h; exact h.elim
  | some x =>
    cases h2 : derefB S b with
    | none => rw [h1, h2] at h; exact h.elim
    | some y =>
      rw [h1, h2] at h
      cases h3 : binD op x y with
      | none => simp only [h3] at h; exact h.elim
      | some d => simp only [h3] at h; exact ⟨x, y, d, rfl, rfl, h3, h⟩
section
variable {x y d : PyData}
theorem binD_add (h : binD .add x y = some d) : (∃ a b, x = .int a ∧ y = .int b ∧ d = .int (a + b)) ∨ (∃ a b, x = .str a ∧ y = .str b ∧ a.length + b.length ≤ LINE ∧ d = .str (a ++ b)) ∨
    (∃ a b, x = .list a ∧ y = .list b ∧ a.length + b.length ≤ LINE ∧ d = .list (a ++ b)) ∨ (∃ a b, x = .tuple a ∧ y = .tuple b ∧ a.length + b.length ≤ LINE ∧ d = .tuple (a ++ b)) := by
  cases x <;> cases y <;> simp only [binD, reduceCtorEq] at h
  · cases h; exact .inl ⟨_, _, rfl, rfl, rfl⟩
  · split at h
    · cases h; exact .inr (.inl ⟨_, _, rfl, rfl, by assumption, rfl⟩)
    · cases h
  · split at h
    · cases h; exact .inr (.inr (.inl ⟨_, _, rfl, rfl, by assumption, rfl⟩))
    · cases h
  · split at h
    · cases h; exact .inr (.inr (.inr ⟨_, _, rfl, rfl, by assumption, rfl⟩))
    · cases h
theorem binD_sub (h : binD .sub x y = some d) : ∃ a b, x = .int a ∧ y = .int b ∧ d = .int (a - b) := by
  cases x <;> cases y <;> simp only [binD, reduceCtorEq] at h
  cases h; exact ⟨_, _, rfl, rfl, rfl⟩
theorem binD_mul (h : binD .mul x y = some d) : (∃ a b, x = .int a ∧ y = .int b ∧ mulOk a b = true ∧ d = .int (a * b)) ∨
    (∃ l k, x = .tuple l ∧ y = .int k ∧ (0 < l.length ∧ l.length ≤ 1000 ∧ 2 ≤ k ∧ k ≤ 1000) ∧ d = .tuple (List.replicate k.toNat l).flatten) ∨
    (∃ l k, x = .list l ∧ y = .int k ∧ (l.length ≤ 1000 ∧ 0 ≤ k ∧ k ≤ 1000) ∧ d = .list (List.replicate k.toNat l).flatten) := by
  cases x <;> cases y <;> simp only [binD, reduceCtorEq] at h
  · split at h
    · cases h; exact .inl ⟨_, _, rfl, rfl, by assumption, rfl⟩
    · cases h
  · split at h
    · cases h; exact .inr (.inr ⟨_, _, rfl, rfl, by assumption, rfl⟩)
    · cases h
  · split at h
    · cases h; exact .inr (.inl ⟨_, _, rfl, rfl, by assumption, rfl⟩)
    · cases h
theorem binD_fdiv (h : binD .fdiv x y = some d) : ∃ a b, x = .int a ∧ y = .int b ∧ (0 < b ∧ b < 1073741824) ∧ d = .int (a / b) := by
  cases x <;> cases y <;> simp only [binD, reduceCtorEq] at h
  split at h
  · cases h; exact ⟨_, _, rfl, rfl, by assumption, rfl⟩
  · cases h
theorem binD_mod (h : binD .mod x y = some d) : ∃ a b, x = .int a ∧ y = .int b ∧ 0 < b ∧ d = .int (a % b) := by
  cases x <;> cases y <;> simp only [binD, reduceCtorEq] at h
  split at h
  · cases h; exact ⟨_, _, rfl, rfl, by assumption, rfl⟩
  · cases h
theorem binD_pow (h : binD .pow x y = some d) : ∃ a b, x = .int a ∧ y = .int b ∧ (0 ≤ b ∧ b ≤ 1000 ∧ a.natAbs < 1000) ∧ d = .int (a ^ b.toNat) := by
  cases x <;> cases y <;> simp only [binD, reduceCtorEq] at h
  split at h
  · cases h; exact ⟨_, _, rfl, rfl, by assumption, rfl⟩
  · cases h
end
section
variable {X : Cx} {w0 : Ew}
theorem op_bin {o : Operator} {op : Bop} (h : opC o op = true) : OpR X (binaryOp o) (rBin X.K w0 op) := by
  intro pins s σ H v1 v2 u1 u2 Q I r1 r2 ⟨G, as, S, a, b, W, σ', rst, a1, a2, f⟩
  obtain ⟨x, y, d, h1, h2, h3, f⟩ := fin_bin f
  have b1 := rb_of rst a1 h1
  have b2 := rb_of rst a2 h2
  cases op with
  | add =>
    cases o <;> first | exact absurd h (by decide) | skip
    rcases binD_add h3 with ⟨i, j, rfl, rfl, rfl⟩ | ⟨i, j, rfl, rfl, z, rfl⟩ | ⟨l, m, rfl, rfl, z, rfl⟩ | ⟨l, m, rfl, rfl, z, rfl⟩
    · cases b1; cases b2
      exact op_add pins s σ H _ _ u1 u2 Q I r1 r2 ⟨_, _, rfl, rfl, same_val rst f (.int _)⟩
    · cases b1; cases b2
      exact op_add_str pins s σ H _ _ u1 u2 Q I r1 r2 ⟨_, _, rfl, rfl, by rw [← LINE_eq]; exact z, same_val rst f (.str _)⟩
    · obtain ⟨p, xs, rfl, e1, d1⟩ := b1
      obtain ⟨q, ys, rfl, e2, d2⟩ := b2
      exact op_cat pins s σ H _ _ u1 u2 Q I r1 r2 ⟨_, _, _, _, rfl, rfl, e1, e2, by rw [d1.length, d2.length, ← LINE_eq]; exact z, new_lst rst f (d1.append d2)⟩
    · cases b1 with
      | tup e1 d1 =>
        cases b2 with
        | tup e2 d2 =>
          rename_i p xs q ys
          refine op_catA pins s σ H _ _ u1 u2 Q I r1 r2 ⟨_, _, _, _, rfl, rfl, Same.seqT rst.same e1, Same.seqT rst.same e2, by rw [d1.length, d2.length, ← LINE_eq]; exact z, fun e => ?_, fun _ e => ?_, fun _ _ => new_tup rst f (d1.append d2)⟩
          · subst e
            cases d1
            exact same_val rst f (.tup e2 d2)
          · subst e
            cases d2
            rw [List.append_nil] at f
            exact same_val rst f (.tup e1 d1)
  | sub =>
    cases o <;> first | exact absurd h (by decide) | skip
    obtain ⟨i, j, rfl, rfl, rfl⟩ := binD_sub h3
    cases b1; cases b2
    exact op_sub pins s σ H _ _ u1 u2 Q I r1 r2 ⟨_, _, rfl, rfl, same_val rst f (.int _)⟩
  | mul =>
    cases o <;> first | exact absurd h (by decide) | skip
    rcases binD_mul h3 with ⟨i, j, rfl, rfl, z, rfl⟩ | ⟨l, k, rfl, rfl, z, rfl⟩ | ⟨l, k, rfl, rfl, z, rfl⟩
    · cases b1; cases b2
      exact op_mulW pins s σ H _ _ u1 u2 Q I r1 r2 ⟨_, _, rfl, rfl, (show i.natAbs.log2 + j.natAbs.log2 < 1000000 from of_decide_eq_true z), same_val rst f (.int _)⟩
    · cases b2
      cases b1 with
      | tup e1 d1 =>
        rename_i p xs
        exact op_repT pins s σ H _ _ u1 u2 Q I r1 r2 ⟨_, _, _, rfl, rfl, Same.seqT rst.same e1, fun e => by
          have := d1.length
          rw [e, List.length_nil] at this
          omega, z.2.2.1, z.2.2.2, by rw [d1.length]; exact z.2.1, new_tup rst f (d1.rep _)⟩
    · cases b2
      obtain ⟨p, xs, rfl, e1, d1⟩ := b1
      refine op_rep pins s σ H _ _ u1 u2 Q I r1 r2 ⟨_, _, _, rfl, rfl, e1, by omega, by omega, ?_, new_lst rst f (d1.rep _)⟩
      rw [d1.length, ← LINE_eq]
      have h1 : k.toNat ≤ 1000 := by omega
      have h2 := Nat.mul_le_mul z.1 h1
      exact Nat.le_trans h2 (by decide)
  | fdiv =>
    cases o <;> first | exact absurd h (by decide) | skip
    obtain ⟨i, j, rfl, rfl, z, rfl⟩ := binD_fdiv h3
    cases b1; cases b2
    exact op_fdiv pins s σ H _ _ u1 u2 Q I r1 r2 ⟨_, _, rfl, rfl, z, same_val rst f (.int _)⟩
  | mod =>
    cases o <;> first | exact absurd h (by decide) | skip
    obtain ⟨i, j, rfl, rfl, z, rfl⟩ := binD_mod h3
    cases b1; cases b2
    exact op_mod pins s σ H _ _ u1 u2 Q I r1 r2 ⟨_, _, rfl, rfl, z, same_val rst f (.int _)⟩
  | pow =>
    cases o <;> first | exact absurd h (by decide) | skip
    obtain ⟨i, j, rfl, rfl, z, rfl⟩ := binD_pow h3
    cases b1; cases b2
    exact op_pow pins s σ H _ _ u1 u2 Q I r1 r2 ⟨_, _, rfl, rfl, ⟨z.1, by omega, by have := z.2.2; omega⟩, same_val rst f (.int _)⟩
end
end Dw

set_option Elab.async false
set_option linter.all false
set_option maxRecDepth 100000
set_option maxHeartbeats 4000000
/-! Comparisons, subscripts, slices, built-in functions. -/
namespace Dw
open PySem PySem.Spec PyProof.Rows L2

def cmpC : CmpOp → Cop → Bool
  | .Eq, .eq => true
  | .NotEq, .ne => true
  | .Lt, .lt => true
  | .LtE, .le => true
  | .Gt, .gt => true
  | .GtE, .ge => true
  | .In, .inn => true
  | .NotIn, .nin => true
  | _, _ => false

def rCmp (K : PySem.W.Frag) (w0 : Ew) (op : Cop) : R2 := fun x y H Q => ∃ G as S a b W σ, Rst K w0 G as S H ∧ At K G as x a ∧ At K G as y b ∧ FinG K w0 (At K) W σ Q G as H (cmpR op a b S)
theorem fin_cmp {K : PySem.W.Frag} {w0 : Ew} {G H : Hp} {as : List Addr} {S : Sto} {W : WX} {σ0 : L2.St} {Q : VK} {op : Cop} {a b : Val} (h : FinG K w0 (At K) W σ0 Q G as H (cmpR op a b S)) :
    ∃ x y c, deref S a = some x ∧ deref S b = some y ∧ cmpD op x y = some c ∧ FinG K w0 (At K) W σ0 Q G as H (.ok (.dat (.bool c)) S) := by
  unfold cmpR at h
  cases h1 : deref S a with
  | none => rw [h1] at h; exact h.elim
  | some x =>
    cases h2 : deref S b with
    | none => rw [h1, h2] at h; exact h.elim
    | some y =>
      rw [h1, h2] at h
      cases h3 : cmpD op x y with
      | none => simp only [h3] at h; exact h.elim
      | some d => simp only [h3] at h; exact ⟨x, y, d, rfl, rfl, h3, h⟩
section
variable {x y : PyData} {c : Bool}
theorem eqD_some (h : eqD x y = some c) : (∃ a b, x = .int a ∧ y = .int b ∧ c = (a == b)) ∨ (∃ a b, x = .str a ∧ y = .str b ∧ c = decide (a = b)) ∨ (∃ a b, x = .bool a ∧ y = .bool b ∧ c = (a == b)) ∨
    (SeqAt.shaped x = true ∧ SeqAt.shaped y = true ∧ c = PyData.eqv x y) := by
  unfold eqD at h
  split at h
  · cases h; exact .inl ⟨_, _, rfl, rfl, rfl⟩
  · cases h; exact .inr (.inl ⟨_, _, rfl, rfl, rfl⟩)
  · cases h; exact .inr (.inr (.inl ⟨_, _, rfl, rfl, rfl⟩))
  · split at h
    · cases h; exact .inr (.inr (.inr ⟨by simp_all, by simp_all, rfl⟩))
    · cases h
theorem cmpD_int {op : Cop} (ho : op = .lt ∨ op = .le ∨ op = .gt ∨ op = .ge) (h : cmpD op x y = some c) : ∃ a b, x = .int a ∧ y = .int b := by
  rcases ho with rfl | rfl | rfl | rfl <;> cases x <;> cases y <;> simp only [cmpD, reduceCtorEq] at h <;> exact ⟨_, _, rfl, rfl⟩
end
theorem inD_some {x y : PyData} {c : Bool} (h : inD x y = some c) : (∃ a b, x = .str a ∧ y = .str b ∧ c = !(Builtin.Str.occurrences b a 0 b.length 1).isEmpty) ∨ (∃ l, y = .list l ∧ SeqAt.shaped x = true ∧ SeqAt.shaped y = true ∧ c = l.any fun z => PyData.eqv z x) ∨
    (∃ l, y = .tuple l ∧ SeqAt.shaped x = true ∧ SeqAt.shaped y = true ∧ c = l.any fun z => PyData.eqv z x) := by
  unfold inD at h
  split at h
  · cases h; exact .inl ⟨_, _, rfl, rfl, rfl⟩
  · split at h
    · cases h; exact .inr (.inl ⟨_, rfl, by simp_all, by simp_all, rfl⟩)
    · cases h
  · split at h
    · cases h; exact .inr (.inr ⟨_, rfl, by simp_all, by simp_all, rfl⟩)
    · cases h
  · cases h
theorem plain_in {d : PyData} {ds : List PyData} {A : Around} (h1 : SeqAt.shaped d = true) (h2 : SeqAt.shaped (.tuple ds) = true) (hu : A.units + 66 < cLine) : PyData.plainAll ds = true ∧ d.plain = true ∧ A.units + 1 + min (PyData.depthAll ds) d.depth < cLine := by
  have a := SeqAt.depth_of_shaped h1
  have b := Nat.min_le_right (PyData.depthAll ds) d.depth
  refine ⟨?_, PyData.plain_of_canLay0 d (SeqAt.canLay_of_shaped h1), by omega⟩
  have := PyData.plain_of_canLay0 _ (SeqAt.canLay_of_shaped h2)
  simpa only [PyData.plain] using this
section
variable {X : Cx}
theorem op_inTup (hu : X.A.units + 66 < cLine) : OpR X (compareOp .In) (fun x y H Q => ∃ d ds, Dp X.K H x d ∧ Dp X.K H y (.tuple ds) ∧ SeqAt.shaped d = true ∧ SeqAt.shaped (.tuple ds) = true ∧ Q (.bl (ds.any fun z => PyData.eqv z d)) H) := by
  intro pins s σ H x y v u Q I rx ry ⟨d, ds, hd, he, sd, se, q⟩
  obtain ⟨as, g1⟩ := Dp.reads I d x v hd rx
  obtain ⟨bs, g2⟩ := Dp.reads I _ y u he ry
  obtain ⟨p1, p2, p3⟩ := plain_in sd se hu
  exact SeqAt.in_tuple_data g2 g1 p1 p2 p3 ⟨.bl _, H, I, rfl, q⟩
theorem op_ninTup (hu : X.A.units + 66 < cLine) : OpR X (compareOp .NotIn) (fun x y H Q => ∃ d ds, Dp X.K H x d ∧ Dp X.K H y (.tuple ds) ∧ SeqAt.shaped d = true ∧ SeqAt.shaped (.tuple ds) = true ∧ Q (.bl (!ds.any fun z => PyData.eqv z d)) H) := by
  intro pins s σ H x y v u Q I rx ry ⟨d, ds, hd, he, sd, se, q⟩
  obtain ⟨as, g1⟩ := Dp.reads I d x v hd rx
  obtain ⟨bs, g2⟩ := Dp.reads I _ y u he ry
  obtain ⟨p1, p2, p3⟩ := plain_in sd se hu
  exact SeqAt.notIn_tuple_data g2 g1 p1 p2 p3 ⟨.bl _, H, I, rfl, q⟩
end
theorem dec_str {a b : Str} : decide (V.str a = V.str b) = decide (a = b) := by
  rw [Bool.eq_iff_iff]
  simp
section
variable {X : Cx} {w0 : Ew}
theorem op_cmp (hu : X.A.units + 66 < cLine) {o : CmpOp} {op : Cop} (h : cmpC o op = true) : OpR X (compareOp o) (rCmp X.K w0 op) := by
  intro pins s σ H v1 v2 u1 u2 Q I r1 r2 ⟨G, as, S, a, b, W, σ', rst, a1, a2, f⟩
  obtain ⟨x, y, c, h1, h2, h3, f⟩ := fin_cmp f
  have b1 := rr_of rst a1 h1
  have b2 := rr_of rst a2 h2
  have fin : Q (.bl c) H := same_val rst f (.bl c)
  have eqq : ∀ {c'}, eqD x y = some c' → Q (.bl c') H → wpAny (model X.prog X.w) X.A (compareOp .Eq u1 u2) (EP X pins σ Q) X.xe s := fun {c'} e q => by
    rcases eqD_some e with ⟨i, j, rfl, rfl, rfl⟩ | ⟨i, j, rfl, rfl, rfl⟩ | ⟨i, j, rfl, rfl, rfl⟩ | ⟨s1, s2, rfl⟩
    · cases b1; cases b2
      exact op_eq pins s σ H _ _ u1 u2 Q I r1 r2 ⟨rfl, by rw [dec_int]; exact q⟩
    · cases b1; cases b2
      exact op_eq pins s σ H _ _ u1 u2 Q I r1 r2 ⟨rfl, by rw [dec_str]; exact q⟩
    · cases b1; cases b2
      exact op_eq pins s σ H _ _ u1 u2 Q I r1 r2 ⟨rfl, by rw [dec_bl]; exact q⟩
    · exact op_eqD (by omega) pins s σ H _ _ u1 u2 Q I r1 r2 ⟨x, y, b1.dp rst, b2.dp rst, s1, s2, q⟩
  have neq : ∀ {c'}, eqD x y = some c' → Q (.bl (!c')) H → wpAny (model X.prog X.w) X.A (compareOp .NotEq u1 u2) (EP X pins σ Q) X.xe s := fun {c'} e q => by
    rcases eqD_some e with ⟨i, j, rfl, rfl, rfl⟩ | ⟨i, j, rfl, rfl, rfl⟩ | ⟨i, j, rfl, rfl, rfl⟩ | ⟨s1, s2, rfl⟩
    · cases b1; cases b2
      exact op_ne pins s σ H _ _ u1 u2 Q I r1 r2 ⟨rfl, by rw [dec_int]; exact q⟩
    · cases b1; cases b2
      exact op_ne pins s σ H _ _ u1 u2 Q I r1 r2 ⟨rfl, by rw [dec_str]; exact q⟩
    · cases b1; cases b2
      exact op_ne pins s σ H _ _ u1 u2 Q I r1 r2 ⟨rfl, by rw [dec_bl]; exact q⟩
    · exact op_neD (by omega) pins s σ H _ _ u1 u2 Q I r1 r2 ⟨x, y, b1.dp rst, b2.dp rst, s1, s2, q⟩
  cases op <;> cases o <;> first | exact absurd h (by decide) | skip
  · exact eqq h3 fin
  · have h3 : (eqD x y).map (!·) = some c := h3
    cases e : eqD x y with
    | none => rw [e] at h3; cases h3
    | some c' =>
      rw [e] at h3
      cases h3
      exact neq e fin
  · obtain ⟨i, j, rfl, rfl⟩ := cmpD_int (.inl rfl) h3
    cases h3; cases b1; cases b2
    exact op_lt pins s σ H _ _ u1 u2 Q I r1 r2 ⟨_, _, rfl, rfl, fin⟩
  · obtain ⟨i, j, rfl, rfl⟩ := cmpD_int (.inr (.inl rfl)) h3
    cases h3; cases b1; cases b2
    exact op_le pins s σ H _ _ u1 u2 Q I r1 r2 ⟨_, _, rfl, rfl, fin⟩
  · obtain ⟨i, j, rfl, rfl⟩ := cmpD_int (.inr (.inr (.inl rfl))) h3
    cases h3; cases b1; cases b2
    exact op_gt pins s σ H _ _ u1 u2 Q I r1 r2 ⟨_, _, rfl, rfl, fin⟩
  · obtain ⟨i, j, rfl, rfl⟩ := cmpD_int (.inr (.inr (.inr rfl))) h3
    cases h3; cases b1; cases b2
    exact op_ge pins s σ H _ _ u1 u2 Q I r1 r2 ⟨_, _, rfl, rfl, fin⟩
  · rcases inD_some h3 with ⟨i, j, rfl, rfl, rfl⟩ | ⟨l, rfl, s1, s2, rfl⟩ | ⟨l, rfl, s1, s2, rfl⟩
    · cases b1; cases b2
      exact op_in_str pins s σ H _ _ u1 u2 Q I r1 r2 ⟨_, _, rfl, rfl, fin⟩
    · exact op_inD (by omega) pins s σ H _ _ u1 u2 Q I r1 r2 ⟨x, l, b1.dp rst, Rr.dp (d := .list l) rst b2, s1, s2, fin⟩
    · exact op_inTup hu pins s σ H _ _ u1 u2 Q I r1 r2 ⟨x, l, b1.dp rst, Rr.dp (d := .tuple l) rst b2, s1, s2, fin⟩
  · have h3 : (inD x y).map (!·) = some c := h3
    cases e : inD x y with
    | none => rw [e] at h3; cases h3
    | some c' =>
      rw [e] at h3
      cases h3
      rcases inD_some e with ⟨i, j, rfl, rfl, rfl⟩ | ⟨l, rfl, s1, s2, rfl⟩ | ⟨l, rfl, s1, s2, rfl⟩
      · cases b1; cases b2
        exact op_notIn_str pins s σ H _ _ u1 u2 Q I r1 r2 ⟨_, _, rfl, rfl, fin⟩
      · exact op_notInD (by omega) pins s σ H _ _ u1 u2 Q I r1 r2 ⟨x, l, b1.dp rst, Rr.dp (d := .list l) rst b2, s1, s2, fin⟩
      · exact op_ninTup hu pins s σ H _ _ u1 u2 Q I r1 r2 ⟨x, l, b1.dp rst, Rr.dp (d := .tuple l) rst b2, s1, s2, fin⟩
end

/-! ### subscripts -/
theorem nth_atI {α : Type} (l : List α) (i : Int) (x : α) (h : nth l i = some x) : atI l i = some x := by
  unfold nth at h
  unfold atI ixN
  by_cases h0 : 0 ≤ i
  · rw [if_pos h0] at h ⊢
    have hl := (List.getElem?_eq_some_iff.mp h).1
    rw [if_pos (by omega)]
    exact h
  · rw [if_neg h0] at h ⊢
    by_cases h1 : -(l.length : Int) ≤ i
    · rw [if_pos h1] at h ⊢
      exact h
    · rw [if_neg h1] at h; cases h
theorem nth_all {K : PySem.W.Frag} {G : Hp} {xs : List V} {l : List PyData} (a : DaAll K G xs l) {i : Int} {d : PyData} (h : nth l i = some d) : ∃ v, nth xs i = some v ∧ Da K G v d := by
  have hl := a.length
  unfold nth at h ⊢
  by_cases h0 : 0 ≤ i
  · rw [if_pos h0] at h ⊢
    exact a.get h
  · rw [if_neg h0] at h ⊢
    rw [hl]
    by_cases h1 : -(l.length : Int) ≤ i
    · rw [if_pos h1] at h ⊢
      exact a.get h
    · rw [if_neg h1] at h; cases h
theorem refs_get {as : List Addr} : ∀ {bs : List Addr} {ks : List Nat} {i : Nat} {k : Nat}, Refs as bs ks → ks[i]? = some k → ∃ b, bs[i]? = some b ∧ as[k]? = some b
  | _, _, _, _, .nil, e => by simp at e
  | _, _, 0, _, .cons x _, e => by
    simp at e
    subst e
    exact ⟨_, rfl, x⟩
  | _, _, i + 1, _, .cons _ a, e => by
    obtain ⟨v, h1, h2⟩ := refs_get (i := i) a (by simpa using e)
    exact ⟨v, by simpa using h1, h2⟩
theorem refs_len {as : List Addr} : ∀ {bs : List Addr} {ks : List Nat}, Refs as bs ks → bs.length = ks.length
  | _, _, .nil => rfl
  | _, _, .cons _ t => by rw [List.length_cons, List.length_cons, refs_len t]
theorem nth_refs {as bs : List Addr} {ks : List Nat} (a : Refs as bs ks) {i : Int} {k : Nat} (h : nth ks i = some k) : ∃ b, nth (bs.map V.ref) i = some (.ref b) ∧ as[k]? = some b := by
  have hl := refs_len a
  unfold nth at h ⊢
  rw [List.length_map, hl]
  by_cases h0 : 0 ≤ i
  · rw [if_pos h0] at h ⊢
    obtain ⟨b, e1, e2⟩ := refs_get a h
    exact ⟨b, by rw [List.getElem?_map, e1]; rfl, e2⟩
  · rw [if_neg h0] at h ⊢
    by_cases h1 : -(ks.length : Int) ≤ i
    · rw [if_pos h1] at h ⊢
      obtain ⟨b, e1, e2⟩ := refs_get a h
      exact ⟨b, by rw [List.getElem?_map, e1]; rfl, e2⟩
    · rw [if_neg h1] at h; cases h

def rIdx (K : PySem.W.Frag) (w0 : Ew) : R2 := fun x y H Q => ∃ G as S a b W σ, Rst K w0 G as S H ∧ At K G as x a ∧ At K G as y b ∧ FinG K w0 (At K) W σ Q G as H (idxR a b S)
theorem idxD_some {x y d : PyData} (h : idxD x y = some d) : (∃ l i, x = .list l ∧ y = .int i ∧ nth l i = some d) ∨ (∃ l i, x = .tuple l ∧ y = .int i ∧ nth l i = some d) ∨
    (∃ z i c, x = .str z ∧ y = .int i ∧ z.length ≤ LINE ∧ nth z.cps.toList i = some c ∧ d = .str ⟨#[c]⟩) := by
  cases x <;> cases y <;> simp only [idxD, reduceCtorEq] at h
  · split at h
    · cases e : nth (α := Nat) _ _ with
      | none => rw [e] at h; cases h
      | some c => rw [e] at h; cases h; exact .inr (.inr ⟨_, _, c, rfl, rfl, by assumption, e, rfl⟩)
    · cases h
  · exact .inl ⟨_, _, rfl, rfl, h⟩
  · exact .inr (.inl ⟨_, _, rfl, rfl, h⟩)
theorem dct_get {K : PySem.W.Frag} {G : Hp} {vs : List (Key × V)} {kvs : List (Str × PyData)} {k : Str} {d : PyData} (h : Paired (fun (p : Key × V) (q : Str × PyData) => p.1 = .inr q.1 ∧ Da K G p.2 q.2) vs kvs) (e : getD' kvs k = some d) : ∃ v, valV vs (Sum.inr k) = some v ∧ Da K G v d := by
  induction h with
  | nil => cases e
  | @cons p q _ kvs' a _ ih =>
    unfold getD' at e ih
    rw [List.find?_cons] at e
    by_cases hk : q.1 = k
    · rw [decide_eq_true hk] at e
      cases e
      exact ⟨p.2, valV_pos (by rw [a.1, hk]), a.2⟩
    · rw [decide_eq_false hk] at e
      obtain ⟨v, h1, h2⟩ := ih e
      exact ⟨v, by rw [valV_neg (by rw [a.1]; exact fun z => hk (Sum.inr.inj z))]; exact h1, h2⟩
section
variable {X : Cx} {w0 : Ew}
/-- d[k], behind its two parts -/
theorem tail_dct {pins : List (Addr × Obj)} {s : Shared} {σ : L2.St} {H : Hp} {Q : VK} {value slice : Expr} {a : Addr} {y v : V} {u : Value} (hu : X.A.units + 1 < cLine) (I : Inv X pins σ H s) (g : DGet H a y (some v)) (ry : RelV y u) (hs : subscripted slice false (.ref a) u = operate [.ref a, u] (getItem (.ref a) u)) (q : Q v H) :
    wpAny (model X.prog X.w) X.A (subscriptTail value slice (.ref a) u) (EP X pins σ Q) X.xe s := by
  have hT := dict_typeIs I g
  have core : wpAny (model X.prog X.w) X.A (getItem (.ref a) u) (EP X pins σ Q) X.xe s := d_getItem hu I g ry fun w' s3 I3 rw' => ⟨v, H, I3, rw', q⟩
  unfold subscriptTail
  refine wpAny_bind (by
    rw [getitemInPython_of_ne hT.not_modules]
    refine wpAny_bind (wpAny_specialOf hT PySem.F.slot_dict_getitem.lookup ?_)
    have fin : wpAny (model X.prog X.w) X.A (subscripted slice false (.ref a) u) (fun r s3 => wpAny (model X.prog X.w) X.A (do letTemporaryGo value (.ref a) r; pure r) (EP X pins σ Q) X.xe s3) X.xe s := by
      rw [hs]
      exact wpAny_operating (wpAny_mono core (fun r s3 h3 => wpAny_bind (wpAny_letTemporaryGo (wpAny_pure h3))) (fun _ _ x => x))
    first
      | exact wpAny_pure (wpAny_bind fin)
      | exact wpAny_bind (wpAny_pure (wpAny_bind fin))
      | exact wpAny_bind fin)
theorem ix_any (hu : X.A.units + 1 < cLine) : IxR X (rIdx X.K w0) := by
  intro value slice pins s σ H v1 v2 u1 u2 Q I r1 r2 ⟨G, as, S, a, b, W, σ', rst, a1, a2, f⟩ hs
  have go : ∀ x y d, deref S a = some x → deref S b = some y → idxD x y = some d → FinG X.K w0 (At X.K) W σ' Q G as H (.ok (.dat d) S) → wpAny (model X.prog X.w) X.A (subscriptTail value slice u1 u2) (EP X pins σ Q) X.xe s := fun x y d h1 h2 h3 f => by
    have b1 := rr_of rst a1 h1
    have b2 := rr_of rst a2 h2
    rcases idxD_some h3 with ⟨l, i, rfl, rfl, e⟩ | ⟨l, i, rfl, rfl, e⟩ | ⟨z, i, c, rfl, rfl, hz, e, rfl⟩
    · obtain ⟨p, xs, rfl, h4, h5⟩ := b1
      cases b2
      obtain ⟨v, e2, dv⟩ := nth_all h5 e
      exact ix_list value slice pins s σ H _ _ u1 u2 Q I r1 r2 ⟨_, _, _, _, rfl, rfl, h4, nth_atI _ _ _ e2, same_val rst f dv⟩ hs
    · cases b2
      cases b1 with
      | tup h4 h5 =>
        obtain ⟨v, e2, dv⟩ := nth_all h5 e
        exact ix_tup value slice pins s σ H _ _ u1 u2 Q I r1 r2 ⟨_, _, _, _, rfl, rfl, Same.seqT rst.same h4, nth_atI _ _ _ e2, same_val rst f dv⟩ hs
    · cases b2
      cases b1
      exact ix_str value slice pins s σ H _ _ u1 u2 Q I r1 r2 ⟨_, _, _, rfl, rfl, by rw [← LINE_eq]; exact hz, nth_atI _ _ _ e, same_val rst f (.str _)⟩ hs
  unfold idxR at f
  split at f
  · rename_i ks i
    cases e : nth ks i with
    | none => rw [e] at f; exact f.elim
    | some k =>
      rw [e] at f
      obtain ⟨p, bs, rfl, h4, h5⟩ := a1
      cases a2
      obtain ⟨b', e2, e3⟩ := nth_refs h5 e
      exact ix_list value slice pins s σ H _ _ u1 u2 Q I r1 r2 ⟨_, _, _, _, rfl, rfl, SqL.of (rst.same _ _ h4), nth_atI _ _ _ e2, f.now Ext.refl rst ⟨_, rfl, e3⟩⟩ hs
  · rename_i kvs k
    cases e : getD' kvs k with
    | none => rw [e] at f; exact f.elim
    | some d =>
      rw [e] at f
      obtain ⟨p, vs, rfl, h4, h5⟩ := a1
      cases a2
      obtain ⟨v, e2, dv⟩ := dct_get h5 e
      cases r1
      exact tail_dct hu I (e2 ▸ DGet.k (k := Sum.inr k) (rst.same _ _ h4)) r2 hs (same_val rst f dv)
  · cases h1 : deref S a with
    | none => rw [h1] at f; exact f.elim
    | some x =>
      cases h2 : deref S b with
      | none => rw [h1, h2] at f; exact f.elim
      | some y =>
        rw [h1, h2] at f
        cases h3 : idxD x y with
        | none => simp only [h3] at f; exact f.elim
        | some d => simp only [h3] at f; exact go x y d h1 h2 h3 f
end

/-! ### slices -/
theorem sIx_eq (n d : Nat) (o : Option Int) : HT.sIx n d o = sIx n d o := by
  cases o with
  | none => rfl
  | some i =>
    show (if i < 0 then (i + (n : Int)).toNat else min i.toNat n) = (if 0 ≤ i then min i.toNat n else (i + n).toNat)
    by_cases h : i < 0
    · rw [if_pos h, if_neg (by omega)]
    · rw [if_neg h, if_pos (by omega)]
theorem cut_all {K : PySem.W.Frag} {G : Hp} {xs : List V} {l : List PyData} (a : DaAll K G xs l) (lo hi : Option Int) : DaAll K G (cutV xs lo hi) (cutD l lo hi) := by
  unfold cutV cutD
  rw [sIx_eq, sIx_eq, a.length]
  exact (a.drop _).take _

def rSl (K : PySem.W.Frag) (w0 : Ew) : V → Option Int → Option Int → Hp → VK → Prop := fun x lo hi H Q => ∃ G as S a W σ, Rst K w0 G as S H ∧ At K G as x a ∧ FinG K w0 (At K) W σ Q G as H (slR a lo hi S)
theorem slD_some {x d : PyData} {lo hi : Option Int} (h : slD x lo hi = some d) : (∃ l, x = .list l ∧ d = .list (cutD l lo hi)) ∨ (∃ l, x = .tuple l ∧ d = .tuple (cutD l lo hi)) ∨ (∃ z, x = .str z ∧ z.length ≤ LINE ∧ d = .str ⟨(cutD z.cps.toList lo hi).toArray⟩) := by
  cases x <;> simp only [slD, reduceCtorEq] at h
  · split at h
    · cases h; exact .inr (.inr ⟨_, rfl, by assumption, rfl⟩)
    · cases h
  · cases h; exact .inl ⟨_, rfl, rfl⟩
  · cases h; exact .inr (.inl ⟨_, rfl, rfl⟩)
theorem cut_str (z : Str) (lo hi : Option Int) : cutS z lo hi = ⟨(cutD z.cps.toList lo hi).toArray⟩ := by
  unfold cutS cutD
  rw [sIx_eq, sIx_eq, Array.length_toList]
  rfl
theorem cut_whole {α : Type} {l : List α} {lo hi : Option Int} (h : sIx l.length 0 lo = 0 ∧ sIx l.length l.length hi = l.length) : cutD l lo hi = l := by
  unfold cutD
  rw [h.1, h.2, List.drop_zero, Nat.sub_zero, List.take_length]
section
variable {X : Cx} {w0 : Ew}
theorem sl_any : SlR X (rSl X.K w0) := by
  intro pins s σ H v u vl vu lo hi sl Q I rx hs pl pu ⟨G, as, S, a, W, σ', rst, a1, f⟩
  unfold slR at f
  cases h1 : deref S a with
  | none => rw [h1] at f; exact f.elim
  | some x =>
    rw [h1] at f
    have b1 := rr_of rst a1 h1
    cases h3 : slD x lo hi with
    | none => simp only [h3] at f; exact f.elim
    | some d =>
      simp only [h3] at f
      rcases slD_some h3 with ⟨l, rfl, rfl⟩ | ⟨l, rfl, rfl⟩ | ⟨z, rfl, hz, rfl⟩
      · obtain ⟨p, xs, rfl, h4, h5⟩ := b1
        exact sl_list pins s σ H _ u vl vu lo hi sl Q I rx hs pl pu ⟨_, _, rfl, h4, new_lst rst f (cut_all h5 lo hi)⟩
      · cases b1 with
        | tup h4 h5 =>
          rename_i p xs
          have hl := h5.length
          refine sl_tupA pins s σ H _ u vl vu lo hi sl Q I rx hs pl pu ⟨_, _, rfl, Same.seqT rst.same h4, fun e => ?_, fun _ => new_tup rst f (cut_all h5 lo hi)⟩
          rw [sIx_eq, sIx_eq, hl] at e
          have f' : FinG X.K w0 (At X.K) W σ' Q G as H (.ok (.dat (.tuple (cutD l lo hi))) S) := f
          rw [cut_whole e] at f'
          exact same_val rst f' (.tup h4 h5)
      · cases b1
        exact sl_str pins s σ H _ u vl vu lo hi sl Q I rx hs pl pu ⟨_, rfl, by rw [← LINE_eq]; exact hz, by rw [cut_str]; exact same_val rst f (.str _)⟩
end
end Dw

set_option Elab.async false
set_option linter.all false
set_option maxRecDepth 100000
set_option maxHeartbeats 4000000
/-! Built-in functions, isinstance, append. -/
namespace Dw
open PySem PySem.Spec PyProof.Rows L2

def bltName : Blt → String
  | .len => "len"
  | .abs => "abs"
  | .max2 => "max"
  | .int1 => "int"
  | .tup1 => "tuple"
  | .lst1 => "list"
  | .divmod => "divmod"
  | .all1 => "all"
  | .repr => "repr"
  | .min2 => "min"
  | .str1 => "str"
  | .sum1 => "sum"
  | .any1 => "any"
/-- a built-in class is called as a type -/
def bltTy : Blt → Bool
  | .int1 => true
  | .tup1 => true
  | .lst1 => true
  | .str1 => true
  | _ => false
def bltVal (b : Blt) : Value := if bltTy b then .type (bltName b) else .builtin (bltName b)
theorem blt_boot (b : Blt) : bootBuiltins (bltName b) = some (bltVal b) := by cases b <;> decide +kernel

theorem ints_vals {K : PySem.W.Frag} {G : Hp} : ∀ {ys : List V} {l : List PyData} {ns : List Int}, DaAll K G ys l → intsOf l = some ns → ys = ns.map V.int
  | _, _, _, .nil, e => by cases e; rfl
  | _, d :: l, _, .cons x t, e => by
    cases d with
    | int i =>
      unfold intsOf at e
      cases h : intsOf l with
      | none => rw [h] at e; cases e
      | some ms =>
        rw [h] at e
        cases e
        cases x
        rw [ints_vals t h]
        rfl
    | _ => cases e
def rBlt (K : PySem.W.Frag) (w0 : Ew) (b : Blt) : List V → Hp → VK → Prop := fun xs H Q => ∃ G as S vs W σ, Rst K w0 G as S H ∧ Ats K G as xs vs ∧ FinG K w0 (At K) W σ Q G as H (bltR b vs S)
theorem derefs_all {K : PySem.W.Frag} {G H : Hp} {as : List Addr} {S : Sto} (r : Rst K w0 G as S H) : ∀ {xs : List V} {vs : List Val} {ds : List PyData}, Ats K G as xs vs → derefs S vs = some ds → Paired (fun v d => Rr K G H v d) xs ds
  | _, _, _, .nil, e => by
    cases e
    exact .nil
  | _, v :: vs, _, .cons a t, e => by
    unfold derefs at e
    cases h1 : deref S v with
    | none => rw [h1] at e; cases e
    | some d =>
      cases h2 : derefs S vs with
      | none => rw [h1, h2] at e; cases e
      | some ds =>
        rw [h1, h2] at e
        cases e
        exact .cons (rr_of r a h1) (derefs_all r t h2)
theorem allTrue_bools {K : PySem.W.Frag} {G : Hp} : ∀ {xs : List V} {l : List PyData} {c : Bool}, DaAll K G xs l → allTrue l = some c → ∃ bs : List Bool, xs = bs.map V.bl ∧ c = bs.all id
  | _, _, _, .nil, h => by
    cases h
    exact ⟨[], rfl, rfl⟩
  | _, _, _, .cons (d := d) (ds := ds) a t, h => by
    cases a with
    | bl b =>
      unfold allTrue at h
      cases h1 : allTrue ds with
      | none => rw [h1] at h; cases h
      | some c' =>
        rw [h1] at h
        cases h
        obtain ⟨bs, rfl, rfl⟩ := allTrue_bools t h1
        exact ⟨b :: bs, rfl, rfl⟩
    | non => cases h
    | int _ => cases h
    | str _ => cases h
    | lst _ _ => cases h
    | tup _ _ => cases h
/-- a call of the built-in repr with data -/
theorem anyTrue_bools {K : PySem.W.Frag} {G : Hp} : ∀ {xs : List V} {l : List PyData} {c : Bool}, DaAll K G xs l → anyTrue l = some c → ∃ bs : List Bool, xs = bs.map V.bl ∧ c = bs.any id
  | _, _, _, .nil, h => by
    cases h
    exact ⟨[], rfl, rfl⟩
  | _, _, _, .cons (d := d) (ds := ds) a t, h => by
    cases a with
    | bl b =>
      unfold anyTrue at h
      cases h1 : anyTrue ds with
      | none => rw [h1] at h; cases h
      | some c' =>
        rw [h1] at h
        cases h
        obtain ⟨bs, rfl, rfl⟩ := anyTrue_bools t h1
        exact ⟨b :: bs, rfl, rfl⟩
    | non => cases h
    | int _ => cases h
    | str _ => cases h
    | lst _ _ => cases h
    | tup _ _ => cases h
/-- a call of the built-in repr with data -/
theorem repr_data {X : Cx} {pins : List (Addr × Obj)} {s : Shared} {σ : L2.St} {H : Hp} {v : V} {u : Value} {d : PyData} {Q : VK} (I : Inv X pins σ H s) (r : RelV v u) (h : Dp X.K H v d) (hg : X.A.guards = some []) (hu : X.A.units + 100 < cLine)
    (ok : reprOk d = true) (q : Q (.str d.shown) H) : wpAny (model X.prog X.w) X.A (call (.builtin "repr") [u]) (EP X pins σ Q) X.xe s := by
  unfold reprOk at ok
  simp only [Bool.and_eq_true, decide_eq_true_eq, Bool.not_eq_true'] at ok
  obtain ⟨⟨⟨o1, o2⟩, o3⟩, o4⟩ := ok
  have o4' : d.shown.length ≤ sizeLine := by rw [← LINE_eq]; exact o4
  have fin : ∀ tk, EP X pins σ Q (.str d.shown tk) { s with toks := s.toks + 1 } := fun tk => ⟨.str d.shown, H, I.tok _, ⟨_, rfl⟩, q⟩
  cases h with
  | non => cases r; exact PySem.P.repr_of_none (fin _)
  | bl b => cases r; exact PySem.P.repr_of_bool (fin _)
  | int i =>
    obtain ⟨t, rfl⟩ := r
    exact PySem.P.repr_of_int (by simpa [PyData.showable] using o1) (fin _)
  | str x =>
    obtain ⟨t, rfl⟩ := r
    exact PySem.P.repr_of_str (fin _) (by simpa only [PyData.shown] using o4')
  | lst e a =>
    cases r
    obtain ⟨as, rd⟩ := Dp.reads I _ _ _ (.lst e a) rfl
    exact repr_of_reads' rd o1 (PyData.noDict_hsm o2) hg (by omega) (fun _ _ z => z) (fun h' u tk hk => ⟨.str _, H, I.kept (t' := tk) hk, ⟨_, rfl⟩, q⟩) o4'
  | tup e a =>
    cases r
    obtain ⟨as, rd⟩ := Dp.reads I _ _ _ (.tup e a) rfl
    exact repr_of_reads' rd o1 (PyData.noDict_hsm o2) hg (by omega) (fun _ _ z => z) (fun h' u tk hk => ⟨.str _, H, I.kept (t' := tk) hk, ⟨_, rfl⟩, q⟩) o4'
section
variable {X : Cx} {w0 : Ew}
theorem call_blt (hc : X.calm = true) (hg : X.A.guards = some []) (hu : X.A.units + 100 < cLine) (b : Blt) : CallR X (bltVal b) (rBlt X.K w0 b) := by
  intro pins s σ H xs us Q I r ⟨G, as, S, vs, W, σ', rst, a, f⟩
  unfold bltR at f
  cases h1 : derefs S vs with
  | none => rw [h1] at f; exact f.elim
  | some ds =>
    rw [h1] at f
    cases h2 : bltD b ds with
    | none => simp only [h2] at f; exact f.elim
    | some d =>
      simp only [h2] at f
      have f : FinG X.K w0 (At X.K) W σ' Q G as H (.ok (.dat d) S) := f
      have p := derefs_all rst a h1
      cases b with
      | len =>
        replace h2 : bLen ds = some d := h2
        unfold bLen at h2
        split at h2 <;> first | (cases h2; done) | skip
        · rename_i l heq
          cases h2
          cases p with
          | cons x t =>
            cases t
            obtain ⟨p, ys, rfl, e1, e2⟩ := x
            exact call_len_seq pins s σ H _ us Q I r ⟨_, _, rfl, .inl e1, by rw [e2.length]; exact same_val rst f (.int _)⟩
        · rename_i l heq
          cases h2
          cases p with
          | cons x t =>
            cases t
            cases x with
            | tup e1 e2 => exact call_len_seq pins s σ H _ us Q I r ⟨_, _, rfl, .inr (Same.seqT rst.same e1), by rw [e2.length]; exact same_val rst f (.int _)⟩
        · split at h2
          · rename_i z heq hz
            cases h2
            cases p with
            | cons x t =>
              cases t
              cases x
              exact call_len_str pins s σ H _ us Q I r ⟨_, rfl, by rw [← LINE_eq]; exact hz, same_val rst f (.int _)⟩
          · cases h2
      | abs =>
        replace h2 : bAbs ds = some d := h2
        unfold bAbs at h2
        split at h2 <;> first | (cases h2; done) | skip
        cases h2
        cases p with
        | cons x t =>
          cases t
          cases x
          exact call_abs pins s σ H _ us Q I r ⟨_, rfl, same_val rst f (.int _)⟩
      | max2 =>
        replace h2 : bMax ds = some d := h2
        unfold bMax at h2
        split at h2 <;> first | (cases h2; done) | skip
        cases h2
        cases p with
        | cons x t =>
          cases t with
          | cons y t =>
            cases t
            cases x
            cases y
            exact call_max2 hc pins s σ H _ us Q I r ⟨_, _, rfl, same_val rst f (.int _)⟩
      | int1 =>
        replace h2 : bInt ds = some d := h2
        unfold bInt at h2
        split at h2 <;> first | (cases h2; done) | skip
        cases h2
        cases p with
        | cons x t =>
          cases t
          cases x
          exact call_int1 pins s σ H _ us Q I r (.inl ⟨_, rfl, same_val rst f (.int _)⟩)
      | tup1 =>
        replace h2 : bTup ds = some d := h2
        unfold bTup at h2
        split at h2 <;> first | (cases h2; done) | skip
        · cases h2
          cases p with
          | cons x t =>
            cases t
            obtain ⟨p, ys, rfl, e1, e2⟩ := x
            exact call_tuple_of pins s σ H _ us Q I r ⟨_, _, rfl, .inl ⟨e1, new_tup rst f e2⟩⟩
        · cases h2
          cases p with
          | cons x t =>
            cases t
            cases x with
            | tup e1 e2 => exact call_tuple_of pins s σ H _ us Q I r ⟨_, _, rfl, .inr ⟨Same.seqT rst.same e1, same_val rst f (.tup e1 e2)⟩⟩
      | lst1 =>
        replace h2 : bLst ds = some d := h2
        unfold bLst at h2
        split at h2 <;> first | (cases h2; done) | skip
        cases h2
        cases p with
        | cons x t =>
          cases t
          cases x with
          | tup e1 e2 => exact call_list_of pins s σ H _ us Q I r ⟨_, _, rfl, .inr (Same.seqT rst.same e1), new_lst rst f e2⟩
      | divmod =>
        replace h2 : bDivmod ds = some d := h2
        unfold bDivmod at h2
        split at h2 <;> first | (cases h2; done) | skip
        split at h2
        · rename_i hz
          cases h2
          cases p with
          | cons x t =>
            cases t with
            | cons y t =>
              cases t
              cases x
              cases y
              exact call_divmod pins s σ H _ us Q I r ⟨_, _, rfl, hz, new_tup rst f (.cons (.int _) (.cons (.int _) .nil))⟩
        · cases h2
      | all1 =>
        replace h2 : bAll ds = some d := h2
        unfold bAll at h2
        split at h2 <;> first | (cases h2; done) | skip
        rename_i l
        cases e : allTrue l with
        | none => rw [e] at h2; cases h2
        | some c =>
          rw [e] at h2
          cases h2
          cases p with
          | cons x t =>
            cases t
            obtain ⟨p, ys, rfl, e1, e2⟩ := x
            obtain ⟨bs, rfl, rfl⟩ := allTrue_bools e2 e
            exact cr_all hc pins s σ H _ us Q I r ⟨_, _, rfl, e1, same_val rst f (.bl _)⟩
      | any1 =>
        replace h2 : bAny ds = some d := h2
        unfold bAny at h2
        split at h2 <;> first | (cases h2; done) | skip
        rename_i l
        cases e : anyTrue l with
        | none => rw [e] at h2; cases h2
        | some c =>
          rw [e] at h2
          cases h2
          cases p with
          | cons x t =>
            cases t
            obtain ⟨p, ys, rfl, e1, e2⟩ := x
            obtain ⟨bs, rfl, rfl⟩ := anyTrue_bools e2 e
            exact cr_any hc pins s σ H _ us Q I r ⟨_, _, rfl, e1, same_val rst f (.bl _)⟩
      | repr =>
        replace h2 : bRepr ds = some d := h2
        unfold bRepr at h2
        split at h2 <;> first | (cases h2; done) | skip
        split at h2
        · rename_i hz
          cases h2
          cases p with
          | cons x t =>
            cases t
            cases r with
            | cons r1 t1 =>
              cases t1
              exact repr_data I r1 (x.dp rst) hg hu hz (same_val rst f (.str _))
        · cases h2
      | min2 =>
        replace h2 : bMin ds = some d := h2
        unfold bMin at h2
        split at h2 <;> first | (cases h2; done) | skip
        cases h2
        cases p with
        | cons x t =>
          cases t with
          | cons y t =>
            cases t
            cases x
            cases y
            exact call_min2 hc pins s σ H _ us Q I r ⟨_, _, rfl, same_val rst f (.int _)⟩
      | str1 =>
        replace h2 : bStr ds = some d := h2
        unfold bStr at h2
        split at h2 <;> first | (cases h2; done) | skip
        · split at h2
          · rename_i hz
            cases h2
            cases p with
            | cons x t =>
              cases t
              cases x
              exact call_str_int pins s σ H _ us Q I r ⟨_, rfl, hz, same_val rst f (.str _)⟩
          · cases h2
        · cases h2
          cases p with
          | cons x t =>
            cases t
            cases x
            exact SkE.call_str_str pins s σ H _ us Q I r ⟨_, rfl, same_val rst f (.str _)⟩
      | sum1 =>
        replace h2 : bSum ds = some d := h2
        unfold bSum at h2
        split at h2 <;> first | (cases h2; done) | skip
        rename_i l
        cases e : intsOf l with
        | none => rw [e] at h2; cases h2
        | some ns =>
          rw [e] at h2
          cases h2
          cases p with
          | cons x t =>
            cases t
            obtain ⟨p, ys, rfl, e1, e2⟩ := x
            obtain rfl := ints_vals e2 e
            exact cr_sum hc pins s σ H _ us Q I r ⟨_, _, rfl, e1, same_val rst f (.int _)⟩
end
end Dw

set_option Elab.async false
set_option linter.all false
set_option maxRecDepth 100000
set_option maxHeartbeats 4000000
/-! Expressions, one construct after another. -/
namespace Dw
open PySem PySem.Spec PyProof.Rows L2

def isStar : Expr → Bool
  | .Starred _ _ => true
  | _ => false
theorem star_cons {e : Expr} (h : isStar e = false) (es : List Expr) (env : PySem.Env) : starEach (e :: es) env = (false, eval e env) :: starEach es env := by
  cases e <;> first | rfl | cases h
theorem star_all : ∀ {es : List Expr}, (es.all fun e => !isStar e) = true → ∀ (pos : Pos) (env : PySem.Env), (backTo pos (starEach es env)).any (·.1) = false
  | [], _, _, _ => rfl
  | e :: es, h, pos, env => by
    rw [List.all_cons, Bool.and_eq_true, Bool.not_eq_true'] at h
    rw [star_cons h.1]
    show (false || (backTo pos (starEach es env)).any (·.1)) = false
    rw [star_all h.2 pos env]
    rfl
theorem star_not : ∀ {es : List Expr}, (es.all fun e => !isStar e) = true → ∀ (pos : Pos) (env : PySem.Env), ((backTo pos (starEach es env)).all fun x => !x.1) = true
  | [], _, _, _ => rfl
  | e :: es, h, pos, env => by
    rw [List.all_cons, Bool.and_eq_true, Bool.not_eq_true'] at h
    rw [star_cons h.1]
    show (true && (backTo pos (starEach es env)).all fun x => !x.1) = true
    rw [star_not h.2 pos env]
    rfl
theorem R.bind_assoc {α β γ : Type} (r : R α) (f : α → Sto → R β) (g : β → Sto → R γ) : (r.bind f).bind g = r.bind fun a S => (f a S).bind g := by
  cases r <;> rfl
abbrev bB (f : Rho → Sto → R Val) : Rho → Sto → R Bool := fun ρ S => (f ρ S).bind toB

section
variable {X : Cx} {w0 : Ew} {W : WX} {fa fb fc : Rho → Sto → R Val} {a b c e : Expr} {pos : Pos}
theorem toB_some {K : PySem.W.Frag} {σ : L2.St} {Q : Bool → Hp → Prop} {G H : Hp} {as : List Addr} {x : Val} {S : Sto} (f : FinG K w0 relEq W σ Q G as H (toB x S)) : ∃ k, x = .dat (.bool k) ∧ FinG K w0 relEq W σ Q G as H (.ok k S) := by
  unfold toB at f
  split at f
  · exact ⟨_, rfl, f⟩
  · exact f.elim
theorem fin_tt {K : PySem.W.Frag} {σ : L2.St} {Q : Bool → Hp → Prop} {G H : Hp} {as : List Addr} {r : R Val} (f : FinG K w0 relEq W σ Q G as H (r.bind toB)) : FinG K w0 (At K) W σ (fun v H1 => ∃ k, v = .bl k ∧ Q k H1) G as H r := by
  refine (FinG.bind (rel' := At K) f).imp fun v H1 ⟨G1, as1, S1, x, x1, r1, a1, f1⟩ => ?_
  obtain ⟨k, rfl, f1⟩ := toB_some f1
  cases a1
  exact ⟨k, rfl, f1 G1 as1 H1 k Ext.refl r1 rfl⟩
theorem snd_test (h : PE X e (tE X.K w0 W fa)) (he : ∀ whole, isTrue e X.env whole = (do let v ← whole; standAt e.pos; holding [v] (truthy v))) : PT X e (tTB X.K w0 W (bB fa)) := by
  refine PT.imp (pt_val h he) fun σ H Q ⟨G, as, S, ρ, r0, e0, f⟩ => ⟨G, as, S, ρ, r0, e0, fin_tt f⟩
theorem snd_var {i : Nat} {x : Str} (hN : X.N[i]? = some x) (hv : Vis X.env.scope x) (h1 : (x == ("__debug__" : Str)) = false) (h2 : (x == ("__classdict__" : Str)) = false) :
    PE X (.Name x pos) (tE X.K w0 W fun ρ S => match ρ[i]? with
      | some (some v) => .ok v S
      | _ => .bad) := by
  refine PE.imp (pe_var hN hv h1 h2) fun σ H Q ⟨G, as, S, ρ, r0, e0, f⟩ => ?_
  cases h : ρ[i]? with
  | none => simp only [h] at f; exact f.elim
  | some o =>
    cases o with
    | none => simp only [h] at f; exact f.elim
    | some x =>
      simp only [h] at f
      obtain ⟨v, e1, a1⟩ := e0.2 i x h
      exact ⟨v, e1, f G as H v Ext.refl r0 a1⟩
theorem snd_con {t : TE} {d : PyData} {v : V} (h : PE X e (tC v)) (hd : ∀ G, Da X.K G v d) : PE X e (tE X.K w0 W fun _ S => .ok (.dat d) S) :=
  PE.imp h fun σ H Q ⟨G, as, S, ρ, r0, e0, f⟩ => f G as H v Ext.refl r0 (hd G)
theorem snd_neg (ha : PE X a (tE X.K w0 W fa)) : PE X (.UnaryOp .USub a pos) (tE X.K w0 W fun ρ S => (fa ρ S).bind negR) := by
  refine PE.imp (pe_un un_neg ha) fun σ H Q ⟨G, as, S, ρ, r0, e0, f⟩ => ⟨G, as, S, ρ, r0, e0, (FinG.bind f).imp ?_⟩
  intro v1 H1 ⟨G1, as1, S1, x, x1, r1, a1, f1⟩
  unfold negR at f1
  split at f1
  · cases a1
    exact ⟨_, rfl, f1 G1 as1 H1 _ Ext.refl r1 (.int _)⟩
  · exact f1.elim
theorem snd_bin {o : Operator} {op : Bop} (h : opC o op = true) (ha : PE X a (tE X.K w0 W fa)) (hb : PE X b (tE X.K w0 W fb)) :
    PE X (.BinOp a o b pos) (tE X.K w0 W fun ρ S => (fa ρ S).bind fun x S => (fb ρ S).bind fun y S => binR op x y S) := by
  refine PE.imp (pe_op (op_bin (w0 := w0) h) ha hb) fun σ H Q ⟨G, as, S, ρ, r0, e0, f⟩ => ⟨G, as, S, ρ, r0, e0, (FinG.bind f).imp ?_⟩
  intro v1 H1 ⟨G1, as1, S1, x, x1, r1, a1, f1⟩
  refine ⟨G1, as1, S1, ρ, r1, e0.ext x1, (FinG.bind f1).imp ?_⟩
  intro v2 H2 ⟨G2, as2, S2, y, x2, r2, a2, f2⟩
  exact ⟨G2, as2, S2, x, y, W, σ, r2, a1.ext x2, a2, f2⟩
abbrev cmpF (op : Cop) (fa fb : Rho → Sto → R Val) : Rho → Sto → R Val := fun ρ S => (fa ρ S).bind fun x S => (fb ρ S).bind fun y S => cmpR op x y S
theorem cmp_step {op : Cop} {K : PySem.W.Frag} {σ : L2.St} {H : Hp} {Q : VK} : tE K w0 W (cmpF op fa fb) σ H Q → tOp (rCmp K w0 op) (tE K w0 W fa) (tE K w0 W fb) σ H Q := fun ⟨G, as, S, ρ, r0, e0, f⟩ => by
  refine ⟨G, as, S, ρ, r0, e0, (FinG.bind f).imp ?_⟩
  intro v1 H1 ⟨G1, as1, S1, x, x1, r1, a1, f1⟩
  refine ⟨G1, as1, S1, ρ, r1, e0.ext x1, (FinG.bind f1).imp ?_⟩
  intro v2 H2 ⟨G2, as2, S2, y, x2, r2, a2, f2⟩
  exact ⟨G2, as2, S2, x, y, W, σ, r2, a1.ext x2, a2, f2⟩
theorem snd_cmp {o : CmpOp} {op : Cop} (hu : X.A.units + 66 < cLine) (h : cmpC o op = true) (hm : behindInMarks o b = false) (ha : PE X a (tE X.K w0 W fa)) (hb : PE X b (tE X.K w0 W fb)) :
    PE X (.Compare a [o] [b] pos) (tE X.K w0 W (cmpF op fa fb)) := PE.imp (pe_cmpR (op_cmp (w0 := w0) hu h) ha hb hm) fun _ _ _ f => cmp_step f
/-- a value's test -/
theorem tt_step {K : PySem.W.Frag} {σ : L2.St} {H : Hp} {Q : Bool → Hp → Prop} : tTB K w0 W (bB fa) σ H Q → tE K w0 W fa σ H (fun v H1 => ∃ k, v = .bl k ∧ Q k H1) := fun ⟨G, as, S, ρ, r0, e0, f⟩ => ⟨G, as, S, ρ, r0, e0, fin_tt f⟩
theorem snt_cmp {o : CmpOp} {op : Cop} (hu : X.A.units + 66 < cLine) (h : cmpC o op = true) (hm : behindInMarks o b = false) (ha : PE X a (tE X.K w0 W fa)) (hb : PE X b (tE X.K w0 W fb)) :
    PT X (.Compare a [o] [b] pos) (tTB X.K w0 W (bB (cmpF op fa fb))) := PT.imp (pt_cmpR (op_cmp (w0 := w0) hu h) ha hb hm) fun _ _ _ f => cmp_step (tt_step f)
abbrev chnF (op op' : Cop) (fa fb fc : Rho → Sto → R Val) : Rho → Sto → R Val := fun ρ S => (fa ρ S).bind fun x S => (fb ρ S).bind fun y S => ((cmpR op x y S).bind toB).bind fun k S =>
  if k = true then (fc ρ S).bind fun z S => cmpR op' y z S else .ok (.dat (.bool false)) S
theorem chn_step {op op' : Cop} {K : PySem.W.Frag} {σ : L2.St} {H : Hp} {Q : VK} : tE K w0 W (chnF op op' fa fb fc) σ H Q → tChain (rCmp K w0 op) (rCmp K w0 op') (tE K w0 W fa) (tE K w0 W fb) (tE K w0 W fc) σ H Q := fun ⟨G, as, S, ρ, r0, e0, f⟩ => by
  refine ⟨G, as, S, ρ, r0, e0, (FinG.bind f).imp ?_⟩
  intro v1 H1 ⟨G1, as1, S1, x, x1, r1, a1, f1⟩
  refine ⟨G1, as1, S1, ρ, r1, e0.ext x1, (FinG.bind f1).imp ?_⟩
  intro v2 H2 ⟨G2, as2, S2, y, x2, r2, a2, f2⟩
  have f3 := FinG.bind (rel' := relEq) f2
  refine ⟨G2, as2, S2, x, y, W, σ, r2, a1.ext x2, a2, (fin_tt f3).imp fun v3 H3 ⟨k, e, G3, as3, S3, k', x3, r3, ek, f4⟩ => ⟨k, e, ?_⟩⟩
  obtain rfl : k = k' := ek
  cases k with
  | false => exact f4 G3 as3 H3 _ Ext.refl r3 (.bl false)
  | true =>
    refine iteT ⟨G3, as3, S3, ρ, r3, ((e0.ext x1).ext x2).ext x3, (FinG.bind f4).imp ?_⟩
    intro v4 H4 ⟨G4, as4, S4, z, x4, r4, a4, f5⟩
    exact ⟨G4, as4, S4, y, z, W, σ, r4, (a2.ext x3).ext x4, a4, f5⟩
theorem snd_chn {o o' : CmpOp} {op op' : Cop} (hu : X.A.units + 66 < cLine) (h : cmpC o op = true) (h' : cmpC o' op' = true) (hm : lastMarks [o, o'] [b, c] = false) (ha : PE X a (tE X.K w0 W fa)) (hb : PE X b (tE X.K w0 W fb)) (hc : PE X c (tE X.K w0 W fc)) :
    PE X (.Compare a [o, o'] [b, c] pos) (tE X.K w0 W (chnF op op' fa fb fc)) := PE.imp (pe_chain (op_cmp (w0 := w0) hu h) (op_cmp (w0 := w0) hu h') ha hb hc hm) fun _ _ _ f => chn_step f
theorem snt_chn {o o' : CmpOp} {op op' : Cop} (hu : X.A.units + 66 < cLine) (h : cmpC o op = true) (h' : cmpC o' op' = true) (hm : lastMarks [o, o'] [b, c] = false) (ha : PE X a (tE X.K w0 W fa)) (hb : PE X b (tE X.K w0 W fb)) (hc : PE X c (tE X.K w0 W fc)) :
    PT X (.Compare a [o, o'] [b, c] pos) (tTB X.K w0 W (bB (chnF op op' fa fb fc))) := PT.imp (pt_chain (op_cmp (w0 := w0) hu h) (op_cmp (w0 := w0) hu h') ha hb hc hm) fun _ _ _ f => chn_step (tt_step f)
theorem at_none {K : PySem.W.Frag} {G : Hp} {as : List Addr} {v : V} {x : Val} (a : At K G as v x) : decide (v = .non) = isNone x := by
  cases x with
  | dat d =>
    cases d <;> cases a <;> rfl
  | cell k => obtain ⟨p, rfl, _⟩ := a; rfl
  | cells k => obtain ⟨p, _, rfl, _⟩ := a; rfl
  | scr l => obtain ⟨p, _, rfl, _⟩ := a; rfl
  | dct kvs => obtain ⟨p, _, rfl, _⟩ := a; rfl
  | fn f => exact a.elim
abbrev isF (fa : Rho → Sto → R Val) : Rho → Sto → R Val := fun ρ S => (fa ρ S).bind fun x S => .ok (.dat (.bool (isNone x))) S
abbrev isnF (fa : Rho → Sto → R Val) : Rho → Sto → R Val := fun ρ S => (fa ρ S).bind fun x S => .ok (.dat (.bool (!isNone x))) S
theorem snd_isN {j : Nat} {p2 : Pos} (ha : PE X a (tE X.K w0 W fa)) : PE X (.Compare a [.Is] [.Constant .none j p2] pos) (tE X.K w0 W (isF fa)) := by
  refine PE.imp (pe_cmp (pc_isN ha) (nobehind _ (by decide) (by decide))) fun σ H Q ⟨G, as, S, ρ, r0, e0, f⟩ => ⟨G, as, S, ρ, r0, e0, (FinG.bind f).imp ?_⟩
  intro v1 H1 ⟨G1, as1, S1, x, x1, r1, a1, f1⟩
  rw [at_none a1]
  exact f1 G1 as1 H1 _ Ext.refl r1 (.bl _)
theorem snd_notN {j : Nat} {p2 : Pos} (ha : PE X a (tE X.K w0 W fa)) : PE X (.Compare a [.IsNot] [.Constant .none j p2] pos) (tE X.K w0 W (isnF fa)) := by
  refine PE.imp (pe_cmp (pc_notN ha) (nobehind _ (by decide) (by decide))) fun σ H Q ⟨G, as, S, ρ, r0, e0, f⟩ => ⟨G, as, S, ρ, r0, e0, (FinG.bind f).imp ?_⟩
  intro v1 H1 ⟨G1, as1, S1, x, x1, r1, a1, f1⟩
  rw [at_none a1]
  exact f1 G1 as1 H1 _ Ext.refl r1 (.bl _)
theorem snt_isN {j : Nat} {p2 : Pos} (ha : PE X a (tE X.K w0 W fa)) : PT X (.Compare a [.Is] [.Constant .none j p2] pos) (tTB X.K w0 W (bB (isF fa))) := by
  refine PT.imp (pt_cmp (pc_isN ha) (nobehind _ (by decide) (by decide))) fun σ H Q f => ?_
  obtain ⟨G, as, S, ρ, r0, e0, f⟩ := tt_step f
  refine ⟨G, as, S, ρ, r0, e0, (FinG.bind f).imp ?_⟩
  intro v1 H1 ⟨G1, as1, S1, x, x1, r1, a1, f1⟩
  rw [at_none a1]
  exact f1 G1 as1 H1 _ Ext.refl r1 (.bl _)
theorem snt_notN {j : Nat} {p2 : Pos} (ha : PE X a (tE X.K w0 W fa)) : PT X (.Compare a [.IsNot] [.Constant .none j p2] pos) (tTB X.K w0 W (bB (isnF fa))) := by
  refine PT.imp (pt_cmp (pc_notN ha) (nobehind _ (by decide) (by decide))) fun σ H Q f => ?_
  obtain ⟨G, as, S, ρ, r0, e0, f⟩ := tt_step f
  refine ⟨G, as, S, ρ, r0, e0, (FinG.bind f).imp ?_⟩
  intro v1 H1 ⟨G1, as1, S1, x, x1, r1, a1, f1⟩
  rw [at_none a1]
  exact f1 G1 as1 H1 _ Ext.refl r1 (.bl _)
abbrev notF (fa : Rho → Sto → R Val) : Rho → Sto → R Val := fun ρ S => ((fa ρ S).bind toB).bind fun c S => .ok (.dat (.bool (!c))) S
theorem snt_not (ha : PT X a (tTB X.K w0 W (bB fa))) : PT X (.UnaryOp .Not a pos) (tTB X.K w0 W (bB (notF fa))) := by
  refine PT.imp (pt_not ha) fun σ H Q f => ?_
  obtain ⟨G, as, S, ρ, r0, e0, f⟩ := tt_step f
  refine ⟨G, as, S, ρ, r0, e0, (FinG.bind (rel' := relEq) f).imp ?_⟩
  intro k H1 ⟨G1, as1, S1, x, x1, r1, a1, f1⟩
  obtain rfl : k = x := a1
  obtain ⟨k', e, q⟩ := f1 G1 as1 H1 _ Ext.refl r1 (.bl _)
  cases e
  exact q
theorem snd_not (ha : PE X a (tE X.K w0 W fa)) : PE X (.UnaryOp .Not a pos) (tE X.K w0 W (notF fa)) := by
  refine PE.imp (pe_not ha) fun σ H Q ⟨G, as, S, ρ, r0, e0, f⟩ => ⟨G, as, S, ρ, r0, e0, (fin_tt (FinG.bind (rel' := relEq) f)).imp ?_⟩
  intro v1 H1 ⟨k, e, G1, as1, S1, x, x1, r1, a1, f1⟩
  obtain rfl : k = x := a1
  exact ⟨k, e, f1 G1 as1 H1 _ Ext.refl r1 (.bl _)⟩
abbrev ifF (fc fa fb : Rho → Sto → R Val) : Rho → Sto → R Val := fun ρ S => ((fc ρ S).bind toB).bind fun k S => if k = true then fa ρ S else fb ρ S
theorem snd_ife (hc : PT X c (tTB X.K w0 W (bB fc))) (ha : PE X a (tE X.K w0 W fa)) (hb : PE X b (tE X.K w0 W fb)) : PE X (.IfExp c a b pos) (tE X.K w0 W (ifF fc fa fb)) := by
  refine PE.imp (pe_ifExp hc ha hb) fun σ H Q ⟨G, as, S, ρ, r0, e0, f⟩ => ⟨G, as, S, ρ, r0, e0, (FinG.bind (rel' := relEq) f).imp ?_⟩
  intro k H1 ⟨G1, as1, S1, x, x1, r1, a1, f1⟩
  obtain rfl : k = x := a1
  cases k with
  | true => exact iteT ⟨G1, as1, S1, ρ, r1, e0.ext x1, f1⟩
  | false => exact iteF ⟨G1, as1, S1, ρ, r1, e0.ext x1, f1⟩
/-! and, or -/
abbrev andF (fa fb : Rho → Sto → R Val) : Rho → Sto → R Val := fun ρ S => ((fa ρ S).bind toB).bind fun k S => if k = true then fb ρ S else .ok (.dat (.bool false)) S
abbrev orF (fa fb : Rho → Sto → R Val) : Rho → Sto → R Val := fun ρ S => ((fa ρ S).bind toB).bind fun k S => if k = true then .ok (.dat (.bool true)) S else fb ρ S
theorem snd_and {rest : List Expr} (ha : PE X a (tE X.K w0 W fa)) (hb : PE X (.BoolOp .And (b :: rest) pos) (tE X.K w0 W fb)) : PE X (.BoolOp .And (a :: b :: rest) pos) (tE X.K w0 W (andF fa fb)) := by
  refine PE.imp (pe_and ha hb) fun σ H Q ⟨G, as, S, ρ, r0, e0, f⟩ => ⟨G, as, S, ρ, r0, e0, (fin_tt (FinG.bind (rel' := relEq) f)).imp ?_⟩
  intro v1 H1 ⟨k, e, G1, as1, S1, x, x1, r1, a1, f1⟩
  obtain rfl : k = x := a1
  refine ⟨k, e, ?_⟩
  cases k with
  | true => exact iteT ⟨G1, as1, S1, ρ, r1, e0.ext x1, f1⟩
  | false => exact iteF (f1 G1 as1 H1 _ Ext.refl r1 (.bl _))
theorem snd_or {rest : List Expr} (ha : PE X a (tE X.K w0 W fa)) (hb : PE X (.BoolOp .Or (b :: rest) pos) (tE X.K w0 W fb)) : PE X (.BoolOp .Or (a :: b :: rest) pos) (tE X.K w0 W (orF fa fb)) := by
  refine PE.imp (pe_or ha hb) fun σ H Q ⟨G, as, S, ρ, r0, e0, f⟩ => ⟨G, as, S, ρ, r0, e0, (fin_tt (FinG.bind (rel' := relEq) f)).imp ?_⟩
  intro v1 H1 ⟨k, e, G1, as1, S1, x, x1, r1, a1, f1⟩
  obtain rfl : k = x := a1
  refine ⟨k, e, ?_⟩
  cases k with
  | true => exact iteT (f1 G1 as1 H1 _ Ext.refl r1 (.bl _))
  | false => exact iteF ⟨G1, as1, S1, ρ, r1, e0.ext x1, f1⟩
theorem snt_and {rest : List Expr} (ha : PT X a (tTB X.K w0 W (bB fa))) (hb : PW X (.BoolOp .And (b :: rest) pos) (tTB X.K w0 W (bB fb))) : PW X (.BoolOp .And (a :: b :: rest) pos) (tTB X.K w0 W (bB (andF fa fb))) := by
  refine PW.imp (pw_and ha hb) fun σ H Q f => ?_
  obtain ⟨G, as, S, ρ, r0, e0, f⟩ := f
  have f : FinG X.K w0 relEq W σ Q G as H ((((fa ρ S).bind toB).bind fun k S => if k = true then fb ρ S else .ok (.dat (.bool false)) S).bind toB) := f
  rw [R.bind_assoc ((fa ρ S).bind toB)] at f
  refine ⟨G, as, S, ρ, r0, e0, (FinG.bind (rel' := relEq) f).imp ?_⟩
  intro k H1 ⟨G1, as1, S1, x, x1, r1, a1, f1⟩
  obtain rfl : k = x := a1
  cases k with
  | true => exact iteT ⟨G1, as1, S1, ρ, r1, e0.ext x1, f1⟩
  | false => exact iteF (f1 G1 as1 H1 false Ext.refl r1 rfl)
theorem snt_or {rest : List Expr} (ha : PT X a (tTB X.K w0 W (bB fa))) (hb : PW X (.BoolOp .Or (b :: rest) pos) (tTB X.K w0 W (bB fb))) : PW X (.BoolOp .Or (a :: b :: rest) pos) (tTB X.K w0 W (bB (orF fa fb))) := by
  refine PW.imp (pw_or ha hb) fun σ H Q f => ?_
  obtain ⟨G, as, S, ρ, r0, e0, f⟩ := f
  have f : FinG X.K w0 relEq W σ Q G as H ((((fa ρ S).bind toB).bind fun k S => if k = true then .ok (.dat (.bool true)) S else fb ρ S).bind toB) := f
  rw [R.bind_assoc ((fa ρ S).bind toB)] at f
  refine ⟨G, as, S, ρ, r0, e0, (FinG.bind (rel' := relEq) f).imp ?_⟩
  intro k H1 ⟨G1, as1, S1, x, x1, r1, a1, f1⟩
  obtain rfl : k = x := a1
  cases k with
  | true => exact iteT (f1 G1 as1 H1 true Ext.refl r1 rfl)
  | false => exact iteF ⟨G1, as1, S1, ρ, r1, e0.ext x1, f1⟩
end

/-! ### lists of expressions, displays, subscripts, built-ins -/
section
variable {X : Cx} {w0 : Ew} {W : WX} {fa fb : Rho → Sto → R Val} {fs : Rho → Sto → R (List Val)} {a b e : Expr} {es : List Expr} {pos : Pos}
theorem sna_nil : PA X [] (tA X.K w0 W fun _ S => .ok [] S) := PA.imp pa_nil fun σ H Q ⟨G, as, S, ρ, r0, e0, f⟩ => f G as H [] Ext.refl r0 .nil
theorem sna_cons (hs : isStar e = false) (ha : PE X e (tE X.K w0 W fa)) (hr : PA X es (tA X.K w0 W fs)) : PA X (e :: es) (tA X.K w0 W fun ρ S => (fa ρ S).bind fun v S => (fs ρ S).bind fun vs S => .ok (v :: vs) S) := by
  refine PA.imp (pa_cons ha hr (star_cons hs es X.env)) fun σ H Q ⟨G, as, S, ρ, r0, e0, f⟩ => ⟨G, as, S, ρ, r0, e0, (FinG.bind f).imp ?_⟩
  intro v1 H1 ⟨G1, as1, S1, x, x1, r1, a1, f1⟩
  refine ⟨G1, as1, S1, ρ, r1, e0.ext x1, (FinG.bind f1).imp ?_⟩
  intro vs H2 ⟨G2, as2, S2, y, x2, r2, a2, f2⟩
  exact f2 G2 as2 H2 _ Ext.refl r2 (.cons (a1.ext x2) a2)
theorem snk_nil : PK X [] (tA X.K w0 W fun _ S => .ok [] S) := ⟨fun pos pins s σ H Q I ⟨G, as, S, ρ, r0, e0, f⟩ => pk_nil.run pos pins s σ H Q I (f G as H [] Ext.refl r0 .nil)⟩
theorem snk_cons {nm : Option Str} {kpos : Pos} {kws : List Keyword} (ha : PE X e (tE X.K w0 W fa)) (hr : PK X kws (tA X.K w0 W fs)) : PK X (⟨nm, e, kpos⟩ :: kws) (tA X.K w0 W fun ρ S => (fa ρ S).bind fun v S => (fs ρ S).bind fun vs S => .ok (v :: vs) S) := by
  refine ⟨fun pos pins s σ H Q I ⟨G, as, S, ρ, r0, e0, f⟩ => (pk_cons ha hr).run pos pins s σ H Q I ⟨G, as, S, ρ, r0, e0, (FinG.bind f).imp ?_⟩⟩
  intro v1 H1 ⟨G1, as1, S1, x, x1, r1, a1, f1⟩
  refine ⟨G1, as1, S1, ρ, r1, e0.ext x1, (FinG.bind f1).imp ?_⟩
  intro vs H2 ⟨G2, as2, S2, y, x2, r2, a2, f2⟩
  exact f2 G2 as2 H2 _ Ext.refl r2 (.cons (a1.ext x2) a2)
theorem plains_all {K : PySem.W.Frag} {G : Hp} {as : List Addr} : ∀ {xs : List V} {vs : List Val} {ds : List PyData}, Ats K G as xs vs → plains vs = some ds → DaAll K G xs ds
  | _, _, _, .nil, e => by cases e; exact .nil
  | _, v :: vs, _, .cons a t, e => by
    cases v with
    | dat d =>
      unfold plains at e
      cases h : plains vs with
      | none => rw [h] at e; cases e
      | some ds =>
        rw [h] at e
        cases e
        exact .cons a (plains_all t h)
    | _ => cases e
theorem cells_all {K : PySem.W.Frag} {G : Hp} {as : List Addr} : ∀ {xs : List V} {vs : List Val} {ks : List Nat}, Ats K G as xs vs → cellsOf vs = some ks → ∃ bs : List Addr, xs = bs.map V.ref ∧ Refs as bs ks
  | _, _, _, .nil, e => by cases e; exact ⟨[], rfl, .nil⟩
  | _, v :: vs, _, .cons a t, e => by
    cases v with
    | cell k =>
      unfold cellsOf at e
      cases h : cellsOf vs with
      | none => rw [h] at e; cases e
      | some ks =>
        rw [h] at e
        cases e
        obtain ⟨bs, rfl, r⟩ := cells_all t h
        obtain ⟨p, rfl, ep⟩ := a
        exact ⟨p :: bs, rfl, .cons ep r⟩
    | _ => cases e
theorem ats_len {K : PySem.W.Frag} {G : Hp} {as : List Addr} : ∀ {xs : List V} {vs : List Val}, Ats K G as xs vs → xs.length = vs.length
  | _, _, .nil => rfl
  | _, _, .cons _ t => by rw [List.length_cons, List.length_cons, ats_len t]
theorem Ats.ext {K : PySem.W.Frag} {G H G1 H1 : Hp} {as as1 : List Addr} (x : Ext G as H G1 as1 H1) : ∀ {xs : List V} {vs : List Val}, Ats K G as xs vs → Ats K G1 as1 xs vs
  | _, _, .nil => .nil
  | _, _, .cons a t => .cons (a.ext x) (Ats.ext x t)
/-- a list that has been made holds what was collected -/
theorem collect_at {K : PySem.W.Frag} {G : Hp} {as : List Addr} {p : Addr} {xs : List V} {vs : List Val} {x : Val} (h : G p = some (.lst xs)) (a : Ats K G as xs vs) (e : collect vs = some x) : At K G as (.ref p) x := by
  unfold collect at e
  cases h1 : plains vs with
  | some ds =>
    rw [h1] at e
    cases e
    exact .lst h (plains_all a h1)
  | none =>
    rw [h1] at e
    cases h2 : cellsOf vs with
    | none => rw [h2] at e; cases e
    | some ks =>
      rw [h2] at e
      cases e
      obtain ⟨bs, rfl, r⟩ := cells_all a h2
      exact ⟨p, bs, rfl, h, r⟩
theorem snd_tup {j : Nat} (ha : PA X es (tA X.K w0 W fs)) (hl : es.length ≤ 1000) (hfs : ∀ ρ S vs S', fs ρ S = .ok vs S' → vs.length = es.length) : PE X (.Tuple es j pos) (tE X.K w0 W fun ρ S => (fs ρ S).bind tupR) := by
  refine PE.imp (pe_tup ha) fun σ H Q ⟨G, as, S, ρ, r0, e0, f⟩ => ⟨G, as, S, ρ, r0, e0, ?_⟩
  have f : FinG X.K w0 (At X.K) W σ Q G as H ((fs ρ S).bind tupR) := f
  cases h : fs ρ S with
  | exc c d S1 => rw [h] at f; exact f
  | bad => rw [h] at f; exact f
  | ok vs S1 =>
    have hv := hfs ρ S vs S1 h
    rw [h] at f
    intro G1 as1 H1 xs x1 r1 a1
    have f1 := FinG.shift f x1
    refine ⟨by rw [ats_len a1, hv]; exact Nat.le_of_lt (small1000 hl), ?_⟩
    have f1 : FinG X.K w0 (At X.K) W σ Q G1 as1 H1 (tupR vs S1) := f1
    unfold tupR at f1
    cases h1 : plains vs with
    | none => rw [h1] at f1; exact f1.elim
    | some ds =>
      rw [h1] at f1
      exact new_tup r1 f1 (plains_all a1 h1)
theorem snd_lst (ha : PA X es (tA X.K w0 W fs)) (hl : es.length ≤ 1000) (hfs : ∀ ρ S vs S', fs ρ S = .ok vs S' → vs.length = es.length) : PE X (.List es pos) (tE X.K w0 W fun ρ S => (fs ρ S).bind lstR) := by
  refine PE.imp (pe_lst ha) fun σ H Q ⟨G, as, S, ρ, r0, e0, f⟩ => ⟨G, as, S, ρ, r0, e0, ?_⟩
  have f : FinG X.K w0 (At X.K) W σ Q G as H ((fs ρ S).bind lstR) := f
  cases h : fs ρ S with
  | exc c d S1 => rw [h] at f; exact f
  | bad => rw [h] at f; exact f
  | ok vs S1 =>
    have hv := hfs ρ S vs S1 h
    rw [h] at f
    intro G1 as1 H1 xs x1 r1 a1
    have f1 : FinG X.K w0 (At X.K) W σ Q G1 as1 H1 (lstR vs S1) := FinG.shift f x1
    refine ⟨by rw [ats_len a1, hv]; exact Nat.le_of_lt (small1000 hl), fun p np => ?_⟩
    unfold lstR at f1
    cases h1 : collect vs with
    | none => rw [h1] at f1; exact f1.elim
    | some x =>
      rw [h1] at f1
      obtain ⟨r', xe, e1⟩ := r1.new np (.lst xs)
      exact f1.now xe r' (collect_at e1 (Ats.ext xe a1) h1)
theorem snd_new (ha : PA X es (tA X.K w0 W fs)) (hl : es.length ≤ 1000) (hfs : ∀ ρ S vs S', fs ρ S = .ok vs S' → vs.length = es.length) : PE X (.List es pos) (tE X.K w0 W fun ρ S => (fs ρ S).bind newR) := by
  refine PE.imp (pe_lst ha) fun σ H Q ⟨G, as, S, ρ, r0, e0, f⟩ => ⟨G, as, S, ρ, r0, e0, ?_⟩
  have f : FinG X.K w0 (At X.K) W σ Q G as H ((fs ρ S).bind newR) := f
  cases h : fs ρ S with
  | exc c d S1 => rw [h] at f; exact f
  | bad => rw [h] at f; exact f
  | ok vs S1 =>
    have hv := hfs ρ S vs S1 h
    rw [h] at f
    intro G1 as1 H1 xs x1 r1 a1
    have f1 : FinG X.K w0 (At X.K) W σ Q G1 as1 H1 (newR vs S1) := FinG.shift f x1
    refine ⟨by rw [ats_len a1, hv]; exact Nat.le_of_lt (small1000 hl), fun p np => ?_⟩
    unfold newR at f1
    cases h1 : plains vs with
    | none => rw [h1] at f1; exact f1.elim
    | some ds =>
      rw [h1] at f1
      obtain ⟨r', xe, e1⟩ := r1.newCell np (plains_all a1 h1)
      exact f1.now xe r' ⟨p, rfl, e1⟩
/-! displays with stars -/
theorem dat_ats {K : PySem.W.Frag} {G : Hp} {as : List Addr} : ∀ {xs : List V} {l : List PyData}, DaAll K G xs l → Ats K G as xs (l.map .dat)
  | _, _, .nil => .nil
  | _, _, .cons a t => .cons a (dat_ats t)
theorem app_ats {K : PySem.W.Frag} {G : Hp} {as : List Addr} : ∀ {xs ys : List V} {l m : List Val}, Ats K G as xs l → Ats K G as ys m → Ats K G as (xs ++ ys) (l ++ m)
  | _, _, _, _, .nil, b => b
  | _, _, _, _, .cons a t, b => .cons a (app_ats t b)
theorem sna_one {fd : Rho → Sto → R (List Val)} (hs : isStar e = false) (he : PE X e (tE X.K w0 W fa)) (hr : PA X es (tA X.K w0 W fd)) :
    PA X (e :: es) (tA X.K w0 W fun ρ S => (fa ρ S).bind fun v S => (splD false v S).bind fun us S => (fd ρ S).bind fun vs S => .ok (us ++ vs) S) := by
  refine PA.imp (pa_cons he hr (star_cons hs es X.env)) fun σ H Q ⟨G, as, S, ρ, r0, e0, f⟩ => ⟨G, as, S, ρ, r0, e0, (FinG.bind f).imp ?_⟩
  intro v1 H1 ⟨G1, as1, S1, x, x1, r1, a1, f1⟩
  have f1 : FinG X.K w0 (Ats X.K) W σ Q G1 as1 H1 ((fd ρ S1).bind fun vs S => .ok ([x] ++ vs) S) := f1
  refine ⟨G1, as1, S1, ρ, r1, e0.ext x1, (FinG.bind (rel' := Ats X.K) f1).imp ?_⟩
  intro v2 H2 ⟨G2, as2, S2, y, x2, r2, a2, f2⟩
  exact f2 G2 as2 H2 _ Ext.refl r2 (.cons (a1.ext x2) a2)
theorem sna_star {p : Pos} {fd : Rho → Sto → R (List Val)} (he : PE X e (tE X.K w0 W fa)) (hr : PA X es (tA X.K w0 W fd)) :
    PA X (.Starred e p :: es) (tA X.K w0 W fun ρ S => (fa ρ S).bind fun v S => (splD true v S).bind fun us S => (fd ρ S).bind fun vs S => .ok (us ++ vs) S) := by
  refine PA.imp (StX.pa_star he hr) fun σ H Q ⟨G, as, S, ρ, r0, e0, f⟩ => ⟨G, as, S, ρ, r0, e0, (FinG.bind f).imp ?_⟩
  intro v1 H1 ⟨G1, as1, S1, x, x1, r1, a1, f1⟩
  have go : ∀ (q : Addr) (xs : List V) (l : List PyData), v1 = .ref q → (SqT X.K H1 q xs ∨ SqL X.K H1 q xs) → DaAll X.K G1 xs l → FinG X.K w0 (Ats X.K) W σ Q G1 as1 H1 ((R.ok (l.map .dat) S1).bind fun us S => (fd ρ S).bind fun vs S => .ok (us ++ vs) S) →
      ∃ p xs, v1 = V.ref p ∧ (SqT X.K H1 p xs ∨ SqL X.K H1 p xs) ∧ tA X.K w0 W fd σ H1 fun ys H2 => Q (xs ++ ys) H2 := by
    intro q xs l e1 e2 e3 f1
    refine ⟨q, xs, e1, e2, G1, as1, S1, ρ, r1, e0.ext x1, (FinG.bind (rel' := Ats X.K) (r := fd ρ S1) f1).imp ?_⟩
    intro v2 H2 ⟨G2, as2, S2, y, x2, r2, a2, f2⟩
    exact f2 G2 as2 H2 _ Ext.refl r2 (app_ats (dat_ats (DaAll.mono x2.g _ _ e3)) a2)
  cases h : deref S1 x with
  | none => unfold splD at f1; simp only [h] at f1; exact f1.elim
  | some d =>
    have rr := rr_of r1 a1 h
    unfold splD at f1
    simp only [h] at f1
    cases d with
    | list l =>
      obtain ⟨q, xs, e1, e2, e3⟩ := rr
      exact go q xs l e1 (.inr e2) e3 f1
    | tuple l =>
      cases rr with
      | tup h1 h2 => exact go _ _ l rfl (.inl (Same.seqT r1.same h1)) h2 f1
    | _ => exact f1.elim
theorem snd_dspT {j : Nat} (ha : PA X es (tA X.K w0 W fs)) : PE X (.Tuple es j pos) (tE X.K w0 W fun ρ S => (fs ρ S).bind (dspR true)) := by
  refine PE.imp (pe_tup ha) fun σ H Q ⟨G, as, S, ρ, r0, e0, f⟩ => ⟨G, as, S, ρ, r0, e0, (FinG.bind (rel' := Ats X.K) f).imp ?_⟩
  intro xs H1 ⟨G1, as1, S1, vs, x1, r1, a1, f1⟩
  have f1 : FinG X.K w0 (At X.K) W σ Q G1 as1 H1 (dspR true vs S1) := f1
  unfold dspR at f1
  by_cases hl : vs.length ≤ LINE
  · rw [if_pos hl] at f1
    refine ⟨by rw [ats_len a1, sizeLine_eq]; exact hl, ?_⟩
    cases h1 : plains vs with
    | none => rw [h1] at f1; exact f1.elim
    | some ds =>
      rw [h1] at f1
      exact new_tup r1 f1 (plains_all a1 h1)
  · rw [if_neg hl] at f1; exact f1.elim
theorem snd_dspL (ha : PA X es (tA X.K w0 W fs)) : PE X (.List es pos) (tE X.K w0 W fun ρ S => (fs ρ S).bind (dspR false)) := by
  refine PE.imp (pe_lst ha) fun σ H Q ⟨G, as, S, ρ, r0, e0, f⟩ => ⟨G, as, S, ρ, r0, e0, (FinG.bind (rel' := Ats X.K) f).imp ?_⟩
  intro xs H1 ⟨G1, as1, S1, vs, x1, r1, a1, f1⟩
  have f1 : FinG X.K w0 (At X.K) W σ Q G1 as1 H1 (dspR false vs S1) := f1
  unfold dspR at f1
  by_cases hl : vs.length ≤ LINE
  · rw [if_pos hl] at f1
    refine ⟨by rw [ats_len a1, sizeLine_eq]; exact hl, fun p np => ?_⟩
    cases h1 : plains vs with
    | none => rw [h1] at f1; exact f1.elim
    | some ds =>
      rw [h1] at f1
      obtain ⟨r', xe, e1⟩ := r1.new np (.lst xs)
      exact f1.now xe r' (.lst e1 (DaAll.mono xe.g _ _ (plains_all a1 h1)))
  · rw [if_neg hl] at f1; exact f1.elim
theorem snd_idx (hu : X.A.units + 1 < cLine) (hs : PlainIx b) (ha : PE X a (tE X.K w0 W fa)) (hb : PE X b (tE X.K w0 W fb)) : PE X (.Subscript a b pos) (tE X.K w0 W fun ρ S => (fa ρ S).bind fun x S => (fb ρ S).bind fun y S => idxR x y S) := by
  refine PE.imp (pe_ix (ix_any (w0 := w0) hu) ha hb hs) fun σ H Q ⟨G, as, S, ρ, r0, e0, f⟩ => ⟨G, as, S, ρ, r0, e0, (FinG.bind f).imp ?_⟩
  intro v1 H1 ⟨G1, as1, S1, x, x1, r1, a1, f1⟩
  refine ⟨G1, as1, S1, ρ, r1, e0.ext x1, (FinG.bind f1).imp ?_⟩
  intro v2 H2 ⟨G2, as2, S2, y, x2, r2, a2, f2⟩
  exact ⟨G2, as2, S2, x, y, W, σ, r2, a1.ext x2, a2, f2⟩
abbrev tO (K : PySem.W.Frag) (w0 : Ew) (W : WX) (f : Rho → Sto → R (Option Int)) : TO := tG K w0 relEq W f
theorem sno_none : PO X none (tO X.K w0 W fun _ S => .ok none S) := ⟨fun pins s σ H Q I ⟨G, as, S, ρ, r0, e0, f⟩ => po_none.run pins s σ H Q I (f G as H none Ext.refl r0 rfl)⟩
theorem sno_some (ha : PE X a (tE X.K w0 W fa)) : PO X (some a) (tO X.K w0 W fun ρ S => ((fa ρ S).bind toI).bind fun i S => .ok (some i) S) := by
  refine ⟨fun pins s σ H Q I ⟨G, as, S, ρ, r0, e0, f⟩ => (po_some ha).run pins s σ H Q I ⟨G, as, S, ρ, r0, e0, ?_⟩⟩
  have f : FinG X.K w0 relEq W σ Q G as H (((fa ρ S).bind toI).bind fun i S => .ok (some i) S) := f
  rw [R.bind_assoc (fa ρ S)] at f
  refine (FinG.bind f).imp ?_
  intro v1 H1 ⟨G1, as1, S1, x, x1, r1, a1, f1⟩
  have f1 : FinG X.K w0 relEq W σ (fun i H => Q i H) G1 as1 H1 ((toI x S1).bind fun i S => .ok (some i) S) := f1
  unfold toI at f1
  split at f1
  · cases a1
    exact ⟨_, rfl, f1 G1 as1 H1 _ Ext.refl r1 rfl⟩
  · exact f1.elim
theorem snd_sl {lo hi : Option Expr} {p2 : Pos} {fl fh : Rho → Sto → R (Option Int)} (ha : PE X a (tE X.K w0 W fa)) (hl : PO X lo (tO X.K w0 W fl)) (hh : PO X hi (tO X.K w0 W fh)) :
    PE X (.Subscript a (.Slice lo hi none p2) pos) (tE X.K w0 W fun ρ S => (fa ρ S).bind fun x S => (fl ρ S).bind fun l S => (fh ρ S).bind fun h S => slR x l h S) := by
  refine PE.imp (pe_slice (sl_any (w0 := w0)) ha hl hh) fun σ H Q ⟨G, as, S, ρ, r0, e0, f⟩ => ⟨G, as, S, ρ, r0, e0, (FinG.bind f).imp ?_⟩
  intro v1 H1 ⟨G1, as1, S1, x, x1, r1, a1, f1⟩
  refine ⟨G1, as1, S1, ρ, r1, e0.ext x1, (FinG.bind (rel' := relEq) f1).imp ?_⟩
  intro l H2 ⟨G2, as2, S2, l', x2, r2, el, f2⟩
  obtain rfl : l = l' := el
  refine ⟨G2, as2, S2, ρ, r2, (e0.ext x1).ext x2, (FinG.bind (rel' := relEq) f2).imp ?_⟩
  intro h H3 ⟨G3, as3, S3, h', x3, r3, eh, f3⟩
  obtain rfl : h = h' := eh
  exact ⟨G3, as3, S3, x, W, σ, r3, (a1.ext x2).ext x3, f3⟩
theorem snd_blt (b : Blt) {x : Str} {p : Pos} (hc : X.calm = true) (hg : X.A.guards = some []) (hu : X.A.units + 100 < cLine) (hx : x = bltName b) (gl : Gl X x) (hm : X.mg x = none) (hs : isStar e = false) (hss : (es.all fun e => !isStar e) = true)
    (ha : PA X (e :: es) (tA X.K w0 W fs)) : PE X (.Call (.Name x p) (e :: es) [] pos) (tE X.K w0 W fun ρ S => (fs ρ S).bind fun vs S => bltR b vs S) := by
  have hn : x ≠ "__name__" := by rw [hx]; cases b <;> decide +kernel
  have hd : (x == ("__debug__" : Str)) = false := by rw [hx]; cases b <;> decide +kernel
  have hv : bootBuiltins x = some (bltVal b) := by rw [hx]; exact blt_boot b
  have hr := call_blt (w0 := w0) hc hg hu b
  unfold bltVal at hv hr
  have key : ∀ σ H Q, tE X.K w0 W (fun ρ S => (fs ρ S).bind fun vs S => bltR b vs S) σ H Q → tCB (rBlt X.K w0 b) (tA X.K w0 W fs) σ H Q := fun σ H Q ⟨G, as, S, ρ, r0, e0, f⟩ => by
    refine ⟨G, as, S, ρ, r0, e0, (FinG.bind f).imp ?_⟩
    intro v1 H1 ⟨G1, as1, S1, x, x1, r1, a1, f1⟩
    exact ⟨G1, as1, S1, x, W, σ, r1, a1, f1⟩
  cases h : bltTy b with
  | true =>
    rw [h] at hv hr
    exact PE.imp (pe_callTy hr gl hm hv ha hn hd (star_cons hs es X.env) (star_all hss _ _)) key
  | false =>
    rw [h] at hv hr
    exact PE.imp (pe_callB hr gl hm hv ha hn hd (star_cons hs es X.env) (star_all hss _ _)) key
end
end Dw

set_option Elab.async false
set_option linter.all false
set_option maxRecDepth 100000
set_option maxHeartbeats 4000000
/-! What is walked; comprehensions; isinstance; append. -/
namespace Dw
open PySem PySem.Spec PyProof.Rows L2

structure Walk (K : PySem.W.Frag) (G : Hp) (as : List Addr) (J : L2.It) (vs : List Val) : Prop where
  go : ∀ i H, Same G H → i < vs.length → J.go i H
  stop : ∀ i H, Same G H → vs.length ≤ i → J.stop i H
  yld : ∀ (i : Nat) (H : Hp) (x : V) (H' G1 : Hp) (as1 : List Addr) (S : Sto), Same G G1 → as <+: as1 → Rst K w0 G1 as1 S H → J.yld i H x H' → i < vs.length → ∃ G2 y, Ext G1 as1 H G2 as1 H' ∧ Rst K w0 G2 as1 S H' ∧ vs[i]? = some y ∧ At K G2 as1 x y
abbrev tI (K : PySem.W.Frag) (w0 : Ew) (W : WX) (f : Rho → Sto → R (List Val)) : TI := tG K w0 (Walk K) W f
section
variable {K : PySem.W.Frag} {G : Hp} {as : List Addr} {a : Addr} {xs : List V} {vs : List Val}
theorem walkL (hs : ∀ H, Same G H → SqL K H a xs) (hl : xs.length = vs.length) (hx : ∀ (i : Nat) x, xs[i]? = some x → ∃ y, vs[i]? = some y ∧ At K G as x y) : Walk K G as (Itl K a) vs where
  go := fun i H s h => ⟨xs, xs[i]'(by omega), hs H s, List.getElem?_eq_getElem _⟩
  stop := fun i H s h => ⟨xs, hs H s, by omega⟩
  yld := fun i H x H' G1 as1 S g p r y h => by
    obtain ⟨rfl, y⟩ := y
    obtain ⟨z, h1, h2⟩ := hx i x (y xs (hs _ (g.trans r.same)))
    exact ⟨G1, z, Ext.refl, r, h1, h2.mono g p⟩
theorem walkT (hs : ∀ H, Same G H → SqT K H a xs) (hl : xs.length = vs.length) (hx : ∀ (i : Nat) x, xs[i]? = some x → ∃ y, vs[i]? = some y ∧ At K G as x y) : Walk K G as (Itt K a) vs where
  go := fun i H s h => ⟨xs, xs[i]'(by omega), hs H s, List.getElem?_eq_getElem _⟩
  stop := fun i H s h => ⟨xs, hs H s, by omega⟩
  yld := fun i H x H' G1 as1 S g p r y h => by
    obtain ⟨rfl, y⟩ := y
    obtain ⟨z, h1, h2⟩ := hx i x (y xs (hs _ (g.trans r.same)))
    exact ⟨G1, z, Ext.refl, r, h1, h2.mono g p⟩
theorem walkR (lo : Int) (n : Nat) : Walk K G as (Itr lo n) ((List.range n).map fun (i : Nat) => Val.dat (.int (lo + i))) where
  go := fun i H s h => by
    show i < n
    simpa using h
  stop := fun i H s h => by
    show n ≤ i
    simpa using h
  yld := fun i H x H' G1 as1 S g p r y h => by
    obtain ⟨rfl, rfl⟩ := y
    have hi : i < n := by simpa using h
    exact ⟨G1, .dat (.int (lo + i)), Ext.refl, r, by simp [hi], .int _⟩
theorem walkS (z : Str) : Walk K G as (Its z) (z.cps.toList.map fun c => Val.dat (.str ⟨#[c]⟩)) where
  go := fun i H s h => by
    show i < z.cps.size
    simpa using h
  stop := fun i H s h => by
    show z.cps.size ≤ i
    simpa using h
  yld := fun i H x H' G1 as1 S g p r y h => by
    obtain ⟨rfl, c, hc, rfl⟩ := y
    exact ⟨G1, .dat (.str ⟨#[c]⟩), Ext.refl, r, by rw [List.getElem?_map, Array.getElem?_toList, hc]; rfl, .str _⟩
theorem da_get : ∀ {xs : List V} {l : List PyData} {i : Nat} {x : V}, DaAll K G xs l → xs[i]? = some x → ∃ d, l[i]? = some d ∧ Da K G x d
  | _, _, _, _, .nil, e => by simp at e
  | _, _, 0, _, .cons x _, e => by
    simp at e
    subst e
    exact ⟨_, rfl, x⟩
  | _, _, i + 1, _, .cons _ a, e => by
    obtain ⟨v, h1, h2⟩ := da_get (i := i) a (by simpa using e)
    exact ⟨v, by simpa using h1, h2⟩
theorem refs_get' : ∀ {bs : List Addr} {ks : List Nat} {i : Nat} {b : Addr}, Refs as bs ks → bs[i]? = some b → ∃ k, ks[i]? = some k ∧ as[k]? = some b
  | _, _, _, _, .nil, e => by simp at e
  | _, _, 0, _, .cons x _, e => by
    simp at e
    subst e
    exact ⟨_, rfl, x⟩
  | _, _, i + 1, _, .cons _ a, e => by
    obtain ⟨v, h1, h2⟩ := refs_get' (i := i) a (by simpa using e)
    exact ⟨v, by simpa using h1, h2⟩
theorem dat_items {l : List PyData} (a : DaAll K G xs l) : ∀ (i : Nat) x, xs[i]? = some x → ∃ y, (l.map Val.dat)[i]? = some y ∧ At K G as x y := fun i x e => by
  obtain ⟨d, h1, h2⟩ := da_get a e
  exact ⟨.dat d, by rw [List.getElem?_map, h1]; rfl, h2⟩
end
section
variable {X : Cx} {w0 : Ew} {W : WX} {fa fb : Rho → Sto → R Val} {tg e a b : Expr} {pos : Pos}
theorem sni_val (ha : PE X e (tE X.K w0 W fa)) : PI X tg e (tI X.K w0 W fun ρ S => (fa ρ S).bind fun x S => give (items x) S) := by
  refine ⟨fun pins s σ H R I ⟨G, as, S, ρ, r0, e0, f⟩ => ?_⟩
  have f : FinG X.K w0 (Walk X.K) W σ R G as H ((fa ρ S).bind fun x S => give (items x) S) := f
  cases h : fa ρ S with
  | bad => rw [h] at f; exact f.elim
  | exc c d S1 =>
    exact (pi_list ha).run pins s σ H R I ⟨G, as, S, ρ, r0, e0, by rw [h] at f ⊢; exact f⟩
  | ok x S1 =>
    rw [h] at f
    have f : FinG X.K w0 (Walk X.K) W σ R G as H (give (items x) S1) := f
    cases x with
    | dat d =>
      cases d with
      | list l =>
        refine (pi_list ha).run pins s σ H R I ⟨G, as, S, ρ, r0, e0, ?_⟩
        rw [h]
        intro G1 as1 H1 v x1 r1 a1
        cases a1 with
        | lst e1 e2 =>
          rename_i p xs
          refine ⟨p, rfl, ⟨xs, SqL.of (r1.same _ _ e1)⟩, f G1 as1 H1 _ x1 r1 (walkL (fun H s => SqL.of (s _ _ e1)) (by rw [e2.length, List.length_map]) (dat_items e2))⟩
      | tuple l =>
        refine (pi_tup ha).run pins s σ H R I ⟨G, as, S, ρ, r0, e0, ?_⟩
        rw [h]
        intro G1 as1 H1 v x1 r1 a1
        cases a1 with
        | tup e1 e2 =>
          rename_i p xs
          refine ⟨p, rfl, ⟨xs, Same.seqT r1.same e1⟩, f G1 as1 H1 _ x1 r1 (walkT (fun H s => Same.seqT s e1) (by rw [e2.length, List.length_map]) (dat_items e2))⟩
      | str z =>
        refine (pi_str ha).run pins s σ H R I ⟨G, as, S, ρ, r0, e0, ?_⟩
        rw [h]
        intro G1 as1 H1 v x1 r1 a1
        cases a1
        exact ⟨z, rfl, f G1 as1 H1 _ x1 r1 (walkS z)⟩
      | _ => exact f.elim
    | cell k => exact f.elim
    | fn k => exact f.elim
    | dct k => exact f.elim
    | cells ks =>
      refine (pi_list ha).run pins s σ H R I ⟨G, as, S, ρ, r0, e0, ?_⟩
      rw [h]
      intro G1 as1 H1 v x1 r1 a1
      obtain ⟨p, bs, rfl, e1, e2⟩ := a1
      refine ⟨p, rfl, ⟨_, SqL.of (r1.same _ _ e1)⟩, f G1 as1 H1 _ x1 r1 (walkL (fun H s => SqL.of (s _ _ e1)) (by rw [List.length_map, List.length_map, refs_len e2]) fun i y ey => ?_)⟩
      rw [List.getElem?_map] at ey
      cases q : bs[i]? with
      | none => rw [q] at ey; cases ey
      | some b =>
        rw [q] at ey
        cases ey
        obtain ⟨k, h1, h2⟩ := refs_get' e2 q
        exact ⟨.cell k, by rw [List.getElem?_map, h1]; rfl, b, rfl, h2⟩
    | scr l =>
      refine (pi_list ha).run pins s σ H R I ⟨G, as, S, ρ, r0, e0, ?_⟩
      rw [h]
      intro G1 as1 H1 v x1 r1 a1
      obtain ⟨p, xs, rfl, e1, e2⟩ := a1
      exact ⟨p, rfl, ⟨xs, r1.same.seq e1⟩, f G1 as1 H1 _ x1 r1 (walkL (fun H s => s.seq e1) (by rw [e2.length, List.length_map]) (dat_items e2))⟩
theorem toI_some {α β : Type} {rel : Hp → List Addr → β → α → Prop} {K : PySem.W.Frag} {σ : L2.St} {Q : β → Hp → Prop} {G H : Hp} {as : List Addr} {x : Val} {S : Sto} {g : Int → Sto → R α} (f : FinG K w0 rel W σ Q G as H ((toI x S).bind g)) :
    ∃ i, x = .dat (.int i) ∧ FinG K w0 rel W σ Q G as H (g i S) := by
  unfold toI at f
  split at f
  · exact ⟨_, rfl, f⟩
  · exact f.elim
theorem rangeV_some {α : Type} {rel : Hp → List Addr → α → List Val → Prop} {K : PySem.W.Frag} {σ : L2.St} {Q : α → Hp → Prop} {G H : Hp} {as : List Addr} {S : Sto} {i j : Int} (f : FinG K w0 rel W σ Q G as H (give (rangeV i j) S)) :
    (-(2 ^ 62) ≤ i ∧ i < 2 ^ 62 ∧ -(2 ^ 62) ≤ j ∧ j < 2 ^ 62) ∧ FinG K w0 rel W σ Q G as H (.ok ((List.range (j - i).toNat).map fun (k : Nat) => Val.dat (.int (i + k))) S) := by
  unfold rangeV at f
  split at f
  · exact ⟨by assumption, f⟩
  · exact f.elim
theorem sni_rng1 {p : Pos} (gl : Gl X "range") (hm : X.mg "range" = none) (hs : isStar a = false) (ha : PE X a (tE X.K w0 W fa)) :
    PI X tg (.Call (.Name "range" p) [a] [] pos) (tI X.K w0 W fun ρ S => ((fa ρ S).bind toI).bind fun i S => give (rangeV 0 i) S) := by
  refine ⟨fun pins s σ H RR I ⟨G, as, S, ρ, r0, e0, f⟩ => ?_⟩
  have f : FinG X.K w0 (Walk X.K) W σ RR G as H (((fa ρ S).bind toI).bind fun i S => give (rangeV 0 i) S) := f
  rw [R.bind_assoc (fa ρ S)] at f
  refine (pi_range1 gl hm (pa_cons ha pa_nil (star_cons hs _ _)) (star_cons hs _ _)).run pins s σ H RR I ⟨G, as, S, ρ, r0, e0, (FinG.bind f).imp ?_⟩
  intro v1 H1 ⟨G1, as1, S1, x, x1, r1, a1, f1⟩
  obtain ⟨i, rfl, f1⟩ := toI_some f1
  obtain ⟨hb, f1⟩ := rangeV_some f1
  cases a1
  refine ⟨i, rfl, hb.2.2.1, hb.2.2.2, ?_⟩
  have q := f1 G1 as1 H1 _ Ext.refl r1 (walkR 0 (i - 0).toNat)
  rw [Int.sub_zero] at q
  exact q
theorem sni_rng2 {p : Pos} (gl : Gl X "range") (hm : X.mg "range" = none) (hs : isStar a = false) (hs2 : isStar b = false) (ha : PE X a (tE X.K w0 W fa)) (hb : PE X b (tE X.K w0 W fb)) :
    PI X tg (.Call (.Name "range" p) [a, b] [] pos) (tI X.K w0 W fun ρ S => (fa ρ S).bind fun x S => (fb ρ S).bind fun y S => (toI x S).bind fun i S => (toI y S).bind fun j S => give (rangeV i j) S) := by
  refine ⟨fun pins s σ H RR I ⟨G, as, S, ρ, r0, e0, f⟩ => ?_⟩
  refine (pi_range2 gl hm (pa_cons ha (pa_cons hb pa_nil (star_cons hs2 _ _)) (star_cons hs _ _)) (by rw [star_cons hs, star_cons hs2]; rfl) (by rw [star_cons hs2]; rfl)).run pins s σ H RR I ⟨G, as, S, ρ, r0, e0, (FinG.bind f).imp ?_⟩
  intro v1 H1 ⟨G1, as1, S1, x, x1, r1, a1, f1⟩
  refine ⟨G1, as1, S1, ρ, r1, e0.ext x1, (FinG.bind f1).imp ?_⟩
  intro v2 H2 ⟨G2, as2, S2, y, x2, r2, a2, f2⟩
  have f2 : FinG X.K w0 (Walk X.K) W σ RR G2 as2 H2 ((toI x S2).bind fun i S => (toI y S).bind fun j S => give (rangeV i j) S) := f2
  obtain ⟨i, rfl, f2⟩ := toI_some f2
  have f2 : FinG X.K w0 (Walk X.K) W σ RR G2 as2 H2 ((toI y S2).bind fun j S => give (rangeV i j) S) := f2
  obtain ⟨j, rfl, f2⟩ := toI_some f2
  obtain ⟨hb, f2⟩ := rangeV_some f2
  cases a1
  cases a2
  exact ⟨i, j, rfl, hb, f2 G2 as2 H2 _ Ext.refl r2 (walkR i (j - i).toNat)⟩
end

/-! ### targets -/
def tgSlots : Tg → List Nat
  | .name i => [i]
  | .names is => is
def tGt (K : PySem.W.Frag) (w0 : Ew) (tg : Tg) : TG := fun v σ H Q => ∃ G as S ρ x ρ', Rst K w0 G as S H ∧ EnvR K G as σ ρ ∧ At K G as v x ∧ setTg tg x ρ = some ρ' ∧ ∀ σ', EnvR K G as σ' ρ' → (∀ own : List Nat, (∀ i ∈ tgSlots tg, i ∈ own) → L2.wipe σ' own = L2.wipe σ own) → Q σ' H
theorem wipe_set {σ : L2.St} {i : Nat} {x : Option V} : ∀ {own : List Nat}, i ∈ own → L2.wipe (σ.set i x) own = L2.wipe σ own
  | [], h => by cases h
  | v :: vs, h => by
    show (L2.wipe (σ.set i x) vs).set v none = (L2.wipe σ vs).set v none
    by_cases hi : i ∈ vs
    · rw [wipe_set hi]
    · have e : v = i := by
        rcases List.mem_cons.mp h with h | h
        · exact h.symm
        · exact absurd h hi
      subst e
      have : ∀ (ws : List Nat), v ∉ ws → (L2.wipe (σ.set v x) ws) = (L2.wipe σ ws).set v x := by
        intro ws
        induction ws with
        | nil => intro _; rfl
        | cons w ws ih =>
          intro hw
          rw [List.mem_cons, not_or] at hw
          show (L2.wipe (σ.set v x) ws).set w none = ((L2.wipe σ ws).set w none).set v x
          rw [ih hw.2, List.set_comm _ _ hw.1]
      rw [this vs hi, List.set_set]
section
variable {X : Cx} {w0 : Ew}
theorem sng_name {i : Nat} {x : Str} {pos : Pos} (hN : X.N.Nodup) (hi : X.N[i]? = some x) (hx : Loc X.env.scope x) (hf : X.fn x = true ∨ X.env.scope.names.lookup x = some .local) : PG X (.Name x pos) (tGt X.K w0 (.name i)) := by
  refine ⟨fun pins s σ H v u Q I r ⟨G, as, S, ρ, y, ρ', r0, e0, a, h, q⟩ => (pg_name hN hi hx hf).run pins s σ H v u Q I r ?_⟩
  cases h
  exact q _ (e0.set a i) fun own ho => wipe_set (ho i (List.mem_singleton.mpr rfl))
/-- names one behind another -/
def tGs (K : PySem.W.Frag) (w0 : Ew) (is : List Nat) : TGs := fun vs σ H Q => ∃ G as S ρ ds ρ', Rst K w0 G as S H ∧ EnvR K G as σ ρ ∧ DaAll K G vs ds ∧ setNames is ds ρ = some ρ' ∧ ∀ σ', EnvR K G as σ' ρ' → (∀ own : List Nat, (∀ i ∈ is, i ∈ own) → L2.wipe σ' own = L2.wipe σ own) → Q σ' H
theorem sngs_nil : PGs X [] (tGs X.K w0 []) := by
  refine ⟨fun pins s σ H vs us Q I r ⟨G, as, S, ρ, ds, ρ', r0, e0, a, h, q⟩ => pgs_nil.run pins s σ H vs us Q I r ?_⟩
  cases a with
  | nil =>
    cases h
    exact ⟨rfl, q σ e0 fun _ _ => rfl⟩
  | cons _ _ => cases h
theorem sngs_cons {i : Nat} {is : List Nat} {x : Str} {pos : Pos} {es : List Expr} (hN : X.N.Nodup) (hi : X.N[i]? = some x) (hx : Loc X.env.scope x) (hf : X.fn x = true ∨ X.env.scope.names.lookup x = some .local) (hr : PGs X es (tGs X.K w0 is)) : PGs X (.Name x pos :: es) (tGs X.K w0 (i :: is)) := by
  refine ⟨fun pins s σ H vs us Q I r ⟨G, as, S, ρ, ds, ρ', r0, e0, a, h, q⟩ => (pgs_cons (pg_name hN hi hx hf) hr).run pins s σ H vs us Q I r ?_⟩
  cases a with
  | nil => cases h
  | cons a1 a2 =>
    refine ⟨_, _, rfl, G, as, S, _, _, ρ', r0, e0.set (x := .dat _) a1 i, a2, h, fun σ' e' hw => q σ' e' fun own ho => ?_⟩
    rw [hw own fun j hj => ho j (List.mem_cons_of_mem _ hj)]
    exact wipe_set (ho i List.mem_cons_self)
theorem sng_names {is : List Nat} {es : List Expr} {j : Nat} {pos : Pos} (hc : X.calm = true) (h : PGs X es (tGs X.K w0 is)) (hn : es.length = is.length) (hl : (assignEach es X.env).length = es.length) (hst : (assignEach es X.env).findIdx? (·.1) = none) :
    PG X (.Tuple es j pos) (tGt X.K w0 (.names is)) := by
  refine ⟨fun pins s σ H v u Q I r ⟨G, as, S, ρ, y, ρ', r0, e0, a, e, q⟩ => (pg_tup (n := is.length) hc h (hl.trans hn) hst).run pins s σ H v u Q I r ?_⟩
  unfold setTg at e
  split at e
  · rename_i heq; cases heq
  · rename_i is' ds heq
    cases heq
    cases a with
    | tup e1 e2 =>
      refine ⟨_, _, rfl, Same.seqT r0.same e1, ?_, G, as, S, _, ds, ρ', r0, e0, e2, e, q⟩
      rw [e2.length]
      have : ∀ (is : List Nat) (ds : List PyData) (ρ ρ' : Rho), setNames is ds ρ = some ρ' → ds.length = is.length := by
        intro is
        induction is with
        | nil => intro ds ρ ρ' h; cases ds <;> first | rfl | cases h
        | cons i is ih => intro ds ρ ρ' h; cases ds with
          | nil => cases h
          | cons d ds => rw [List.length_cons, List.length_cons, ih ds _ _ h]
      exact this _ _ _ _ e
  · cases e
end

/-! ### list comprehensions -/
abbrev W0 : WX := fun _ _ _ _ => False
theorem calm_ok {α : Type} {r : R α} {x : α} {S : Sto} (h : r.calm = .ok x S) : r = .ok x S := by
  cases r <;> first | exact h | cases h
section
variable {X : Cx} {w0 : Ew} {W : WX} {fe : Rho → Sto → R Val} {ff : Rho → Sto → R Bool} {fi : Rho → Sto → R (List Val)} {elt tg iter : Expr} {ifs : List Expr} {scope : Scope} {own : List (Str × Nat)} {pos : Pos} {t : Tg}
abbrev turnF (t : Tg) (own : List Nat) (ff : Rho → Sto → R Bool) (fe : Rho → Sto → R Val) (ρ : Rho) : Val → Sto → R (Option Val) := fun v S => match setTg t v (wipeE ρ own) with
  | none => .bad
  | some ρ' => R.calm ((ff ρ' S).bind fun b S => if b = true then (fe ρ' S).bind fun x S => .ok (some x) S else .ok none S)
abbrev cpF (t : Tg) (own : List Nat) (ff : Rho → Sto → R Bool) (fe : Rho → Sto → R Val) (fi : Rho → Sto → R (List Val)) : Rho → Sto → R Val := fun ρ S => (fi ρ S).bind fun vs S =>
  if vs.length ≤ LINE then (compL (turnF t own ff fe ρ) vs S).bind lstR else .bad
theorem compL_ext (f : Val → Sto → R (Option Val)) : ∀ (vs : List Val) (S : Sto), compL f vs S = match vs with
    | [] => .ok [] S
    | v :: r => (f v S).bind fun o S => (compL f r S).bind fun vs S => .ok (match o with
      | some x => x :: vs
      | none => vs) S
  | [], _ => rfl
  | _ :: _, _ => rfl
theorem turn_calm {ρ : Rho} {v : Val} {S : Sto} {o : Option Val} {S1 : Sto} (h : turnF t (own.map (·.2)) ff fe ρ v S = .ok o S1) :
    ∃ (ρ' : Rho), setTg t v (wipeE ρ (own.map (·.2))) = some ρ' ∧ ((∃ S2 x, ff ρ' S = .ok true S2 ∧ fe ρ' S2 = .ok x S1 ∧ o = some x) ∨ (ff ρ' S = .ok false S1 ∧ o = none)) := by
  unfold turnF at h
  cases h1 : setTg t v (wipeE ρ (own.map (·.2))) with
  | none => simp only [h1] at h; cases h
  | some ρ' =>
    simp only [h1] at h
    refine ⟨ρ', rfl, ?_⟩
    have h := calm_ok h
    cases h2 : ff ρ' S with
    | bad => rw [h2] at h; cases h
    | exc c d S2 => rw [h2] at h; cases h
    | ok b S2 =>
      rw [h2] at h
      cases b with
      | false => cases h; exact .inr ⟨rfl, rfl⟩
      | true =>
        have h : (fe ρ' S2).bind (fun x S => R.ok (some x) S) = .ok o S1 := h
        cases h3 : fe ρ' S2 with
        | bad => rw [h3] at h; cases h
        | exc c d S3 => rw [h3] at h; cases h
        | ok x S3 => rw [h3] at h; cases h; exact .inl ⟨S2, x, rfl, h3, rfl⟩
theorem turn_noexc {ρ : Rho} {v : Val} {S : Sto} {c : Nat} {d : PyData} {S1 : Sto} : turnF t (own.map (·.2)) ff fe ρ v S ≠ .exc c d S1 := by
  intro h
  unfold turnF at h
  split at h
  · cases h
  · unfold R.calm at h
    split at h <;> first | cases h | skip
    rename_i hne
    exact hne _ _ _ h
theorem cp_step {K : PySem.W.Frag} {σ : L2.St} {H : Hp} {Q : VK} (hown : ∀ i ∈ tgSlots t, i ∈ own.map (·.2)) (h : tE K w0 W (cpF t (own.map (·.2)) ff fe fi) σ H Q) :
    tLc (tI K w0 W fi) (tGt K w0 t) (tTB K w0 W0 ff) (tE K w0 W0 fe) (own.map (·.2)) σ H Q := by
  obtain ⟨G, as, S, ρ, r0, e0, f⟩ := h
  refine ⟨G, as, S, ρ, r0, e0, (FinG.bind (rel' := Walk K) f).imp ?_⟩
  intro J H1 ⟨G1, as1, S1, vs, x1, r1, wk, f1⟩ D nD
  have e1 : EnvR K G1 as1 σ ρ := e0.ext x1
  by_cases hlen : vs.length ≤ LINE
  case neg => simp only [if_neg hlen] at f1; exact f1.elim
  simp only [if_pos hlen] at f1
  -- what stands between two turns
  refine ⟨fun i m H2 => m = vs.length - i ∧ i ≤ vs.length ∧ ∃ G2 as2 S2 acc ys, Ext G1 as1 H1 G2 as2 H2 ∧ Rst K w0 G2 as2 S2 H2 ∧ H2 D = some (.lst acc) ∧ Ats K G2 as2 acc ys ∧ acc.length ≤ i ∧ G2 D = none ∧ D ∉ as2 ∧
      FinG K w0 (At K) W σ Q G1 as1 H1 ((compL (turnF t (own.map (·.2)) ff fe ρ) (vs.drop i) S2).bind fun zs S => lstR (ys ++ zs) S), ⟨vs.length, rfl, Nat.zero_le _, G1, as1, S1, [], [], ?_, ?_, upd_same, .nil, Nat.le_refl _, r1.same.free nD, ?_, ?_⟩, ?_⟩
  · exact ⟨Same.refl _, List.prefix_refl _, fun b o e _ _ => by rw [upd_ne (ne_of_none e nD)]; exact e, fun b e => nn_upd (nn_none nD) e, fun _ h => .inl h, fun b o e => .inl e⟩
  · refine ⟨fun b o e => by rw [upd_ne (ne_of_none e (r1.same.free nD))]; exact r1.same b o e, r1.len, fun k a e => ?_, r1.nd, tabs_upd r1.tab (.inl nD), r1.nt⟩
    obtain ⟨l, xs, h1, h2, h3, h4⟩ := r1.cl k a e
    exact ⟨l, xs, h1, by rw [upd_ne (ne_of_none h2 nD)]; exact h2, h3, h4⟩
  · intro hD
    obtain ⟨k, hk, e⟩ := List.getElem_of_mem hD
    obtain ⟨l, xs, h1, h2, _, _⟩ := r1.cl k D (by rw [List.getElem?_eq_getElem hk, e])
    rw [nD] at h2; cases h2
  · rw [List.drop_zero]
    exact f1
  rintro i m H2 ⟨rfl, hi', G2, as2, S2, acc, ys, x2, r2, hD, ha, hal, gD, dD, f2⟩
  by_cases hlt : i < vs.length
  case neg =>
    have ei : i = vs.length := by omega
    refine .inl ⟨wk.stop i H2 (x2.g.trans r2.same) (by omega), ?_⟩
    rw [ei, List.drop_length] at f2
    have f2 : FinG K w0 (At K) W σ Q G1 as1 H1 (lstR (ys ++ []) S2) := f2
    rw [List.append_nil] at f2
    unfold lstR at f2
    cases h1 : collect ys with
    | none => rw [h1] at f2; exact f2.elim
    | some x =>
      rw [h1] at f2
      have sg : Same G2 (upd G2 D (.lst acc)) := fun b u e => by rw [upd_ne (ne_of_none e gD)]; exact e
      have r3 : Rst K w0 (upd G2 D (.lst acc)) as2 S2 H2 := ⟨fun b u e => by
        by_cases hb : b = D
        · subst hb; rw [upd_same] at e; rw [← e]; exact hD
        · rw [upd_ne hb] at e; exact r2.same b u e, r2.len, fun k a e => by
          obtain ⟨l, xs, h1, h2, h3, h4⟩ := r2.cl k a e
          exact ⟨l, xs, h1, h2, DaAll.mono sg _ _ h3, by rw [upd_ne (fun z => dD (by rw [← z]; exact List.mem_of_getElem? e))]; exact h4⟩, r2.nd, r2.tab, fun b ps e => by
        by_cases hb : b = D
        · subst hb; rw [upd_same] at e; cases e
        · rw [upd_ne hb] at e; exact r2.nt b ps e⟩
      have x3 : Ext G1 as1 H1 (upd G2 D (.lst acc)) as2 H2 := ⟨x2.g.trans sg, x2.pre, x2.kp, x2.th, x2.fr, fun b o e => by
        by_cases hb : b = D
        · rw [hb]; exact .inr (nn_none nD)
        · rw [upd_ne hb] at e; exact x2.gf b o e⟩
      have ha' : Ats K (upd G2 D (.lst acc)) as2 acc ys := by
        have : ∀ {xs : List V} {ys : List Val}, Ats K G2 as2 xs ys → Ats K (upd G2 D (.lst acc)) as2 xs ys := by
          intro xs ys h
          induction h with
          | nil => exact .nil
          | cons a _ ih => exact .cons (a.mono sg (List.prefix_refl _)) ih
        exact this ha
      exact f2 _ _ _ (.ref D) x3 r3 (collect_at upd_same ha' h1)
  case pos =>
    refine .inr ⟨wk.go i H2 (x2.g.trans r2.same) hlt, fun H3 => ∃ G3 as3 S3 acc3 ys3, Ext G1 as1 H1 G3 as3 H3 ∧ Rst K w0 G3 as3 S3 H3 ∧ H3 D = some (.lst acc3) ∧ Ats K G3 as3 acc3 ys3 ∧ acc3.length ≤ i + 1 ∧ G3 D = none ∧ D ∉ as3 ∧
      FinG K w0 (At K) W σ Q G1 as1 H1 ((compL (turnF t (own.map (·.2)) ff fe ρ) (vs.drop (i + 1)) S3).bind fun zs S => lstR (ys3 ++ zs) S), fun H3 h => ⟨vs.length - (i + 1), by omega, rfl, hlt, h⟩, fun x H3 hy => ?_⟩
    obtain ⟨G3, y, x3, r3, ey, ax⟩ := wk.yld i H2 x H3 G2 as2 S2 x2.g x2.pre r2 hy hlt
    have ev : vs.drop i = y :: vs.drop (i + 1) := by
      rw [List.drop_eq_getElem_cons hlt]
      rw [List.getElem?_eq_getElem hlt] at ey
      rw [Option.some.inj ey]
    rw [ev] at f2
    have f2 : FinG K w0 (At K) W σ Q G1 as1 H1 (((turnF t (own.map (·.2)) ff fe ρ y S2).bind fun o S => (compL (turnF t (own.map (·.2)) ff fe ρ) (vs.drop (i + 1)) S).bind fun zs S => .ok (match o with
      | some x => x :: zs
      | none => zs) S).bind fun zs S => lstR (ys ++ zs) S) := f2
    have hD3 : H3 D = some (.lst acc) := x3.kp D _ hD (fun ps z => by cases z) dD
    have gD3 : G3 D = none := by
      cases q : G3 D with
      | none => rfl
      | some o =>
        rcases x3.gf D o q with z | z
        · rw [gD] at z; cases z
        · exact (nn_lst hD z).elim
    cases hr : turnF t (own.map (·.2)) ff fe ρ y S2 with
    | bad => rw [hr] at f2; exact f2.elim
    | exc c d S3 => exact absurd hr turn_noexc
    | ok o S4 =>
      rw [hr] at f2
      obtain ⟨ρ', hset, hcase⟩ := turn_calm hr
      have e3 : EnvR K G3 as2 σ ρ := (e1.ext x2).ext x3
      refine ⟨G3, as2, S2, _, y, ρ', r3, e3.wipe _, ax, hset, fun σ2 e4 hw => ⟨?_, ?_⟩⟩
      · rw [hw _ hown]
        have : ∀ (vs : List Nat) (τ : L2.St), L2.wipe (L2.wipe τ vs) vs = L2.wipe τ vs := by
          intro vs τ
          apply List.ext_getElem?
          intro j
          by_cases hj : j ∈ vs
          · have z1 : ∀ (τ : L2.St) (ws : List Nat), j ∈ ws → (L2.wipe τ ws)[j]? = if j < τ.length then some none else none := by
              intro τ ws
              induction ws with
              | nil => intro h; cases h
              | cons w ws ih =>
                intro h
                show ((L2.wipe τ ws).set w none)[j]? = _
                by_cases hwj : w = j
                · subst hwj
                  by_cases hl : w < τ.length
                  · rw [List.getElem?_set_self (by rw [wipe_length]; exact hl), if_pos hl]
                  · rw [List.getElem?_eq_none (by rw [List.length_set, wipe_length]; omega), if_neg hl]
                · rw [List.getElem?_set_ne hwj]
                  exact ih (by
                    rcases List.mem_cons.mp h with z | z
                    · exact absurd z.symm hwj
                    · exact z)
            rw [z1 _ _ hj, z1 _ _ hj, wipe_length]
          · rw [wipe_out hj]
        exact this _ _
      · rcases hcase with ⟨S5, z, h1, h2, rfl⟩ | ⟨h1, rfl⟩
        · refine ⟨G3, as2, S2, ρ', r3, e4, ?_⟩
          rw [h1]
          intro G5 as5 H5 b x5 r5 eb
          obtain rfl : b = true := eb
          refine iteT ⟨G5, as5, S5, ρ', r5, e4.ext x5, ?_⟩
          rw [h2]
          intro G6 as6 H6 v x6 r6 a6
          have x36 := x3.trans (x5.trans x6)
          have hD6 : H6 D = some (.lst acc) := x36.kp D _ hD (fun ps z => by cases z) dD
          have gD6 : G6 D = none := by
            cases q : G6 D with
            | none => rfl
            | some o =>
              rcases x36.gf D o q with z | z
              · rw [gD] at z; cases z
              · exact (nn_lst hD z).elim
          have dD6 : D ∉ as6 := fun h => by
            rcases x36.fr D h with z | z
            · exact dD z
            · exact (nn_lst hD z).elim
          refine ⟨acc, hD6, by rw [← LINE_eq]; omega, G6, as6, S4, acc ++ [v], ys ++ [z], ?_, ?_, upd_same, ?_, by rw [List.length_append, List.length_singleton]; omega, gD6, dD6, ?_⟩
          · have xx := x2.trans x36
            exact ⟨xx.g, xx.pre, fun b o e nt hb => by
              have hbD : b ≠ D := ne_of_none e nD
              rw [upd_ne hbD]
              exact xx.kp b o e nt hb, fun b e => by
              by_cases hb : b = D
              · subst hb; exact nn_none nD
              · exact xx.th b fun u eu => e u (by rw [upd_ne hb]; exact eu), xx.fr, xx.gf⟩
          · refine ⟨fun b o e => by rw [upd_ne (ne_of_none e gD6)]; exact r6.same b o e, r6.len, fun k a e => ?_, r6.nd, tabs_upd r6.tab (.inr ⟨_, hD6⟩), r6.nt⟩
            obtain ⟨l, xs, g1, g2, g3, g4⟩ := r6.cl k a e
            exact ⟨l, xs, g1, by rw [upd_ne (fun z => dD6 (by rw [← z]; exact List.mem_of_getElem? e))]; exact g2, g3, g4⟩
          · have : ∀ {xs : List V} {ys : List Val}, Ats K G6 as6 xs ys → Ats K G6 as6 (xs ++ [v]) (ys ++ [z]) := by
              intro xs ys h
              induction h with
              | nil => exact .cons a6 .nil
              | cons a _ ih => exact .cons a ih
            exact this (Ats.ext x36 ha)
          · have f3 : FinG K w0 (At K) W σ Q G1 as1 H1 (((compL (turnF t (own.map (·.2)) ff fe ρ) (vs.drop (i + 1)) S4).bind fun zs S => .ok (z :: zs) S).bind fun zs S => lstR (ys ++ zs) S) := f2
            rw [R.bind_assoc] at f3
            have f4 : FinG K w0 (At K) W σ Q G1 as1 H1 ((compL (turnF t (own.map (·.2)) ff fe ρ) (vs.drop (i + 1)) S4).bind fun zs S => lstR (ys ++ z :: zs) S) := f3
            have e5 : (fun (zs : List Val) (S : Sto) => lstR (ys ++ z :: zs) S) = fun zs S => lstR (ys ++ [z] ++ zs) S := by
              funext zs S
              rw [List.append_assoc]
              rfl
            rw [e5] at f4
            exact f4
        · refine ⟨G3, as2, S2, ρ', r3, e4, ?_⟩
          rw [h1]
          intro G5 as5 H5 b x5 r5 eb
          obtain rfl : b = false := eb
          have x35 := x3.trans x5
          refine iteF ⟨G5, as5, S4, acc, ys, x2.trans x35, r5, x35.kp D _ hD (fun ps z => by cases z) dD, Ats.ext x35 ha, by omega, ?_, ?_, ?_⟩
          · cases q : G5 D with
            | none => rfl
            | some o =>
              rcases x35.gf D o q with z | z
              · rw [gD] at z; cases z
              · exact (nn_lst hD z).elim
          · intro h
            rcases x35.fr D h with z | z
            · exact dD z
            · exact (nn_lst hD z).elim
          · have f3 : FinG K w0 (At K) W σ Q G1 as1 H1 (((compL (turnF t (own.map (·.2)) ff fe ρ) (vs.drop (i + 1)) S4).bind fun zs S => .ok zs S).bind fun zs S => lstR (ys ++ zs) S) := f2
            rw [R.bind_assoc] at f3
            exact f3
theorem snd_cp (hc : X.calm = true) (hN : X.N.Nodup) (hi : PI X tg iter (tI X.K w0 W fi)) (ok : BlkOk X.N X.env.scope scope own) (hown : ∀ i ∈ tgSlots t, i ∈ own.map (·.2))
    (hg : ∀ (s : Shared) (H : Hp) (C : Addr) (cl : List (Str × Addr)) (fp : List Addr), PG (X.blk s H scope (compEnvC scope cl C X.env) fp) tg (tGt X.K w0 t))
    (ht : ∀ (s : Shared) (H : Hp) (C : Addr) (cl : List (Str × Addr)) (fp : List Addr), PTs (X.blk s H scope (compEnvC scope cl C X.env) fp) ifs (tTB X.K w0 W0 ff))
    (he : ∀ (s : Shared) (H : Hp) (C : Addr) (cl : List (Str × Addr)) (fp : List Addr), PE (X.blk s H scope (compEnvC scope cl C X.env) fp) elt (tE X.K w0 W0 fe)) (hs : ∀ x, foldedSetIterable iter X.env x = pure x) :
    PE X (.ListComp elt [⟨tg, iter, ifs, 0⟩] scope pos) (tE X.K w0 W (cpF t (own.map (·.2)) ff fe fi)) := PE.imp (pe_lc hc hN hi ok hg ht he hs) fun _ _ _ h => cp_step hown h
end
end Dw

set_option Elab.async false
set_option linter.all false
set_option maxRecDepth 100000
set_option maxHeartbeats 4000000
/-! for i, x in enumerate(a tuple). -/
namespace PySem
open Sem (wp)
set_option maxHeartbeats 8000000 in
theorem dw_enum_new {v : Value} {o : Obj} {H : Heap → Prop} (B : Begins v o H) :
    Meets (Builtin.«enumerate.__new__» ⟨[.type "enumerate", v], []⟩) (fun _ R s => H s.heap ∧ R (.ok (.ret (.ref (s.heap.push o).objs.size)))
      { s with heap := (s.heap.push o).push { cls := .type "enumerate", data := .fields #[.none, .bool false, .ref s.heap.objs.size, rawInt 0, .none, .none] } }) :=
  .of_wp fun prog w A R s h => by
    obtain ⟨hp, g, d, tk, os⟩ := s
    obtain ⟨h1, h⟩ := h
    have dwsub := sub_enumerate
    have dwit : ∀ {A1 : Around} {E Q : Value → Shared → Prop}, Q (.ref hp.objs.size) ⟨hp.push o, g, d, tk, os⟩ → wpAny (model prog w) A1 (pyIter v) Q E ⟨hp, g, d, tk, os⟩ := fun q => B.iter prog w _ _ ⟨hp, g, d, tk, os⟩ _ h1 q
    wp_walk using dwit
    refine wpAny_stack_any fun st => wpAny_pure ?_
    split
    · rename_i c _ _ _ _ _
      cases (c == Value.type "enumerate") <;> (wp_walk using dwit; exact ⟨_, rfl, h⟩)
    · wp_walk using dwit
      exact ⟨_, rfl, h⟩
section
variable {prog : Program} {w : World} {A : Around} {E : Value → Shared → Prop} {s : Shared}
theorem dw_call_enum {v : Value} {o : Obj} {H : Heap → Prop} {Q : Value → Shared → Prop} (B : Begins v o H) (h1 : H s.heap)
    (h : ∀ h1, IsEnum h1 (s.heap.objs.size + 1) s.heap.objs.size 0 .none → h1.get? s.heap.objs.size = some o → (∀ b o, s.heap.get? b = some o → h1.get? b = some o) → Q (.ref (s.heap.objs.size + 1)) { s with heap := h1 }) :
    wpAny (model prog w) A (call (.type "enumerate") [v]) Q E s := by
  refine callType_new F.called_enumerate (by decide) (F.typeCall_enumerate_1 _) (F.newCall_enumerate_1 _) (fun obj => F.args_object_init_2 obj _) F.entry_enumerate_new (dw_enum_new B) ⟨h1, ?_⟩
  have dwz : (s.heap.push o).objs.size = s.heap.objs.size + 1 := Heap.size_push ..
  show _ ∧ _
  rw [dwz]
  have dwe : IsEnum ((s.heap.push o).push { cls := .type "enumerate", data := .fields #[.none, .bool false, .ref s.heap.objs.size, rawInt 0, .none, .none] }) (s.heap.objs.size + 1) s.heap.objs.size 0 .none := by
    have q := Heap.get?_push_size (s.heap.push o) (o := { cls := .type "enumerate", data := .fields #[.none, .bool false, .ref s.heap.objs.size, rawInt 0, .none, .none] }) rfl
    rw [dwz] at q
    exact q
  exact ⟨⟨_, dwe, rfl⟩, h _ dwe (Heap.get?_push_of_some _ (Heap.get?_push_size _ B.free)) fun b o x => Heap.get?_push_of_some _ (Heap.get?_push_of_some _ x)⟩
end
end PySem
namespace Dw
open PySem PySem.Spec PyProof.Rows L2
/-- the tuple at a, each item in a new pair -/
def IteT (K : PySem.W.Frag) (a : Addr) : L2.It :=
  ⟨fun i H => ∃ (xs : List V) (x : V), SqT K H a xs ∧ xs[i]? = some x, fun i H v H1 => ∃ T x, v = .ref T ∧ H T = none ∧ H1 = upd H T (.tup [.int (i : Nat), x]) ∧ ∀ xs, SqT K H a xs → xs[i]? = some x, fun i H => ∃ xs : List V, SqT K H a xs ∧ xs.length ≤ i⟩
theorem apart {h : Heap} {a e : Addr} {o : Obj} {its : Array Value} {n : String} (t : h.IsTuple a its) (ho : h.get? e = some o) (hc : o.cls = .type n) (hn : n ≠ "tuple") : a ≠ e := by
  rintro rfl
  obtain ⟨o1, e1, c1, _⟩ := t
  rw [ho] at e1
  cases e1
  rw [hc] at c1
  cases c1
  exact hn rfl
theorem turn_enumT {P : Program} {w : World} {K : PySem.W.Frag} {elts : List Expr} {kk : Nat} {tpos : Pos} (a e it : Addr) :
    Turn P w K (.Tuple elts kk tpos) (IteT K a) [e, it] e (fun i h => (∃ old, IsEnum h e it ((i : Nat) : Int) old) ∧ h.IsTupleIter it a i ∧ e ≠ it) where
  mem := List.mem_cons_self
  obj := fun i h st b hb => by
    obtain ⟨⟨old, he⟩, ⟨o, ho, hc, hd⟩, _⟩ := st
    rcases List.mem_cons.mp hb with z | z
    · rw [z]; exact ⟨_, he, fun v q => nomatch q⟩
    · rw [List.mem_singleton.mp z]; exact ⟨o, ho, fun v q => by rw [hd] at q; cases q⟩
  keep := fun i h h1 st k => by
    obtain ⟨⟨old, he⟩, hi, hne⟩ := st
    exact ⟨⟨old, k e List.mem_cons_self _ he⟩, hi.at fun o q => k it (by simp) o q, hne⟩
  item := by
    intro X hP hw hK hc i pins s σ H E I hf st hg
    subst hP hw hK
    obtain ⟨⟨old, he⟩, hit, hne⟩ := st
    obtain ⟨xs, x, hq, hx⟩ := hg
    obtain ⟨its, rv, p, hz⟩ := I.tuple hq
    have p : s.heap.IsTuple a its.toArray := p
    obtain ⟨u, hu, ru⟩ := rv.get hx
    have hel : e < s.heap.objs.size := Heap.lt_size he
    obtain ⟨oi, hoi, ci, di⟩ := id hit
    have hil : it < s.heap.objs.size := Heap.lt_size hoi
    have ae : a ≠ e := apart p he rfl (by decide)
    have ai : a ≠ it := apart p hoi ci (by decide)
    have hi : i < its.toArray.size := by
      have := (List.getElem?_eq_some_iff.mp hu).1
      rw [List.size_toArray]
      exact this
    refine wpAny_pyNext_enum_itemD (Draws.tuple (prog := X.prog) (w := X.w) (A := X.A.in1) (I.ok.hd hc) it a ai its.toArray) he ⟨hit, p⟩ hi hne (by
      intro z
      rcases List.mem_cons.mp z with z | z
      · exact hne z
      · exact ae (List.mem_singleton.mp z).symm) fun x1 h1 tk hx1 ho hit1 hT hsz hk => ?_
    obtain rfl : u = x1 := by
      have e1 : its[i]? = some x1 := by simpa using hx1
      rw [hu] at e1
      exact Option.some.inj e1
    refine ⟨_, rfl, wpAny_letOwnedTupleGo_enum (s := { s with heap := h1, toks := tk + 1 }) ho fun h2 he2 sb => ?_⟩
    have hT2 : h2.get? s.heap.objs.size = some { cls := .type "tuple", data := .seq #[.int i tk, u] } := (sb.2 _ (Nat.ne_of_gt hel)).trans hT
    have dwnew : ObjOk X.prog X.w (upd H s.heap.objs.size (.tup [.int (i : Nat), x])) h2 s.heap.objs.size (.tup [.int (i : Nat), x]) := ⟨by show 2 ≤ sizeLine; decide, [.int i tk, u], .cons ⟨_, rfl⟩ (.cons ru .nil), ⟨_, hT2, rfl, _, rfl⟩⟩
    have I1 : Inv X pins σ (upd H s.heap.objs.size (.tup [.int (i : Nat), x])) { s with heap := h2, toks := tk + 1 } :=
      I.turnedNew (ch := [e, it]) (fun b ob hb q => (sb.2 b (fun z => hb (z ▸ List.mem_cons_self))).trans (hk b ob (fun z => hb (z ▸ List.mem_cons_self)) (fun z => hb (by simp [z])) q)) hf (Nat.le_refl _) dwnew
    refine ⟨.ref s.heap.objs.size, _, I1, rfl, ⟨_, x, rfl, I.hok.fresh (Nat.le_refl _), rfl, fun ys hy => by rw [I.tuple_inj hy hq]; exact hx⟩, ⟨⟨u, ?_⟩, hit1.1.at fun o q => (sb.2 it (Ne.symm hne)).trans q, hne⟩, fun b hb => ?_⟩
    · rw [show ((i + 1 : Nat) : Int) = (i : Int) + 1 by omega]
      exact he2
    · have hb2 : b < s.heap.objs.size := by
        rcases List.mem_cons.mp hb with z | z
        · rw [z]; exact hel
        · rw [List.mem_singleton.mp z]; exact hil
      rw [upd_ne (Nat.ne_of_lt hb2)]
      exact (hf b hb).1
  done := by
    intro X hP hw hK hc i pins s σ H E I hf st hg
    subst hP hw hK
    obtain ⟨⟨old, he⟩, hit, hne⟩ := st
    obtain ⟨xs, hq, hx⟩ := hg
    obtain ⟨its, rv, p, hz⟩ := I.tuple hq
    have p : s.heap.IsTuple a its.toArray := p
    obtain ⟨f0, f1, f2, f3, f4, f5⟩ := hf it (by simp)
    have hl := rv.length
    obtain ⟨oi, hoi, ci, di⟩ := id hit
    have ai : a ≠ it := apart p hoi ci (by decide)
    have hT : s.TypeIs (.ref e) "enumerate" := ⟨_, he, rfl⟩
    unfold pyNext
    refine wpAny_bind (wpAny_attempt (wpAny_callSpecial?_slot (name := Str.ofString "__next__") hT PySem.F.slot_enumerate_next (wpAny_call_entry PySem.F.slot_enumerate_next hT PySem.F.entry_enumerate_next ?_ (PySem.F.args_enumerate_next_1 _))))
    show wpAny _ _ (field (.ref e) 2 >>= _) _ _ _
    refine wpAny_bind (wpAny_field he rfl (x := .ref it) rfl (wpAny_bind (wpAny_nextOf_tuple_end (I.ok.hd hc) hit p (by simp; omega) fun h1 x1 he1 hx1 => ?_)))
    obtain ⟨o, ho, hc1⟩ := hx1
    refine wpAny_bind (wpAny_isInstance (T := "StopIteration") (b := true) ⟨o, ho, hc1⟩ isSubtype_stop (wpAny_pure ⟨rfl, I.turned (t' := s.toks) (fun b o hb q => he1 b o hb q) f0 f1 f3 f4 f5⟩))
  self := fun A i s Q E st h => by
    obtain ⟨⟨_, he⟩, _⟩ := st
    exact wpAny_pyIter_enum he h
def iEnumT (K : PySem.W.Frag) (ta : TA) : TI := fun σ H R => ta σ H fun vs H1 => ∃ a xs, vs = [.ref a] ∧ SqT K H1 a xs ∧ R (IteT K a) H1
theorem pi_enumT {X : Cx} {e : Expr} {ta : TA} {p pos tpos : Pos} {elts : List Expr} {kk : Nat} (hg : Gl X "enumerate") (hm : X.mg "enumerate" = none) (ha : PA X [e] ta) (hs : starEach [e] X.env = [(false, eval e X.env)]) :
    PI X (.Tuple elts kk tpos) (.Call (.Name "enumerate" p) [e] [] pos) (iEnumT X.K ta) := by
  refine ⟨fun pins s σ H R I h => Call_ (ld_blt I hg hm boot_enumerate (PyProof.Rows.callWith_type1 (thn (ha.run pos pins s σ H _ I h) fun us s1 ⟨vs, H1, I1, r1, q1⟩ => ?_) hs rfl))⟩
  obtain ⟨a, xs, rfl, hq, q⟩ := q1
  cases r1 with
  | cons r rr =>
    cases rr
    cases r
    obtain ⟨its, rv, p1, hz⟩ := I1.tuple hq
    have p1 : s1.heap.IsTuple a its.toArray := p1
    refine dw_call_enum (begins_tuple a its.toArray) p1 fun h1 he hit hk => wpAny_pyIter_enum he ?_
    have I2 : Inv X pins σ H1 { s1 with heap := h1 } := I1.kept (t' := s1.toks) hk
    refine ⟨s1.heap.objs.size + 1, [s1.heap.objs.size + 1, s1.heap.objs.size], _, _, H1, rfl, I2, turn_enumT a (s1.heap.objs.size + 1) s1.heap.objs.size, ⟨⟨.none, he⟩, ⟨_, hit, rfl, rfl⟩, Nat.succ_ne_self _⟩, fun b hb => ?_, q⟩
    have hle : s1.heap.objs.size ≤ b := by
      rcases List.mem_cons.mp hb with z | z
      · rw [z]; exact Nat.le_add_right _ _
      · rw [List.mem_singleton.mp z]; exact Nat.le_refl _
    exact I1.fpOk hle (I1.hok.fresh hle)
end Dw

set_option Elab.async false
set_option linter.all false
set_option maxRecDepth 100000
set_option maxHeartbeats 4000000
/-! List comprehensions with two clauses. -/
namespace Dw
open PySem PySem.Spec PyProof.Rows L2

section
variable {K : PySem.W.Frag} {G G1 G' H H1 H' : Hp} {as as1 as' : List Addr} {S : Sto} {D : Addr} {o o' : HO}
theorem ext_D {acc : List V} (x : Ext G as H G' as' H') (hD : H D = some (.lst acc)) (gD : G D = none) (dD : D ∉ as) : H' D = some (.lst acc) ∧ G' D = none ∧ D ∉ as' := by
  refine ⟨x.kp D _ hD (fun ps z => by cases z) dD, ?_, fun h => ?_⟩
  · cases q : G' D with
    | none => rfl
    | some o =>
      rcases x.gf D o q with z | z
      · rw [gD] at z; cases z
      · exact (nn_lst hD z).elim
  · rcases x.fr D h with z | z
    · exact dD z
    · exact (nn_lst hD z).elim
theorem rst_D (r : Rst K w0 G as S H) (gD : G D = none) (dD : D ∉ as) (hl : H D = none ∨ ∃ xs, H D = some (.lst xs)) : Rst K w0 G as S (upd H D o) := by
  refine ⟨fun b o e => by rw [upd_ne (ne_of_none e gD)]; exact r.same b o e, r.len, fun k a e => ?_, r.nd, tabs_upd r.tab hl, r.nt⟩
  obtain ⟨l, xs, g1, g2, g3, g4⟩ := r.cl k a e
  exact ⟨l, xs, g1, by rw [upd_ne (fun z => dD (by rw [← z]; exact List.mem_of_getElem? e))]; exact g2, g3, g4⟩
theorem extD_upd (x : Ext G1 as1 H1 G as H) (nD : H1 D = none) : Ext G1 as1 H1 G as (upd H D o) :=
  ⟨x.g, x.pre, fun b o e nt hb => by
    rw [upd_ne (ne_of_none e nD)]
    exact x.kp b o e nt hb, fun b e => by
    by_cases hb : b = D
    · subst hb; exact nn_none nD
    · exact x.th b fun u eu => e u (by rw [upd_ne hb]; exact eu), x.fr, x.gf⟩
theorem end_D {acc : List V} {ys : List Val} {x : Val} (x1 : Ext G1 as1 H1 G as H) (nD : H1 D = none) (r : Rst K w0 G as S H) (hD : H D = some (.lst acc)) (gD : G D = none) (dD : D ∉ as) (ha : Ats K G as acc ys) (hc : collect ys = some x) :
    ∃ G3, Ext G1 as1 H1 G3 as H ∧ Rst K w0 G3 as S H ∧ At K G3 as (.ref D) x := by
  have sg : Same G (upd G D (.lst acc)) := fun b u e => by rw [upd_ne (ne_of_none e gD)]; exact e
  refine ⟨upd G D (.lst acc), ⟨x1.g.trans sg, x1.pre, x1.kp, x1.th, x1.fr, fun b o e => ?_⟩, ⟨fun b u e => ?_, r.len, fun k a e => ?_, r.nd, r.tab, fun b ps e => by
    by_cases hb : b = D
    · subst hb; rw [upd_same] at e; cases e
    · rw [upd_ne hb] at e; exact r.nt b ps e⟩, ?_⟩
  · by_cases hb : b = D
    · rw [hb]; exact .inr (nn_none nD)
    · rw [upd_ne hb] at e; exact x1.gf b o e
  · by_cases hb : b = D
    · subst hb; rw [upd_same] at e; rw [← e]; exact hD
    · rw [upd_ne hb] at e; exact r.same b u e
  · obtain ⟨l, xs, h1, h2, h3, h4⟩ := r.cl k a e
    exact ⟨l, xs, h1, h2, DaAll.mono sg _ _ h3, by rw [upd_ne (fun z => dD (by rw [← z]; exact List.mem_of_getElem? e))]; exact h4⟩
  · have : ∀ {xs : List V} {ys : List Val}, Ats K G as xs ys → Ats K (upd G D (.lst acc)) as xs ys := by
      intro xs ys h
      induction h with
      | nil => exact .nil
      | cons a _ ih => exact .cons (a.mono sg (List.prefix_refl _)) ih
    exact collect_at upd_same (this ha) hc
theorem wipe_wipe (vs : List Nat) (τ : L2.St) : L2.wipe (L2.wipe τ vs) vs = L2.wipe τ vs := by
  apply List.ext_getElem?
  intro j
  by_cases hj : j ∈ vs
  · have z1 : ∀ (τ : L2.St) (ws : List Nat), j ∈ ws → (L2.wipe τ ws)[j]? = if j < τ.length then some none else none := by
      intro τ ws
      induction ws with
      | nil => intro h; cases h
      | cons w ws ih =>
        intro h
        show ((L2.wipe τ ws).set w none)[j]? = _
        by_cases hwj : w = j
        · subst hwj
          by_cases hl : w < τ.length
          · rw [List.getElem?_set_self (by rw [wipe_length]; exact hl), if_pos hl]
          · rw [List.getElem?_eq_none (by rw [List.length_set, wipe_length]; omega), if_neg hl]
        · rw [List.getElem?_set_ne hwj]
          exact ih (by
            rcases List.mem_cons.mp h with z | z
            · exact absurd z.symm hwj
            · exact z)
    rw [z1 _ _ hj, z1 _ _ hj, wipe_length]
  · rw [wipe_out hj]
theorem EnvR.mono {σ : L2.St} {ρ : Rho} (g : Same G G') (h : as <+: as') (e : EnvR K G as σ ρ) : EnvR K G' as' σ ρ :=
  ⟨e.1, fun i y z => by
    obtain ⟨v, h1, h2⟩ := e.2 i y z
    exact ⟨v, h1, h2.mono g h⟩⟩
theorem ats_snoc {xs : List V} {ys : List Val} {v : V} {z : Val} (a : Ats K G as xs ys) (b : At K G as v z) : Ats K G as (xs ++ [v]) (ys ++ [z]) := by
  induction a with
  | nil => exact .cons b .nil
  | cons a _ ih => exact .cons a ih
end
section
variable {w0 : Ew} {W : WX} {fe : Rho → Sto → R Val} {ff : Rho → Sto → R Bool} {fi fi1 : Rho → Sto → R (List Val)} {t t1 : Tg}
abbrev outF (t t1 : Tg) (own own1 : List Nat) (ff : Rho → Sto → R Bool) (fe : Rho → Sto → R Val) (fi1 : Rho → Sto → R (List Val)) (ρ : Rho) : Val → Sto → R (List Val) := fun v S => match setTg t v (wipeE ρ own) with
  | none => .bad
  | some ρ1 => R.calm ((fi1 ρ1 S).bind fun ws S => compL (turnF t1 own1 ff fe ρ1) ws S)
abbrev cp2F (t t1 : Tg) (own own1 : List Nat) (ff : Rho → Sto → R Bool) (fe : Rho → Sto → R Val) (fi fi1 : Rho → Sto → R (List Val)) : Rho → Sto → R Val := fun ρ S => (fi ρ S).bind fun vs S =>
  (compM (outF t t1 own own1 ff fe fi1 ρ) vs S).bind fun xs S => if xs.length ≤ LINE then lstR xs S else .bad
theorem bind_inv {α β : Type} {r : R α} {g : α → Sto → R β} {b : β} {S' : Sto} (h : r.bind g = .ok b S') : ∃ a S, r = .ok a S ∧ g a S = .ok b S' := by
  cases r with
  | ok a S => exact ⟨a, S, rfl, h⟩
  | exc c d S => cases h
  | bad => cases h
theorem out_ok {own own1 : List Nat} {ρ : Rho} {v : Val} {S S' : Sto} {us : List Val} (h : outF t t1 own own1 ff fe fi1 ρ v S = .ok us S') :
    ∃ ρ1 ws S5, setTg t v (wipeE ρ own) = some ρ1 ∧ fi1 ρ1 S = .ok ws S5 ∧ compL (turnF t1 own1 ff fe ρ1) ws S5 = .ok us S' := by
  unfold outF at h
  cases h1 : setTg t v (wipeE ρ own) with
  | none => simp only [h1] at h; cases h
  | some ρ1 =>
    simp only [h1] at h
    obtain ⟨ws, S5, h2, h3⟩ := bind_inv (calm_ok h)
    exact ⟨ρ1, ws, S5, rfl, h2, h3⟩
theorem out_noexc {own own1 : List Nat} {ρ : Rho} {v : Val} {S S' : Sto} {c : Nat} {d : PyData} : outF t t1 own own1 ff fe fi1 ρ v S ≠ .exc c d S' := by
  intro h
  unfold outF at h
  split at h
  · cases h
  · unfold R.calm at h
    split at h <;> first | cases h | skip
    rename_i hne
    exact hne _ _ _ h
theorem compM_noexc {f : Val → Sto → R (List Val)} (hf : ∀ v S c d S', f v S ≠ .exc c d S') : ∀ (vs : List Val) (S : Sto) (c : Nat) (d : PyData) (S' : Sto), compM f vs S ≠ .exc c d S'
  | [], S, c, d, S', h => by cases h
  | v :: vs, S, c, d, S', h => by
    unfold compM at h
    cases h1 : f v S with
    | bad => rw [h1] at h; cases h
    | exc c1 d1 S1 => exact hf _ _ _ _ _ h1
    | ok xs S1 =>
      rw [h1] at h
      have h : (compM f vs S1).bind (fun vs S => .ok (xs ++ vs) S) = .exc c d S' := h
      cases h2 : compM f vs S1 with
      | bad => rw [h2] at h; cases h
      | exc c1 d1 S2 => exact compM_noexc hf vs _ _ _ _ h2
      | ok ys S2 => rw [h2] at h; cases h
theorem compM_cons {f : Val → Sto → R (List Val)} {v : Val} {vs zs : List Val} {S S' : Sto} (h : compM f (v :: vs) S = .ok zs S') : ∃ us zs' S1, f v S = .ok us S1 ∧ compM f vs S1 = .ok zs' S' ∧ zs = us ++ zs' := by
  unfold compM at h
  obtain ⟨us, S1, h1, h⟩ := bind_inv h
  obtain ⟨zs', S2, h2, h⟩ := bind_inv h
  cases h
  exact ⟨us, zs', S1, h1, h2, rfl⟩
theorem compL_cons {f : Val → Sto → R (Option Val)} {v : Val} {vs zs : List Val} {S S' : Sto} (h : compL f (v :: vs) S = .ok zs S') : ∃ o zs' S1, f v S = .ok o S1 ∧ compL f vs S1 = .ok zs' S' ∧ zs = (match o with
    | some x => x :: zs'
    | none => zs') := by
  unfold compL at h
  obtain ⟨o, S1, h1, h⟩ := bind_inv h
  obtain ⟨zs', S2, h2, h⟩ := bind_inv h
  cases h
  exact ⟨o, zs', S1, h1, h2, rfl⟩
theorem drop_at {α : Type} {vs : List α} {i : Nat} {y : α} (hlt : i < vs.length) (ey : vs[i]? = some y) : vs.drop i = y :: vs.drop (i + 1) := by
  rw [List.drop_eq_getElem_cons hlt]
  rw [List.getElem?_eq_getElem hlt] at ey
  rw [Option.some.inj ey]
theorem cp2_step {K : PySem.W.Frag} {σ : L2.St} {H : Hp} {Q : VK} {own : List (Str × Nat)} {own1 : List Nat} (hown : ∀ i ∈ tgSlots t, i ∈ own.map (·.2)) (hown1 : ∀ i ∈ tgSlots t1, i ∈ own1) (h : tE K w0 W (cp2F t t1 (own.map (·.2)) own1 ff fe fi fi1) σ H Q) :
    tLc2 (tI K w0 W fi) (tGt K w0 t) (tTB K w0 W0 fun _ S => .ok true S) (tI K w0 W0 fi1) (tGt K w0 t1) (tTB K w0 W0 ff) (tE K w0 W0 fe) (own.map (·.2)) own1 σ H Q := by
  obtain ⟨G, as, S, ρ, r0, e0, f⟩ := h
  refine ⟨G, as, S, ρ, r0, e0, (FinG.bind (rel' := Walk K) f).imp ?_⟩
  intro J H1 ⟨G1, as1, S1, vs, x1, r1, wk, f1⟩ D nD
  have e1 : EnvR K G1 as1 σ ρ := e0.ext x1
  generalize hF : outF t t1 (own.map (·.2)) own1 ff fe fi1 ρ = F at f1
  have f1 : FinG K w0 (At K) W σ Q G1 as1 H1 ((compM F vs S1).bind fun xs S => if xs.length ≤ LINE then lstR xs S else .bad) := f1
  cases hr : compM F vs S1 with
  | bad => rw [hr] at f1; exact f1.elim
  | exc c d S2 => exact absurd hr (compM_noexc (by rw [← hF]; exact fun v S c d S' => out_noexc) _ _ _ _ _)
  | ok xs S' =>
  rw [hr] at f1
  have f1 : FinG K w0 (At K) W σ Q G1 as1 H1 (if xs.length ≤ LINE then lstR xs S' else .bad) := f1
  by_cases hlen : xs.length ≤ LINE
  case neg => rw [if_neg hlen] at f1; exact f1.elim
  rw [if_pos hlen] at f1
  unfold lstR at f1
  cases hcx : collect xs with
  | none => rw [hcx] at f1; exact f1.elim
  | some x0 =>
  rw [hcx] at f1
  have ffin : FinG K w0 (At K) W σ Q G1 as1 H1 (.ok x0 S') := f1
  refine ⟨fun i m H2 => m = vs.length - i ∧ i ≤ vs.length ∧ ∃ G2 as2 S2 acc ys zs, Ext G1 as1 H1 G2 as2 H2 ∧ Rst K w0 G2 as2 S2 H2 ∧ H2 D = some (.lst acc) ∧ Ats K G2 as2 acc ys ∧ G2 D = none ∧ D ∉ as2 ∧
      compM F (vs.drop i) S2 = .ok zs S' ∧ ys ++ zs = xs, ⟨vs.length, rfl, Nat.zero_le _, G1, as1, S1, [], [], xs, extD_upd Ext.refl nD, ?_, upd_same, .nil, r1.same.free nD, ?_, ?_, rfl⟩, ?_⟩
  · refine ⟨fun b o e => by rw [upd_ne (ne_of_none e (r1.same.free nD))]; exact r1.same b o e, r1.len, fun k a e => ?_, r1.nd, tabs_upd r1.tab (.inl nD), r1.nt⟩
    obtain ⟨l, xs, h1, h2, h3, h4⟩ := r1.cl k a e
    exact ⟨l, xs, h1, by rw [upd_ne (ne_of_none h2 nD)]; exact h2, h3, h4⟩
  · intro hD
    obtain ⟨k, hk, e⟩ := List.getElem_of_mem hD
    obtain ⟨l, xs, h1, h2, _, _⟩ := r1.cl k D (by rw [List.getElem?_eq_getElem hk, e])
    rw [nD] at h2; cases h2
  · rw [List.drop_zero]
    exact hr
  rintro i m H2 ⟨rfl, hi', G2, as2, S2, acc, ys, zs, x2, r2, hD, ha, gD, dD, hc2, hcat⟩
  by_cases hlt : i < vs.length
  case neg =>
    have ei : i = vs.length := by omega
    refine .inl ⟨wk.stop i H2 (x2.g.trans r2.same) (by omega), ?_⟩
    rw [ei, List.drop_length] at hc2
    cases hc2
    rw [List.append_nil] at hcat
    subst hcat
    obtain ⟨G3, x3, r3, a3⟩ := end_D x2 nD r2 hD gD dD ha hcx
    exact ffin _ _ _ (.ref D) x3 r3 a3
  case pos =>
    refine .inr ⟨wk.go i H2 (x2.g.trans r2.same) hlt, fun H3 => ∃ G3 as3 S3 acc3 ys3 zs3, Ext G1 as1 H1 G3 as3 H3 ∧ Rst K w0 G3 as3 S3 H3 ∧ H3 D = some (.lst acc3) ∧ Ats K G3 as3 acc3 ys3 ∧ G3 D = none ∧ D ∉ as3 ∧
      compM F (vs.drop (i + 1)) S3 = .ok zs3 S' ∧ ys3 ++ zs3 = xs, fun H3 h => ⟨vs.length - (i + 1), by omega, rfl, hlt, h⟩, fun x H3 hy => ?_⟩
    obtain ⟨G3, y, x3, r3, ey, ax⟩ := wk.yld i H2 x H3 G2 as2 S2 x2.g x2.pre r2 hy hlt
    rw [drop_at hlt ey] at hc2
    obtain ⟨us, zs', S4, hu, hz, rfl⟩ := compM_cons hc2
    rw [← hF] at hu
    obtain ⟨ρ1, ws, S5, hset, hi1, hcl⟩ := out_ok hu
    obtain ⟨hD3, gD3, dD3⟩ := ext_D x3 hD gD dD
    have e3 : EnvR K G3 as2 σ ρ := (e1.ext x2).ext x3
    refine ⟨G3, as2, S2, _, y, ρ1, r3, e3.wipe _, ax, hset, fun σ2 e4 hw => ⟨?_, ?_⟩⟩
    · rw [hw _ hown]
      exact wipe_wipe _ _
    · refine ⟨G3, as2, S2, ρ1, r3, e4, ?_⟩
      intro G5 as5 H5 b x5 r5 eb
      obtain rfl : b = true := eb
      refine iteT ⟨G5, as5, S2, ρ1, r5, e4.ext x5, ?_⟩
      rw [hi1]
      intro G6 as6 H6 J1 x6 r6 wk1
      have x36 := x3.trans (x5.trans x6)
      have x26 : Ext G1 as1 H1 G6 as6 H6 := x2.trans x36
      obtain ⟨hD6, gD6, dD6⟩ := ext_D x36 hD gD dD
      have e6 : EnvR K G6 as6 σ2 ρ1 := (e4.ext x5).ext x6
      refine ⟨fun j k H7 => k = ws.length - j ∧ j ≤ ws.length ∧ ∃ G7 as7 S7 acc7 ys7 us7, Same G6 G7 ∧ as6 <+: as7 ∧ Ext G1 as1 H1 G7 as7 H7 ∧ Rst K w0 G7 as7 S7 H7 ∧ H7 D = some (.lst acc7) ∧ Ats K G7 as7 acc7 ys7 ∧ G7 D = none ∧ D ∉ as7 ∧
          compL (turnF t1 own1 ff fe ρ1) (ws.drop j) S7 = .ok us7 S4 ∧ ys7 ++ (us7 ++ zs') = xs, ⟨ws.length, rfl, Nat.zero_le _, G6, as6, S5, acc, ys, us, Same.refl _, List.prefix_refl _, x26, r6, hD6, Ats.ext x36 ha, gD6, dD6, by rw [List.drop_zero]; exact hcl, hcat⟩, ?_⟩
      rintro j k H7 ⟨rfl, hj', G7, as7, S7, acc7, ys7, us7, s67, p67, x7, r7, hD7, ha7, gD7, dD7, hc7, hcat7⟩
      by_cases hjt : j < ws.length
      case neg =>
        have ej : j = ws.length := by omega
        refine .inl ⟨wk1.stop j H7 (s67.trans r7.same) (by omega), ?_⟩
        rw [ej, List.drop_length] at hc7
        cases hc7
        exact ⟨G7, as7, S4, acc7, ys7, zs', x7, r7, hD7, ha7, gD7, dD7, hz, hcat7⟩
      case pos =>
        refine .inr ⟨wk1.go j H7 (s67.trans r7.same) hjt, fun H8 => ∃ G8 as8 S8 acc8 ys8 us8, Same G6 G8 ∧ as6 <+: as8 ∧ Ext G1 as1 H1 G8 as8 H8 ∧ Rst K w0 G8 as8 S8 H8 ∧ H8 D = some (.lst acc8) ∧ Ats K G8 as8 acc8 ys8 ∧ G8 D = none ∧ D ∉ as8 ∧
          compL (turnF t1 own1 ff fe ρ1) (ws.drop (j + 1)) S8 = .ok us8 S4 ∧ ys8 ++ (us8 ++ zs') = xs, fun H8 h => ⟨ws.length - (j + 1), by omega, rfl, hjt, h⟩, fun x8 H8 hy8 => ?_⟩
        obtain ⟨G8, w, x8, r8, ew, aw⟩ := wk1.yld j H7 x8 H8 G7 as7 S7 s67 p67 r7 hy8 hjt
        rw [drop_at hjt ew] at hc7
        obtain ⟨o, us', S9, ho, hus, rfl⟩ := compL_cons hc7
        obtain ⟨hD8, gD8, dD8⟩ := ext_D x8 hD7 gD7 dD7
        have ho' : turnF t1 (((own1.map fun i => (("" : Str), i))).map (·.2)) ff fe ρ1 w S7 = .ok o S9 := by
          rw [List.map_map, show ((fun x : Str × Nat => x.2) ∘ fun i => (("" : Str), i)) = id from rfl, List.map_id]
          exact ho
        obtain ⟨ρ2, hset1, hcase⟩ := turn_calm ho'
        rw [List.map_map, show ((fun x : Str × Nat => x.2) ∘ fun i => (("" : Str), i)) = id from rfl, List.map_id] at hset1
        have e8 : EnvR K G8 as7 σ2 ρ1 := (e6.mono s67 p67).ext x8
        refine ⟨G8, as7, S7, _, w, ρ2, r8, e8.wipe _, aw, hset1, fun σ3 e9 hw1 => ⟨?_, ?_⟩⟩
        · rw [hw1 _ hown1]
          exact wipe_wipe _ _
        · rcases hcase with ⟨S10, z, h1, h2, rfl⟩ | ⟨h1, rfl⟩
          · refine ⟨G8, as7, S7, ρ2, r8, e9, ?_⟩
            rw [h1]
            intro G9 as9 H9 b x9 r9 eb
            obtain rfl : b = true := eb
            refine iteT ⟨G9, as9, S10, ρ2, r9, e9.ext x9, ?_⟩
            rw [h2]
            intro G10 as10 H10 v x10 r10 a10
            have x810 := x8.trans (x9.trans x10)
            obtain ⟨hD10, gD10, dD10⟩ := ext_D x810 hD7 gD7 dD7
            refine ⟨acc7, hD10, ?_, G10, as10, S9, acc7 ++ [v], ys7 ++ [z], us', s67.trans x810.g, p67.trans x810.pre, extD_upd (x7.trans x810) nD, rst_D r10 gD10 dD10 (.inr ⟨_, hD10⟩), upd_same, ats_snoc (Ats.ext x810 ha7) a10, gD10, dD10, hus, ?_⟩
            · rw [← LINE_eq, ats_len ha7]
              rw [← hcat7] at hlen
              simp only [List.length_append, List.length_cons] at hlen
              omega
            · rw [List.append_assoc]
              exact hcat7
          · refine ⟨G8, as7, S7, ρ2, r8, e9, ?_⟩
            rw [h1]
            intro G9 as9 H9 b x9 r9 eb
            obtain rfl : b = false := eb
            have x89 := x8.trans x9
            obtain ⟨hD9, gD9, dD9⟩ := ext_D x89 hD7 gD7 dD7
            exact iteF ⟨G9, as9, S9, acc7, ys7, us', s67.trans x89.g, p67.trans x89.pre, x7.trans x89, r9, hD9, Ats.ext x89 ha7, gD9, dD9, hus, hcat7⟩
end
section
variable {X : Cx} {w0 : Ew} {W : WX} {fe : Rho → Sto → R Val} {ff : Rho → Sto → R Bool} {fi fi1 : Rho → Sto → R (List Val)} {elt tg iter tg1 iter1 : Expr} {ifs1 : List Expr} {scope : Scope} {own : List (Str × Nat)} {own1 : List Nat} {pos p1 : Pos} {t t1 : Tg}
theorem pts_none {X : Cx} {w0 : Ew} {W : WX} : PTs X [] (tTB X.K w0 W fun _ S => .ok true S) := ⟨fun pins s σ H Q I ⟨G, as, S, ρ, r0, e0, f⟩ => pts_nil.run pins s σ H Q I (f G as H true Ext.refl r0 rfl)⟩
theorem snd_cp2 (hc : X.calm = true) (hN : X.N.Nodup) (hi : PI X tg iter (tI X.K w0 W fi)) (ok : BlkOk X.N X.env.scope scope own) (hv : ∀ i ∈ own1, i ∈ own.map (·.2)) (hown : ∀ i ∈ tgSlots t, i ∈ own.map (·.2)) (hown1 : ∀ i ∈ tgSlots t1, i ∈ own1)
    (hg : ∀ (s : Shared) (H : Hp) (C : Addr) (cl : List (Str × Addr)) (fp : List Addr), PG (X.blk s H scope (compEnvC scope cl C X.env) fp) tg (tGt X.K w0 t))
    (hi1 : ∀ (s : Shared) (H : Hp) (C : Addr) (cl : List (Str × Addr)) (fp : List Addr), PI (X.blk s H scope (compEnvC scope cl C X.env) fp) tg1 iter1 (tI X.K w0 W0 fi1))
    (hg1 : ∀ (s : Shared) (H : Hp) (C : Addr) (cl : List (Str × Addr)) (fp : List Addr), PG (X.blk s H scope (compEnvC scope cl C X.env) fp) tg1 (tGt X.K w0 t1))
    (ht1 : ∀ (s : Shared) (H : Hp) (C : Addr) (cl : List (Str × Addr)) (fp : List Addr), PTs (X.blk s H scope (compEnvC scope cl C X.env) fp) ifs1 (tTB X.K w0 W0 ff))
    (he : ∀ (s : Shared) (H : Hp) (C : Addr) (cl : List (Str × Addr)) (fp : List Addr), PE (X.blk s H scope (compEnvC scope cl C X.env) fp) elt (tE X.K w0 W0 fe)) (hs : ∀ x, foldedSetIterable iter X.env x = pure x) (hs1 : ∀ env x, foldedSetIterable iter1 env x = pure x) :
    PE X (.ListComp elt [⟨tg, iter, [], 0⟩, ⟨tg1, iter1, ifs1, 0⟩] scope pos) (tE X.K w0 W (cp2F t t1 (own.map (·.2)) own1 ff fe fi fi1)) :=
  PE.imp (pe_lc2 hc hN hi ok hv hg (fun s H C cl fp => pts_none) hi1 hg1 ht1 he hs hs1) fun _ _ _ h => cp2_step hown hown1 h
end
end Dw

set_option Elab.async false
set_option linter.all false
set_option maxRecDepth 100000
set_option maxHeartbeats 4000000
/-! Methods of texts, dicts, sorted, enumerate, new lists by +. -/
namespace Dw
open PySem PySem.Spec PyProof.Rows L2

/-! ### one order, one row -/
theorem le_trans3 : ∀ a b c : List Nat, ltCps b a = false → ltCps c b = false → ltCps c a = false
  | [], _, [], _, _ => rfl
  | [], _, _ :: _, _, _ => rfl
  | _ :: _, [], _, h, _ => by cases h
  | _ :: _, _ :: _, [], _, h => by cases h
  | x :: a, y :: b, z :: c, h1, h2 => by
    unfold ltCps at h1 h2 ⊢
    simp only [Bool.or_eq_false_iff, decide_eq_false_iff_not, Bool.and_eq_false_iff, beq_eq_false_iff_ne] at h1 h2 ⊢
    refine ⟨by omega, ?_⟩
    by_cases hz : z = x
    · refine .inr (le_trans3 a b c ?_ ?_)
      · rcases h1.2 with h | h
        · omega
        · exact h
      · rcases h2.2 with h | h
        · omega
        · exact h
    · exact .inl hz
theorem le_anti : ∀ a b : List Nat, ltCps b a = false → ltCps a b = false → a = b
  | [], [], _, _ => rfl
  | [], _ :: _, _, h => by cases h
  | _ :: _, [], h, _ => by cases h
  | x :: a, y :: b, h1, h2 => by
    unfold ltCps at h1 h2
    simp only [Bool.or_eq_false_iff, decide_eq_false_iff_not, Bool.and_eq_false_iff, beq_eq_false_iff_ne] at h1 h2
    have e : x = y := by omega
    subst e
    rw [le_anti a b (by rcases h1.2 with h | h <;> first | exact absurd rfl h | exact h) (by rcases h2.2 with h | h <;> first | exact absurd rfl h | exact h)]
abbrev leS (a b : Str) : Prop := ltCps b.cps.toList a.cps.toList = false
theorem rising_pw : ∀ (l : List Str) (p : Str), risingS p l = true → (∀ x ∈ l, leS p x) ∧ l.Pairwise leS
  | [], _, _ => ⟨fun _ h => absurd h List.not_mem_nil, List.Pairwise.nil⟩
  | x :: r, p, h => by
    unfold risingS at h
    simp only [Bool.and_eq_true, Bool.not_eq_true'] at h
    obtain ⟨h1, h2⟩ := rising_pw r x h.2
    refine ⟨fun y hy => ?_, .cons h1 h2⟩
    rcases List.mem_cons.mp hy with rfl | hy
    · exact h.1
    · exact le_trans3 _ _ _ h.1 (h1 y hy)
theorem sorted_pw {l : List Str} (h : sortedS l = true) : l.Pairwise leS := by
  cases l with
  | nil => exact .nil
  | cons x r =>
    obtain ⟨h1, h2⟩ := rising_pw r x h
    exact .cons h1 h2
theorem sorted_one {ys ks : List Str} (p : ys.Perm ks) (h1 : sortedS ys = true) (h2 : sortedS ks = true) : ys = ks :=
  List.Perm.eq_of_pairwise (le := leS) (fun a b _ _ h h' => by
    have e := le_anti _ _ h h'
    cases a; cases b
    simp only [Str.mk.injEq]
    exact Array.toList_inj.mp e) (sorted_pw h1) (sorted_pw h2) p

/-! ### pairs of a dict -/
theorem nodupS_nd : ∀ {l : List Str}, nodupS l = true → l.Nodup
  | [], _ => .nil
  | x :: r, h => by
    unfold nodupS at h
    simp only [Bool.and_eq_true, Bool.not_eq_true', List.any_eq_false, decide_eq_true_eq] at h
    exact List.nodup_cons.mpr ⟨fun m => h.1 x m rfl, nodupS_nd h.2⟩
theorem merge_new : ∀ (more acc : List (Key × V)), (∀ p ∈ more, valV acc p.1 = none) → (more.map (·.1)).Nodup → mergeK acc more = acc ++ more
  | [], acc, _, _ => by rw [List.append_nil]; rfl
  | p :: r, acc, h, nd => by
    rw [List.map_cons, List.nodup_cons] at nd
    show mergeK (putK acc p.1 p.2) r = _
    rw [putK_new p.2 (h p List.mem_cons_self), merge_new r _ (fun q hq => ?_) nd.2, List.append_assoc]
    · rfl
    · rw [valV_snoc p.1 q.1 p.2 acc (h p List.mem_cons_self), if_neg (fun e => nd.1 (by rw [← e]; exact List.mem_map_of_mem hq))]
      exact h q (List.mem_cons_of_mem _ hq)
abbrev DR (K : PySem.W.Frag) (G : Hp) : Key × V → Str × PyData → Prop := fun p q => p.1 = .inr q.1 ∧ Da K G p.2 q.2
theorem dct_keys {K : PySem.W.Frag} {G : Hp} {vs : List (Key × V)} {kvs : List (Str × PyData)} (h : Paired (DR K G) vs kvs) : vs.map (·.1) = (kvs.map (·.1)).map Sum.inr := by
  induction h with
  | nil => rfl
  | cons a _ ih => rw [List.map_cons, List.map_cons, List.map_cons, a.1, ih]
theorem pairs_at {K : PySem.W.Frag} {G : Hp} : ∀ {l : List PyData} {xs : List V} {kvs : List (Str × PyData)}, DaAll K G xs l → pairsD l = some kvs →
    ∃ (ps : List Addr) (vs : List (Key × V)), xs = ps.map V.ref ∧ Paired (fun p kv => SqT K G p [kV kv.1, kv.2]) ps vs ∧ Paired (DR K G) vs kvs
  | [], _, _, .nil, e => by cases e; exact ⟨[], [], rfl, .nil, .nil⟩
  | d :: l, _, _, .cons a t, e => by
    cases a with
    | tup e1 e2 =>
      rename_i p xs
      cases e2 with
      | nil => cases e
      | cons b1 b2 =>
        cases b1 with
        | str k =>
          cases b2 with
          | nil => cases e
          | cons c1 c2 =>
            cases c2 with
            | cons _ _ => cases e
            | nil =>
              rename_i v1 d1
              have e : (pairsD l).map ((k, d1) :: ·) = some _ := e
              cases h : pairsD l with
              | none => rw [h] at e; cases e
              | some kvs =>
                rw [h] at e
                cases e
                obtain ⟨ps, vs, rfl, h2, h3⟩ := pairs_at t h
                rename_i p; exact ⟨p :: ps, (.inr k, _) :: vs, rfl, .cons e1 h2, .cons ⟨rfl, c1⟩ h3⟩
        | _ => cases e
    | _ => cases e
theorem pairs_same {K : PySem.W.Frag} {G H : Hp} (s : Same G H) {ps : List Addr} {vs : List (Key × V)} (h : Paired (fun p kv => SqT K G p [kV kv.1, kv.2]) ps vs) : Paired (fun p kv => SqT K H p [kV kv.1, kv.2]) ps vs := by
  induction h with
  | nil => exact .nil
  | cons a _ ih => exact .cons (Same.seqT s a) ih

/-! ### the rules -/
theorem strs_vals {K : PySem.W.Frag} {G : Hp} : ∀ {ys : List V} {l : List PyData} {ss : List Str}, DaAll K G ys l → strsOf l = some ss → ys = ss.map V.str
  | _, _, _, .nil, e => by cases e; rfl
  | _, d :: l, _, .cons x t, e => by
    cases d with
    | str i =>
      unfold strsOf at e
      cases h : strsOf l with
      | none => rw [h] at e; cases e
      | some ms =>
        rw [h] at e
        cases e
        cases x
        rw [strs_vals t h]
        rfl
    | _ => cases e
theorem strs_all {K : PySem.W.Frag} {G : Hp} : ∀ ss : List Str, DaAll K G (ss.map V.str) (ss.map PyData.str)
  | [] => .nil
  | s :: ss => .cons (.str s) (strs_all ss)
def smtName : Smt → String
  | .split => "split"
  | .join => "join"
section
variable {X : Cx} {w0 : Ew} {W : WX} {fa fb : Rho → Sto → R Val} {a b e : Expr} {pos p : Pos}
theorem snd_smt {m : Smt} {apos : Pos} (hs : isStar b = false) (hbase : attributeBase a (smtName m) X.env (eval a X.env) = eval a X.env) (hline : (apos.endLine == pos.line) = true) (ha : PE X a (tE X.K w0 W fa)) (hb : PE X b (tE X.K w0 W fb)) :
    PE X (.Call (.Attribute a (smtName m) apos) [b] [] pos) (tE X.K w0 W fun ρ S => ((fa ρ S).bind isStrV).bind fun x S => (fb ρ S).bind fun y S => smtR m x y S) := by
  have step : ∀ {r : V → List V → Hp → VK → Prop} {σ : L2.St} {H : Hp} {Q : VK}, (∀ {G : Hp} {as : List Addr} {S : Sto} {H1 : Hp} {z : Str} {y : Val} {v : V}, Rst X.K w0 G as S H1 → At X.K G as v y → FinG X.K w0 (At X.K) W σ Q G as H1 (smtR m (.dat (.str z)) y S) → r (.str z) [v] H1 Q) →
      tE X.K w0 W (fun ρ S => ((fa ρ S).bind isStrV).bind fun x S => (fb ρ S).bind fun y S => smtR m x y S) σ H Q → tM1 r (tE X.K w0 W fa) (tE X.K w0 W fb) σ H Q := by
    intro r σ H Q hr ⟨G, as, S, ρ, r0, e0, f⟩
    have f : FinG X.K w0 (At X.K) W σ Q G as H (((fa ρ S).bind isStrV).bind fun x S => (fb ρ S).bind fun y S => smtR m x y S) := f
    rw [R.bind_assoc (fa ρ S)] at f
    refine ⟨G, as, S, ρ, r0, e0, (FinG.bind f).imp ?_⟩
    intro v1 H1 ⟨G1, as1, S1, x, x1, r1, a1, f1⟩
    have g1 : FinG X.K w0 (At X.K) W σ Q G1 as1 H1 ((isStrV x S1).bind fun x S => (fb ρ S).bind fun y S => smtR m x y S) := f1
    clear f1
    unfold isStrV at g1
    split at g1
    · rename_i z
      cases a1
      have f1 : FinG X.K w0 (At X.K) W σ Q G1 as1 H1 ((fb ρ S1).bind fun y S => smtR m (.dat (.str z)) y S) := g1
      refine ⟨⟨z, rfl⟩, G1, as1, S1, ρ, r1, e0.ext x1, (FinG.bind (rel' := At X.K) f1).imp ?_⟩
      intro v2 H2 ⟨G2, as2, S2, y, x2, r2, a2, f2⟩
      exact hr r2 a2 f2
    · exact g1.elim
  have get : ∀ {σ : L2.St} {Q : VK} {G : Hp} {as : List Addr} {S : Sto} {H1 : Hp} {z : Str} {y : Val} {v : V}, Rst X.K w0 G as S H1 → At X.K G as v y → FinG X.K w0 (At X.K) W σ Q G as H1 (smtR m (.dat (.str z)) y S) →
      ∃ d r, Rr X.K G H1 v d ∧ smtD m (.str z) d = some r ∧ FinG X.K w0 (At X.K) W σ Q G as H1 (.ok (.dat r) S) := by
    intro σ Q G as S H1 z y v rst a1 f
    unfold smtR at f
    cases h1 : deref S y with
    | none => rw [h1] at f; exact f.elim
    | some d =>
      rw [h1] at f
      cases h2 : smtD m (.str z) d with
      | none => simp only [h2] at f; exact f.elim
      | some r => simp only [h2] at f; exact ⟨d, r, rr_of rst a1 h1, h2, f⟩
  cases m with
  | split =>
    refine PE.imp (pe_split ha hb (star_cons hs _ _) hbase hline) fun σ H Q h => step ?_ h
    intro G as S H1 z y v rst a1 f
    obtain ⟨d, r, b1, h2, f⟩ := get rst a1 f
    cases d <;> first | (cases h2; done) | skip
    rename_i b
    have h2 : (if 0 < b.length ∧ z.length + 2 ≤ LINE then some (PyData.list ((Txt.split z b).map .str)) else none) = some r := h2
    split at h2
    · rename_i hz
      cases h2
      cases b1
      exact ⟨z, b, rfl, rfl, by simp only [beq_eq_false_iff_ne]; omega, by rw [← LINE_eq]; exact hz.2, new_lst rst f (strs_all _)⟩
    · cases h2
  | join =>
    refine PE.imp (pe_join ha hb (star_cons hs _ _) hbase hline) fun σ H Q h => step ?_ h
    intro G as S H1 z y v rst a1 f
    obtain ⟨d, r, b1, h2, f⟩ := get rst a1 f
    have go : ∀ l, joinS z l = some r → ∃ ys, strsOf l = some ys ∧ (ys.map (·.length)).sum + ys.length * z.length ≤ 16777216 ∧ r = .str (Txt.join z ys) := by
      intro l h
      unfold joinS at h
      split at h
      · rename_i ys hy
        split at h
        · cases h; exact ⟨ys, hy, by assumption, rfl⟩
        · cases h
      · cases h
    cases d <;> first | (cases h2; done) | skip
    · rename_i l
      obtain ⟨ys, h3, h4, rfl⟩ := go l h2
      obtain ⟨p, xs, rfl, e1, e2⟩ := b1
      obtain rfl := strs_vals e2 h3
      exact ⟨z, p, ys, rfl, rfl, .inl e1, h4, same_val rst f (.str _)⟩
    · rename_i l
      obtain ⟨ys, h3, h4, rfl⟩ := go l h2
      cases b1 with
      | tup e1 e2 =>
        rename_i p xs
        obtain rfl := strs_vals e2 h3
        exact ⟨z, p, ys, rfl, rfl, .inr (Same.seqT rst.same e1), h4, same_val rst f (.str _)⟩
/-! a new list that changes, by + -/
def rCat (K : PySem.W.Frag) (w0 : Ew) : R2 := fun x y H Q => ∃ G as S a b W σ, Rst K w0 G as S H ∧ At K G as x a ∧ At K G as y b ∧ FinG K w0 (At K) W σ Q G as H (catR a b S)
theorem op_catC : OpR X (binaryOp .Add) (rCat X.K w0) := by
  intro pins s σ H v1 v2 u1 u2 Q I r1 r2 ⟨G, as, S, a, b, W, σ', rst, a1, a2, f⟩
  unfold catR at f
  split at f
  · rename_i l m h1 h2
    split at f
    · rename_i z
      obtain ⟨p, xs, rfl, e1, d1⟩ := rb_of rst a1 h1
      obtain ⟨q, ys, rfl, e2, d2⟩ := rb_of rst a2 h2
      refine op_cat pins s σ H _ _ u1 u2 Q I r1 r2 ⟨_, _, _, _, rfl, rfl, e1, e2, by rw [d1.length, d2.length, ← LINE_eq]; exact z, fun p np => ?_⟩
      obtain ⟨r', x, e⟩ := rst.newCell np (d1.append d2)
      exact f.now x r' ⟨p, rfl, e⟩
    · exact f.elim
  · exact f.elim
theorem snd_cat (ha : PE X a (tE X.K w0 W fa)) (hb : PE X b (tE X.K w0 W fb)) : PE X (.BinOp a .Add b pos) (tE X.K w0 W fun ρ S => (fa ρ S).bind fun x S => (fb ρ S).bind fun y S => catR x y S) := by
  refine PE.imp (pe_op (op_catC (w0 := w0)) ha hb) fun σ H Q ⟨G, as, S, ρ, r0, e0, f⟩ => ⟨G, as, S, ρ, r0, e0, (FinG.bind f).imp ?_⟩
  intro v1 H1 ⟨G1, as1, S1, x, x1, r1, a1, f1⟩
  refine ⟨G1, as1, S1, ρ, r1, e0.ext x1, (FinG.bind f1).imp ?_⟩
  intro v2 H2 ⟨G2, as2, S2, y, x2, r2, a2, f2⟩
  exact ⟨G2, as2, S2, x, y, W, σ, r2, a1.ext x2, a2, f2⟩
/-! dict(pairs), sorted(dict) -/
theorem snd_dic (hc : X.calm = true) (gl : Gl X "dict") (hm : X.mg "dict" = none) (hs : isStar e = false) (ha : PE X e (tE X.K w0 W fa)) : PE X (.Call (.Name "dict" p) [e] [] pos) (tE X.K w0 W fun ρ S => (fa ρ S).bind dicR) := by
  refine PE.imp (pe_callTy (T := "dict") (call_dictP hc) gl hm (by decide +kernel) (pa_cons ha pa_nil (star_cons hs _ _)) (by decide +kernel) (by decide +kernel) (star_cons hs _ _) rfl) fun σ H Q ⟨G, as, S, ρ, r0, e0, f⟩ => ⟨G, as, S, ρ, r0, e0, (FinG.bind f).imp ?_⟩
  intro v1 H1 ⟨G1, as1, S1, x, x1, r1, a1, f1⟩
  unfold dicR at f1
  split at f1
  · rename_i l h1
    split at f1
    · rename_i kvs h2
      split at f1
      · rename_i h3
        obtain ⟨q, xs, rfl, e1, e2⟩ := rr_of r1 a1 h1
        obtain ⟨ps, vs, rfl, p1, p2⟩ := pairs_at e2 h2
        refine ⟨q, ps, vs, rfl, e1, pairs_same r1.same p1, fun d nd => ?_⟩
        have hk : (vs.map (·.1)).Nodup := by
          rw [dct_keys p2]
          exact (nodupS_nd h3).map Sum.inr (fun a b h e => h (Sum.inr.inj e))
        rw [merge_new vs [] (fun _ _ => rfl) hk, List.nil_append]
        obtain ⟨r2, x2, e3⟩ := r1.new nd (.dK vs)
        exact f1.now x2 r2 (v := .ref d) ⟨d, vs, rfl, e3, dct_mono x2.g p2⟩
      · exact f1.elim
    · exact f1.elim
  · exact f1.elim
theorem snd_srt (hc : X.calm = true) (gl : Gl X "sorted") (hm : X.mg "sorted" = none) (hs : isStar e = false) (ha : PE X e (tE X.K w0 W fa)) : PE X (.Call (.Name "sorted" p) [e] [] pos) (tE X.K w0 W fun ρ S => (fa ρ S).bind srtR) := by
  refine PE.imp (pe_callB (call_sortedD hc) gl hm (by decide +kernel) (pa_cons ha pa_nil (star_cons hs _ _)) (by decide +kernel) (by decide +kernel) (star_cons hs _ _) rfl) fun σ H Q ⟨G, as, S, ρ, r0, e0, f⟩ => ⟨G, as, S, ρ, r0, e0, (FinG.bind f).imp ?_⟩
  intro v1 H1 ⟨G1, as1, S1, x, x1, r1, a1, f1⟩
  unfold srtR at f1
  split at f1
  · rename_i kvs
    split at f1
    · rename_i h3
      obtain ⟨q, vs, rfl, e1, e2⟩ := a1
      refine ⟨q, vs, kvs.map (·.1), rfl, .inl (r1.same _ _ e1), dct_keys e2, by rw [List.length_map]; exact h3.1, fun ys d pm so nd => ?_⟩
      rw [sorted_one pm so h3.2]
      refine new_lst r1 f1 ?_ d nd
      have : ∀ kvs : List (Str × PyData), DaAll X.K G1 ((kvs.map (·.1)).map V.str) (kvs.map fun p => PyData.str p.1) := by
        intro kvs
        induction kvs with
        | nil => exact .nil
        | cons p r ih => exact .cons (.str _) ih
      exact this kvs
    · exact f1.elim
  · exact f1.elim
/-! enumerate -/
theorem numb_get : ∀ (l : List PyData) (k i : Nat), (numb k l)[i]? = l[i]?.map fun d => Val.dat (.tuple [.int ((k + i : Nat) : Int), d])
  | [], _, _ => by simp [numb]
  | d :: l, k, 0 => by simp [numb]
  | d :: l, k, i + 1 => by
    unfold numb
    rw [List.getElem?_cons_succ, List.getElem?_cons_succ, numb_get l (k + 1) i]
    rw [show k + 1 + i = k + (i + 1) by omega]
theorem numb_len : ∀ (l : List PyData) (k : Nat), (numb k l).length = l.length
  | [], _ => rfl
  | d :: l, k => by unfold numb; rw [List.length_cons, List.length_cons, numb_len l]
section
variable {K : PySem.W.Frag} {G : Hp} {as : List Addr} {q : Addr} {xs : List V} {l : List PyData}
theorem yld_pair {i : Nat} {H H1 G1 : Hp} {as1 : List Addr} {S : Sto} {x : V} (a : DaAll K G xs l) (g : Same G G1) (r : Rst K w0 G1 as1 S H) (h : i < l.length) (y : ∃ T z, x = .ref T ∧ H T = none ∧ H1 = upd H T (.tup [.int (i : Nat), z]) ∧ xs[i]? = some z) :
    ∃ G2 y, Ext G1 as1 H G2 as1 H1 ∧ Rst K w0 G2 as1 S H1 ∧ (numb 0 l)[i]? = some y ∧ At K G2 as1 x y := by
  obtain ⟨T, z, rfl, nT, rfl, hz⟩ := y
  obtain ⟨d, h1, h2⟩ := da_get a hz
  obtain ⟨r2, x2, e⟩ := r.new nT (.tup [.int (i : Nat), z])
  refine ⟨_, .dat (.tuple [.int (i : Nat), d]), x2, r2, ?_, (show Da K _ _ _ from .tup (SqT.of e) (.cons (.int _) (.cons (Da.mono (g.trans x2.g) _ _ h2) .nil)))⟩
  rw [numb_get, h1, Nat.zero_add]
  rfl
theorem walkE (hs : ∀ H, Same G H → SqL K H q xs) (a : DaAll K G xs l) : Walk K G as (Ite K q) (numb 0 l) where
  go := fun i H s h => ⟨xs, xs[i]'(by rw [a.length, ← numb_len l 0]; exact h), hs H s, List.getElem?_eq_getElem _⟩
  stop := fun i H s h => ⟨xs, hs H s, by rw [a.length, ← numb_len l 0]; exact h⟩
  yld := fun i H x H' G1 as1 S g p r y h => by
    obtain ⟨T, z, e1, nT, e2, hz⟩ := y
    exact yld_pair a g r (by rw [← numb_len l 0]; exact h) ⟨T, z, e1, nT, e2, hz xs (hs _ (g.trans r.same))⟩
theorem walkET (hs : ∀ H, Same G H → SqT K H q xs) (a : DaAll K G xs l) : Walk K G as (IteT K q) (numb 0 l) where
  go := fun i H s h => ⟨xs, xs[i]'(by rw [a.length, ← numb_len l 0]; exact h), hs H s, List.getElem?_eq_getElem _⟩
  stop := fun i H s h => ⟨xs, hs H s, by rw [a.length, ← numb_len l 0]; exact h⟩
  yld := fun i H x H' G1 as1 S g p r y h => by
    obtain ⟨T, z, e1, nT, e2, hz⟩ := y
    exact yld_pair a g r (by rw [← numb_len l 0]; exact h) ⟨T, z, e1, nT, e2, hz xs (hs _ (g.trans r.same))⟩
end
theorem sni_enu {elts : List Expr} {kk : Nat} {tpos : Pos} (gl : Gl X "enumerate") (hm : X.mg "enumerate" = none) (hs : isStar e = false) (ha : PE X e (tE X.K w0 W fa)) :
    PI X (.Tuple elts kk tpos) (.Call (.Name "enumerate" p) [e] [] pos) (tI X.K w0 W fun ρ S => (fa ρ S).bind fun x S => give (itemsE S x) S) := by
  refine ⟨fun pins s σ H R I ⟨G, as, S, ρ, r0, e0, f⟩ => ?_⟩
  have f : FinG X.K w0 (Walk X.K) W σ R G as H ((fa ρ S).bind fun x S => give (itemsE S x) S) := f
  have pl := pi_enum (X := X) (p := p) (pos := pos) (tpos := tpos) (elts := elts) (kk := kk) gl hm (pa_cons ha pa_nil (star_cons hs _ _)) (star_cons hs _ _)
  have pt := pi_enumT (X := X) (p := p) (pos := pos) (tpos := tpos) (elts := elts) (kk := kk) gl hm (pa_cons ha pa_nil (star_cons hs _ _)) (star_cons hs _ _)
  cases h : fa ρ S with
  | bad => rw [h] at f; exact f.elim
  | exc c d S1 =>
    exact pl.run pins s σ H R I ⟨G, as, S, ρ, r0, e0, by rw [h] at f ⊢; exact f⟩
  | ok x S1 =>
    rw [h] at f
    have f : FinG X.K w0 (Walk X.K) W σ R G as H (give (itemsE S1 x) S1) := f
    unfold itemsE at f
    split at f
    · rename_i l
      refine pt.run pins s σ H R I ⟨G, as, S, ρ, r0, e0, ?_⟩
      rw [h]
      intro G1 as1 H1 v x1 r1 a1
      cases a1 with
      | tup e1 e2 =>
        rename_i q xs
        exact ⟨q, xs, rfl, Same.seqT r1.same e1, f G1 as1 H1 _ x1 r1 (walkET (fun H s => Same.seqT s e1) e2)⟩
    · rename_i l
      refine pl.run pins s σ H R I ⟨G, as, S, ρ, r0, e0, ?_⟩
      rw [h]
      intro G1 as1 H1 v x1 r1 a1
      cases a1 with
      | lst e1 e2 =>
        rename_i q xs
        exact ⟨q, xs, rfl, SqL.of (r1.same _ _ e1), f G1 as1 H1 _ x1 r1 (walkE (fun H s => SqL.of (s _ _ e1)) e2)⟩
    · exact f.elim
end
end Dw

set_option Elab.async false
set_option linter.all false
set_option maxRecDepth 100000
set_option maxHeartbeats 4000000
/-! isinstance, append, calls of defs; statements. -/
namespace Dw
open PySem PySem.Spec PyProof.Rows L2

def tyName : Ty → String
  | .int => "int"
  | .bool => "bool"
  | .str => "str"
  | .tuple => "tuple"
  | .list => "list"
theorem ty_boot (t : Ty) : bootBuiltins (tyName t) = some (.type (tyName t)) := by cases t <;> decide +kernel
def dName : PyData → String
  | .none => "NoneType"
  | .bool _ => "bool"
  | .int _ => "int"
  | .str _ => "str"
  | .list _ => "list"
  | .tuple _ => "tuple"
  | .dict _ => "dict"
def isN (n : String) (t : Ty) : Bool := (n == tyName t) || (n == "bool" && tyName t == "int")
theorem isT_isN (d : PyData) (t : Ty) (hd : ∀ x, d ≠ .dict x) : isT d t = isN (dName d) t := by
  cases d with
  | dict x => exact absurd rfl (hd x)
  | none =>
    obtain ⟨h1, h2, h3, h4, h5⟩ : isN "NoneType" .int = false ∧ isN "NoneType" .bool = false ∧ isN "NoneType" .str = false ∧ isN "NoneType" .tuple = false ∧ isN "NoneType" .list = false := by decide +kernel
    cases t
    · exact h1.symm
    · exact h2.symm
    · exact h3.symm
    · exact h4.symm
    · exact h5.symm
  | bool b =>
    obtain ⟨h1, h2, h3, h4, h5⟩ : isN "bool" .int = true ∧ isN "bool" .bool = true ∧ isN "bool" .str = false ∧ isN "bool" .tuple = false ∧ isN "bool" .list = false := by decide +kernel
    cases t
    · exact h1.symm
    · exact h2.symm
    · exact h3.symm
    · exact h4.symm
    · exact h5.symm
  | int b =>
    obtain ⟨h1, h2, h3, h4, h5⟩ : isN "int" .int = true ∧ isN "int" .bool = false ∧ isN "int" .str = false ∧ isN "int" .tuple = false ∧ isN "int" .list = false := by decide +kernel
    cases t
    · exact h1.symm
    · exact h2.symm
    · exact h3.symm
    · exact h4.symm
    · exact h5.symm
  | str b =>
    obtain ⟨h1, h2, h3, h4, h5⟩ : isN "str" .int = false ∧ isN "str" .bool = false ∧ isN "str" .str = true ∧ isN "str" .tuple = false ∧ isN "str" .list = false := by decide +kernel
    cases t
    · exact h1.symm
    · exact h2.symm
    · exact h3.symm
    · exact h4.symm
    · exact h5.symm
  | list b =>
    obtain ⟨h1, h2, h3, h4, h5⟩ : isN "list" .int = false ∧ isN "list" .bool = false ∧ isN "list" .str = false ∧ isN "list" .tuple = false ∧ isN "list" .list = true := by decide +kernel
    cases t
    · exact h1.symm
    · exact h2.symm
    · exact h3.symm
    · exact h4.symm
    · exact h5.symm
  | tuple b =>
    obtain ⟨h1, h2, h3, h4, h5⟩ : isN "tuple" .int = false ∧ isN "tuple" .bool = false ∧ isN "tuple" .str = false ∧ isN "tuple" .tuple = true ∧ isN "tuple" .list = false := by decide +kernel
    cases t
    · exact h1.symm
    · exact h2.symm
    · exact h3.symm
    · exact h4.symm
    · exact h5.symm
theorem kit_isN : ∀ n ∈ ["NoneType", "bool", "int", "str", "list", "tuple"], ∀ t ∈ [Ty.int, .bool, .str, .tuple, .list], kitB n (tyName t) = some (isN n t) := by decide +kernel
theorem kit_is (d : PyData) (hd : ∀ x, d ≠ .dict x) (t : Ty) : kitB (dName d) (tyName t) = some (isT d t) := by
  rw [isT_isN d t hd]
  refine kit_isN _ ?_ _ (by cases t <;> simp)
  cases d with
  | dict x => exact absurd rfl (hd x)
  | _ => simp [dName]
section
variable {K : PySem.W.Frag} {G H : Hp} {as : List Addr} {S : Sto}
theorem rr_ty (r : Rst K w0 G as S H) {v : V} : ∀ {d : PyData}, Rr K G H v d → TyX K H v (.type (dName d)) ∧ ∀ x, d ≠ .dict x
  | .none, h => by cases h; exact ⟨.base .non, fun _ z => nomatch z⟩
  | .bool _, h => by cases h; exact ⟨.base (.bl _), fun _ z => nomatch z⟩
  | .int _, h => by cases h; exact ⟨.base (.int _), fun _ z => nomatch z⟩
  | .str _, h => by cases h; exact ⟨.base (.str _), fun _ z => nomatch z⟩
  | .list l, h => by
    obtain ⟨p, xs, rfl, h1, h2⟩ := h
    refine ⟨?_, fun _ z => nomatch z⟩
    rcases h1 with (h1 | ⟨o, h1⟩) | ⟨o, its, n, h1, h2, _⟩
    · exact .base (.lst h1)
    · exact .base (.frz h1)
    · exact .kList h1 h2
  | .tuple l, h => by
    cases h with
    | tup h1 h2 =>
      refine ⟨?_, fun _ z => nomatch z⟩
      rcases Same.seqT r.same h1 with (h1 | ⟨o, h1⟩) | ⟨o, its, n, h1, h2, _⟩
      · exact .base (.tup h1)
      · exact .fTuple h1
      · exact .kTuple h1 h2
  | .dict _, h => by cases h
end
section
variable {X : Cx} {w0 : Ew} {W : WX} {fa : Rho → Sto → R Val} {fs fk : Rho → Sto → R (List Val)} {a e : Expr} {es : List Expr} {pos : Pos}
theorem snd_isi {t : Ty} {p p2 : Pos} (g1 : Gl X "isinstance") (m1 : X.mg "isinstance" = none) (g2 : Gl X (tyName t)) (m2 : X.mg (tyName t) = none) (hs : isStar a = false) (ha : PE X a (tE X.K w0 W fa)) :
    PE X (.Call (.Name "isinstance" p) [a, .Name (tyName t) p2] [] pos) (tE X.K w0 W fun ρ S => (fa ρ S).bind fun x S => isiR t x S) := by
  have hn : (Str.ofString (tyName t)) ≠ "__name__" := by cases t <;> decide +kernel
  have hd : ((tyName t : Str) == ("__debug__" : Str)) = false := by cases t <;> decide +kernel
  refine PE.imp (pe_callB (r := rIsi X.K) call_isi g1 m1 (by decide +kernel) (pa_cons ha (pa_cons (pe_bltn (v := .ty (tyName t)) g2 m2 (ty_boot t) rfl hn hd) pa_nil rfl) (star_cons hs _ _)) (by decide +kernel) (by decide +kernel) (star_cons hs _ _) rfl) fun σ H Q ⟨G, as, S, ρ, r0, e0, f⟩ => ⟨G, as, S, ρ, r0, e0, (FinG.bind f).imp ?_⟩
  intro v1 H1 ⟨G1, as1, S1, x, x1, r1, a1, f1⟩
  have f1 : FinG X.K w0 (At X.K) W σ Q G1 as1 H1 (isiR t x S1) := f1
  unfold isiR at f1
  cases h : deref S1 x with
  | none => rw [h] at f1; exact f1.elim
  | some d =>
    rw [h] at f1
    have f1 : FinG X.K w0 (At X.K) W σ Q G1 as1 H1 (.ok (.dat (.bool (isT d t))) S1) := f1
    obtain ⟨ty, nd⟩ := rr_ty r1 (rr_of r1 a1 h)
    exact ⟨v1, .ty (tyName t), _, .type (tyName t), isT d t, rfl, .ty _, ty, kit_ty (kit_is d nd t), same_val r1 f1 (.bl _)⟩
theorem isCell_some {α β : Type} {rel : Hp → List Addr → β → α → Prop} {K : PySem.W.Frag} {σ : L2.St} {Q : β → Hp → Prop} {G H : Hp} {as : List Addr} {x : Val} {S : Sto} {g : Val → Sto → R α} (f : FinG K w0 rel W σ Q G as H ((isCell x S).bind g)) :
    ∃ k, x = .cell k ∧ FinG K w0 rel W σ Q G as H (g (.cell k) S) := by
  unfold isCell at f
  split at f
  · exact ⟨_, rfl, f⟩
  · exact f.elim
theorem snd_app {apos : Pos} (hs : isStar e = false) (hbase : attributeBase a "append" X.env (eval a X.env) = eval a X.env) (hline : (apos.endLine == pos.line) = true)
    (ha : PE X a (tE X.K w0 W fa)) (he : PA X [e] (tA X.K w0 W fs)) : PE X (.Call (.Attribute a "append" apos) [e] [] pos) (tE X.K w0 W fun ρ S => ((fa ρ S).bind isCell).bind fun x S => (fs ρ S).bind fun vs S => appR x vs S) := by
  have hss : (([e] : List Expr).all fun e => !isStar e) = true := by simp [hs]
  refine PE.imp (pe_bm (T := "list") PySem.F.plainAttrs_list PySem.F.slot_list_append PySem.F.type_list_append mt_append ha he hbase (by
    have := star_not hss pos X.env
    simp only [this, Bool.true_and]
    rfl) hline (star_cons hs _ _) rfl) fun σ H Q ⟨G, as, S, ρ, r0, e0, f⟩ => ⟨G, as, S, ρ, r0, e0, ?_⟩
  have f : FinG X.K w0 (At X.K) W σ Q G as H (((fa ρ S).bind isCell).bind fun x S => (fs ρ S).bind fun vs S => appR x vs S) := f
  rw [R.bind_assoc (fa ρ S)] at f
  refine (FinG.bind f).imp ?_
  intro v1 H1 ⟨G1, as1, S1, x, x1, r1, a1, f1⟩
  obtain ⟨k, rfl, f1⟩ := isCell_some f1
  obtain ⟨p, rfl, ep⟩ := a1
  obtain ⟨l1, xs1, g1, g2, g3, g4⟩ := r1.cl k p ep
  refine ⟨Or.inl ⟨rfl, xs1, SqL.of g2⟩, G1, as1, S1, ρ, r1, e0.ext x1, (FinG.bind (rel' := Ats X.K) f1).imp ?_⟩
  intro ws H2 ⟨G2, as2, S2, vs, x2, r2, a2, f2⟩
  have f2 : FinG X.K w0 (At X.K) W σ Q G2 as2 H2 (appR (.cell k) vs S2) := f2
  have ep2 := pre_get x2.pre ep
  obtain ⟨l2, xs2, k1, k2, k3, k4⟩ := r2.cl k p ep2
  cases a2 with
  | nil => exact (show False from f2).elim
  | @cons b v _ _ ab t =>
    cases v with
    | dat d =>
      cases t with
      | nil =>
        have f3 : FinG X.K w0 (At X.K) W σ Q G2 as2 H2 (match S2[k]? with
          | some l => if l.length < LINE then .ok (.dat .none) (S2.set k (l ++ [d])) else .bad
          | none => .bad) := f2
        rw [k1] at f3
        by_cases hl : l2.length < LINE
        · simp only [if_pos hl] at f3
          obtain ⟨r3, x3⟩ := r2.write ep2 (k3.append (.cons ab .nil))
          exact ⟨p, xs2, _, rfl, rfl, k2, by rw [k3.length, ← LINE_eq]; exact hl, f3 _ _ _ _ x3 r3 .non⟩
        · simp only [if_neg hl] at f3; exact f3.elim
      | cons _ _ => exact (show False from f2).elim
    | _ => exact (show False from f2).elim

/-! ### calls of defs -/
theorem ats_perm {K : PySem.W.Frag} {G : Hp} {as : List Addr} {vs : List V} {xs : List Val} (a : Ats K G as vs xs) : ∀ perm : List Nat, Ats K G as (perm.filterMap fun i => vs[i]?) (perm.filterMap fun i => xs[i]?)
  | [] => .nil
  | i :: p => by
    have ih := ats_perm a p
    rw [List.filterMap_cons, List.filterMap_cons]
    have key : ∀ {vs : List V} {xs : List Val} (i : Nat), Ats K G as vs xs → (vs[i]? = none ∧ xs[i]? = none) ∨ ∃ v x, vs[i]? = some v ∧ xs[i]? = some x ∧ At K G as v x := by
      intro vs xs i h
      induction h generalizing i with
      | nil => exact .inl ⟨by simp, by simp⟩
      | cons a _ ih =>
        cases i with
        | zero => exact .inr ⟨_, _, rfl, rfl, a⟩
        | succ i =>
          rcases ih i with ⟨h1, h2⟩ | ⟨v, x, h1, h2, h3⟩
          · exact .inl ⟨by simpa using h1, by simpa using h2⟩
          · exact .inr ⟨v, x, by simpa using h1, by simpa using h2, h3⟩
    rcases key i a with ⟨h1, h2⟩ | ⟨v, x, h1, h2, h3⟩
    · rw [h1, h2]; exact ih
    · rw [h1, h2]; exact .cons h3 ih
theorem ats_app {K : PySem.W.Frag} {G : Hp} {as : List Addr} : ∀ {vs ws : List V} {xs ys : List Val}, Ats K G as vs xs → Ats K G as ws ys → Ats K G as (vs ++ ws) (xs ++ ys)
  | _, _, _, _, .nil, b => b
  | _, _, _, _, .cons x a, b => .cons x (ats_app a b)
theorem ats_ints {K : PySem.W.Frag} {G : Hp} {as : List Addr} : ∀ l : List Int, Ats K G as (l.map V.int) (l.map fun i => Val.dat (.int i))
  | [] => .nil
  | i :: l => .cons (.int i) (ats_ints l)
variable {lvl : Nat} {fad : Addr} {fd : FuncData} {ps ks : List Str} {x : Str} {p : Pos} {perm : List Nat} {dfl : List Int} {nu : Nat} {kws : List Keyword} {C : List Val → Sto → R Val}
/-- the promise, at a call -/
theorem call_fin {σ : L2.St} {Q : VK} {G H : Hp} {as : List Addr} {vs : List V} {xs : List Val} {S : Sto} (r : Rst X.K w0 G as S H) (a : Ats X.K G as vs xs) (f : FinG X.K w0 (At X.K) W σ Q G as H (C xs S)) : spEv X.K w0 C vs H Q (fun c d H' => W c d σ H') :=
  ⟨G, as, S, xs, r, a, by
    cases h : C xs S with
    | ok y S' => rw [h] at f; exact f
    | exc c d S' => rw [h] at f; exact f
    | bad => rw [h] at f; exact f⟩
theorem snd_callK {Cf : Nat → List Val → Sto → R Val} {f : Nat} (F : FnG X.prog X.w X.K X.mg X.base lvl fad fd ps (spEv X.K w0 (Cf f))) (hr : Room lvl X.A) (hgd : X.A.guards = some []) (hg : Gl X x) (hm : X.mg x = some (.ref fad)) (hk : PySem.W.keepIn X.K (.ref fad) = true)
    (sh : ShapeOk X.K fd ps nu ks perm dfl) (tk : Takes X W) (ha : PA X es (tA X.K w0 W fs)) (hkw : PK X kws (tA X.K w0 W fk)) (hall : (backToKw pos (keywordEach kws X.env)).all (·.1.isSome) = true) (hks : (backToKw pos (keywordEach kws X.env)).filterMap (·.1) = ks)
    (hnil : es = [] → ∀ ρ S, fs ρ S = .ok [] S) (hss : (es.all fun e => !isStar e) = true) (hkn : (backToKw pos (keywordEach kws X.env)).any (·.1.isNone) = false) (hdb : (x == ("__debug__" : Str)) = false) :
    PE X (.Call (.Name x p) es kws pos) (tE X.K w0 W fun ρ S => (fs ρ S).bind fun vs S => (fk ρ S).bind fun ws S => callKR Cf f nu ks.length perm dfl vs ws S) := by
  have step : ∀ {σ : L2.St} {Q : VK} {G H G0 H0 : Hp} {as as0 : List Addr} {vs : List V} {xs : List Val} {S : Sto} {ρ : Rho}, Rst X.K w0 G as S H → EnvR X.K G as σ ρ → Ats X.K G as vs xs →
      FinG X.K w0 (At X.K) W σ Q G as H ((fk ρ S).bind fun ws S => callKR Cf f nu ks.length perm dfl xs ws S) →
      tA X.K w0 W fk σ H (fun zs H2 => vs.length = nu ∧ zs.length = ks.length ∧ spEv X.K w0 (Cf f) (perm.filterMap fun i => (vs ++ zs ++ dfl.map V.int)[i]?) H2 Q (fun c d H' => W c d σ H')) := fun {σ Q G H G0 H0 as as0 vs xs S ρ} r e a h => by
    refine ⟨G, as, S, ρ, r, e, (FinG.bind (rel' := Ats X.K) h).imp ?_⟩
    intro zs H2 ⟨G2, as2, S2, ws, x2, r2, a2, f2⟩
    have f2 : FinG X.K w0 (At X.K) W σ Q G2 as2 H2 (callKR Cf f nu ks.length perm dfl xs ws S2) := f2
    unfold callKR at f2
    by_cases hl : xs.length = nu ∧ ws.length = ks.length
    · rw [if_pos hl] at f2
      exact ⟨by rw [ats_len a, hl.1], by rw [ats_len a2, hl.2], call_fin r2 (ats_perm (ats_app (ats_app (Ats.ext x2 a) a2) (ats_ints dfl)) perm) f2⟩
    · rw [if_neg hl] at f2; exact f2.elim
  cases es with
  | nil =>
    refine PE.imp (pe_callG0 (E := fun σ c d H => W c d σ H) F hr hgd hg hm hk sh (fun σ => passAt' tk σ) hkw hall hks (by rw [hkn]; rfl) hdb) fun σ H Q ⟨G, as, S, ρ, r0, e0, h⟩ => ?_
    have h : FinG X.K w0 (At X.K) W σ Q G as H ((fs ρ S).bind fun vs S => (fk ρ S).bind fun ws S => callKR Cf f nu ks.length perm dfl vs ws S) := h
    rw [hnil rfl] at h
    exact step (G0 := G) (H0 := H) (as0 := as) r0 e0 .nil h
  | cons e0 er =>
    rw [List.all_cons, Bool.and_eq_true, Bool.not_eq_true'] at hss
    refine PE.imp (pe_callG (E := fun σ c d H => W c d σ H) F hr hgd hg hm hk sh (fun σ => passAt' tk σ) ha hkw hall hks (star_cons hss.1 _ _) (by rw [star_all (by rw [List.all_cons, hss.1, hss.2]; rfl), hkn]; rfl) hdb) fun σ H Q ⟨G, as, S, ρ, r0, e0, h⟩ => ⟨G, as, S, ρ, r0, e0, (FinG.bind (rel' := Ats X.K) h).imp ?_⟩
    intro vs H1 ⟨G1, as1, S1, xs, x1, r1, a1, f1⟩
    exact step (G0 := G) (H0 := H) (as0 := as) r1 (e0.ext x1) a1 f1
end
end Dw

set_option Elab.async false
set_option linter.all false
set_option maxRecDepth 100000
set_option maxHeartbeats 4000000
/-! Statements. -/
namespace Dw
open PySem PySem.Spec PyProof.Rows L2

section
variable {K : PySem.W.Frag} {w0 : Ew} {α β : Type} {W : WX} {D : Ends} {σ : L2.St} {ρ : Rho} {G G' H H' : Hp} {as as' : List Addr}
theorem FinS.shift {r : SR} (h : FinS K w0 W D G as H r) (x : Ext G as H G' as' H') : FinS K w0 W D G' as' H' r := by
  cases r with
  | nx ρ S => exact fun G1 as1 H1 σ' e r a => h G1 as1 H1 σ' (x.trans e) r a
  | rt v S => exact fun G1 as1 H1 σ' e r a => h G1 as1 H1 σ' (x.trans e) r a
  | bk ρ S => exact fun G1 as1 H1 σ' e r a => h G1 as1 H1 σ' (x.trans e) r a
  | ct ρ S => exact fun G1 as1 H1 σ' e r a => h G1 as1 H1 σ' (x.trans e) r a
  | exc c d ρ S => exact fun G1 as1 H1 σ' dx v e r a h1 h2 => h G1 as1 H1 σ' dx v (x.trans e) r a h1 h2
  | bad => exact h.elim
def StepS (K : PySem.W.Frag) (w0 : Ew) (rel' : Hp → List Addr → β → α → Prop) (W : WX) (D : Ends) (G : Hp) (as : List Addr) (H : Hp) (g : α → Sto → SR) (v : β) (H1 : Hp) : Prop :=
  ∃ G1 as1 S1 x, Ext G as H G1 as1 H1 ∧ Rst K w0 G1 as1 S1 H1 ∧ rel' G1 as1 v x ∧ FinS K w0 W D G1 as1 H1 (g x S1)
theorem FinS.bind {rel' : Hp → List Addr → β → α → Prop} {r : R α} {g : α → Sto → SR} (e0 : EnvR K G as σ ρ) (h : FinS K w0 W D G as H (R.st r ρ g)) : FinG K w0 rel' W σ (StepS K w0 rel' W D G as H g) G as H r := by
  cases r with
  | ok a S => exact fun G1 as1 H1 v e r at_ => ⟨G1, as1, S, a, e, r, at_, FinS.shift h e⟩
  | exc c d S => exact fun G1 as1 H1 dx v e r h1 h2 => h G1 as1 H1 σ dx v e r (e0.ext e) h1 h2
  | bad => exact h
end

section
variable {X : Cx} {w0 : Ew} {W : WX} {fa fb fo fi : Rho → Sto → R Val} {e o i a b c : Expr} {pos p1 p2 : Pos} {ga gb : Rho → Sto → SR} {sa sb : List Stmt} {st : Stmt}
theorem sns_pass : PS X (.Pass pos) (tSx X.K w0 W fun ρ S => .nx ρ S) := PS.imp ps_pass fun D σ H ⟨G, as, S, ρ, r0, e0, f⟩ => f G as H σ Ext.refl r0 e0
theorem snss_nil : PSs X [] (tSx X.K w0 W fun ρ S => .nx ρ S) := PSs.imp pss_nil fun D σ H ⟨G, as, S, ρ, r0, e0, f⟩ => f G as H σ Ext.refl r0 e0
theorem snss_cons (h1 : PS X st (tSx X.K w0 W ga)) (h2 : PSs X sa (tSx X.K w0 W gb)) : PSs X (st :: sa) (tSx X.K w0 W fun ρ S => match ga ρ S with
    | .nx ρ S => gb ρ S
    | x => x) := by
  refine PSs.imp (pss_cons h1 h2) fun D σ H ⟨G, as, S, ρ, r0, e0, f⟩ => ⟨G, as, S, ρ, r0, e0, ?_⟩
  have f : FinS X.K w0 W D G as H (match ga ρ S with
    | .nx ρ S => gb ρ S
    | x => x) := f
  cases h : ga ρ S with
  | nx ρ1 S1 =>
    rw [h] at f
    exact fun G1 as1 H1 σ1 x1 r1 e1 => ⟨G1, as1, S1, ρ1, r1, e1, FinS.shift f x1⟩
  | rt v S1 => rw [h] at f; exact f
  | bk v S1 => rw [h] at f; exact f
  | ct v S1 => rw [h] at f; exact f
  | exc c d ρ1 S1 => rw [h] at f; exact f
  | bad => rw [h] at f; exact f
theorem sns_never : PS X st (tSx X.K w0 W fun _ _ => .bad) := PS.imp ps_never fun D σ H ⟨G, as, S, ρ, r0, e0, f⟩ => f.elim
theorem sns_exp (ha : PE X e (tE X.K w0 W fa)) (hs : swapsWith e none pos.line X.env = pure false) : PS X (.Expr e pos) (tSx X.K w0 W fun ρ S => R.st (fa ρ S) ρ fun _ S => .nx ρ S) := by
  refine PS.imp (ps_expr ha hs) fun D σ H ⟨G, as, S, ρ, r0, e0, f⟩ => ⟨G, as, S, ρ, r0, e0, (FinS.bind e0 f).imp ?_⟩
  intro v H1 ⟨G1, as1, S1, x, x1, r1, a1, f1⟩
  exact f1 G1 as1 H1 σ Ext.refl r1 (e0.ext x1)
theorem sns_ret (ha : PE X e (tE X.K w0 W fa)) : PS X (.Return (some e) pos) (tSx X.K w0 W fun ρ S => R.st (fa ρ S) ρ fun v S => .rt v S) := by
  refine PS.imp (ps_ret ha) fun D σ H ⟨G, as, S, ρ, r0, e0, f⟩ => ⟨G, as, S, ρ, r0, e0, (FinS.bind e0 f).imp ?_⟩
  intro v H1 ⟨G1, as1, S1, x, x1, r1, a1, f1⟩
  exact f1 G1 as1 H1 v Ext.refl r1 a1
theorem sns_if (hc : PT X c (tTB X.K w0 W (bB fa))) (ha : PSs X sa (tSx X.K w0 W ga)) (hb : PSs X sb (tSx X.K w0 W gb)) : PS X (.If c sa sb pos) (tSx X.K w0 W fun ρ S => R.st ((fa ρ S).bind toB) ρ fun k S => if k = true then ga ρ S else gb ρ S) := by
  refine PS.imp (ps_if hc ha hb) fun D σ H ⟨G, as, S, ρ, r0, e0, f⟩ => ⟨G, as, S, ρ, r0, e0, (FinS.bind (rel' := relEq) e0 f).imp ?_⟩
  intro k H1 ⟨G1, as1, S1, x, x1, r1, a1, f1⟩
  obtain rfl : k = x := a1
  cases k with
  | true => exact iteT ⟨G1, as1, S1, ρ, r1, e0.ext x1, f1⟩
  | false => exact iteF ⟨G1, as1, S1, ρ, r1, e0.ext x1, f1⟩
theorem sns_while {n : Nat} (hp : PassesOwn (model X.prog X.w) X.A X.env X.xe) (hc : PT X c (tTB X.K w0 W (bB fa))) (hb : PSs X sa (tSx X.K w0 W ga)) : PS X (.While c sa [] pos) (tSx X.K w0 W fun ρ S => loopW (bB fa) ga n ρ S) := by
  refine PS.imp (ps_while hp hc hb) fun D σ H ⟨G, as, S, ρ, r0, e0, f⟩ => ?_
  refine ⟨fun m σ H => ∃ G as S ρ, Rst X.K w0 G as S H ∧ EnvR X.K G as σ ρ ∧ FinS X.K w0 W D G as H (loopW (bB fa) ga m ρ S), ⟨n, G, as, S, ρ, r0, e0, f⟩, ?_⟩
  intro m σ H ⟨G, as, S, ρ, r0, e0, f⟩
  cases m with
  | zero => exact f.elim
  | succ m =>
    unfold loopW at f
    refine ⟨G, as, S, ρ, r0, e0, ?_⟩
    cases h : bB fa ρ S with
    | bad => simp only [h] at f; exact f.elim
    | exc c d S1 => simp only [h] at f; exact fun G1 as1 H1 dx v x r h1 h2 => f G1 as1 H1 σ dx v x r (e0.ext x) h1 h2
    | ok k S1 =>
      simp only [h] at f
      intro G1 as1 H1 k' x1 r1 ek
      obtain rfl : k' = k := ek
      cases k' with
      | false => exact iteF (f G1 as1 H1 σ x1 r1 (e0.ext x1))
      | true =>
        refine iteT ⟨fun σ' H' => ∃ G as S ρ, Rst X.K w0 G as S H' ∧ EnvR X.K G as σ' ρ ∧ FinS X.K w0 W D G as H' (loopW (bB fa) ga m ρ S), fun σ' H' q => ⟨m, Nat.lt_succ_self m, q⟩, G1, as1, S1, ρ, r1, e0.ext x1, ?_⟩
        simp only at f
        cases h2 : ga ρ S1 with
        | nx ρ2 S2 => simp only [h2] at f; exact fun G2 as2 H2 σ2 x2 r2 e2 => ⟨G2, as2, S2, ρ2, r2, e2, FinS.shift f (x1.trans x2)⟩
        | ct ρ2 S2 => simp only [h2] at f; exact fun G2 as2 H2 σ2 x2 r2 e2 => ⟨G2, as2, S2, ρ2, r2, e2, FinS.shift f (x1.trans x2)⟩
        | bk ρ2 S2 => simp only [h2] at f; exact fun G2 as2 H2 σ2 x2 r2 e2 => f G2 as2 H2 σ2 (x1.trans x2) r2 e2
        | rt v S2 => simp only [h2] at f; exact fun G2 as2 H2 v2 x2 r2 e2 => f G2 as2 H2 v2 (x1.trans x2) r2 e2
        | exc c d ρ2 S2 => simp only [h2] at f; exact fun G2 as2 H2 σ2 dx v x2 r2 e2 => f G2 as2 H2 σ2 dx v (x1.trans x2) r2 e2
        | bad => simp only [h2] at f; exact f.elim
theorem sns_for {t : Tg} {tg iter : Expr} {fs : Rho → Sto → R (List Val)} (hp : PassesOwn (model X.prog X.w) X.A X.env X.xe) (hc : X.calm = true) (hi : PI X tg iter (tI X.K w0 W fs)) (hg : PG X tg (tGt X.K w0 t)) (hb : PSs X sa (tSx X.K w0 W ga))
    (hs : ∀ x, foldedSetIterable iter X.env x = pure x) : PS X (.For tg iter sa [] pos) (tSx X.K w0 W fun ρ S => match fs ρ S with
      | .ok vs S => loopF t ga vs ρ S
      | .exc c d S => .exc c d ρ S
      | .bad => .bad) := by
  refine PS.imp (ps_for hp hc hi hg hb hs) fun D σ H ⟨G, as, S, ρ, r0, e0, f⟩ => ⟨G, as, S, ρ, r0, e0, ?_⟩
  have f : FinS X.K w0 W D G as H (R.st (fs ρ S) ρ fun vs S => loopF t ga vs ρ S) := by
    have f : FinS X.K w0 W D G as H (match fs ρ S with
      | .ok vs S => loopF t ga vs ρ S
      | .exc c d S => .exc c d ρ S
      | .bad => .bad) := f
    cases h : fs ρ S <;> rw [h] at f <;> exact f
  refine (FinS.bind (rel' := Walk X.K) e0 f).imp ?_
  intro J H1 ⟨G1, as1, S1, vs, x1, r1, wk, f1⟩
  refine ⟨fun i m σ2 H2 => m = vs.length - i ∧ i ≤ vs.length ∧ ∃ G2 as2 S2 ρ2, Ext G1 as1 H1 G2 as2 H2 ∧ Rst X.K w0 G2 as2 S2 H2 ∧ EnvR X.K G2 as2 σ2 ρ2 ∧ FinS X.K w0 W D G2 as2 H2 (loopF t ga (vs.drop i) ρ2 S2), ⟨vs.length, rfl, Nat.zero_le _, G1, as1, S1, ρ, Ext.refl, r1, e0.ext x1, by rw [List.drop_zero]; exact f1⟩, ?_⟩
  rintro i m σ2 H2 ⟨rfl, hi', G2, as2, S2, ρ2, x2, r2, e2, f2⟩
  by_cases hlt : i < vs.length
  case neg =>
    have ei : i = vs.length := by omega
    refine .inl ⟨wk.stop i H2 (x2.g.trans r2.same) (by omega), ?_⟩
    rw [ei, List.drop_length] at f2
    exact f2 G2 as2 H2 σ2 Ext.refl r2 e2
  case pos =>
    refine .inr ⟨wk.go i H2 (x2.g.trans r2.same) hlt, fun σ3 H3 => ∃ G3 as3 S3 ρ3, Ext G1 as1 H1 G3 as3 H3 ∧ Rst X.K w0 G3 as3 S3 H3 ∧ EnvR X.K G3 as3 σ3 ρ3 ∧ FinS X.K w0 W D G3 as3 H3 (loopF t ga (vs.drop (i + 1)) ρ3 S3), fun σ3 H3 h => ⟨vs.length - (i + 1), by omega, rfl, hlt, h⟩, fun x H3 hy => ?_⟩
    obtain ⟨G3, y, x3, r3, ey, ax⟩ := wk.yld i H2 x H3 G2 as2 S2 x2.g x2.pre r2 hy hlt
    have ev : vs.drop i = y :: vs.drop (i + 1) := by
      rw [List.drop_eq_getElem_cons hlt]
      rw [List.getElem?_eq_getElem hlt] at ey
      rw [Option.some.inj ey]
    rw [ev] at f2
    unfold loopF at f2
    cases hset : setTg t y ρ2 with
    | none => simp only [hset] at f2; exact f2.elim
    | some ρ' =>
      simp only [hset] at f2
      refine ⟨G3, as2, S2, ρ2, y, ρ', r3, e2.ext x3, ax, hset, fun σ4 e4 _ => ⟨G3, as2, S2, ρ', r3, e4, ?_⟩⟩
      have x13 := x2.trans x3
      cases h2 : ga ρ' S2 with
      | nx ρ5 S5 => simp only [h2] at f2; exact fun G5 as5 H5 σ5 x5 r5 e5 => ⟨G5, as5, S5, ρ5, x13.trans x5, r5, e5, FinS.shift f2 (x3.trans x5)⟩
      | ct ρ5 S5 => simp only [h2] at f2; exact fun G5 as5 H5 σ5 x5 r5 e5 => ⟨G5, as5, S5, ρ5, x13.trans x5, r5, e5, FinS.shift f2 (x3.trans x5)⟩
      | bk ρ5 S5 => simp only [h2] at f2; exact fun G5 as5 H5 σ5 x5 r5 e5 => f2 G5 as5 H5 σ5 (x3.trans x5) r5 e5
      | rt v S5 => simp only [h2] at f2; exact fun G5 as5 H5 v5 x5 r5 e5 => f2 G5 as5 H5 v5 (x3.trans x5) r5 e5
      | exc c d ρ5 S5 => simp only [h2] at f2; exact fun G5 as5 H5 σ5 dx v x5 r5 e5 => f2 G5 as5 H5 σ5 dx v (x3.trans x5) r5 e5
      | bad => simp only [h2] at f2; exact f2.elim
/-! stores -/
theorem sns_asg {t : Tg} {tg : Expr} (ha : PE X e (tE X.K w0 W fa)) (hg : PG X tg (tGt X.K w0 t)) (hs : swapsWithSole [tg] e pos.line X.env = pure false) (hw : swappedStores [tg] e X.env = pure none) (h1 : (assignEach [tg] X.env).map (·.2) = [assign tg X.env]) :
    PS X (.Assign [tg] e pos) (tSx X.K w0 W fun ρ S => R.st (fa ρ S) ρ fun v S => match setTg t v ρ with
      | some ρ => .nx ρ S
      | none => .bad) := by
  refine PS.imp (ps_asg ha hg hs hw h1) fun D σ H ⟨G, as, S, ρ, r0, e0, f⟩ => ⟨G, as, S, ρ, r0, e0, (FinS.bind e0 f).imp ?_⟩
  intro v H1 ⟨G1, as1, S1, x, x1, r1, a1, f1⟩
  cases h : setTg t x ρ with
  | none => simp only [h] at f1; exact f1.elim
  | some ρ' =>
    simp only [h] at f1
    exact ⟨G1, as1, S1, ρ, x, ρ', r1, e0.ext x1, a1, h, fun σ' e' _ => f1 G1 as1 H1 σ' Ext.refl r1 e'⟩
theorem sns_setLc {j : Nat} {y : Str} {py : Pos} {elt tg iter : Expr} {ifs : List Expr} {scope : Scope} {own : List (Str × Nat)} {t : Tg} {fe : Rho → Sto → R Val} {ff : Rho → Sto → R Bool} {fl : Rho → Sto → R (List Val)} (hc : X.calm = true) (hN : X.N.Nodup) (hy : X.N[j]? = some y) (hyl : X.env.scope.names.lookup y = some .local)
    (hsw : swapsWith (.ListComp elt [⟨tg, iter, ifs, 0⟩] scope p1) (some (.Name y py)) pos.line X.env = pure true) (hi : PI X tg iter (tI X.K w0 W fl)) (ok : BlkOk X.N X.env.scope scope own) (hown : ∀ i ∈ tgSlots t, i ∈ own.map (·.2))
    (hg : ∀ (s : Shared) (H : Hp) (C : Addr) (cl : List (Str × Addr)) (fp : List Addr), PG (X.blk s H scope (compEnvC scope cl C X.env) fp) tg (tGt X.K w0 t))
    (ht : ∀ (s : Shared) (H : Hp) (C : Addr) (cl : List (Str × Addr)) (fp : List Addr), PTs (X.blk s H scope (compEnvC scope cl C X.env) fp) ifs (tTB X.K w0 W0 ff))
    (he : ∀ (s : Shared) (H : Hp) (C : Addr) (cl : List (Str × Addr)) (fp : List Addr), PE (X.blk s H scope (compEnvC scope cl C X.env) fp) elt (tE X.K w0 W0 fe)) (hs : ∀ x, foldedSetIterable iter X.env x = pure x) :
    PS X (.Assign [.Name y py] (.ListComp elt [⟨tg, iter, ifs, 0⟩] scope p1) pos) (tSx X.K w0 W fun ρ S => R.st (cpF t (own.map (·.2)) ff fe fl ρ S) ρ fun v S => match setTg (.name j) v ρ with
      | some ρ => .nx ρ S
      | none => .bad) := by
  refine PS.imp (ps_setLc hc hN hy hyl hsw hi ok hg ht he hs) fun D σ H ⟨G, as, S, ρ, r0, e0, f⟩ => ?_
  refine cp_step hown ⟨G, as, S, ρ, r0, e0, (FinS.bind e0 f).imp ?_⟩
  intro v H1 ⟨G1, as1, S1, x, x1, r1, a1, f1⟩
  exact f1 G1 as1 H1 _ Ext.refl r1 ((e0.ext x1).set a1 j)
theorem sns_setLc2 {j : Nat} {y : Str} {py : Pos} {elt tg iter tg1 iter1 : Expr} {ifs : List Expr} {scope : Scope} {own : List (Str × Nat)} {own1 : List Nat} {t t1 : Tg} {fe : Rho → Sto → R Val} {ff : Rho → Sto → R Bool} {fl fl1 : Rho → Sto → R (List Val)} (hc : X.calm = true) (hN : X.N.Nodup) (hy : X.N[j]? = some y) (hyl : X.env.scope.names.lookup y = some .local)
    (hsw : swapsWith (.ListComp elt [⟨tg, iter, [], 0⟩, ⟨tg1, iter1, ifs, 0⟩] scope p1) (some (.Name y py)) pos.line X.env = pure true) (hi : PI X tg iter (tI X.K w0 W fl)) (ok : BlkOk X.N X.env.scope scope own) (hv : ∀ i ∈ own1, i ∈ own.map (·.2)) (hown : ∀ i ∈ tgSlots t, i ∈ own.map (·.2)) (hown1 : ∀ i ∈ tgSlots t1, i ∈ own1)
    (hg : ∀ (s : Shared) (H : Hp) (C : Addr) (cl : List (Str × Addr)) (fp : List Addr), PG (X.blk s H scope (compEnvC scope cl C X.env) fp) tg (tGt X.K w0 t))
    (hi1 : ∀ (s : Shared) (H : Hp) (C : Addr) (cl : List (Str × Addr)) (fp : List Addr), PI (X.blk s H scope (compEnvC scope cl C X.env) fp) tg1 iter1 (tI X.K w0 W0 fl1))
    (hg1 : ∀ (s : Shared) (H : Hp) (C : Addr) (cl : List (Str × Addr)) (fp : List Addr), PG (X.blk s H scope (compEnvC scope cl C X.env) fp) tg1 (tGt X.K w0 t1))
    (ht : ∀ (s : Shared) (H : Hp) (C : Addr) (cl : List (Str × Addr)) (fp : List Addr), PTs (X.blk s H scope (compEnvC scope cl C X.env) fp) ifs (tTB X.K w0 W0 ff))
    (he : ∀ (s : Shared) (H : Hp) (C : Addr) (cl : List (Str × Addr)) (fp : List Addr), PE (X.blk s H scope (compEnvC scope cl C X.env) fp) elt (tE X.K w0 W0 fe)) (hs : ∀ x, foldedSetIterable iter X.env x = pure x) (hs1 : ∀ env x, foldedSetIterable iter1 env x = pure x) :
    PS X (.Assign [.Name y py] (.ListComp elt [⟨tg, iter, [], 0⟩, ⟨tg1, iter1, ifs, 0⟩] scope p1) pos) (tSx X.K w0 W fun ρ S => R.st (cp2F t t1 (own.map (·.2)) own1 ff fe fl fl1 ρ S) ρ fun v S => match setTg (.name j) v ρ with
      | some ρ => .nx ρ S
      | none => .bad) := by
  refine PS.imp (ps_setLc2 (tt := tTB X.K w0 W0 fun _ S => .ok true S) hc hN hy hyl hsw hi ok hv hg (fun s H C cl fp => pts_none) hi1 hg1 ht he hs hs1) fun D σ H ⟨G, as, S, ρ, r0, e0, f⟩ => ?_
  refine cp2_step hown hown1 ⟨G, as, S, ρ, r0, e0, (FinS.bind e0 f).imp ?_⟩
  intro v H1 ⟨G1, as1, S1, x, x1, r1, a1, f1⟩
  exact f1 G1 as1 H1 _ Ext.refl r1 ((e0.ext x1).set a1 j)
theorem sns_par {i j : Nat} {x y : Str} {px py pt : Pos} {kt k2 : Nat} (hc : X.calm = true) (hN : X.N.Nodup) (hi : X.N[i]? = some x) (hj : X.N[j]? = some y) (hij : i ≠ j) (hx : X.env.scope.names.lookup x = some .local) (hy : X.env.scope.names.lookup y = some .local)
    (hs1 : isStar a = false) (hs2 : isStar b = false) (ha : PE X a (tE X.K w0 W fa)) (hb : PE X b (tE X.K w0 W fb)) (hw : swappedStores [.Tuple [.Name x px, .Name y py] kt pt] (.Tuple [a, b] k2 p2) X.env = pure (some [x, y])) :
    PS X (.Assign [.Tuple [.Name x px, .Name y py] kt pt] (.Tuple [a, b] k2 p2) pos) (tSx X.K w0 W fun ρ S => R.st (fa ρ S) ρ fun v S => R.st (fb ρ S) ρ fun w S => .nx ((ρ.set i (some v)).set j (some w)) S) := by
  refine PS.imp (ps_par hc hN hi hj hij hx hy (pa_cons ha (pa_cons hb pa_nil (star_cons hs2 _ _)) (star_cons hs1 _ _)) hw rfl) fun D σ H ⟨G, as, S, ρ, r0, e0, f⟩ => ⟨G, as, S, ρ, r0, e0, (FinS.bind e0 f).imp ?_⟩
  intro v H1 ⟨G1, as1, S1, x, x1, r1, a1, f1⟩
  refine ⟨G1, as1, S1, ρ, r1, e0.ext x1, (FinS.bind (e0.ext x1) f1).imp ?_⟩
  intro v2 H2 ⟨G2, as2, S2, y, x2, r2, a2, f2⟩
  exact ⟨v, v2, rfl, f2 G2 as2 H2 _ Ext.refl r2 ((((e0.ext x1).ext x2).set (a1.ext x2) i).set a2 j)⟩
/-- o[i] = v, within a store -/
theorem sub_step {σ : L2.St} {ρ : Rho} {D : Ends} {G H : Hp} {as : List Addr} {S : Sto} {v : V} {d : PyData} {g : Sto → SR} {Cc : Nat → List Val → Sto → R Val} {Gc : List PyData} {xo xi : Ex} (r0 : Rst X.K w0 G as S H) (e0 : EnvR X.K G as σ ρ) (a : Da X.K G v d)
    (f : FinS X.K w0 W D G as H (evSub Cc Gc xo xi d ρ S g)) : tE X.K w0 W (evE Cc Gc xo) σ H fun o H1 => tE X.K w0 W (evE Cc Gc xi) σ H1 fun i H2 => rSetL o i v H2 fun H3 => ∃ G3 as3 S3, Ext G as H G3 as3 H3 ∧ Rst X.K w0 G3 as3 S3 H3 ∧ FinS X.K w0 W D G3 as3 H3 (g S3) := by
  refine ⟨G, as, S, ρ, r0, e0, (FinS.bind e0 f).imp ?_⟩
  intro v1 H1 ⟨G1, as1, S1, x, x1, r1, a1, f1⟩
  refine ⟨G1, as1, S1, ρ, r1, e0.ext x1, (FinS.bind (e0.ext x1) f1).imp ?_⟩
  intro v2 H2 ⟨G2, as2, S2, y, x2, r2, a2, f2⟩
  have a1 := a1.ext x2
  have a := Da.mono (x1.g.trans x2.g) _ _ a
  cases x with
  | cell k =>
    cases y with
    | dat d' =>
      cases d' with
      | int j =>
        obtain ⟨p, rfl, ep⟩ := a1
        cases a2
        obtain ⟨l, xs, h1, h2, h3, h4⟩ := r2.cl k p ep
        simp only [setCell, h1] at f2
        by_cases hj : 0 ≤ j ∧ j < (l.length : Int)
        · simp only [if_pos hj] at f2
          obtain ⟨r3, x3⟩ := r2.write ep (h3.set a j.toNat)
          refine ⟨p, xs, j, j.toNat, rfl, rfl, h2, ?_, G2, as2, _, (x1.trans x2).trans x3, r3, FinS.shift f2 x3⟩
          unfold ixN
          rw [h3.length, if_pos hj.1, if_pos hj.2]
        · simp only [if_neg hj] at f2; exact f2.elim
      | _ => exact f2.elim
    | _ => exact f2.elim
  | _ => exact f2.elim
/-- no slice -/
def noSl : Expr → Bool
  | .Slice _ _ _ _ => false
  | _ => true
theorem pg_sub2 {to ti : TE} {t : TSet} (hn : noSl i = true) (ho : PE X o to) (hi : PE X i ti) (hs : PSet X t) : PG X (.Subscript o i pos) (gSub to ti t) := pg_sub ho hi hs (by
  intro v
  cases i <;> first | rfl | cases hn)
theorem tG_imp {α β : Type} {rel : Hp → List Addr → β → α → Prop} {K : PySem.W.Frag} {w0 : Ew} {W : WX} {f : Rho → Sto → R α} {σ : L2.St} {H : Hp} {Q Q' : β → Hp → Prop} (h : tG K w0 rel W f σ H Q) (k : ∀ v H, Q v H → Q' v H) : tG K w0 rel W f σ H Q' := by
  obtain ⟨G, as, S, ρ, r0, e0, f⟩ := h
  exact ⟨G, as, S, ρ, r0, e0, f.imp k⟩
theorem sns_sub {Cc : Nat → List Val → Sto → R Val} {Gc : List PyData} {xo xi : Ex} (hn : noSl i = true) (he : PE X e (tE X.K w0 W fa)) (ho : PE X o (tE X.K w0 W (evE Cc Gc xo))) (hi : PE X i (tE X.K w0 W (evE Cc Gc xi))) (hs : swapsWithSole [.Subscript o i p1] e pos.line X.env = pure false)
    (hw : swappedStores [.Subscript o i p1] e X.env = pure none) :
    PS X (.Assign [.Subscript o i p1] e pos) (tSx X.K w0 W fun ρ S => R.st (fa ρ S) ρ fun v S => match v with
      | .dat d => evSub Cc Gc xo xi d ρ S fun S => .nx ρ S
      | _ => .bad) := by
  refine PS.imp (ps_asg he (pg_sub2 hn ho hi set_list) hs hw rfl) fun D σ H ⟨G, as, S, ρ, r0, e0, f⟩ => ⟨G, as, S, ρ, r0, e0, (FinS.bind e0 f).imp ?_⟩
  intro v H1 ⟨G1, as1, S1, x, x1, r1, a1, f1⟩
  cases x with
  | dat d =>
    refine (tG_imp (sub_step r1 (e0.ext x1) a1 f1) fun o H2 q => tG_imp q fun i H3 q => ?_)
    obtain ⟨p, xs, k, j, e1, e2, h2, h3, G3, as3, S3, x3, r3, f3⟩ := q
    exact ⟨p, xs, k, j, e1, e2, h2, h3, f3 G3 as3 _ σ Ext.refl r3 ((e0.ext x1).ext x3)⟩
  | _ => exact f1.elim
theorem sns_subn {Cc : Nat → List Val → Sto → R Val} {Gc : List PyData} {xo xi : Ex} {j : Nat} {y : Str} {py pt : Pos} {kt : Nat} (hc : X.calm = true) (hN : X.N.Nodup) (hj : X.N[j]? = some y) (hy : X.env.scope.names.lookup y = some .local) (hn : noSl i = true)
    (he : PE X e (tE X.K w0 W fa)) (ho : PE X o (tE X.K w0 W (evE Cc Gc xo))) (hi : PE X i (tE X.K w0 W (evE Cc Gc xi))) (hs : swapsWithSole [.Tuple [.Subscript o i p1, .Name y py] kt pt] e pos.line X.env = pure false)
    (hw : swappedStores [.Tuple [.Subscript o i p1, .Name y py] kt pt] e X.env = pure none) :
    PS X (.Assign [.Tuple [.Subscript o i p1, .Name y py] kt pt] e pos) (tSx X.K w0 W fun ρ S => R.st (fa ρ S) ρ fun v S => match v with
      | .dat (.tuple [d, d']) => evSub Cc Gc xo xi d ρ S fun S => .nx (ρ.set j (some (.dat d'))) S
      | _ => .bad) := by
  refine PS.imp (ps_asg he (pg_tup (n := 2) hc (pgs_cons (pg_sub2 hn ho hi set_list) (pgs_cons (pg_name hN hj (.inl hy) (.inr hy)) pgs_nil))) hs hw rfl) fun D σ H ⟨G, as, S, ρ, r0, e0, f⟩ => ⟨G, as, S, ρ, r0, e0, (FinS.bind e0 f).imp ?_⟩
  intro v H1 ⟨G1, as1, S1, x, x1, r1, a1, f1⟩
  have a1 : At X.K G1 as1 v x := a1
  dsimp only at f1
  split at f1
  · rename_i d d' heq
    cases a1 with
      | tup e1 e2 =>
        cases e2 with
        | cons q1 e3 =>
          cases e3 with
          | cons q2 e4 =>
            cases e4 with
            | nil =>
              refine ⟨_, _, rfl, Same.seqT r1.same e1, rfl, _, _, rfl, ?_⟩
              refine (tG_imp (sub_step r1 (e0.ext x1) q1 f1) fun o H2 q => tG_imp q fun i H3 q => ?_)
              obtain ⟨p, xs, k, jj, e1, e2, h2, h3, G3, as3, S3, x3, r3, f3⟩ := q
              refine ⟨p, xs, k, jj, e1, e2, h2, h3, _, _, rfl, rfl, ?_⟩
              exact f3 G3 as3 _ _ Ext.refl r3 (((e0.ext x1).ext x3).set (x := .dat _) (Da.mono x3.g _ _ q2) j)
  · exact f1.elim
end
end Dw

set_option Elab.async false
set_option linter.all false
set_option maxRecDepth 100000
set_option maxHeartbeats 4000000
/-! Own errors: class X(DueError) with __init__(self, f): super().__init__(f); self.f = f, DueError over ValueError. -/
namespace Dw
open PySem PySem.W PySem.Calls PyProof.Rows PySem.HandSPX
def eA (f : Str) (p1 p2 : Pos) : Arguments := { posonlyargs := [], args := [{ arg := "self", annotation := none, pos := p1 }, { arg := f, annotation := none, pos := p2 }], vararg := none, kwonlyargs := [], kw_defaults := [], kwarg := none, defaults := [] }
structure EPos where
  (q1 q2 q3 q4 q5 q6 q7 q8 q9 q10 : Pos)
def eB (f : Str) (q : EPos) : List Stmt := [.Expr (.Call (.Attribute (.Call (.Name "super" q.q1) [] [] q.q2) "__init__" q.q3) [.Name f q.q4] [] q.q5) q.q6, .Assign [.Attribute (.Name "self" q.q7) f q.q8] (.Name f q.q9) q.q10]
def eS (f : Str) : Scope := { kind := .function, names := [(PySem.Str.ofString "self", .local), (f, .local), (PySem.Str.ofString "__class__", .free), (PySem.Str.ofString "super", .globalImplicit)], isGenerator := false, isCoroutine := false, more := [] }
/-- what the written part says of such a class, at C, its __init__ at fI -/
structure ErrTxt (K : Frag) (prog : Program) (f : Str) (C fI : Addr) : Prop where
  cls : ∃ nm q N bs bm sn sub ab col dd k0 k1 k2 k3 k5, K.lookup C = some (excClassObj nm q C N bs bm true sn sub ab col dd k0 k1 k2 k3 k5 "ValueError.__new__") ∧ refsVE bm = true ∧ alongIn K "__init__" bm = some (some (.builtin "ValueError.__init__"))
  sa : findIn K (.ref C) "__setattr__" = some (some (.builtin "object.__setattr__"))
  ga : findIn K (.ref C) "__getattribute__" = some (some (.builtin "BaseException.__getattribute__"))
  gg : findIn K (.ref C) "__getattr__" = some none
  noN : findIn K (.ref C) f = some none
  iC : findIn K (.ref C) "__init__" = some (some (.ref fI))
  tC : typeIn K (.ref fI) = some (.type "function")
  kC : keepIn K (.ref C) = true
  exC : subIn K (.ref C) (.type "BaseException") = some true
  veC : subIn K (.ref C) (.type "ValueError") = some true
  slf : mroIn K C (.ref C) = some true
  tyC : typeIn K (.ref C) = some (.type "type")
  hdC : hasDictIn K C = true
  opq : nsIn K cStatics "thirdparty.any" = some none
  sup : nsIn K mainGlobals "super" = some none
  top : (prog.main.scope.names.lookup ("super" : Str)).isSome = false
  fn : ∃ (oc : Value) (od : Option Addr) (qual : Str) (doc pm : Value) (an : Option Addr) (cda cc : Addr) (ct : Value) (osl : Array (Option Value)) (p1 p2 : Pos) (q : EPos) (ccl cl : Value) (cdd cld : Option Addr) (vs : Array Value) (ccs csl : Array (Option Value)) (file : Str) (tf : Tok),
    K.lookup fI = some ⟨oc, od, .func (ksFn "__init__" qual (eA f p1 p2) (eB f q) (eS f) .none .none doc pm an (.ref cda) ct cc), osl⟩ ∧ codeIn K (.ref cda) qual = true ∧
      (q.q3.endLine == q.q5.line) = true ∧ K.lookup cda = some ⟨ccl, cdd, .fields vs, ccs⟩ ∧ vs[2]? = some (.str file tf) ∧ ((prog.main.file : Str) == file) = true ∧ K.lookup cc = some ⟨cl, cld, .cell (some (.ref C)), csl⟩
/-- the names that a field may bear -/
inductive Fld where
  | given
  | index
def Fld.s : Fld → Str
  | .given => PySem.Str.ofString "given"
  | .index => PySem.Str.ofString "index"
/-- the bound ValueError.__init__ is called -/
theorem bound_call {prog : Program} {w : World} {A : Around} {E : Value → Shared → Prop} {h : Heap} {g : Array GenState} {d : Drawn} {t : Nat} {os : OsState} {nm q : Str} {C N : Addr} {bs bm : List Value} {hdct : Bool} {sn : List Str} {sub : List Value} {ab : Bool} {col : Option Bool} {dd : Option Addr} {k0 k1 k2 k3 k5 : Option Value} {u e t0 : Addr} {vs : List Value} {Q : Value → Shared → Prop}
    (cl : h.get? C = some (excClassObj nm q C N bs bm hdct sn sub ab col dd k0 k1 k2 k3 k5 "ValueError.__new__")) (oe : h.get? e = some (excO C t0)) (ou : h.get? u = some (kxs_mw "ValueError.__init__" e)) (few : vs.length ≤ sizeLine)
    (fin : ∀ h' t1, (∀ b o, b ≠ e → h.get? b = some o → h'.get? b = some o) → h'.get? e = some (excO C t1) → Q .none ⟨h', g, d, t, os⟩) : wpAny (model prog w) A (call (.ref u) vs) Q E ⟨h, g, d, t, os⟩ := by
  refine wpAny_call (codeAny_of_tree ?_)
  change wpAny _ A.in1 (callAny (.ref u) ⟨vs, []⟩) _ _ _
  simp only [callAny]
  refine wpAny_bind (wpAny_load ou ?_)
  have km : (Value.type "method-wrapper" == Value.type "method" || Value.type "method-wrapper" == Value.type "builtin_function_or_method" || Value.type "method-wrapper" == Value.type "method-wrapper") = true := by decide
  simp only [kxs_mw, km, if_true]
  refine W.KFB.if_so (by decide) (wpAny_bind (check_bound_init F.excBase_ValueError.toExcCallFacts cl oe rfl (wpAny_bind (wpAny_pure (wpAny_pure ⟨plainId_quiet F.excBase_ValueError.init.plain _, codeAny_builtin F.excBase_ValueError.initEntry ?_⟩)))))
  exact exc_init_tree (cls := .ref C) (t0 := t0) (dv := none) (c2 := .none) (c3 := .none) (b4 := .bool false) oe few fun h' k1 k2 _ => fin h' _ k1 k2
/-- what __init__ leaves of a fresh error at x -/
structure ErrEnd (f : Str) (h h' : Heap) (x C dx t1 : Addr) (v : Value) : Prop where
  keep : ∀ b o, b ≠ x → h.get? b = some o → h'.get? b = some o
  obj : h'.get? x = some { cls := .ref C, dict := some dx, data := .fields #[.ref t1, .none, .none, .none, .bool false, .none] }
  dbig : h.objs.size ≤ dx
  dne : dx ≠ x
  ns : h'.Ns1 dx (fun y => if y = f then some v else none)
theorem call_attr {o : Expr} {name : Str} {apos pos : Pos} {e : Expr} {env : Env} (hs : starEach [e] env = [(false, eval e env)]) (hl : (apos.endLine == pos.line) = true) :
    eval (.Call (.Attribute o name apos) [e] [] pos) env = (do
      let ov ← attributeBase o name env (eval o env)
      standAt apos.atName
      let (f, first) ← holding [ov] (getMethod ov name (do return (← importBound o env).getD true))
      callWith pos f first (backTo pos (starEach [e] env)) []) := by
  have few : methodCallForm (([e] : List Expr).length + ([] : List Keyword).length) (backTo pos (starEach [e] env)) (backToKw pos (keywordEach [] env)) = true := by rw [hs]; rfl
  have at_ : methodCallPos true o env apos pos = pure pos := by
    unfold methodCallPos
    rw [hl]
    rfl
  show (do
    let ov ← attributeBase o name env (eval o env)
    standAt apos.atName
    methodCall o name apos pos env ov (([e] : List Expr).length + ([] : List Keyword).length) (backTo pos (starEach [e] env)) (backToKw pos (keywordEach [] env))) = _
  unfold methodCall
  rw [few]
  simp only [at_, pure_bind, calleeOf, if_true]
  rfl
section
variable {prog : Program} {w : World} {A : Around} {R : Result → Shared → Prop} {s : Shared} {K : Frag} {mg mb : Str → Option Value} {C fI : Addr} {F : Fld}
theorem one_le (v : Value) : [v].length ≤ sizeLine := by
  rw [sizeLine_eq]
  exact (by decide : 1 ≤ 16777216)
theorem kin_but {h h' : Heap} {x : Addr} (X : K.In h) (hx : K.lookup x = none) (k : ∀ b o, b ≠ x → h.get? b = some o → h'.get? b = some o) : K.In h' := fun a o e =>
  k a o (fun z => by rw [z, hx] at e; cases e) (X a o e)
theorem err_init (T : ErrTxt K prog F.s C fI) {x t0 : Addr} {v : Value} (X : K.In s.heap) (G : s.heap.Ns mainGlobals mg) (B : s.heap.Ns builtinsNs mb) (hb : mb "super" = some (.type "super")) (hlim : s.heap.NoLimit) (hx : s.heap.get? x = some (excO C t0)) (hnx : K.lookup x = none) (hroom : A.depth < recursionLimit)
    (hq : ∀ h' tk dx t1, ErrEnd F.s s.heap h' x C dx t1 v → R (.ok (.ret .none)) { s with heap := h', toks := tk }) :
    codeAny (model prog w) A (.call (.ref fI) ⟨[.ref x, v], []⟩) R s := by
  obtain ⟨hh, g, dr, tk0, os⟩ := s
  obtain ⟨oc, od, qual, doc, pm, an, cda, cc, ct, osl, p1, p2, q, ccl, cl, cdd, cld, vs, ccs, csl, file, tf, ho, hcd, hline, hcode, hvs, hfile, hcell⟩ := T.fn
  obtain ⟨nm, qn, N, bs, bm, sn, sub, ab, col, dd, k0, k1, k2, k3, k5, hC, hbm, hal⟩ := T.cls
  have hcl : clsIn K C = some { name := nm, bases := bs, mro := .ref C :: bm, ns := N, qualname := qn, hasDict := true, slotNames := sn, subclasses := sub, abstract := ab, collection := col, hasDel := false } := by unfold clsIn; rw [hC] <;> rfl
  have l1 : List.lookup (PySem.Str.ofString "self") (eS F.s).names = some NameKind.local := by cases F <;> rfl
  have l2 : List.lookup F.s (eS F.s).names = some NameKind.local := by cases F <;> decide +kernel
  have ksu : List.lookup (PySem.Str.ofString "super") (eS F.s).names = some NameKind.globalImplicit := by cases F <;> decide +kernel
  have kcl : List.lookup (PySem.Str.ofString "__class__") (eS F.s).names = some NameKind.free := by cases F <;> decide +kernel
  have hbind : ∀ s : Shared, BindsTo s (ksFn "__init__" qual (eA F.s p1 p2) (eB F.s q) (eS F.s) .none .none doc pm an (.ref cda) ct cc) ⟨[.ref x, v], []⟩ [(PySem.Str.ofString "self", .ref x), (F.s, v)] := fun s => by
    cases F
    · exact BindsTo.of_eq (by first | rfl | with_unfolding_all rfl)
    · exact BindsTo.of_eq (by first | rfl | with_unfolding_all rfl)
  have ms : ([(PySem.Str.ofString "self", Value.ref x), (F.s, v)].reverse.lookup (PySem.Str.ofString "self")) = some (.ref x) := by cases F <;> rfl
  have mf : ([(PySem.Str.ofString "self", Value.ref x), (F.s, v)].reverse.lookup F.s) = some v := by cases F <;> rfl
  have ndb : (F.s == ("__debug__" : Str)) = false := by cases F <;> decide +kernel
  refine ks_codeAny_call_defAt (fd := ksFn "__init__" qual (eA F.s p1 p2) (eB F.s q) (eS F.s) .none .none doc pm an (.ref cda) ct cc) (body := eB F.s q) (binds := [(PySem.Str.ofString "self", .ref x), (F.s, v)]) hroom (X _ _ ho) rfl hlim (codeRec_of X hcd) rfl (hbind _)
    (fun y hy => ?_) (fun y hy => ?_) (fun h₁ hn k => ?_) rfl rfl rfl
  · have hy : y ∈ (eS F.s).names := hy
    simp only [eS, List.mem_cons, List.not_mem_nil, or_false] at hy
    rcases hy with rfl | rfl | rfl | rfl <;> simp
  · simp only [List.mem_cons, List.not_mem_nil, or_false] at hy
    rcases hy with rfl | rfl
    · exact l1
    · exact l2
  have X₁ : K.In h₁ := X.keeps k
  have hx₁ := k _ _ hx
  have G₁ := G.keeps k
  have B₁ := B.keeps k
  have hC₁ := X₁ _ _ hC
  have nxC : x ≠ C := fun z => by
    rw [z, hC] at hnx
    cases hnx
  unfold eB
  refine ks_wpAt_execs_cons (ks_wpAt_Expr_any (ks_wpAt_MethodCall (he := call_attr rfl hline) (ks_wpAt_super_base (f := fI) (cc := cda) (ar := { arg := "self", annotation := none, pos := p1 }) ksu kcl (by decide) rfl (X₁ _ _ ho) rfl rfl rfl (X₁ _ _ hcode) rfl hvs hfile T.top ?_)))
  refine ks_loadName_global rfl ksu (loadGlobal_builtin G₁ (mg_none_of X₁ G₁ T.sup) B₁ hb ⟨rfl, ?_⟩)
  refine wpAny_loadName_free rfl kcl rfl ⟨_, X₁ _ _ hcell, rfl⟩ ?_
  refine wpAny_loadName_local rfl l1 hn ms ?_
  refine ks_wpAny_isType_cls hC₁ rfl ⟨rfl, ?_⟩
  refine ks_wpAny_call_super hC₁ rfl hx₁ rfl (fun c e => by cases e) (looks_mroIn X₁ T.slf) (fun h₂ e₂ k₂ => ?_)
  have X₂ : K.In h₂ := X₁.keeps k₂
  have I₂ : W.InstAt h₂ x (excO C t0) C none := ⟨k₂ _ _ hx₁, rfl, rfl, trivial⟩
  refine kxs_getMethod kxs_ValueError e₂ (looks_opaque X₂ T.opq) (l₀ := .ref C :: bm) ?_ (l := bm) (by simp) X₂ hal (I₂.type.andThen (looks_subIn X₂ T.veC)) nxC (by decide) ?_
  · exact fun A' Q' E' s' k' q' => wpAny_bind ((looks_clsIn X₂ hcl) A' _ E' s' k' (wpAny_pure q'))
  have k₃ : ∀ b o, h₁.get? b = some o → (h₂.push (kxs_mw "ValueError.__init__" x)).get? b = some o := fun b o e => Heap.get?_push_of_some _ (k₂ b o e)
  refine kxs_callWith (i := "ValueError.__init__") (x := x) rfl (Calls.evalArgs_plain (Calls.spliced_cons (wpAny_Name (wpAny_loadName_local rfl l2 (hn.keeps k₃) mf ?_) ndb)))
  refine Calls.spliced_nil ⟨Heap.get?_push_at rfl rfl, ?_⟩
  refine bound_call (k₃ _ _ hC₁) (k₃ _ _ hx₁) (Heap.get?_push_at rfl rfl) (one_le v) fun h₄ t1 k₄ hx₄ => ?_
  have nxL : hh.objs.size ≠ x := Nat.ne_of_gt (Heap.lt_size hx)
  have k₅ : ∀ b o, b ≠ x → h₁.get? b = some o → h₄.get? b = some o := fun b o hb e => k₄ b o hb (k₃ b o e)
  have X₄ : K.In h₄ := kin_but X₁ hnx k₅
  have hn₄ : h₄.Ns hh.objs.size _ := hn.at fun o e => k₅ _ o nxL e
  refine wpAt_of_wpAny (wpAny_execs_cons (plainObj_wpAny_Assign_Attribute (wpAny_Name (wpAny_loadName_local rfl l2 hn₄ mf (wpAny_Name (wpAny_loadName_local rfl l1 hn₄ ms ?_) (by decide))) ndb)))
  refine set_plain X₄ (ox := excO C t1) (od := none) ⟨hx₄, rfl, rfl, trivial⟩ T.sa (exc_osa X₄ hx₄ hcl (show refsVE (.ref C :: bm) = true from hbm) rfl T.noN fun h₆ tk₆ dx k₆ dn dne hx₆ hn₆ => ?_)
  exact wpAny_execs_nil (hq h₆ tk₆ dx t1 ⟨fun b o hb e => k₆ b o hb (k₅ b o hb (k b o e)), hx₆, Nat.le_of_lt (Nat.lt_of_lt_of_le hn₄.lt dn), dne, hn₆⟩)
end
end Dw

set_option Elab.async false
set_option linter.all false
set_option maxRecDepth 100000
set_option maxHeartbeats 4000000
/-! An own error is made, raised. -/
namespace Dw
section
open PySem PySem.W PySem.Calls PyProof.Rows PySem.HandSPX
/-- a made error -/
structure ErrMade (f : Str) (h h' : Heap) (e C d : Addr) (v : Value) : Prop where
  keep : ∀ b o, h.get? b = some o → h'.get? b = some o
  new : h.objs.size ≤ e
  obj : ∃ oe vs, h'.get? e = some oe ∧ oe.cls = .ref C ∧ oe.dict = some d ∧ oe.data = .fields vs ∧ vs[1]? = some .none
  dbig : h.objs.size ≤ d
  dne : d ≠ e
  ns : h'.Ns1 d (fun y => if y = f then some v else none)
variable {prog : Program} {w : World} {A : Around} {R : Result → Shared → Prop} {s : Shared} {K : Frag} {mg mb : Str → Option Value} {C fI : Addr} {Fl : Fld}
theorem err_made (T : ErrTxt K prog Fl.s C fI) {v : Value} (X : K.In s.heap) (G : s.heap.Ns mainGlobals mg) (B : s.heap.Ns builtinsNs mb) (hb : mb "super" = some (.type "super")) (hlim : s.heap.NoLimit) (hroom : A.depth + 1 < recursionLimit)
    (hq : ∀ h' tk e d, ErrMade Fl.s s.heap h' e C d v → R (.ok (.ret (.ref e))) { s with heap := h', toks := tk }) : codeAny (model prog w) A (.call (.ref C) ⟨[v], []⟩) R s := by
  obtain ⟨nm, qn, N, bs, bm, sn, sub, ab, col, dd, k0, k1, k2, k3, k5, hC, hbm, hal⟩ := T.cls
  obtain ⟨hp, g, dr, tk, os⟩ := s
  have two : ∀ b o, hp.get? b = some o → ((hp.push (kdv_tup [v])).push (excO C hp.objs.size)).get? b = some o := fun b o e => Heap.get?_push_of_some _ (Heap.get?_push_of_some _ e)
  have at_ : ((hp.push (kdv_tup [v])).push (excO C hp.objs.size)).get? (hp.objs.size + 1) = some (excO C hp.objs.size) := by heap_get
  have fresh : K.lookup (hp.objs.size + 1) = none := by
    by_cases z : K.lookup (hp.objs.size + 1) = none
    · exact z
    · obtain ⟨o, e⟩ := Option.ne_none_iff_exists'.mp z
      have y : hp.get? (hp.objs.size + 1) = some o := X _ _ e
      exact absurd (Nat.lt_of_succ_lt (Heap.lt_size y)) (Nat.lt_irrefl _)
  refine call_own F.excBase_ValueError (fun Y => refsVE_contains Y bm hbm) (X _ _ hC) (looks_findIn X T.iC) (fun self => bind_fn X self T.tC) (one_le v) ?_
  refine err_init (s := ⟨(hp.push (kdv_tup [v])).push (excO C hp.objs.size), g, dr, tk, os⟩) T (X.keeps two) (G.keeps two) (B.keeps two) hb (hlim.keeps two) at_ fresh hroom fun h' tk' dx t1 D => ?_
  have old : ∀ b o, hp.get? b = some o → h'.get? b = some o := fun b o e => D.keep b o (Nat.ne_of_lt (Nat.lt_succ_of_lt (Heap.lt_size e))) (two b o e)
  have sz : ((hp.push (kdv_tup [v])).push (excO C hp.objs.size)).objs.size ≤ dx := D.dbig
  have sz : hp.objs.size + 1 + 1 ≤ dx := by
    first
      | (simpa only [Heap.size_push] using sz)
      | exact sz
  exact ⟨rfl, hq h' tk' (hp.objs.size + 1) dx ⟨old, Nat.le_succ _, ⟨_, _, D.obj, rfl, rfl, rfl, rfl⟩, Nat.le_trans (Nat.le_trans (Nat.le_succ _) (Nat.le_succ _)) sz, D.dne, D.ns⟩⟩
end
end Dw
namespace Dw
open PySem PySem.Spec PyProof.Rows L2
theorem relO_one {f : Str} {v : V} {u : Value} (r : RelV v u) (g : Str) : RelO (List.lookup g [(f, v)]) (if g = f then some u else none) := by
  by_cases h : g = f
  · subst h
    rw [if_pos rfl, List.lookup_cons]
    simp only [beq_self_eq_true]
    exact r
  · have hb : (g == f) = false := by simpa using h
    rw [if_neg h, List.lookup_cons, hb]
    trivial
section
variable {X : Cx} {C fI : Addr} {Fl : Fld} {w0 : Ew} {W : WX} {fa : Rho → Sto → R Val}
/-- C(e) -/
def tMkErr (C : Addr) (f : Str) (ta : TA) : L2.St → Hp → XK → Prop := fun σ H Q => ta σ H fun vs H1 => ∃ v, vs = [v] ∧ ∀ d, H1 d = none → Q (.ref C) (some d) (upd H1 d (.xd [(f, v)]))
theorem pmk_err {x : Str} {a : Expr} {ta : TA} {p pos : Pos} {k : Nat} (T : ErrTxt X.K X.prog Fl.s C fI) (gC : X.mg x = some (.ref C)) (hr : Room k X.A) (ha : PA X [a] ta) (hg : Gl X x) (hdb : (x == ("__debug__" : Str)) = false) (hs : isStar a = false) :
    PMk X (.Call (.Name x p) [a] [] pos) (tMkErr C Fl.s ta) := by
  intro pins s σ H Q I h
  refine wpAny_Call_Name_kw (ld_glob I hg gC ?_ hdb)
  refine PySem.W.callWith_K (h₀ := X.base) I.ok.mod.kin T.kC (thn (ha.run pos pins s σ H _ I h) fun us s1 ⟨vs, H1, I1, r1, v, ev, q1⟩ => ⟨I1.kIn, ?_⟩) (star_cons hs _ _) rfl
  subst ev
  cases r1 with
  | @cons _ u0 _ ur rv rn =>
    cases rn
    change wpAny _ _ (call (.ref C) [u0]) _ _ _
    have lim := I1.nolimit
    obtain ⟨mb, hb1, hb2⟩ := I1.ok.mod.blt
    have Gn := I1.ok.mod.glob.keeps I1.bk
    have Bn := hb1.keeps I1.bk
    have hsup : mb "super" = some (.type "super") := (hb2 _ (by decide +kernel)).trans (by decide +kernel)
    obtain ⟨hp, g, dr, tk, os⟩ := s1
    refine wpAny_call (err_made T I1.kIn Gn Bn hsup lim (by have := hr.dp; omega) fun h' tk' e d M => ?_)
    change MkP X pins σ Q (.ref e) ⟨h', g, dr, tk', os⟩
    obtain ⟨oe, fv, o1, o2, o3, o4, o5⟩ := M.obj
    obtain ⟨Gh, g1, g2⟩ := restrict h' fun b => decide (b ≠ e)
    have off : ∀ b, b ≠ e → Gh.get? b = h'.get? b := fun b hb => g1 b (decide_eq_true hb)
    have gone : Gh.get? e = none := g2 e (by simp)
    have old : ∀ b o, hp.get? b = some o → Gh.get? b = some o := fun b o q => (off b (Nat.ne_of_lt (Nat.lt_of_lt_of_le (Heap.lt_size q) M.new))).trans (M.keep b o q)
    have xd : ObjOk X.prog X.w (upd H1 d (.xd [(Fl.s, v)])) Gh d (.xd [(Fl.s, v)]) := ⟨_, M.ns.at (fun o q => (off d M.dne).trans q), fun f => relO_one rv f⟩
    have J : Inv X pins σ (upd H1 d (.xd [(Fl.s, v)])) ⟨Gh, g, dr, tk', os⟩ := I1.laid (t' := tk') old M.dbig xd
    refine ⟨e, oe, fv, ⟨Gh, g, dr, tk', os⟩, _, .ref C, some d, rfl, J, fun b o q => ?_, gone, o1, ⟨o2, o3⟩, o4, o5, ?_, rfl, I1.bare, raises_own T.exC T.tyC, q1 d (I1.hok.fresh M.dbig)⟩
    · by_cases hb : b = e
      · subst hb
        have q2 : Gh.get? b = some o := q
        rw [gone] at q2
        cases q2
      · exact (off b hb).symm.trans q
    · rw [upd_ne (Ne.symm M.dne)]
      exact I1.hok.fresh M.new
/-- raise C(e) -/
theorem sns_rai {c : Nat} {x : Str} {a : Expr} {p pos pos2 : Pos} {k : Nat} (hc : X.calm = true) (tk : Takes X W) (T : ErrTxt X.K X.prog Fl.s (w0.cA c) fI) (hf : w0.cF c = Fl.s) (gC : X.mg x = some (.ref (w0.cA c))) (hr : Room k X.A) (hg : Gl X x) (hdb : (x == ("__debug__" : Str)) = false) (hs : isStar a = false)
    (ha : PE X a (tE X.K w0 W fa)) : PS X (.Raise (some (.Call (.Name x p) [a] [] pos)) none pos2) (tSx X.K w0 W fun ρ S => R.st (fa ρ S) ρ fun v S => match v with
      | .dat d => .exc c d ρ S
      | _ => .bad) := by
  refine PS.imp (ps_raise hc tk (pmk_err T gC hr (pa_cons ha pa_nil (star_cons hs _ _)) hg hdb hs)) fun D σ H ⟨G, as, S, ρ, r0, e0, f⟩ => ⟨G, as, S, ρ, r0, e0, (FinS.bind e0 f).imp ?_⟩
  intro v H1 ⟨G1, as1, S1, y, x1, r1, a1, f1⟩
  refine ⟨v, rfl, fun d hd => ?_⟩
  cases y with
  | dat dd =>
    obtain ⟨r2, x2, _⟩ := r1.new hd (.xd [(Fl.s, v)])
    exact f1 _ _ _ σ d v x2 r2 ((e0.ext x1).ext x2) (by rw [upd_same, hf]) (Da.mono x2.g _ _ a1)
  | _ => exact f1.elim
end
end Dw

set_option Elab.async false
set_option linter.all false
set_option maxRecDepth 100000
set_option maxHeartbeats 4000000
/-! try / except C as e: what the suite reads of the error. -/
namespace Dw
open PySem PySem.Spec PyProof.Rows L2
section
variable {X : Cx} {C fI : Addr} {Fl : Fld}
/-- e.f, e the error that the suite holds (at a; its class cls, its dict d) -/
def tByErr (C : Addr) (f : Str) (a : Addr) (cls : Value) (d : Option Addr) (te : TE) : TE := fun σ H Q => te σ H fun x H1 => x = .ref a ∧ cls = .ref C ∧ ∃ (dd : Addr) (v : V), d = some dd ∧ H1 dd = some (.xd [(f, v)]) ∧ Q v H1
theorem pe_byErr {a : Addr} {oe : Obj} {cls : Value} {d : Option Addr} {pn : List (Addr × Obj)} {e : Expr} {te : TE} {pos : Pos} (T : ErrTxt X.K X.prog Fl.s C fI) (hz : Zc cls d oe) (hf : ∃ vs, oe.data = .fields vs) (he : PE (X.suite a ((a, oe) :: pn)) e te)
    (hb : attributeBase e Fl.s X.env (eval e X.env) = eval e X.env) : PE (X.suite a ((a, oe) :: pn)) (.Attribute e Fl.s pos) (tByErr C Fl.s a cls d te) := by
  refine ⟨fun pins s σ H Q I h => attr_of hb (thn (he.run pins s σ H _ I h) fun u s1 ⟨x, H1, I1, rx, ex, ec, dd, v, ed, ea, q⟩ => ?_)⟩
  subst ex ec ed
  obtain rfl : u = Value.ref a := rx
  obtain ⟨at_, _⟩ := I1.pin (a, oe) (List.mem_append_left _ List.mem_cons_self)
  obtain ⟨vs, hd⟩ := hf
  have hx : ObjOk X.prog X.w H1 s1.heap dd (.xd [(Fl.s, v)]) := I1.hok dd _ ea
  obtain ⟨mA, hns, hr⟩ := hx
  obtain ⟨od, ho, hl⟩ := lookIn_ns hns
  have l : List.lookup Fl.s [(Fl.s, v)] = some v := by rw [List.lookup_cons]; simp
  obtain ⟨u, hu, ru⟩ := RelO.some_of (v := v) (o := mA Fl.s) (by rw [← l]; exact hr Fl.s)
  have J : PySem.W.InstAt s1.heap a oe C (some od) := ⟨at_, hz.1, by unfold PySem.W.notCls; rw [hd] <;> rfl, by rw [hz.2]; exact ho⟩
  exact HandSPX.exc_get I1.kIn J T.ga T.gg T.exC (PySem.W.findObj_own T.hdC T.noN rfl (by rw [hl, hu])) (handed_of ru) ⟨v, H1, I1.tok _, ru, q⟩
end
end Dw

set_option Elab.async false
set_option linter.all false
set_option maxRecDepth 100000
set_option maxHeartbeats 4000000
/-! try: body / except C as e: return [.. e.f ..]. -/
namespace Dw
open PySem PySem.Spec PyProof.Rows L2
def cV : PyData → V
  | .bool b => .bl b
  | .int i => .int i
  | .str x => .str x
  | _ => .non
def cOk : PyData → Bool
  | .none => true
  | .bool _ => true
  | .int _ => true
  | .str _ => true
  | _ => false
theorem cV_da {K : PySem.W.Frag} {G : Hp} {d : PyData} (h : cOk d = true) : Da K G (cV d) d := by
  cases d <;> first | exact .non | exact .bl _ | exact .int _ | exact .str _ | cases h
/-- what a suite hands back: constants, and e.f (none) -/
def tItems (C : Addr) (f : Str) (i : Nat) (a : Addr) (cls : Value) (d : Option Addr) : List (Option PyData) → TA
  | [] => tNil
  | none :: r => tCons (tByErr C f a cls d (tVar i)) (tItems C f i a cls d r)
  | some c :: r => tCons (tC (cV c)) (tItems C f i a cls d r)
def shown (d : PyData) (l : List (Option PyData)) : List PyData := l.map fun o => o.getD d
theorem items_run {K : PySem.W.Frag} {G H : Hp} {C : Addr} {f : Str} {i : Nat} {a dx : Addr} {v : V} {dd : PyData} {σ : L2.St} (hσ : σ[i]? = some (some (.ref a))) (hx : H dx = some (.xd [(f, v)])) (hd : Da K G v dd) : ∀ (l : List (Option PyData)) (Q : List V → Hp → Prop), (∀ o ∈ l, ∀ c, o = some c → cOk c = true) →
    (∀ vs, DaAll K G vs (shown dd l) → Q vs H) → tItems C f i a (.ref C) (some dx) l σ H Q
  | [], Q, _, q => q [] .nil
  | none :: r, Q, hc, q => ⟨.ref a, hσ, rfl, rfl, dx, v, rfl, hx, items_run hσ hx hd r _ (fun o ho => hc o (List.mem_cons_of_mem _ ho)) fun vs dv => q _ (.cons hd dv)⟩
  | some c :: r, Q, hc, q => items_run hσ hx hd r _ (fun o ho => hc o (List.mem_cons_of_mem _ ho)) fun vs dv => q _ (.cons (cV_da (hc _ List.mem_cons_self c rfl)) dv)
def conB' : PyData → Const → Bool
  | .none, .none => true
  | .bool a, .bool b => a == b
  | .int a, .int b => decide (a = b)
  | .str a, .str b => decide (a = b)
  | _, _ => false
def ckIt (i : Nat) (x : Str) (f : Str) : List (Option PyData) → List Expr → Bool
  | [], es => es.isEmpty
  | o :: r, es => match es with
    | e :: es => (match o, e with
      | none, .Attribute (.Name y _) g _ => decide (y = x) && decide (g = f)
      | some c, .Constant k _ _ => conB' c k
      | _, _ => false) && ckIt i x f r es
    | [] => false
section
variable {X : Cx} {fI : Addr} {Fl : Fld} {w0 : Ew} {W : WX} {fb : Rho → Sto → SR}
theorem con_pe {d : PyData} {c : Const} {j : Nat} {pos : Pos} (h : conB' d c = true) : PE X (.Constant c j pos) (tC (cV d)) := by
  cases d <;> cases c <;> first | (cases h; done) | skip
  · exact pe_non
  · rename_i a b
    obtain rfl : a = b := by simpa [conB'] using h
    exact pe_bl
  · rename_i a b
    obtain rfl : a = b := by simpa [conB'] using h
    exact pe_int
  · rename_i a b
    obtain rfl : a = b := by simpa [conB'] using h
    exact pe_str
theorem items_pa {C : Addr} {a : Addr} {oe : Obj} {cls : Value} {d : Option Addr} {pn : List (Addr × Obj)} {i : Nat} {n : Str} (T : ErrTxt X.K X.prog Fl.s C fI) (hz : Zc cls d oe) (hf : ∃ vs, oe.data = .fields vs) (hi : X.N[i]? = some n) (hv : Vis X.env.scope n) (d1 : (n == ("__debug__" : Str)) = false) (d2 : (n == ("__classdict__" : Str)) = false) :
    ∀ (l : List (Option PyData)) (es : List Expr), ckIt i n Fl.s l es = true → PA (X.suite a ((a, oe) :: pn)) es (tItems C Fl.s i a cls d l)
  | [], es, h => by
    unfold ckIt at h
    cases es with
    | nil => exact pa_nil
    | cons _ _ => cases h
  | o :: r, es, h => by
    unfold ckIt at h
    split at h
    · rename_i e es
      rw [Bool.and_eq_true] at h
      have ih := items_pa (a := a) (oe := oe) (pn := pn) T hz hf hi hv d1 d2 r es h.2
      have h1 := h.1
      split at h1
      · rw [Bool.and_eq_true, decide_eq_true_iff, decide_eq_true_iff] at h1
        obtain ⟨rfl, rfl⟩ := h1
        exact pa_cons (pe_byErr T hz hf (pe_var (X := X.suite a ((a, oe) :: pn)) hi hv d1 d2) rfl) ih (star_cons rfl _ _)
      · exact pa_cons (con_pe h1) ih (star_cons rfl _ _)
      · cases h1
    · cases h
/-- try: body / except C as e: return [..] -/
theorem sns_try {c i ne : Nat} {x n : Str} {body : List Stmt} {es : List Expr} {l : List (Option PyData)} {np lp rp pos pos' : Pos} (hs : X.stack = X.env :: X.outer) (hfr : X.env.frame = some X.env.locals) (hN : X.N.Nodup) (hi : X.N[i]? = some n) (hln : X.env.scope.names.lookup n = some .local)
    (d1 : (n == ("__debug__" : Str)) = false) (d2 : (n == ("__classdict__" : Str)) = false) (hc : Names X x (.ref (w0.cA c))) (tk : Takes X W) (T : ErrTxt X.K X.prog Fl.s (w0.cA c) fI)
    (hex : ∀ c', c' < ne → PySem.W.exmOne X.K (.ref (w0.cA c')) (.ref (w0.cA c)) = some (decide (c' = c))) (hf : w0.cF c = Fl.s) (ck : ckIt i n Fl.s l es = true) (cc : ∀ o ∈ l, ∀ k, o = some k → cOk k = true) (hl : l.length ≤ 1000)
    (hb : ∀ (W' : WX) (pn : List (Addr × Obj)) (xe : Value → Shared → Prop), Takes (X.tr pn xe) W' → PassesOwn (model X.prog X.w) X.A X.env xe → PSs (X.tr pn xe) body (tSx X.K w0 W' fb)) :
    PS X (.Try body [.ExceptHandler (some (.Name x np)) (some n) [.Return (some (.List es lp)) rp] pos'] [] [] pos) (tSx X.K w0 W fun ρ S => match fb ρ S with
      | .exc c' d ρ' S' => if c' < ne ∧ i < ρ'.length then (if c' = c then .rt (.dat (.list (shown d l))) S' else .exc c' d ρ' S') else .bad
      | r => r) := by
  refine PS.imp (ps_try_as (tb := fun W' => tSx X.K w0 W' fb) (ts := fun a cls d => tRet (tLst (tItems (w0.cA c) Fl.s i a cls d l))) hs hfr hN hi hln hc tk hb fun a oe cls d pn hz hfl => pss_one (ps_ret (pe_lst (items_pa T hz hfl hi (.inl hln) d1 d2 l es ck)))) fun D σ H ⟨G, as, S, ρ, r0, e0, f⟩ => ⟨G, as, S, ρ, r0, e0, ?_⟩
  have f : FinS X.K w0 W D G as H (match fb ρ S with
      | .exc c' d ρ' S' => if c' < ne ∧ i < ρ'.length then (if c' = c then .rt (.dat (.list (shown d l))) S' else .exc c' d ρ' S') else .bad
      | r => r) := f
  cases h : fb ρ S with
  | nx ρ1 S1 => rw [h] at f; exact f
  | rt v S1 => rw [h] at f; exact f
  | bk ρ1 S1 => rw [h] at f; exact f
  | ct ρ1 S1 => rw [h] at f; exact f
  | bad => rw [h] at f; exact f.elim
  | exc c' dd ρ1 S1 =>
    rw [h] at f
    simp only [] at f
    intro G1 as1 H1 σ1 dx v x1 r1 e1 h1 h2
    by_cases hk : c' < ne ∧ i < ρ1.length
    · rw [if_pos hk] at f
      refine ⟨decide (c' = c), hex c' hk.1, fun hb a ha => ?_, fun hb => ?_⟩
      · have ec : c' = c := of_decide_eq_true hb
        subst ec
        rw [if_pos rfl] at f
        have hσ : (σ1.set i (some (V.ref a)))[i]? = some (some (.ref a)) := List.getElem?_set_self (by rw [e1.1]; exact hk.2)
        refine items_run hσ (by rw [← hf]; exact h1) h2 l _ cc fun vs dv => ⟨?_, fun p hp => ?_⟩
        · have e := dv.length
          unfold Dw.shown at e
          rw [List.length_map] at e
          rw [e, sizeLine_eq]
          omega
        · obtain ⟨r2, x2, g2⟩ := r1.new hp (.lst vs)
          exact f _ _ _ _ (x1.trans x2) r2 (.lst g2 (DaAll.mono x2.g _ _ dv))
      · have ec : c' ≠ c := of_decide_eq_false hb
        rw [if_neg ec] at f
        exact f G1 as1 H1 σ1 dx v x1 r1 e1 h1 h2
    · rw [if_neg hk] at f
      exact f.elim
end
end Dw

set_option Elab.async false
set_option linter.all false
set_option maxRecDepth 100000
set_option maxHeartbeats 4000000
/-! The text and the small language side by side. -/
namespace Dw
open PySem PySem.Spec PyProof.Rows L2

/-- the defs by their places, the constants, how a def may be called -/
structure Kc where
  N : List Str
  sc : Scope
  fn : Str → Bool
  lm : Bool
structure Dc where
  fns : List Str
  gls : List Str
  errs : List Str
  flds : List Fld
  shs : List (Nat × Nat × List Str × List Nat × List Int)
  lk : Nat → List Ex → Kc → Expr → Bool
def Kc.blk (k : Kc) (scope : Scope) : Kc := { lm := false, N := k.N, sc := relS scope k.sc, fn := fun x => scope.names.lookup x == some .cell }
def dbg (x : Str) : Bool := x == ("__debug__" : Str)
def visB (sc : Scope) (x : Str) : Bool := match sc.names.lookup x with
  | some .local => true
  | some .cell => true
  | some .free => true
  | _ => false
def locB (k : Kc) (x : Str) : Bool := match k.sc.names.lookup x with
  | some .local => true
  | some .cell => k.fn x
  | _ => false
def glB (k : Kc) (x : Str) : Bool := match k.sc.names.lookup x with
  | some .globalImplicit => true
  | _ => false
def ckNames (k : Kc) : List Nat → List Expr → Bool
  | [], [] => true
  | i :: is, e :: es => (match e with
    | .Name x _ => decide (k.N[i]? = some x) && locB k x
    | _ => false) && ckNames k is es
  | _, _ => false
def ckG (k : Kc) : Tg → Expr → Bool
  | .name i, e => match e with
    | .Name x _ => decide (k.N[i]? = some x) && locB k x
    | _ => false
  | .names is, e => match e with
    | .Tuple es _ _ => ckNames k is es
    | _ => false
def attB : Expr → Bool
  | .Name _ _ => true
  | .Subscript _ _ _ => true
  | .Constant _ _ _ => true
  | _ => false
def enuOk : It → Expr → Bool
  | .enu _, .Tuple _ _ _ => true
  | .enu _, _ => false
  | _, _ => true
def conB : PyData → Const → Bool
  | .none, .none => true
  | .bool a, .bool b => a == b
  | .int a, .int b => decide (a = b)
  | .str a, .str b => decide (a = b)
  | _, _ => false
def plainIx : Expr → Bool
  | .Name _ _ => true
  | .Constant _ _ _ => true
  | .BinOp _ _ _ _ => true
  | .UnaryOp _ _ _ => true
  | .Call _ _ _ _ => true
  | .Subscript _ _ _ => true
  | _ => false
def okIter : Expr → Bool
  | .Set _ _ _ => false
  | _ => true
def noCp : Expr → Bool
  | .ListComp _ _ _ _ => false
  | .SetComp _ _ _ _ => false
  | .DictComp _ _ _ _ _ => false
  | _ => true
def noTup : Expr → Bool
  | .Tuple _ _ _ => false
  | _ => true
def mkOwn (N : List Str) (own : List Nat) : List (Str × Nat) := own.map fun i => ((N[i]?).getD "", i)
def nkB : NameKind → NameKind → Bool := fun a b => decide (a = b)
def blkB (k : Kc) (scope : Scope) (own : List Nat) : Bool :=
  decide (scope.kind = .function) && scope.names.all (fun y => decide (scope.names.lookup y.1 = some y.2)) && own.all (fun i => (k.N[i]?).isSome) &&
  scope.names.all (fun y => !decide (y.2 = .free) || decide (k.sc.names.lookup y.1 = some .cell) || decide (k.sc.names.lookup y.1 = some .free)) &&
  scope.names.all (fun y => !(decide (y.2 = .local) || decide (y.2 = .cell)) || decide (y.1 ∈ (mkOwn k.N own).map (·.1)) || decide (y.1 ∉ k.N))

mutual
def ckE (P : Dc) (k : Kc) : Ex → Expr → Bool
  | .var i, e => match e with
    | .Name x _ => decide (k.N[i]? = some x) && visB k.sc x && !dbg x && !(x == ("__classdict__" : Str))
    | _ => false
  | .con d, e => match e with
    | .Constant c _ _ => conB d c
    | _ => false
  | .glob g, e => match e with
    | .Name x _ => decide (P.gls[g]? = some x) && glB k x && !dbg x
    | _ => false
  | .bin op a b, e => match e with
    | .BinOp ea o eb _ => opC o op && ckE P k a ea && ckE P k b eb
    | _ => false
  | .neg a, e => match e with
    | .UnaryOp .USub ea _ => ckE P k a ea
    | _ => false
  | .cmp op a b, e => match e with
    | .Compare ea [o] [eb] _ => cmpC o op && !behindInMarks o eb && ckE P k a ea && ckE P k b eb
    | _ => false
  | .chn op op' a b c, e => match e with
    | .Compare ea [o, o'] [eb, ec] _ => cmpC o op && cmpC o' op' && !lastMarks [o, o'] [eb, ec] && ckE P k a ea && ckE P k b eb && ckE P k c ec
    | _ => false
  | .isN a, e => match e with
    | .Compare ea [.Is] [.Constant .none _ _] _ => ckE P k a ea
    | _ => false
  | .notN a, e => match e with
    | .Compare ea [.IsNot] [.Constant .none _ _] _ => ckE P k a ea
    | _ => false
  | .not a, e => match e with
    | .UnaryOp .Not ea _ => ckE P k a ea
    | _ => false
  | .and es, e => match e with
    | .BoolOp .And xs _ => !xs.isEmpty && ckL P k es xs
    | _ => false
  | .or es, e => match e with
    | .BoolOp .Or xs _ => !xs.isEmpty && ckL P k es xs
    | _ => false
  | .ife c a b, e => match e with
    | .IfExp ec ea eb _ => tst c && ckE P k c ec && ckE P k a ea && ckE P k b eb
    | _ => false
  | .tup es, e => match e with
    | .Tuple xs _ _ => decide (xs.length ≤ 1000) && ckL P k es xs
    | _ => false
  | .lst es, e => match e with
    | .List xs _ => decide (xs.length ≤ 1000) && ckL P k es xs
    | _ => false
  | .new es, e => match e with
    | .List xs _ => decide (xs.length ≤ 1000) && ckL P k es xs
    | _ => false
  | .idx a b, e => match e with
    | .Subscript ea eb _ => plainIx eb && ckE P k a ea && ckE P k b eb
    | _ => false
  | .sl a lo hi, e => match e with
    | .Subscript ea (.Slice l h none _) _ => ckE P k a ea && ckO P k lo l && ckO P k hi h
    | _ => false
  | .call r es, e => match e with
    | .Call _ _ _ _ => k.lm && P.lk r es k e
    | _ => false
  | .dsp tp es st, e => match e with
    | .Tuple xs _ _ => tp && ckD P k es st xs
    | .List xs _ => !tp && ckD P k es st xs
    | _ => false
  | .callK f kws perm dfl es kes, e => match e with
    | .Call (.Name x _) xs ks _ => decide (P.fns[f]? = some x) && glB k x && !dbg x && decide ((f, es.length, kws.map Str.ofString, perm, dfl) ∈ P.shs) && decide (ks.map (·.arg) = (kws.map Str.ofString).map some) && ckL P k es xs && ckK P k kes ks
    | _ => false
  | .blt b es, e => match e with
    | .Call (.Name x _) xs [] _ => decide (x = Str.ofString (bltName b)) && glB k x && !xs.isEmpty && ckL P k es xs
    | _ => false
  | .isi a t, e => match e with
    | .Call (.Name x _) [ea, .Name y _] [] _ => decide (x = ("isinstance" : Str)) && glB k x && decide (y = Str.ofString (tyName t)) && glB k y && !isStar ea && ckE P k a ea
    | _ => false
  | .mth .append o es, e => match e with
    | .Call (.Attribute eo m apos) [ea] [] pos => decide (m = ("append" : Str)) && (match eo with
      | .Name _ _ => true
      | .Subscript _ _ _ => true
      | _ => false) && !isStar ea && decide (apos.endLine = pos.line) && ckE P k o eo && ckL P k es [ea]
    | _ => false
  | .smt m o a, e => match e with
    | .Call (.Attribute eo mm apos) [ea] [] pos => decide (mm = Str.ofString (smtName m)) && attB eo && !isStar ea && decide (apos.endLine = pos.line) && ckE P k o eo && ckE P k a ea
    | _ => false
  | .cat a b, e => match e with
    | .BinOp ea .Add eb _ => ckE P k a ea && ckE P k b eb
    | _ => false
  | .dic a, e => match e with
    | .Call (.Name x _) [ea] [] _ => decide (x = ("dict" : Str)) && glB k x && !isStar ea && ckE P k a ea
    | _ => false
  | .srt a, e => match e with
    | .Call (.Name x _) [ea] [] _ => decide (x = ("sorted" : Str)) && glB k x && !isStar ea && ckE P k a ea
    | _ => false
  | .cp e tg it ifs own, x => match x with
    | .ListComp elt [⟨t, iter, cs, 0⟩] scope _ => okIter iter && ckG (k.blk scope) tg t && ckI P k it iter && ckC P (k.blk scope) ifs cs && ckE P (k.blk scope) e elt && blkB k scope own && (tgSlots tg).all (fun i => own.contains i) && enuOk it t
    | _ => false
  | .cp2 e tg it tg1 it1 ifs own own1, x => match x with
    | .ListComp elt [⟨t, iter, [], 0⟩, ⟨t1, iter1, cs, 0⟩] scope _ => okIter iter && ckG (k.blk scope) tg t && ckI P k it iter && ckC P (k.blk scope) ifs cs && ckE P (k.blk scope) e elt && blkB k scope own && (tgSlots tg).all (fun i => own.contains i) && enuOk it t &&
      okIter iter1 && ckG (k.blk scope) tg1 t1 && ckI P (k.blk scope) it1 iter1 && own1.all (fun i => own.contains i) && (tgSlots tg1).all (fun i => own1.contains i) && enuOk it1 t1
    | _ => false
def ckL (P : Dc) (k : Kc) : List Ex → List Expr → Bool
  | [], xs => xs.isEmpty
  | e :: es, xs => match xs with
    | x :: xs => !isStar x && ckE P k e x && ckL P k es xs
    | [] => false
def ckD (P : Dc) (k : Kc) : List Ex → List Bool → List Expr → Bool
  | [], _, xs => xs.isEmpty
  | e :: es, st, xs => match xs with
    | x :: xs => (if st.headD false = true then (match x with
      | .Starred y _ => ckE P k e y
      | _ => false) else !isStar x && ckE P k e x) && ckD P k es st.tail xs
    | [] => false
def ckK (P : Dc) (k : Kc) : List Ex → List Keyword → Bool
  | [], xs => xs.isEmpty
  | e :: es, xs => match xs with
    | ⟨_, x, _⟩ :: xs => ckE P k e x && ckK P k es xs
    | [] => false
def ckC (P : Dc) (k : Kc) : List Ex → List Expr → Bool
  | [], xs => xs.isEmpty
  | [c], xs => match xs with
    | [x] => tst c && ckE P k c x
    | _ => false
  | _, _ => false
def ckO (P : Dc) (k : Kc) : Option Ex → Option Expr → Bool
  | none, x => x.isNone
  | some e, x => match x with
    | some x => ckE P k e x
    | none => false
def ckI (P : Dc) (k : Kc) : It → Expr → Bool
  | .val e, x => ckE P k e x
  | .enu a, x => match x with
    | .Call (.Name r _) [ea] [] _ => decide (r = ("enumerate" : Str)) && glB k r && !isStar ea && ckE P k a ea
    | _ => false
  | .rng1 a, x => match x with
    | .Call (.Name r _) [ea] [] _ => decide (r = ("range" : Str)) && glB k r && !isStar ea && ckE P k a ea
    | _ => false
  | .rng2 a b, x => match x with
    | .Call (.Name r _) [ea, eb] [] _ => decide (r = ("range" : Str)) && glB k r && !isStar ea && !isStar eb && ckE P k a ea && ckE P k b eb
    | _ => false
/-- may be tested -/
def tst : Ex → Bool
  | .ife _ _ _ => false
  | .not a => tst a
  | .and es => tstL es
  | .or es => tstL es
  | _ => true
def tstL : List Ex → Bool
  | [] => true
  | e :: es => tst e && tstL es
end
end Dw

set_option Elab.async false
set_option linter.all false
set_option maxRecDepth 100000
set_option maxHeartbeats 4000000
/-! What is checked is sound: expressions. -/
namespace Dw
open PySem PySem.Spec PyProof.Rows L2

structure Good (P : Dc) (Cf : Nat → List Val → Sto → R Val) (Gc : List PyData) (w0 : Ew) (n : Nat) (X : Cx) (k : Kc) (W : WX) : Prop where
  calm : X.calm = true
  nd : X.N.Nodup
  N : X.N = k.N
  sc : X.env.scope = k.sc
  fn : ∀ x, k.fn x = true → X.fn x = true
  gd : X.A.guards = some []
  room : Room n X.A
  tk : Takes X W
  defs : ∀ (f : Nat) (x : Str), P.fns[f]? = some x → ∃ fad fd ps, FnG X.prog X.w X.K X.mg X.base n fad fd ps (spEv X.K w0 (Cf f)) ∧ X.mg x = some (.ref fad) ∧ PySem.W.keepIn X.K (.ref fad) = true ∧ ∀ nu ks perm dfl, (f, nu, ks, perm, dfl) ∈ P.shs → ShapeOk X.K fd ps nu ks perm dfl
  blts : ∀ b : Blt, X.mg (Str.ofString (bltName b)) = none
  tys : ∀ t : Ty, X.mg (Str.ofString (tyName t)) = none
  isin : X.mg ("isinstance" : Str) = none
  rng : X.mg ("range" : Str) = none
  more : X.mg ("dict" : Str) = none ∧ X.mg ("sorted" : Str) = none ∧ X.mg ("enumerate" : Str) = none
  errs : ∀ (c : Nat) (x : Str), P.errs[c]? = some x → ∃ Fl fI, P.flds[c]? = some Fl ∧ ErrTxt X.K X.prog (Fld.s Fl) (w0.cA c) fI ∧ w0.cF c = Fl.s ∧ X.mg x = some (.ref (w0.cA c))
  exm : ∀ c c', c < P.errs.length → c' < P.errs.length → PySem.W.exmOne X.K (.ref (w0.cA c')) (.ref (w0.cA c)) = some (decide (c' = c))
  gls : ∀ (g : Nat) (x : Str), P.gls[g]? = some x → ∃ d v u, Gc[g]? = some d ∧ X.mg x = some u ∧ RelV v u ∧ ∀ G, Da X.K G v d
  lam : k.lm = true → ∀ (r : Nat) (es : List Ex) (e : Expr), P.lk r es k e = true → PE X e (tE X.K w0 W (evE Cf Gc (.call r es))) ∧ ∀ whole, isTrue e X.env whole = (do let v ← whole; standAt e.pos; holding [v] (truthy v))

section
variable {P : Dc} {Cf : Nat → List Val → Sto → R Val} {Gc : List PyData} {w0 : Ew} {n : Nat} {X : Cx} {k : Kc} {W : WX}
theorem takes_no {X : Cx} : Takes X W0 := fun _ _ ⟨_, _, _, _, _, _, _, _, _, _, _, _, _, _, _, _, z⟩ => z.elim
theorem Good.blk (g : Good P Cf Gc w0 n X k W) (s : Shared) (H : Hp) (scope : Scope) (C : Addr) (cl : List (Str × Addr)) (fp : List Addr) : Good P Cf Gc w0 n (X.blk s H scope (compEnvC scope cl C X.env) fp) (k.blk scope) W0 where
  calm := g.calm
  nd := g.nd
  N := g.N
  sc := by
    show relS scope X.env.scope = relS scope k.sc
    rw [g.sc]
  fn := fun x h => h
  gd := g.gd
  room := g.room
  tk := takes_no
  defs := g.defs
  blts := g.blts
  tys := g.tys
  isin := g.isin
  rng := g.rng
  more := g.more
  gls := g.gls
  errs := g.errs
  exm := g.exm
  lam := fun h => Bool.noConfusion h
theorem Good.gl (g : Good P Cf Gc w0 n X k W) {x : Str} (h : glB k x = true) : Gl X x := by
  show X.env.scope.names.lookup x = _
  rw [g.sc]
  unfold glB at h
  split at h
  · assumption
  · cases h
theorem Good.vis (g : Good P Cf Gc w0 n X k W) {x : Str} (h : visB k.sc x = true) : Vis X.env.scope x := by
  rw [g.sc]
  unfold visB at h
  split at h
  · exact .inl (by assumption)
  · exact .inr (.inl (by assumption))
  · exact .inr (.inr (by assumption))
  · cases h
theorem Good.loc (g : Good P Cf Gc w0 n X k W) {x : Str} (h : locB k x = true) : Loc X.env.scope x ∧ (X.fn x = true ∨ X.env.scope.names.lookup x = some .local) := by
  rw [g.sc]
  unfold locB at h
  split at h
  · exact ⟨.inl (by assumption), .inr (by assumption)⟩
  · exact ⟨.inr (by assumption), .inl (g.fn _ h)⟩
  · cases h
theorem Good.un (g : Good P Cf Gc w0 n X k W) : X.A.units + 100 < cLine := by have := g.room.un; omega
theorem Good.names (g : Good P Cf Gc w0 n X k W) : ∀ (is : List Nat) (es : List Expr), ckNames k is es = true → PGs X es (tGs X.K w0 is) ∧ es.length = is.length ∧ (assignEach es X.env).length = es.length ∧ (assignEach es X.env).findIdx? (·.1) = none
  | [], [], _ => ⟨sngs_nil, rfl, rfl, rfl⟩
  | [], _ :: _, h => by cases h
  | _ :: _, [], h => by cases h
  | i :: is, e :: es, h => by
    unfold ckNames at h
    rw [Bool.and_eq_true] at h
    obtain ⟨h1, h2⟩ := h
    split at h1
    · rename_i x p
      rw [Bool.and_eq_true, decide_eq_true_iff] at h1
      obtain ⟨h1, h3⟩ := h1
      obtain ⟨a, b, c, d⟩ := Good.names g is es h2
      obtain ⟨l1, l2⟩ := g.loc h3
      refine ⟨sngs_cons g.nd (g.N ▸ h1) l1 l2 a, by rw [List.length_cons, List.length_cons, b], ?_, ?_⟩
      · show (assignEach es X.env).length + 1 = es.length + 1
        rw [c]
      · show List.findIdx? (·.1) ((false, _) :: assignEach es X.env) = none
        rw [List.findIdx?_cons, d]
        rfl
    · cases h1
theorem Good.tg (g : Good P Cf Gc w0 n X k W) {t : Tg} {e : Expr} (h : ckG k t e = true) : PG X e (tGt X.K w0 t) := by
  cases t with
  | name i => cases e with
    | Name x p =>
      simp only [ckG, Bool.and_eq_true, decide_eq_true_iff] at h
      obtain ⟨l1, l2⟩ := g.loc h.2
      exact sng_name g.nd (g.N ▸ h.1) l1 l2
    | _ => cases h
  | names is => cases e with
    | Tuple es j p =>
      obtain ⟨a, b, c, d⟩ := g.names is es h
      exact sng_names g.calm a b c d
    | _ => cases h
theorem Good.blkOk (g : Good P Cf Gc w0 n X k W) {scope : Scope} {own : List Nat} (h : blkB k scope own = true) : BlkOk X.N X.env.scope scope (mkOwn X.N own) ∧ (mkOwn X.N own).map (·.2) = own := by
  have e2 : (mkOwn X.N own).map (·.2) = own := by unfold mkOwn; rw [List.map_map]; exact List.map_id' own
  refine ⟨?_, e2⟩
  rw [g.sc, g.N]
  unfold blkB at h
  simp only [Bool.and_eq_true, List.all_eq_true, decide_eq_true_iff, Bool.or_eq_true, Bool.not_eq_true', decide_eq_false_iff_not, Bool.or_eq_false_iff] at h
  obtain ⟨⟨⟨⟨h1, h2⟩, h3⟩, h4⟩, h5⟩ := h
  refine ⟨h1, h2, ?_, ?_, ?_⟩
  · intro p hp
    unfold mkOwn at hp
    rw [List.mem_map] at hp
    obtain ⟨i, hi, rfl⟩ := hp
    have := h3 i hi
    obtain ⟨x, hx⟩ := Option.isSome_iff_exists.mp this
    rw [hx]
    rfl
  · intro y hy e
    rcases h4 y hy with (z | z) | z
    · exact absurd e z
    · exact .inl z
    · exact .inr z
  · intro y hy e
    rcases h5 y hy with (z | z) | z
    · rcases e with e | e
      · exact absurd e z.1
      · exact absurd e z.2
    · exact .inl z
    · exact .inr z
theorem plainIx_ok {b : Expr} (h : plainIx b = true) : PlainIx b := by
  cases b <;> first | (intro o i; rfl) | cases h
theorem okIter_ok {e : Expr} (h : okIter e = true) (env : Env) : ∀ x, foldedSetIterable e env x = pure x := by
  cases e <;> first | (intro x; rfl) | cases h
theorem con_ok {d : PyData} {c : Const} {j : Nat} {pos : Pos} (h : conB d c = true) : PE X (.Constant c j pos) (tE X.K w0 W fun _ S => .ok (.dat d) S) := by
  cases d <;> cases c <;> first | (cases h; done) | skip
  · exact snd_con (t := tC .non) pe_non fun _ => .non
  · rename_i a b
    obtain rfl : a = b := by simpa [conB] using h
    exact snd_con (t := tC .non) pe_bl fun _ => .bl _
  · rename_i a b
    obtain rfl : a = b := by simpa [conB] using h
    exact snd_con (t := tC .non) pe_int fun _ => .int _
  · rename_i a b
    obtain rfl : a = b := by simpa [conB] using h
    exact snd_con (t := tC .non) pe_str fun _ => .str _
theorem evL_len (Cf : Nat → List Val → Sto → R Val) (Gc : List PyData) : ∀ (es : List Ex) (ρ : Rho) (S : Sto) (vs : List Val) (S' : Sto), evL Cf Gc es ρ S = .ok vs S' → vs.length = es.length
  | [], ρ, S, vs, S', h => by
    unfold evL at h
    cases h
    rfl
  | e :: es, ρ, S, vs, S', h => by
    unfold evL at h
    cases h1 : evE Cf Gc e ρ S with
    | bad => rw [h1] at h; cases h
    | exc c d S1 => rw [h1] at h; cases h
    | ok v S1 =>
      rw [h1] at h
      have h : (evL Cf Gc es ρ S1).bind (fun vs S => .ok (v :: vs) S) = .ok vs S' := h
      cases h2 : evL Cf Gc es ρ S1 with
      | bad => rw [h2] at h; cases h
      | exc c d S1 => rw [h2] at h; cases h
      | ok us S2 =>
        rw [h2] at h
        cases h
        rw [List.length_cons, List.length_cons, evL_len Cf Gc es ρ S1 us _ h2]
theorem ckL_len : ∀ (es : List Ex) (xs : List Expr), ckL P k es xs = true → xs.length = es.length ∧ (xs.all fun e => !isStar e) = true
  | [], xs, h => by
    unfold ckL at h
    cases xs with
    | nil => exact ⟨rfl, rfl⟩
    | cons _ _ => cases h
  | e :: es, xs, h => by
    unfold ckL at h
    split at h
    · simp only [Bool.and_eq_true] at h
      obtain ⟨a, b⟩ := ckL_len es _ h.2
      exact ⟨by rw [List.length_cons, List.length_cons, a], by rw [List.all_cons, h.1.1, b]; rfl⟩
    · cases h
theorem pe_bo1 {op : BoolOp} {a : Expr} {pos : Pos} {t : TE} (h : PE X a t) : PE X (.BoolOp op [a] pos) t := ⟨fun pins s σ H Q I q => h.run pins s σ H Q I q⟩
theorem kw_of {kws : List Str} {pos : Pos} : ∀ {ks : List Keyword}, ks.map (·.arg) = kws.map some → ((backToKw pos (keywordEach ks X.env)).all (·.1.isSome) = true) ∧ ((backToKw pos (keywordEach ks X.env)).filterMap (·.1) = kws) ∧ ((backToKw pos (keywordEach ks X.env)).any (·.1.isNone) = false) := by
  intro ks
  induction ks generalizing kws with
  | nil => intro h; cases kws with
    | nil => exact ⟨rfl, rfl, rfl⟩
    | cons _ _ => cases h
  | cons q ks ih =>
    intro h
    cases kws with
    | nil => cases h
    | cons y kws =>
      rw [List.map_cons, List.map_cons, List.cons.injEq] at h
      obtain ⟨a, b, c⟩ := ih h.2
      obtain ⟨qa, qv, qp⟩ := q
      obtain rfl : qa = some y := h.1
      refine ⟨?_, ?_, ?_⟩
      · show (true && (backToKw pos (keywordEach ks X.env)).all _) = true
        rw [a]; rfl
      · show y :: (backToKw pos (keywordEach ks X.env)).filterMap _ = _
        rw [b]
      · show (false || (backToKw pos (keywordEach ks X.env)).any _) = false
        rw [c]; rfl
end
end Dw

set_option Elab.async false
set_option linter.all false
set_option maxRecDepth 100000
set_option maxHeartbeats 4000000
/-! What is checked is sound: expressions, all of them. -/
namespace Dw
open PySem PySem.Spec PyProof.Rows L2

theorem att_ok {e : Expr} {m : Str} {env : Env} (h : attB e = true) : attributeBase e m env (eval e env) = eval e env := by
  cases e <;> first | rfl | cases h
section
variable (P : Dc) (Cf : Nat → List Val → Sto → R Val) (Gc : List PyData) (w0 : Ew) (n : Nat)
/-- a value, and a test where it may be one -/
def OkE (X : Cx) (W : WX) (x : Ex) (e : Expr) : Prop := PE X e (tE X.K w0 W (evE Cf Gc x)) ∧ (tst x = true → PT X e (tTB X.K w0 W (bB (evE Cf Gc x))))
theorem OkE.gen {X : Cx} {W : WX} {x : Ex} {e : Expr} (h : PE X e (tE X.K w0 W (evE Cf Gc x))) (he : ∀ whole, isTrue e X.env whole = (do let v ← whole; standAt e.pos; holding [v] (truthy v))) : OkE Cf Gc w0 X W x e := ⟨h, fun _ => snd_test h he⟩
mutual
theorem ckE_ok : ∀ (x : Ex) (X : Cx) (k : Kc) (W : WX) (e : Expr), Good P Cf Gc w0 n X k W → ckE P k x e = true → OkE Cf Gc w0 X W x e
  | .var i, X, k, W, e, g, h => by
    cases e with
    | Name x p =>
      simp only [ckE, Bool.and_eq_true, decide_eq_true_iff, Bool.not_eq_true'] at h
      exact .gen _ _ _ (snd_var (g.N ▸ h.1.1.1) (g.vis h.1.1.2) h.1.2 h.2) fun _ => rfl
    | _ => simp [ckE] at h
  | .con d, X, k, W, e, g, h => by
    cases e with
    | Constant c j p =>
      simp only [ckE] at h
      exact .gen _ _ _ (con_ok h) fun _ => rfl
    | _ => simp [ckE] at h
  | .glob q, X, k, W, e, g, h => by
    cases e with
    | Name x p =>
      simp only [ckE, Bool.and_eq_true, decide_eq_true_iff, Bool.not_eq_true'] at h
      obtain ⟨d, v, u, h1, h2, h3, h4⟩ := g.gls _ _ h.1.1
      refine .gen _ _ _ (PE.imp (pe_glob (g.gl h.1.2) h2 h3 h.2) fun σ H Q ⟨G, as, S, ρ, r0, e0, f⟩ => ?_) fun _ => rfl
      have f : FinG X.K w0 (At X.K) W σ Q G as H (give (Gc[q]?.map .dat) S) := f
      rw [h1] at f
      exact f G as H v Ext.refl r0 (h4 G)
    | _ => simp [ckE] at h
  | .bin op a b, X, k, W, e, g, h => by
    cases e with
    | BinOp ea o eb p =>
      simp only [ckE, Bool.and_eq_true] at h
      exact .gen _ _ _ (snd_bin h.1.1 (ckE_ok a X k W ea g h.1.2).1 (ckE_ok b X k W eb g h.2).1) fun _ => rfl
    | _ => simp [ckE] at h
  | .neg a, X, k, W, e, g, h => by
    cases e with
    | UnaryOp o ea p => cases o with
      | USub =>
        simp only [ckE] at h
        exact .gen _ _ _ (snd_neg (ckE_ok a X k W ea g h).1) fun _ => rfl
      | _ => simp [ckE] at h
    | _ => simp [ckE] at h
  | .cmp op a b, X, k, W, e, g, h => by
    unfold ckE at h
    split at h
    · simp only [Bool.and_eq_true, Bool.not_eq_true'] at h
      have hu := g.un
      exact ⟨snd_cmp (by omega) h.1.1.1 h.1.1.2 (ckE_ok a X k W _ g h.1.2).1 (ckE_ok b X k W _ g h.2).1, fun _ => snt_cmp (by omega) h.1.1.1 h.1.1.2 (ckE_ok a X k W _ g h.1.2).1 (ckE_ok b X k W _ g h.2).1⟩
    · cases h
  | .chn op op' a b c, X, k, W, e, g, h => by
    unfold ckE at h
    split at h
    · simp only [Bool.and_eq_true, Bool.not_eq_true'] at h
      have hu := g.un
      obtain ⟨⟨⟨⟨⟨h1, h2⟩, h3⟩, ha⟩, hb⟩, hc⟩ := h
      exact ⟨snd_chn (by omega) h1 h2 h3 (ckE_ok a X k W _ g ha).1 (ckE_ok b X k W _ g hb).1 (ckE_ok c X k W _ g hc).1, fun _ => snt_chn (by omega) h1 h2 h3 (ckE_ok a X k W _ g ha).1 (ckE_ok b X k W _ g hb).1 (ckE_ok c X k W _ g hc).1⟩
    · cases h
  | .isN a, X, k, W, e, g, h => by
    unfold ckE at h
    split at h
    · exact ⟨snd_isN (ckE_ok a X k W _ g h).1, fun _ => snt_isN (ckE_ok a X k W _ g h).1⟩
    · cases h
  | .notN a, X, k, W, e, g, h => by
    unfold ckE at h
    split at h
    · exact ⟨snd_notN (ckE_ok a X k W _ g h).1, fun _ => snt_notN (ckE_ok a X k W _ g h).1⟩
    · cases h
  | .not a, X, k, W, e, g, h => by
    unfold ckE at h
    split at h
    · refine ⟨?_, fun ht => snt_not ((ckE_ok a X k W _ g h).2 (by simpa only [tst] using ht))⟩
      exact snd_not (ckE_ok a X k W _ g h).1
    · cases h
  | .and es, X, k, W, e, g, h => by
    unfold ckE at h
    split at h
    · simp only [Bool.and_eq_true, Bool.not_eq_true'] at h
      rename_i xs p
      obtain ⟨a, b⟩ := ckAnd_ok es X k W xs p g h.2 h.1
      exact ⟨a, fun ht => (b (by simpa only [tst] using ht)).pt⟩
    · cases h
  | .or es, X, k, W, e, g, h => by
    unfold ckE at h
    split at h
    · simp only [Bool.and_eq_true, Bool.not_eq_true'] at h
      rename_i xs p
      obtain ⟨a, b⟩ := ckOr_ok es X k W xs p g h.2 h.1
      exact ⟨a, fun ht => (b (by simpa only [tst] using ht)).pt⟩
    · cases h
  | .ife c a b, X, k, W, e, g, h => by
    unfold ckE at h
    split at h
    · simp only [Bool.and_eq_true] at h
      obtain ⟨⟨⟨h1, hc⟩, ha⟩, hb⟩ := h
      exact ⟨snd_ife ((ckE_ok c X k W _ g hc).2 h1) (ckE_ok a X k W _ g ha).1 (ckE_ok b X k W _ g hb).1, fun ht => by simp [tst] at ht⟩
    · cases h
  | .tup es, X, k, W, e, g, h => by
    unfold ckE at h
    split at h
    · simp only [Bool.and_eq_true, decide_eq_true_iff] at h
      obtain ⟨h1, h2⟩ := ckL_len es _ h.2
      exact .gen _ _ _ (snd_tup (ckL_ok es X k W _ g h.2) h.1 fun ρ S vs S' q => (evL_len Cf Gc es ρ S vs S' q).trans h1.symm) fun _ => rfl
    · cases h
  | .lst es, X, k, W, e, g, h => by
    unfold ckE at h
    split at h
    · simp only [Bool.and_eq_true, decide_eq_true_iff] at h
      obtain ⟨h1, h2⟩ := ckL_len es _ h.2
      exact .gen _ _ _ (snd_lst (ckL_ok es X k W _ g h.2) h.1 fun ρ S vs S' q => (evL_len Cf Gc es ρ S vs S' q).trans h1.symm) fun _ => rfl
    · cases h
  | .new es, X, k, W, e, g, h => by
    unfold ckE at h
    split at h
    · simp only [Bool.and_eq_true, decide_eq_true_iff] at h
      obtain ⟨h1, h2⟩ := ckL_len es _ h.2
      exact .gen _ _ _ (snd_new (ckL_ok es X k W _ g h.2) h.1 fun ρ S vs S' q => (evL_len Cf Gc es ρ S vs S' q).trans h1.symm) fun _ => rfl
    · cases h
  | .idx a b, X, k, W, e, g, h => by
    unfold ckE at h
    split at h
    · simp only [Bool.and_eq_true] at h
      have hu := g.un
      exact .gen _ _ _ (snd_idx (by omega) (plainIx_ok h.1.1) (ckE_ok a X k W _ g h.1.2).1 (ckE_ok b X k W _ g h.2).1) fun _ => rfl
    · cases h
  | .sl a lo hi, X, k, W, e, g, h => by
    unfold ckE at h
    split at h
    · simp only [Bool.and_eq_true] at h
      exact .gen _ _ _ (snd_sl (ckE_ok a X k W _ g h.1.1).1 (ckO_ok lo X k W _ g h.1.2) (ckO_ok hi X k W _ g h.2)) fun _ => rfl
    · cases h
  | .call f es, X, k, W, e, g, h => by
    unfold ckE at h
    split at h
    · rw [Bool.and_eq_true] at h
      obtain ⟨a, b⟩ := g.lam h.1 f es _ h.2
      exact .gen _ _ _ a b
    · cases h
  | .dsp tp es st, X, k, W, e, g, h => by
    unfold ckE at h
    split at h
    · simp only [Bool.and_eq_true] at h
      obtain ⟨rfl, h⟩ := h
      exact .gen _ _ _ (snd_dspT (ckD_ok es st X k W _ g h)) fun _ => rfl
    · simp only [Bool.and_eq_true, Bool.not_eq_true'] at h
      obtain ⟨rfl, h⟩ := h
      exact .gen _ _ _ (snd_dspL (ckD_ok es st X k W _ g h)) fun _ => rfl
    · cases h
  | .callK f kws perm dfl es kes, X, k, W, e, g, h => by
    unfold ckE at h
    split at h
    · simp only [Bool.and_eq_true, decide_eq_true_iff, Bool.not_eq_true'] at h
      obtain ⟨⟨⟨⟨⟨⟨h1, h2⟩, h3⟩, h4⟩, h5⟩, h6⟩, h7⟩ := h
      rename_i x p xs ks pos
      obtain ⟨fad, fd, ps, F, hm, hk, hs⟩ := g.defs _ _ h1
      obtain ⟨q1, q2⟩ := ckL_len es _ h6
      obtain ⟨k1, k2, k3⟩ := kw_of (X := X) (pos := pos) h5
      have hn : (kws.map Str.ofString).length = kws.length := by rw [List.length_map]
      have main := snd_callK (p := p) (pos := pos) F g.room g.gd (g.gl h2) hm hk (hs _ _ _ _ h4) g.tk (ckL_ok es X k W _ g h6) (ckK_ok kes X k W _ g h7) k1 k2 (fun e ρ S => by
        have : es = [] := by
          rw [e] at q1
          exact List.length_eq_zero_iff.mp q1.symm
        rw [this]
        simp only [evL]) q2 k3 h3
      rw [hn] at main
      exact .gen _ _ _ main fun _ => rfl
    · cases h
  | .blt b es, X, k, W, e, g, h => by
    unfold ckE at h
    split at h
    · simp only [Bool.and_eq_true, decide_eq_true_iff, Bool.not_eq_true'] at h
      obtain ⟨⟨⟨h1, h2⟩, h3⟩, h4⟩ := h
      rename_i x p xs pos
      cases xs with
      | nil => cases h3
      | cons x0 xs =>
        obtain ⟨q1, q2⟩ := ckL_len es _ h4
        rw [List.all_cons, Bool.and_eq_true, Bool.not_eq_true'] at q2
        exact .gen _ _ _ (snd_blt b g.calm g.gd g.un h1 (g.gl h2) (h1 ▸ g.blts b) q2.1 q2.2 (ckL_ok es X k W _ g h4)) fun _ => rfl
    · cases h
  | .isi a t, X, k, W, e, g, h => by
    unfold ckE at h
    split at h
    · simp only [Bool.and_eq_true, decide_eq_true_iff, Bool.not_eq_true'] at h
      obtain ⟨⟨⟨⟨⟨h1, h2⟩, h3⟩, h4⟩, h5⟩, h6⟩ := h
      subst h1 h3
      exact .gen _ _ _ (snd_isi (g.gl h2) g.isin (g.gl h4) (g.tys t) h5 (ckE_ok a X k W _ g h6).1) fun _ => rfl
    · cases h
  | .mth .append o es, X, k, W, e, g, h => by
    unfold ckE at h
    split at h
    · simp only [Bool.and_eq_true, decide_eq_true_iff, Bool.not_eq_true'] at h
      obtain ⟨⟨⟨⟨⟨h1, h2⟩, h3⟩, h4⟩, h5⟩, h6⟩ := h
      subst h1
      refine .gen _ _ _ (snd_app h3 ?_ (by simpa using h4) (ckE_ok o X k W _ g h5).1 (ckL_ok es X k W _ g h6)) fun _ => rfl
      split at h2
      · rfl
      · rfl
      · cases h2
    · cases h
  | .cp e tg it ifs own, X, k, W, x, g, h => by
    unfold ckE at h
    split at h
    · simp only [Bool.and_eq_true, List.all_eq_true] at h
      obtain ⟨⟨⟨⟨⟨⟨⟨h1, h2⟩, h3⟩, h4⟩, h5⟩, h6⟩, h7⟩, hE⟩ := h
      rename_i elt t iter cs scope pos
      obtain ⟨b1, b2⟩ := g.blkOk h6
      have hown : ∀ i ∈ tgSlots tg, i ∈ (mkOwn X.N own).map (·.2) := by
        rw [b2]
        intro i hi
        simpa using h7 i hi
      have main := snd_cp (pos := pos) (W := W) (w0 := w0) g.calm g.nd (ckI_ok it X k W _ _ g hE h3) b1 hown (fun s H C cl fp => (g.blk s H _ C cl fp).tg h2) (fun s H C cl fp => ckC_ok ifs _ _ _ _ (g.blk s H _ C cl fp) h4) (fun s H C cl fp => (ckE_ok e _ _ _ _ (g.blk s H _ C cl fp) h5).1) (okIter_ok h1 _)
      rw [b2] at main
      exact .gen _ _ _ main fun _ => rfl
    · cases h
  | .smt m o a, X, k, W, e, g, h => by
    unfold ckE at h
    split at h
    · simp only [Bool.and_eq_true, decide_eq_true_iff, Bool.not_eq_true'] at h
      obtain ⟨⟨⟨⟨⟨h1, h2⟩, h3⟩, h4⟩, h5⟩, h6⟩ := h
      subst h1
      exact .gen _ _ _ (snd_smt h3 (att_ok h2) (by simpa using h4) (ckE_ok o X k W _ g h5).1 (ckE_ok a X k W _ g h6).1) fun _ => rfl
    · cases h
  | .cat a b, X, k, W, e, g, h => by
    unfold ckE at h
    split at h
    · simp only [Bool.and_eq_true] at h
      exact .gen _ _ _ (snd_cat (ckE_ok a X k W _ g h.1).1 (ckE_ok b X k W _ g h.2).1) fun _ => rfl
    · cases h
  | .dic a, X, k, W, e, g, h => by
    unfold ckE at h
    split at h
    · simp only [Bool.and_eq_true, decide_eq_true_iff, Bool.not_eq_true'] at h
      obtain ⟨⟨⟨h1, h2⟩, h3⟩, h4⟩ := h
      subst h1
      exact .gen _ _ _ (snd_dic g.calm (g.gl h2) g.more.1 h3 (ckE_ok a X k W _ g h4).1) fun _ => rfl
    · cases h
  | .srt a, X, k, W, e, g, h => by
    unfold ckE at h
    split at h
    · simp only [Bool.and_eq_true, decide_eq_true_iff, Bool.not_eq_true'] at h
      obtain ⟨⟨⟨h1, h2⟩, h3⟩, h4⟩ := h
      subst h1
      exact .gen _ _ _ (snd_srt g.calm (g.gl h2) g.more.2.1 h3 (ckE_ok a X k W _ g h4).1) fun _ => rfl
    · cases h
  | .cp2 e tg it tg1 it1 ifs own own1, X, k, W, x, g, h => by
    unfold ckE at h
    split at h
    · simp only [Bool.and_eq_true, List.all_eq_true] at h
      obtain ⟨⟨⟨⟨⟨⟨⟨⟨⟨⟨⟨⟨⟨h1, h2⟩, h3⟩, h4⟩, h5⟩, h6⟩, h7⟩, hE⟩, j1⟩, j2⟩, j3⟩, j4⟩, j5⟩, jE⟩ := h
      rename_i elt t iter t1 iter1 cs scope pos
      obtain ⟨b1, b2⟩ := g.blkOk h6
      have hown : ∀ i ∈ tgSlots tg, i ∈ (mkOwn X.N own).map (·.2) := by
        rw [b2]
        intro i hi
        simpa using h7 i hi
      have hv : ∀ i ∈ own1, i ∈ (mkOwn X.N own).map (·.2) := by
        rw [b2]
        intro i hi
        simpa using j4 i hi
      have main := snd_cp2 (pos := pos) (W := W) (w0 := w0) g.calm g.nd (ckI_ok it X k W _ _ g hE h3) b1 hv hown (fun i hi => by simpa using j5 i hi) (fun s H C cl fp => (g.blk s H _ C cl fp).tg h2) (fun s H C cl fp => ckI_ok it1 _ _ _ _ _ (g.blk s H _ C cl fp) jE j3) (fun s H C cl fp => (g.blk s H _ C cl fp).tg j2)
        (fun s H C cl fp => ckC_ok ifs _ _ _ _ (g.blk s H _ C cl fp) h4) (fun s H C cl fp => (ckE_ok e _ _ _ _ (g.blk s H _ C cl fp) h5).1) (okIter_ok h1 _) (fun env => okIter_ok j1 env)
      rw [b2] at main
      exact .gen _ _ _ main fun _ => rfl
    · cases h
theorem ckL_ok : ∀ (es : List Ex) (X : Cx) (k : Kc) (W : WX) (xs : List Expr), Good P Cf Gc w0 n X k W → ckL P k es xs = true → PA X xs (tA X.K w0 W (evL Cf Gc es))
  | [], X, k, W, xs, g, h => by
    unfold ckL at h
    cases xs with
    | nil => exact sna_nil
    | cons _ _ => cases h
  | e :: es, X, k, W, xs, g, h => by
    unfold ckL at h
    split at h
    · simp only [Bool.and_eq_true, Bool.not_eq_true'] at h
      exact sna_cons h.1.1 (ckE_ok e X k W _ g h.1.2).1 (ckL_ok es X k W _ g h.2)
    · cases h
theorem ckD_ok : ∀ (es : List Ex) (st : List Bool) (X : Cx) (k : Kc) (W : WX) (xs : List Expr), Good P Cf Gc w0 n X k W → ckD P k es st xs = true → PA X xs (tA X.K w0 W (evD Cf Gc es st))
  | [], st, X, k, W, xs, g, h => by
    unfold ckD at h
    cases xs with
    | nil => exact sna_nil
    | cons _ _ => cases h
  | e :: es, st, X, k, W, xs, g, h => by
    unfold ckD at h
    split at h
    · rw [Bool.and_eq_true] at h
      obtain ⟨h1, h2⟩ := h
      have ih := ckD_ok es st.tail X k W _ g h2
      have ev : evD Cf Gc (e :: es) st = fun ρ S => (evE Cf Gc e ρ S).bind fun v S => (splD (st.headD false) v S).bind fun us S => (evD Cf Gc es st.tail ρ S).bind fun vs S => .ok (us ++ vs) S := by
        funext ρ S
        rfl
      rw [ev]
      split at h1
      · rename_i hb
        rw [hb]
        split at h1
        · exact sna_star (ckE_ok e X k W _ g h1).1 ih
        · cases h1
      · rename_i hb
        rw [Bool.not_eq_true] at hb
        rw [hb]
        rw [Bool.and_eq_true, Bool.not_eq_true'] at h1
        exact sna_one h1.1 (ckE_ok e X k W _ g h1.2).1 ih
    · cases h
theorem ckK_ok : ∀ (es : List Ex) (X : Cx) (k : Kc) (W : WX) (xs : List Keyword), Good P Cf Gc w0 n X k W → ckK P k es xs = true → PK X xs (tA X.K w0 W (evL Cf Gc es))
  | [], X, k, W, xs, g, h => by
    unfold ckK at h
    cases xs with
    | nil => exact snk_nil
    | cons _ _ => cases h
  | e :: es, X, k, W, xs, g, h => by
    unfold ckK at h
    split at h
    · simp only [Bool.and_eq_true] at h
      exact snk_cons (ckE_ok e X k W _ g h.1).1 (ckK_ok es X k W _ g h.2)
    · cases h
theorem ckAnd_ok : ∀ (es : List Ex) (X : Cx) (k : Kc) (W : WX) (xs : List Expr) (pos : Pos), Good P Cf Gc w0 n X k W → ckL P k es xs = true → xs.isEmpty = false →
    PE X (.BoolOp .And xs pos) (tE X.K w0 W (evAnd Cf Gc es)) ∧ (tstL es = true → PW X (.BoolOp .And xs pos) (tTB X.K w0 W (bB (evAnd Cf Gc es))))
  | [], X, k, W, xs, pos, g, h, hx => by
    unfold ckL at h
    rw [hx] at h
    cases h
  | [a], X, k, W, xs, pos, g, h, hx => by
    unfold ckL at h
    split at h
    · simp only [Bool.and_eq_true] at h
      rename_i x xs
      obtain ⟨q1, q2⟩ := ckL_len [] _ h.2
      obtain rfl := List.length_eq_zero_iff.mp q1
      have ha := ckE_ok a X k W _ g h.1.2
      exact ⟨pe_bo1 ha.1, fun ht => pw_and1 (ha.2 (by simpa [tstL] using ht))⟩
    · cases h
  | a :: b :: r, X, k, W, xs, pos, g, h, hx => by
    unfold ckL at h
    split at h
    · simp only [Bool.and_eq_true] at h
      rename_i x xs
      obtain ⟨q1, q2⟩ := ckL_len (b :: r) _ h.2
      have ha := ckE_ok a X k W _ g h.1.2
      cases xs with
      | nil => cases q1
      | cons y ys =>
        obtain ⟨h3, h4⟩ := ckAnd_ok (b :: r) X k W (y :: ys) pos g h.2 rfl
        refine ⟨snd_and ha.1 h3, fun ht => ?_⟩
        unfold tstL at ht
        rw [Bool.and_eq_true] at ht
        exact snt_and (ha.2 ht.1) (h4 ht.2)
    · cases h
theorem ckOr_ok : ∀ (es : List Ex) (X : Cx) (k : Kc) (W : WX) (xs : List Expr) (pos : Pos), Good P Cf Gc w0 n X k W → ckL P k es xs = true → xs.isEmpty = false →
    PE X (.BoolOp .Or xs pos) (tE X.K w0 W (evOr Cf Gc es)) ∧ (tstL es = true → PW X (.BoolOp .Or xs pos) (tTB X.K w0 W (bB (evOr Cf Gc es))))
  | [], X, k, W, xs, pos, g, h, hx => by
    unfold ckL at h
    rw [hx] at h
    cases h
  | [a], X, k, W, xs, pos, g, h, hx => by
    unfold ckL at h
    split at h
    · simp only [Bool.and_eq_true] at h
      rename_i x xs
      obtain ⟨q1, q2⟩ := ckL_len [] _ h.2
      obtain rfl := List.length_eq_zero_iff.mp q1
      have ha := ckE_ok a X k W _ g h.1.2
      exact ⟨pe_bo1 ha.1, fun ht => pw_or1 (ha.2 (by simpa [tstL] using ht))⟩
    · cases h
  | a :: b :: r, X, k, W, xs, pos, g, h, hx => by
    unfold ckL at h
    split at h
    · simp only [Bool.and_eq_true] at h
      rename_i x xs
      obtain ⟨q1, q2⟩ := ckL_len (b :: r) _ h.2
      have ha := ckE_ok a X k W _ g h.1.2
      cases xs with
      | nil => cases q1
      | cons y ys =>
        obtain ⟨h3, h4⟩ := ckOr_ok (b :: r) X k W (y :: ys) pos g h.2 rfl
        refine ⟨snd_or ha.1 h3, fun ht => ?_⟩
        unfold tstL at ht
        rw [Bool.and_eq_true] at ht
        exact snt_or (ha.2 ht.1) (h4 ht.2)
    · cases h
theorem ckC_ok : ∀ (es : List Ex) (X : Cx) (k : Kc) (W : WX) (xs : List Expr), Good P Cf Gc w0 n X k W → ckC P k es xs = true → PTs X xs (tTB X.K w0 W (evIf Cf Gc es))
  | [], X, k, W, xs, g, h => by
    unfold ckC at h
    cases xs with
    | nil => exact ⟨fun pins s σ H Q I ⟨G, as, S, ρ, r0, e0, f⟩ => pts_nil.run pins s σ H Q I (f G as H true Ext.refl r0 rfl)⟩
    | cons _ _ => cases h
  | [c], X, k, W, xs, g, h => by
    unfold ckC at h
    split at h
    · simp only [Bool.and_eq_true] at h
      exact pts_one ((ckE_ok c X k W _ g h.2).2 h.1)
    · cases h
  | _ :: _ :: _, X, k, W, xs, g, h => by
    unfold ckC at h
    cases h
theorem ckO_ok : ∀ (o : Option Ex) (X : Cx) (k : Kc) (W : WX) (x : Option Expr), Good P Cf Gc w0 n X k W → ckO P k o x = true → PO X x (tO X.K w0 W (evO Cf Gc o))
  | none, X, k, W, x, g, h => by
    unfold ckO at h
    cases x with
    | none => exact sno_none
    | some _ => cases h
  | some e, X, k, W, x, g, h => by
    unfold ckO at h
    split at h
    · exact sno_some (ckE_ok e X k W _ g h).1
    · cases h
theorem ckI_ok : ∀ (i : It) (X : Cx) (k : Kc) (W : WX) (t x : Expr), Good P Cf Gc w0 n X k W → enuOk i t = true → ckI P k i x = true → PI X t x (tI X.K w0 W (evI Cf Gc i))
  | .val e, X, k, W, t, x, g, he, h => by
    unfold ckI at h
    exact sni_val (ckE_ok e X k W _ g h).1
  | .enu a, X, k, W, t, x, g, he, h => by
    unfold ckI at h
    split at h
    · simp only [Bool.and_eq_true, decide_eq_true_iff, Bool.not_eq_true'] at h
      obtain ⟨⟨⟨h1, h2⟩, h3⟩, h4⟩ := h
      subst h1
      cases t with
      | Tuple es j p => exact sni_enu (g.gl h2) g.more.2.2 h3 (ckE_ok a X k W _ g h4).1
      | _ => cases he
    · cases h
  | .rng1 a, X, k, W, t, x, g, he, h => by
    unfold ckI at h
    split at h
    · simp only [Bool.and_eq_true, decide_eq_true_iff, Bool.not_eq_true'] at h
      obtain ⟨⟨⟨h1, h2⟩, h3⟩, h4⟩ := h
      subst h1
      exact sni_rng1 (g.gl h2) g.rng h3 (ckE_ok a X k W _ g h4).1
    · cases h
  | .rng2 a b, X, k, W, t, x, g, he, h => by
    unfold ckI at h
    split at h
    · simp only [Bool.and_eq_true, decide_eq_true_iff, Bool.not_eq_true'] at h
      obtain ⟨⟨⟨⟨⟨h1, h2⟩, h3⟩, h4⟩, h5⟩, h6⟩ := h
      subst h1
      exact sni_rng2 (g.gl h2) g.rng h3 h4 (ckE_ok a X k W _ g h5).1 (ckE_ok b X k W _ g h6).1
    · cases h
end
end
end Dw

set_option Elab.async false
set_option linter.all false
set_option maxRecDepth 100000
set_option maxHeartbeats 4000000
/-! What is checked is sound: statements. -/
namespace Dw
open PySem PySem.Spec PyProof.Rows L2

def swB (k : Kc) (t : Str) (line vline : Nat) (scope : Scope) : Bool :=
  decide (k.sc.names.lookup t = some .local) && (line == vline) && !(scope.names.any fun (n, k) => n == t && (k == .local || k == .cell))
def foldT : Expr → Bool
  | .Tuple vs _ _ => vs.all (foldedForSure 8)
  | _ => false
/-- a target that is no local of the frame -/
def cellT (k : Kc) : Expr → Bool
  | .Tuple ts _ _ => ts.any fun e => match e with
    | .Name x _ => !decide (k.sc.names.lookup x = some .local)
    | _ => false
  | _ => false
mutual
def ckS (P : Dc) (k : Kc) : Sx → Stmt → Bool
  | .asg tg e, s => match s with
    | .Assign [t] v pos => ckG k tg t && ckE P k e v && (noTup t || noTup v || foldT v || cellT k t)
    | _ => false
  | .par i j a b, s => match s with
    | .Assign [.Tuple [.Name x px, .Name y py] _ _] (.Tuple [ea, eb] _ _) _ => decide (k.N[i]? = some x) && decide (k.N[j]? = some y) && decide (i ≠ j) && decide (x ≠ y) && decide (k.sc.names.lookup x = some .local) && decide (k.sc.names.lookup y = some .local) &&
      decide (px.line = py.line) && !isStar ea && !isStar eb && !(foldedForSure 8 ea && foldedForSure 8 eb) && !(constantsAlone 8 ea && constantsAlone 8 eb) && ckE P k a ea && ckE P k b eb
    | _ => false
  | .sub o i e, s => match s with
    | .Assign [.Subscript eo ei _] v _ => noSl ei && ckE P k o eo && ckE P k i ei && ckE P k e v
    | _ => false
  | .subn o i j e, s => match s with
    | .Assign [.Tuple [.Subscript eo ei _, .Name y _] _ _] v _ => decide (k.N[j]? = some y) && decide (k.sc.names.lookup y = some .local) && noSl ei && noTup v && ckE P k o eo && ckE P k i ei && ckE P k e v
    | _ => false
  | .exp e, s => match s with
    | .Expr v _ => noCp v && ckE P k e v
    | _ => false
  | .ret e, s => match s with
    | .Return (some v) _ => ckE P k e v
    | _ => false
  | .ife c a b, s => match s with
    | .If ec sa sb _ => tst c && ckE P k c ec && ckSs P k a sa && ckSs P k b sb
    | _ => false
  | .whl _ c b, s => match s with
    | .While ec sa [] _ => tst c && ckE P k c ec && ckSs P k b sa
    | _ => false
  | .fr tg it b, s => match s with
    | .For t iter sa [] _ => okIter iter && ckG k tg t && ckI P k it iter && ckSs P k b sa && enuOk it t
    | _ => false
  | .rai c e, s => match s with
    | .Raise (some (.Call (.Name x _) [a] [] _)) none _ => decide (P.errs[c]? = some x) && glB k x && !dbg x && !isStar a && ckE P k e a
    | _ => false
  | .tryl b c i ne tp l, s => !tp && match s with
    | .Try body [.ExceptHandler (some (.Name x _)) (some n) [.Return (some (.List es _)) _] _] [] [] _ => (match P.flds[c]? with
      | some Fl => ckIt i n Fl.s l es
      | none => false) && decide (k.N[i]? = some n) && decide (k.sc.names.lookup n = some .local) && !dbg n && !(n == ("__classdict__" : Str)) && decide (P.errs[c]? = some x) && glB k x && !dbg x && decide (ne = P.errs.length) &&
      l.all (fun o => match o with
        | none => true
        | some d => cOk d) && decide (l.length ≤ 1000) && ckSs P { k with lm := false } b body
    | _ => false
  | .pass, s => match s with
    | .Pass _ => true
    | _ => false
def ckSs (P : Dc) (k : Kc) : List Sx → List Stmt → Bool
  | [], ss => ss.isEmpty
  | x :: xs, ss => match ss with
    | s :: ss => ckS P k x s && ckSs P k xs ss
    | [] => false
end

section
variable {P : Dc} {Cf : Nat → List Val → Sto → R Val} {Gc : List PyData} {w0 : Ew} {n : Nat} {X : Cx} {k : Kc} {W : WX}
/-- what a def's own block has more -/
structure GoodS (P : Dc) (Cf : Nat → List Val → Sto → R Val) (Gc : List PyData) (w0 : Ew) (n : Nat) (X : Cx) (k : Kc) (W : WX) : Prop extends Good P Cf Gc w0 n X k W where
  own : PassesOwn (model X.prog X.w) X.A X.env X.xe
  bk : X.env.blockKind = .function
  stk : X.stack = X.env :: X.outer
  frm : X.env.frame = some X.env.locals
theorem ck_noSC {x : Ex} {e : Expr} (h : ckE P k x e = true) : (∀ a b c d, e ≠ .SetComp a b c d) ∧ (∀ a b c d f, e ≠ .DictComp a b c d f) := by
  constructor
  · rintro a b c d rfl
    cases x <;> first | (simp [ckE] at h; done) | (rename_i m _ _; cases m; simp [ckE] at h)
  · rintro a b c d f rfl
    cases x <;> first | (simp [ckE] at h; done) | (rename_i m _ _; cases m; simp [ckE] at h)
theorem sw_sole {t v : Expr} {line : Nat} (h1 : (∀ a b c d, v ≠ .SetComp a b c d) ∧ (∀ a b c d f, v ≠ .DictComp a b c d f)) (h2 : (∀ a b c d, v ≠ .ListComp a b c d) ∨ (∀ x p, t ≠ .Name x p)) : swapsWithSole [t] v line X.env = pure false := by
  show swapsWith v (some t) line X.env = _
  cases v with
  | SetComp a b c d => exact absurd rfl (h1.1 a b c d)
  | DictComp a b c d f => exact absurd rfl (h1.2 a b c d f)
  | ListComp a b c d =>
    rcases h2 with h2 | h2
    · exact absurd rfl (h2 a b c d)
    · cases t <;> first | rfl | exact absurd rfl (h2 _ _)
  | _ => rfl
theorem sw_none {v : Expr} {line : Nat} (h : noCp v = true) : swapsWith v none line X.env = pure false := by
  cases v <;> first | rfl | cases h
theorem sw_stores {t v : Expr} (h : (noTup t || noTup v) = true) (ht : ∀ a b, t ≠ .List a b) : swappedStores [t] v X.env = pure none := by
  cases t <;> cases v <;> first | rfl | exact absurd rfl (ht _ _) | cases h
theorem sw_fold {t v : Expr} (h : foldT v = true) : swappedStores [t] v X.env = pure none := by
  cases v <;> first | (exact absurd (show false = true from h) Bool.noConfusion) | skip
  rename_i vs k p
  replace h : vs.all (foldedForSure 8) = true := h
  unfold swappedStores
  cases t <;> first | rfl | skip
  all_goals simp only [h, if_true]
  all_goals simp
theorem sw_cell {t v : Expr} (hs : X.env.scope = k.sc) (h : cellT k t = true) : swappedStores [t] v X.env = pure none := by
  cases t with
  | Tuple ts j p =>
    replace h : (ts.any fun e => match e with
      | .Name x _ => !decide (k.sc.names.lookup x = some .local)
      | _ => false) = true := h
    cases v with
    | Tuple vs j2 p2 =>
      unfold swappedStores
      show (if (!(ts.length == 2 || ts.length == 3) || vs.length != ts.length || X.env.blockKind != .function) = true then pure none else _) = _
      split
      · rfl
      · split
        · rfl
        · have key : ∀ (l : List Expr) (line : Nat), (l.any fun e => match e with
              | .Name x _ => !decide (k.sc.names.lookup x = some .local)
              | _ => false) = true → (l.filterMap fun
              | .Name id pos => if X.env.kindOf id == some .local && pos.line == line then some id else none
              | _ => none).length < l.length := by
            intro l line
            induction l with
            | nil => intro h; cases h
            | cons e l ih =>
              intro h
              rw [List.any_cons, Bool.or_eq_true] at h
              have le : (l.filterMap fun
                | .Name id pos => if X.env.kindOf id == some .local && pos.line == line then some id else none
                | _ => none).length ≤ l.length := List.length_filterMap_le _ _
              rw [List.filterMap_cons]
              rcases h with h | h
              · cases e with
                | Name x q =>
                  have h : (!decide (k.sc.names.lookup x = some .local)) = true := h
                  rw [Bool.not_eq_true', decide_eq_false_iff_not] at h
                  have e1 : (X.env.kindOf x == some NameKind.local) = false := by
                    show (X.env.scope.names.lookup x == some NameKind.local) = false
                    rw [hs]
                    simpa using h
                  simp only [e1, Bool.false_and]
                  rw [List.length_cons]
                  exact Nat.lt_succ_of_le le
                | _ => cases h
              · have := ih h
                rw [List.length_cons]
                split
                · omega
                · rw [List.length_cons]
                  omega
          have lt := key ts ((ts.head?.map (·.pos.line)).getD 0) h
          have ne : ((ts.filterMap fun
              | .Name id pos => if X.env.kindOf id == some .local && pos.line == ((ts.head?.map (·.pos.line)).getD 0) then some id else none
              | _ => none).length != ts.length) = true := by
            rw [bne_iff_ne]
            omega
          refine if_pos ?_
          rw [Bool.or_eq_true]
          exact Or.inl ne
    | _ => rfl
  | _ => cases h
theorem sw_st {t v : Expr} (hs : X.env.scope = k.sc) (h : (noTup t || noTup v || foldT v || cellT k t) = true) (ht : ∀ a b, t ≠ .List a b) : swappedStores [t] v X.env = pure none := by
  rw [Bool.or_eq_true, Bool.or_eq_true] at h
  rcases h with (h | h) | h
  · exact sw_stores h ht
  · exact sw_fold h
  · exact sw_cell hs h
theorem ckG_noList {t : Tg} {e : Expr} (h : ckG k t e = true) : ∀ a b, e ≠ .List a b := by
  rintro a b rfl
  cases t <;> cases h
theorem sw_name (hb : X.env.blockKind = .function) (hs : X.env.scope = k.sc) {elt : Expr} {gs : List Comprehension} {sc : Scope} {vp py : Pos} {y : Str} {line : Nat} : swapsWith (.ListComp elt gs sc vp) (some (.Name y py)) line X.env = pure (swB k y py.line vp.line sc) := by
  show (pure (X.env.blockKind == .function && X.env.scope.names.lookup y == some .local && py.line == vp.line && !(sc.names.any fun (n, k) => n == y && (k == .local || k == .cell))) : Sem Bool) = _
  rw [hb, hs]
  unfold swB
  congr 1
  have e1 : (k.sc.names.lookup y == some NameKind.local) = decide (k.sc.names.lookup y = some .local) := by
    by_cases h : k.sc.names.lookup y = some .local
    · rw [h]; rfl
    · rw [decide_eq_false h]
      simpa using h
  rw [e1]
  rfl
theorem sw_par (hb : X.env.blockKind = .function) {x y : Str} {px py pt p2 : Pos} {kt k2 : Nat} {a b : Expr} (hx : X.env.scope.names.lookup x = some .local) (hy : X.env.scope.names.lookup y = some .local) (hxy : x ≠ y) (hl : px.line = py.line) (ha : isStar a = false) (hb2 : isStar b = false)
    (h1 : (foldedForSure 8 a && foldedForSure 8 b) = false) (h2 : (constantsAlone 8 a && constantsAlone 8 b) = false) : swappedStores [.Tuple [.Name x px, .Name y py] kt pt] (.Tuple [a, b] k2 p2) X.env = pure (some [x, y]) := by
  have kx : X.env.kindOf x = some .local := hx
  have ky : X.env.kindOf y = some .local := hy
  have e3 : ([x, y] : List Str).eraseDups.length = 2 := by
    have : (y == x) = false := by simpa using fun h => hxy h.symm
    simp [List.eraseDups_cons, List.filter, this, List.eraseDups_nil]
  unfold swappedStores
  simp only [hb]
  have hp : (Expr.Name x px).pos.line = py.line := hl
  simp [List.all_cons, h1, h2, List.filterMap, kx, ky, hl, hp, e3]
  rintro (h | h)
  · split at h
    · exact absurd (show true = false from ha) Bool.noConfusion
    · cases h
  · split at h
    · exact absurd (show true = false from hb2) Bool.noConfusion
    · cases h
end
section
variable (P : Dc) (Cf : Nat → List Val → Sto → R Val) (Gc : List PyData) (w0 : Ew) (n : Nat)
theorem asg_ok (tg : Tg) (e : Ex) (X : Cx) (k : Kc) (W : WX) (t v : Expr) (pos : Pos) (g : GoodS P Cf Gc w0 n X k W) (h1 : ckG k tg t = true) (h2 : ckE P k e v = true) (h3 : (noTup t || noTup v || foldT v || cellT k t) = true) :
    PS X (.Assign [t] v pos) (tSx X.K w0 W (evS Cf Gc (.asg tg e))) := by
  have hw := sw_st (X := X) (k := k) g.sc h3 (ckG_noList h1)
  have plain : ((∀ a b c d, v ≠ .ListComp a b c d) ∨ (∀ x p, t ≠ .Name x p)) → PS X (.Assign [t] v pos) (tSx X.K w0 W (evS Cf Gc (.asg tg e))) := fun hh =>
    sns_asg (ckE_ok P Cf Gc w0 n e X k W v g.toGood h2).1 (g.tg h1) (sw_sole (ck_noSC h2) hh) hw (by
      cases tg with
      | name i => cases t <;> first | rfl | (exact absurd (show false = true from h1) Bool.noConfusion)
      | names is => cases t <;> first | rfl | (exact absurd (show false = true from h1) Bool.noConfusion))
  cases v with
  | ListComp elt gs sc vp =>
    cases t with
    | Name y py =>
      cases hsw : swB k y py.line vp.line sc with
      | false =>
        refine sns_asg (ckE_ok P Cf Gc w0 n e X k W _ g.toGood h2).1 (g.tg h1) ?_ hw rfl
        show swapsWith (.ListComp elt gs sc vp) (some (.Name y py)) pos.line X.env = pure false
        rw [sw_name g.bk g.sc, hsw]
      | true =>
        cases tg with
        | names is => cases h1
        | name i =>
          simp only [ckG, Bool.and_eq_true, decide_eq_true_iff] at h1
          cases e with
          | cp e tg it ifs own =>
            unfold ckE at h2
            split at h2
            · rename_i elt t iter cs scope vp heq
              cases heq
              simp only [Bool.and_eq_true, List.all_eq_true] at h2
              obtain ⟨⟨⟨⟨⟨⟨⟨q1, q2⟩, q3⟩, q4⟩, q5⟩, q6⟩, q7⟩, qE⟩ := h2
              obtain ⟨b1, b2⟩ := g.blkOk q6
              have hown : ∀ i ∈ tgSlots tg, i ∈ (mkOwn X.N own).map (·.2) := by
                rw [b2]
                intro i hi
                simpa using q7 i hi
              have hyl : X.env.scope.names.lookup y = some .local := by
                rw [g.sc]
                unfold swB at hsw
                simp only [Bool.and_eq_true, decide_eq_true_iff] at hsw
                exact hsw.1.1
              have main := sns_setLc (pos := pos) (W := W) (w0 := w0) g.calm g.nd (g.N ▸ h1.1) hyl (by rw [sw_name g.bk g.sc, hsw]) (ckI_ok P Cf Gc w0 n it X k W _ _ g.toGood qE q3) b1 hown (fun s H C cl fp => (g.toGood.blk s H _ C cl fp).tg q2) (fun s H C cl fp => ckC_ok P Cf Gc w0 n ifs _ _ _ _ (g.toGood.blk s H _ C cl fp) q4) (fun s H C cl fp => (ckE_ok P Cf Gc w0 n e _ _ _ _ (g.toGood.blk s H _ C cl fp) q5).1) (okIter_ok q1 _)
              rw [b2] at main
              exact main
            · cases h2
          | mth m _ _ => cases m; simp [ckE] at h2
          | cp2 e tg it tg1 it1 ifs own own1 =>
            unfold ckE at h2
            split at h2
            · rename_i elt t iter t1 iter1 cs scope vp heq
              cases heq
              simp only [Bool.and_eq_true, List.all_eq_true] at h2
              obtain ⟨⟨⟨⟨⟨⟨⟨⟨⟨⟨⟨⟨⟨q1, q2⟩, q3⟩, q4⟩, q5⟩, q6⟩, q7⟩, qE⟩, j1⟩, j2⟩, j3⟩, j4⟩, j5⟩, jE⟩ := h2
              obtain ⟨b1, b2⟩ := g.blkOk q6
              have hown : ∀ i ∈ tgSlots tg, i ∈ (mkOwn X.N own).map (·.2) := by
                rw [b2]
                intro i hi
                simpa using q7 i hi
              have hv : ∀ i ∈ own1, i ∈ (mkOwn X.N own).map (·.2) := by
                rw [b2]
                intro i hi
                simpa using j4 i hi
              have hyl : X.env.scope.names.lookup y = some .local := by
                rw [g.sc]
                unfold swB at hsw
                simp only [Bool.and_eq_true, decide_eq_true_iff] at hsw
                exact hsw.1.1
              have main := sns_setLc2 (pos := pos) (W := W) (w0 := w0) g.calm g.nd (g.N ▸ h1.1) hyl (by rw [sw_name g.bk g.sc, hsw]) (ckI_ok P Cf Gc w0 n it X k W _ _ g.toGood qE q3) b1 hv hown (fun i hi => by simpa using j5 i hi) (fun s H C cl fp => (g.toGood.blk s H _ C cl fp).tg q2) (fun s H C cl fp => ckI_ok P Cf Gc w0 n it1 _ _ _ _ _ (g.toGood.blk s H _ C cl fp) jE j3) (fun s H C cl fp => (g.toGood.blk s H _ C cl fp).tg j2)
                (fun s H C cl fp => ckC_ok P Cf Gc w0 n ifs _ _ _ _ (g.toGood.blk s H _ C cl fp) q4) (fun s H C cl fp => (ckE_ok P Cf Gc w0 n e _ _ _ _ (g.toGood.blk s H _ C cl fp) q5).1) (okIter_ok q1 _) (fun env => okIter_ok j1 env)
              rw [b2] at main
              exact main
            · cases h2
          | _ => simp [ckE] at h2
    | _ => exact plain (.inr fun _ _ => by rintro ⟨⟩)
  | _ => exact plain (.inl fun _ _ _ _ => by rintro ⟨⟩)
mutual
theorem ckS_ok : ∀ (x : Sx) (X : Cx) (k : Kc) (W : WX) (s : Stmt), GoodS P Cf Gc w0 n X k W → ckS P k x s = true → PS X s (tSx X.K w0 W (evS Cf Gc x))
  | .asg tg e, X, k, W, s, g, h => by
    unfold ckS at h
    split at h
    · simp only [Bool.and_eq_true] at h
      exact asg_ok P Cf Gc w0 n tg e X k W _ _ _ g h.1.1 h.1.2 h.2
    · cases h
  | .par i j a b, X, k, W, s, g, h => by
    unfold ckS at h
    split at h
    · simp only [Bool.and_eq_true, decide_eq_true_iff, Bool.not_eq_true'] at h
      obtain ⟨⟨⟨⟨⟨⟨⟨⟨⟨⟨⟨⟨h1, h2⟩, h3⟩, h4⟩, h5⟩, h6⟩, h7⟩, h8⟩, h9⟩, h10⟩, h11⟩, h12⟩, h13⟩ := h
      have l1 := h5
      have l2 := h6
      rw [← g.sc] at l1 l2
      exact sns_par g.calm g.nd (g.N ▸ h1) (g.N ▸ h2) h3 l1 l2 h8 h9 (ckE_ok P Cf Gc w0 n a X k W _ g.toGood h12).1 (ckE_ok P Cf Gc w0 n b X k W _ g.toGood h13).1 (sw_par g.bk l1 l2 h4 h7 h8 h9 h10 h11)
    · cases h
  | .sub o i e, X, k, W, s, g, h => by
    unfold ckS at h
    split at h
    · simp only [Bool.and_eq_true] at h
      obtain ⟨⟨⟨h1, h2⟩, h3⟩, h4⟩ := h
      exact sns_sub h1 (ckE_ok P Cf Gc w0 n e X k W _ g.toGood h4).1 (ckE_ok P Cf Gc w0 n o X k W _ g.toGood h2).1 (ckE_ok P Cf Gc w0 n i X k W _ g.toGood h3).1 (sw_sole (ck_noSC h4) (.inr fun _ _ => by rintro ⟨⟩)) (sw_stores rfl fun _ _ => by rintro ⟨⟩)
    · cases h
  | .subn o i j e, X, k, W, s, g, h => by
    unfold ckS at h
    split at h
    · simp only [Bool.and_eq_true, decide_eq_true_iff] at h
      obtain ⟨⟨⟨⟨⟨⟨h1, h2⟩, h3⟩, h4⟩, h5⟩, h6⟩, h7⟩ := h
      have l1 := h2
      rw [← g.sc] at l1
      exact sns_subn g.calm g.nd (g.N ▸ h1) l1 h3 (ckE_ok P Cf Gc w0 n e X k W _ g.toGood h7).1 (ckE_ok P Cf Gc w0 n o X k W _ g.toGood h5).1 (ckE_ok P Cf Gc w0 n i X k W _ g.toGood h6).1 (sw_sole (ck_noSC h7) (.inr fun _ _ => by rintro ⟨⟩)) (sw_stores (by rw [h4]; simp) fun _ _ => by rintro ⟨⟩)
    · cases h
  | .exp e, X, k, W, s, g, h => by
    unfold ckS at h
    split at h
    · simp only [Bool.and_eq_true] at h
      exact sns_exp (ckE_ok P Cf Gc w0 n e X k W _ g.toGood h.2).1 (sw_none h.1)
    · cases h
  | .ret e, X, k, W, s, g, h => by
    unfold ckS at h
    split at h
    · exact sns_ret (ckE_ok P Cf Gc w0 n e X k W _ g.toGood h).1
    · cases h
  | .ife c a b, X, k, W, s, g, h => by
    unfold ckS at h
    split at h
    · simp only [Bool.and_eq_true] at h
      obtain ⟨⟨⟨h1, h2⟩, h3⟩, h4⟩ := h
      exact sns_if ((ckE_ok P Cf Gc w0 n c X k W _ g.toGood h2).2 h1) (ckSs_ok a X k W _ g h3) (ckSs_ok b X k W _ g h4)
    · cases h
  | .whl m c b, X, k, W, s, g, h => by
    unfold ckS at h
    split at h
    · simp only [Bool.and_eq_true] at h
      obtain ⟨⟨h1, h2⟩, h3⟩ := h
      exact sns_while g.own ((ckE_ok P Cf Gc w0 n c X k W _ g.toGood h2).2 h1) (ckSs_ok b X k W _ g h3)
    · cases h
  | .fr tg it b, X, k, W, s, g, h => by
    unfold ckS at h
    split at h
    · simp only [Bool.and_eq_true] at h
      obtain ⟨⟨⟨⟨h1, h2⟩, h3⟩, h4⟩, hE⟩ := h
      exact sns_for g.own g.calm (ckI_ok P Cf Gc w0 n it X k W _ _ g.toGood hE h3) (g.tg h2) (ckSs_ok b X k W _ g h4) (okIter_ok h1 _)
    · cases h
  | .rai c e, X, k, W, s, g, h => by
    unfold ckS at h
    split at h
    · simp only [Bool.and_eq_true, decide_eq_true_iff, Bool.not_eq_true'] at h
      obtain ⟨⟨⟨⟨h1, h2⟩, h3⟩, h4⟩, h5⟩ := h
      obtain ⟨Fl, fI, _, T, e1, e2⟩ := g.errs _ _ h1
      exact sns_rai g.calm g.tk T e1 e2 g.room (g.gl h2) h3 h4 (ckE_ok P Cf Gc w0 n e X k W _ g.toGood h5).1
    · cases h
  | .tryl b c i ne tp l, X, k, W, s, g, h => by
    unfold ckS at h
    rw [Bool.and_eq_true, Bool.not_eq_true'] at h
    obtain ⟨rfl, h⟩ := h
    split at h
    · simp only [Bool.and_eq_true, decide_eq_true_iff, Bool.not_eq_true', List.all_eq_true] at h
      obtain ⟨⟨⟨⟨⟨⟨⟨⟨⟨⟨⟨h1, h2⟩, h3⟩, h4⟩, h5⟩, h6⟩, h7⟩, h8⟩, h9⟩, h10⟩, h11⟩, h12⟩ := h
      rename_i body x np n es lp rp pos' pos
      obtain ⟨Fl, fI, ef, T, e1, e2⟩ := g.errs _ _ h6
      rw [ef] at h1
      have hc : c < P.errs.length := (List.getElem?_eq_some_iff.mp h6).1
      exact sns_try (c := c) (i := i) (ne := ne) g.stk g.frm g.nd (g.N ▸ h2) (by rw [g.sc]; exact h3) h4 h5 ⟨g.gl h7, h8, .inl e2⟩ g.tk T (fun c' hc' => g.exm c c' hc (h9 ▸ hc')) e1 h1 (fun o ho k hk => by
        have := h10 o ho
        subst hk
        exact this) h11 fun W' pn xe tk ow => ckSs_ok b (X.tr pn xe) { k with lm := false } W' body
          { calm := g.calm, nd := g.nd, N := g.N, sc := g.sc, fn := g.fn, gd := g.gd, room := g.room, tk := tk, defs := g.defs, blts := g.blts, tys := g.tys, isin := g.isin, rng := g.rng, more := g.more, errs := g.errs, exm := g.exm, gls := g.gls, lam := fun h => Bool.noConfusion h, own := ow, bk := g.bk, stk := g.stk, frm := g.frm } h12
    · cases h
  | .pass, X, k, W, s, g, h => by
    unfold ckS at h
    split at h
    · exact sns_pass
    · cases h
theorem ckSs_ok : ∀ (xs : List Sx) (X : Cx) (k : Kc) (W : WX) (ss : List Stmt), GoodS P Cf Gc w0 n X k W → ckSs P k xs ss = true → PSs X ss (tSx X.K w0 W (evSs Cf Gc xs))
  | [], X, k, W, ss, g, h => by
    unfold ckSs at h
    cases ss with
    | nil => exact snss_nil
    | cons _ _ => cases h
  | x :: xs, X, k, W, ss, g, h => by
    unfold ckSs at h
    split at h
    · simp only [Bool.and_eq_true] at h
      exact snss_cons (ckS_ok x X k W _ g h.1) (ckSs_ok xs X k W _ g h.2)
    · cases h
end
end
end Dw

set_option Elab.async false
set_option linter.all false
set_option maxRecDepth 100000
set_option maxHeartbeats 4000000
/-! A lambda without parameters handed to a def: its call there. -/
namespace Dw
open PySem PySem.Spec PyProof.Rows L2 LamX

section
variable {K : PySem.W.Frag} {w0 : Ew} {G H H1 : Hp} {as : List Addr} {S : Sto}
/-- the making of a lambda changes nothing but tables -/
theorem rst_lam (r : Rst K w0 G as S H) (eN : ExtN H H1) (T1 : Tabs w0.T H1) : Rst K w0 G as S H1 ∧ Ext G as H G as H1 := by
  refine ⟨⟨fun b o e => eN b o (r.same b o e) fun ps z => r.nt b ps (by rw [e, z]), r.len, fun k a e => ?_, r.nd, T1, r.nt⟩, ⟨Same.refl _, List.prefix_refl _, fun b o e nt _ => eN b o e nt, fun b n o e => ?_, fun _ h => .inl h, fun _ _ e => .inl e⟩⟩
  · obtain ⟨l, xs, h1, h2, h3, h4⟩ := r.cl k a e
    exact ⟨l, xs, h1, eN a _ h2 (fun ps z => by cases z), h3, h4⟩
  · by_cases ht : ∃ ps, o = .tbl ps
    · exact ht
    · exact n o (eN b o e fun ps z => ht ⟨ps, z⟩)
end

/-- the same place, other names looked at -/
def pickN (N : List Str) (is : List Nat) : List Str := is.map fun i => (N[i]?).getD ""
def pickS (σ : L2.St) (is : List Nat) : L2.St := is.map fun i => (σ[i]?).getD none
def Cx.pick (X : Cx) (is : List Nat) : Cx := { X with N := pickN X.N is }
theorem inv_pick {X : Cx} {pins : List (Addr × Obj)} {σ : L2.St} {H : Hp} {s : Shared} (I : Inv X pins σ H s) (is : List Nat) (hi : ∀ i ∈ is, (X.N[i]?).isSome = true) : Inv (Cx.pick X is) pins (pickS σ is) H s := by
  obtain ⟨m, hn, hl⟩ := I.loc
  refine ⟨⟨I.ok.mod, I.ok.kind, I.ok.glob, I.ok.blt, I.ok.above, I.ok.inj, I.ok.has, I.ok.cab, I.ok.hd, I.ok.frames, I.ok.stk, I.ok.exf, I.ok.bs, I.ok.bsz, I.ok.noex, I.ok.exfs, I.ok.funs, I.ok.frf⟩, I.os, I.bare, I.base, ⟨m, hn, fun j y v e1 e2 e3 => ?_⟩, I.cell, I.free, I.freeC, I.pin, I.hok, ?_⟩
  · have e1 : (pickN X.N is)[j]? = some y := e1
    unfold pickN at e1
    unfold pickS at e2
    rw [List.getElem?_map] at e1 e2
    cases hj : is[j]? with
    | none => rw [hj] at e1; cases e1
    | some i =>
      rw [hj] at e1 e2
      obtain ⟨x, hx⟩ := Option.isSome_iff_exists.mp (hi i (List.mem_of_getElem? hj))
      have e1 : some ((X.N[i]?).getD "") = some y := e1
      rw [hx] at e1
      cases e1
      have e2 : some ((σ[i]?).getD none) = some (some v) := e2
      cases hs : σ[i]? with
      | none => rw [hs] at e2; cases e2
      | some o =>
        rw [hs] at e2
        have e2 : some o = some (some v) := e2
        cases e2
        exact hl i x v hx hs e3
  · show (pickS σ is).length = (pickN X.N is).length
    unfold pickS pickN
    rw [List.length_map, List.length_map]
theorem env_pick {K : PySem.W.Frag} {G : Hp} {as : List Addr} {σ : L2.St} {ρ : Rho} (e : EnvR K G as σ ρ) (is : List Nat) : EnvR K G as (pickS σ is) (is.map fun i => (ρ[i]?).getD none) := by
  refine ⟨by unfold pickS; rw [List.length_map, List.length_map], fun j x h => ?_⟩
  unfold pickS
  rw [List.getElem?_map] at h ⊢
  cases hj : is[j]? with
  | none => rw [hj] at h; cases h
  | some i =>
    rw [hj] at h
    have h : some ((ρ[i]?).getD none) = some (some x) := h
    cases hr : ρ[i]? with
    | none => rw [hr] at h; cases h
    | some o =>
      rw [hr] at h
      have h : some o = some (some x) := h
      cases h
      obtain ⟨v, h1, h2⟩ := e.2 i x hr
      refine ⟨v, ?_, h2⟩
      show some ((σ[i]?).getD none) = some (some v)
      rw [h1]
      rfl

section
variable {P : Program} {w : World} {K : PySem.W.Frag} {mg : Str → Option Value} {base : Heap}
/-- a def run once, from this very place -/
theorem run_once {k : Nat} {f : Addr} {name qual : Str} {params : Arguments} {body : List Stmt} {scope : Scope} {dV kV doc pm cdv ct oc : Value} {an od : Option Addr} {osl : Array (Option Value)} {N ps : List Str}
    {A : Around} {outer : List PySem.Env} {s : Shared} {H : Hp} {args : Args} {us : List Value} {vs : List V} {Q : VK} {E : XK}
    (lk : K.lookup f = some ⟨oc, od, .func (PySem.W.fnOf name qual params body scope dV kV doc pm an cdv ct), osl⟩) (hcd : PySem.W.codeIn K cdv qual = true) (Sc : FnScope N ps scope) (har : vs.length = ps.length)
    (hr : Room (k + 1) A) (e0 : Env0 P w K mg base A outer s H) (hb : BindsTo s (PySem.W.fnOf name qual params body scope dV kV doc pm an cdv ct) args (ps.zip us)) (r : Vals vs us)
    (hbody : Room k (A.deeper (envOfC qual scope s.heap.objs.size f cdv)) → ∃ t, PSs (cxOf (L2.CX P w) P w K mg base N qual scope f cdv A outer s H E) body t ∧ t { nx := fun _ H' => Q .non H', rt := Q } (start N vs) H) :
    codeAny (model P w) A (.call (.ref f) args) (CR (L2.CX P w) outer P w H s Q E) s := by
  have stays : ∀ b o, base.get? b = some o → s.heap.get? b = some o := fun b o e => (e0.bs b o e).1
  have ksh : K.In s.heap := e0.mod.kin.keeps stays
  have nol : s.heap.NoLimit := e0.mod.nolimit.keeps stays
  have kd : ∀ y ∈ ps.zip us, scope.names.lookup y.1 = some .local ∨ (scope.names.lookup y.1 = some .cell ∧ ((cellsFrom (s.heap.objs.size + 1) scope.names []).lookup y.1).isSome = true) := fun ⟨n, v⟩ hy => by
    rcases Sc.par n (List.of_mem_zip hy).1 with q | q
    · exact Or.inl q
    · exact Or.inr ⟨q, PySem.W.cellsFrom_some _ _ _ (Or.inl q)⟩
  apply codeAny_call_function hr.depth (ksh _ _ lk) rfl Sc.co Sc.gen rfl (PySem.W.codeRec_of ksh hcd) (hb _ _ _ _ ?_)
  apply wpAny_newFunctionEnv_cells Sc.kind kd
  intro env he s1 x
  subst he
  refine ⟨nol.keeps x.toInCall.keep, codeAny_func ?_⟩
  obtain ⟨t, ht, hq⟩ := hbody (hr.deeper _)
  have I0 := inv_start (CX := L2.CX P w) (E := E) Sc hr.hd e0 har r x
  refine wpAny_mono (ht.run [] s1 (start N vs) H _ I0 hq) (fun fl s' hs => ?_) fun e s' hs => hs
  match fl, hs with
  | .ret u, ⟨v, σ', H', J, rv, q⟩ => exact ⟨v, H', J.os, J.bare, J.base, J.hok, rv, q⟩
  | .next, ⟨σ', H', J, q⟩ => exact ⟨V.non, H', J.os, J.bare, J.base, J.hok, rfl, q⟩
  | .brk, ⟨_, _, _, q⟩ => exact q.elim
  | .cont, ⟨_, _, _, q⟩ => exact q.elim
end

section
variable {X : Cx} {pins : List (Addr × Obj)} {σ : L2.St} {H : Hp} {s : Shared}
/-- the callee's place -/
abbrev Zx (X : Cx) (Ng : List Str) (qg : Str) (sg : Scope) (g : Addr) (cdg : Value) (s : Shared) (H : Hp) (E : XK) : Cx := cxOf (L2.CX X.prog X.w) X.prog X.w X.K X.mg X.base Ng qg sg g cdg X.A X.stack s H E
/-- x(), x the def's own name for the lambda -/
theorem act_pe {Eg : XK} {Ng : List Str} {qg : Str} {sg : Scope} {g f c' : Addr} {cdg pm ctv : Value} {params : Arguments} {body : Expr} {scope : Scope} {k i : Nat} {a : Str} {pn : List (Addr × Obj)} {xe : Value → Shared → Prop} {W : WX} {tb : XK → TE} {p1 p2 : Pos}
    (I : Inv X pins σ H s) (L : LamS X.env.scope scope) (hf : s.heap.get? f = some (PySem.W.kla_obj "<lambda>" (X.env.qual ++ "<lambda>") params body scope (cloFrom X.env.cells scope.names []) pm c' ctv)) (hfn : H f = none) (hfr : f ∉ frs X.stack)
    (hbind : bindArgs (PySem.W.kla_fn "<lambda>" (X.env.qual ++ "<lambda>") params body scope (cloFrom X.env.cells scope.names []) pm (.ref c') ctv) ⟨[], []⟩ = pure [])
    (tk : Takes ((Zx X Ng qg sg g cdg s H Eg).tr pn xe) W) (hr : Room (k + 1) (X.A.deeper (envOfC qg sg s.heap.objs.size g cdg)))
    (hbody : ∀ (E : XK) (outer : List PySem.Env) (s1 : Shared) (H : Hp), Room k ((X.A.deeper (envOfC qg sg s.heap.objs.size g cdg)).deeper (lamEnv X scope s1.heap.objs.size f c')) → PE (lamCx X (X.A.deeper (envOfC qg sg s.heap.objs.size g cdg)) outer s1 H E scope f c') body (tb E))
    (hN : Ng[i]? = some a) (hv : Vis sg a) (hd : (a == ("__debug__" : Str)) = false) (hcd : (a == ("__classdict__" : Str)) = false) :
    PE ((Zx X Ng qg sg g cdg s H Eg).tr pn xe) (.Call (.Name a p1) [] [] p2) (fun σZ HZ Q => σZ[i]? = some (some (.ref f)) ∧ HZ c' = some (CodeO c' (X.env.qual ++ "<lambda>")) ∧ tb (fun c d H => W c d σZ H) σ HZ Q) := by
  constructor
  intro pinsZ sZ σZ HZ Q IZ ⟨hs, hc, ht⟩
  apply wpAny_Call_Name_kw
  refine thn ((pe_var (pos := p1) (i := i) hN hv hd hcd).run pinsZ sZ σZ HZ (fun v H1 => v = .ref f ∧ H1 = HZ) IZ ⟨.ref f, hs, rfl, rfl⟩) ?_
  rintro u s1 ⟨v, H1, I1, r1, rfl, rfl⟩
  obtain rfl : u = Value.ref f := r1
  have atf := I1.base.keep f _ hf hfn hfr (fun z => nomatch (show f ∈ ([] : List Addr) from z))
  apply PySem.W.callWith_F0 ⟨_, _, _, _, atf⟩
  have un : Un (frs X.stack) [] H H1 s.heap s1.heap := I1.base
  obtain ⟨⟨oc, vs, t, hoc, hdc, hvc⟩, _, _⟩ := I1.hok c' _ hc
  have rc : codeAny (model X.prog X.w) (X.A.deeper (envOfC qg sg s.heap.objs.size g cdg)) (.call (.ref f) ⟨[], []⟩) (CR (L2.CX X.prog X.w) (envOfC qg sg s.heap.objs.size g cdg :: X.stack) X.prog X.w H1 s1 Q fun c d H => W c d σZ H) s1 := by
    apply PySem.W.kla_callFunE hr.depth atf rfl L.co L.gen rfl ⟨c', oc, vs, t, rfl, hoc, hdc, hvc⟩
    rw [hbind]
    apply wpAny_pure
    apply wpAny_newFunctionEnv (fun y hy => (L.own y hy).2) (fun y hy => absurd hy (by simp)) _ L.kind
    intro h₁ hns hsb
    refine ⟨I1.nolimit.fresh _ hsb, ?_⟩
    have kp : ∀ b o, s1.heap.get? b = some o → h₁.get? b = some o := fun b o e => hsb.extBut b o (Nat.ne_of_lt (Heap.lt_size e)) (Heap.get?_push_of_some _ e)
    have J := lam_start2 (E := fun c d H => W c d σZ H) (f := f) (c' := c') (tk := s1.toks + ([] : List (Str × Value)).length) I L I1.env0 hr.hd un hns kp
    apply PySem.W.kla_codeExpr
    refine wpAny_mono ((hbody _ _ s1 H1 (hr.deeper _)).run [] _ _ H1 Q J ht) (fun v s' hq => ?_) fun e s' hq => hq
    obtain ⟨w', H', J', rv, q⟩ := hq
    exact ⟨w', H', J'.os, J'.bare, J'.base, J'.hok, rv, q⟩
  have hx := passAt' tk σZ
  apply wpAny_call
  refine codeAny_mono rc fun r s' hq => ?_
  match r, hq with
  | .error e, hq => exact hx pinsZ H1 s1 e s' I1 hq
  | .ok (.ret u), hq => exact I1.after hq
  | .ok .next, hq => exact hq.elim
  | .ok .brk, hq => exact hq.elim
  | .ok .cont, hq => exact hq.elim
end
end Dw

set_option Elab.async false
set_option linter.all false
set_option maxRecDepth 100000
set_option maxHeartbeats 4000000
/-! Defs: what is checked of a table of defs is a promise of each. -/
namespace Dw
open PySem PySem.Spec PyProof.Rows L2

section
variable {K : PySem.W.Frag} {w0 : Ew} {G H G1 H1 : Hp} {as as1 : List Addr} {S S1 : Sto}
theorem pre_take (h : as <+: as1) : as1.take as.length = as := by
  obtain ⟨t, rfl⟩ := h
  simp
theorem Ext.cut (x : Ext G as H G1 as1 H1) : Ext G as H G1 as H1 := ⟨x.g, List.prefix_refl _, x.kp, x.th, fun _ h => .inl h, x.gf⟩
theorem Rst.cut (r : Rst K w0 G1 as1 S1 H1) (h : as <+: as1) : Rst K w0 G1 as (S1.take as.length) H1 where
  same := r.same
  len := by
    rw [List.length_take, ← r.len]
    have := h.length_le
    omega
  cl := fun k a e => by
    obtain ⟨l, xs, h1, h2, h3, h4⟩ := r.cl k a (pre_get h e)
    have hk := (List.getElem?_eq_some_iff.mp e).1
    exact ⟨l, xs, by rw [List.getElem?_take_of_lt hk]; exact h1, h2, h3, h4⟩
  nd := by
    obtain ⟨t, rfl⟩ := h
    exact (List.nodup_append.mp r.nd).1
  tab := r.tab
  nt := r.nt
/-- a list made within, handed back, changes no more -/
theorem freeze {k : Nat} {a : Addr} {l : List PyData} (x : Ext G as H G1 as1 H1) (r : Rst K w0 G1 as1 S1 H1) (hk : as.length ≤ k) (ha : as1[k]? = some a) (hl : S1[k]? = some l) :
    ∃ G2, Ext G as H G2 as H1 ∧ Rst K w0 G2 as (S1.take as.length) H1 ∧ Da K G2 (.ref a) (.list l) := by
  obtain ⟨l', xs, h1, h2, h3, h4⟩ := r.cl k a ha
  rw [hl] at h1
  cases h1
  have sg : Same G1 (upd G1 a (.lst xs)) := fun b u e => by rw [upd_ne (ne_of_none e h4)]; exact e
  have rc := r.cut x.pre
  have na : a ∉ as := fun h => by
    obtain ⟨j, hj, e⟩ := List.getElem_of_mem h
    have e2 : as1[j]? = some a := pre_get x.pre (by rw [List.getElem?_eq_getElem hj, e])
    have := nd_ix r.nd ha e2
    omega
  refine ⟨upd G1 a (.lst xs), ⟨x.g.trans sg, List.prefix_refl _, x.kp, x.th, fun _ h => .inl h, fun b o e => ?_⟩, ⟨fun b u e => ?_, rc.len, fun j b e => ?_, rc.nd, rc.tab, fun b ps e => by
    by_cases hb : b = a
    · subst hb; rw [upd_same] at e; cases e
    · rw [upd_ne hb] at e; exact rc.nt b ps e⟩, .lst upd_same (DaAll.mono sg _ _ h3)⟩
  · by_cases hb : b = a
    · subst hb
      rcases x.fr b (List.mem_of_getElem? ha) with q | q
      · exact absurd q na
      · exact .inr q
    · rw [upd_ne hb] at e; exact x.gf b o e
  · by_cases hb : b = a
    · subst hb; rw [upd_same] at e; cases e; exact h2
    · rw [upd_ne hb] at e; exact r.same b u e
  · obtain ⟨l2, ys, g1, g2, g3, g4⟩ := rc.cl j b e
    have hb : b ≠ a := fun z => na (z ▸ List.mem_of_getElem? e)
    exact ⟨l2, ys, g1, g2, DaAll.mono sg _ _ g3, by rw [upd_ne hb]; exact g4⟩
theorem env_start {vs : List V} {xs : List Val} {N : List Str} (a : Ats K G as vs xs) : EnvR K G as (L2.start N vs) (xs.map some ++ List.replicate (N.length - xs.length) none) := by
  have hl := ats_len a
  refine ⟨by unfold L2.start; simp [hl], fun i x h => ?_⟩
  unfold L2.start
  by_cases hi : i < xs.length
  · rw [List.getElem?_append_left (by rw [List.length_map]; exact hi), List.getElem?_map] at h
    rw [List.getElem?_append_left (by rw [List.length_map, hl]; exact hi), List.getElem?_map]
    have : ∀ {vs : List V} {xs : List Val} {i : Nat} {x : Val}, Ats K G as vs xs → xs[i]? = some x → ∃ v, vs[i]? = some v ∧ At K G as v x := by
      intro vs xs i x a
      induction a generalizing i with
      | nil => intro h; simp at h
      | cons p q ih =>
        intro h
        cases i with
        | zero => simp at h; subst h; exact ⟨_, rfl, p⟩
        | succ i =>
          obtain ⟨v, h1, h2⟩ := ih (i := i) (by simpa using h)
          exact ⟨v, by simpa using h1, h2⟩
    cases hx : xs[i]? with
    | none => rw [hx] at h; cases h
    | some y =>
      rw [hx] at h
      cases h
      obtain ⟨v, h1, h2⟩ := this a hx
      exact ⟨v, by rw [h1]; rfl, h2⟩
  · rw [List.getElem?_append_right (by rw [List.length_map]; omega)] at h
    have := List.mem_of_getElem? h
    rw [List.mem_replicate] at this
    cases this.2
/-- what comes of a body, from what a def hands back -/
theorem fin_back {keep : Bool} {W : WX} {Q : VK} {r : SR} (r0 : Rst K w0 G as S H) (h : FinG K w0 (At K) W [] Q G as H (handBack keep S.length r)) (hW : ∀ c d σ H, W c d [] H → W c d σ H) :
    FinS K w0 W { nx := fun _ H' => Q .non H', rt := Q } G as H r := by
  rw [← r0.len] at h
  cases r with
  | nx ρ S1 =>
    intro G1 as1 H1 σ1 x r1 e1
    cases keep with
    | true => exact h G1 as1 H1 .non x r1 .non
    | false => exact h G1 as H1 .non x.cut (r1.cut x.pre) .non
  | bk _ _ => exact h.elim
  | ct _ _ => exact h.elim
  | bad => exact h.elim
  | exc c d ρ S1 =>
    intro G1 as1 H1 σ1 dx v x r1 e1 h1 h2
    cases keep with
    | true => exact hW _ _ _ _ (h G1 as1 H1 dx v x r1 h1 h2)
    | false => exact hW _ _ _ _ (h G1 as H1 dx v x.cut (r1.cut x.pre) h1 h2)
  | rt v S1 =>
    intro G1 as1 H1 u x r1 a1
    cases v with
    | dat d =>
      cases keep with
      | true => exact h G1 as1 H1 u x r1 a1
      | false => exact h G1 as H1 u x.cut (r1.cut x.pre) a1
    | cell k =>
      cases keep with
      | true => exact h G1 as1 H1 u x r1 a1
      | false =>
        have h : FinG K w0 (At K) W [] Q G as H (if as.length ≤ k then match S1[k]? with
          | some l => .ok (.dat (.list l)) (S1.take as.length)
          | none => .bad else .bad) := h
        by_cases hk : as.length ≤ k
        · rw [if_pos hk] at h
          cases hl : S1[k]? with
          | none => rw [hl] at h; exact h.elim
          | some l =>
            rw [hl] at h
            obtain ⟨a, rfl, ea⟩ := a1
            obtain ⟨G2, x2, r2, d2⟩ := freeze x r1 hk ea hl
            exact h G2 as H1 _ x2 r2 d2
        · rw [if_neg hk] at h; exact h.elim
    | cells ks => cases keep with
      | true => exact h G1 as1 H1 u x r1 a1
      | false => exact h.elim
    | scr l => cases keep with
      | true => exact h G1 as1 H1 u x r1 a1
      | false => exact h.elim
    | fn f => cases keep with
      | true => exact h G1 as1 H1 u x r1 a1
      | false => exact h.elim
    | dct f => cases keep with
      | true => exact h G1 as1 H1 u x r1 a1
      | false => exact h.elim
end

/-- a def of the text, and what it is in the small language -/
structure Dt where
  gname : Str
  name : Str
  st : Stmt
  N : List Str
  ps : List Str
  F : Fd
  lm : Bool
def scB (N ps : List Str) (sc : Scope) : Bool :=
  decide (sc.kind = .function) && decide (sc.isCoroutine = false) && decide (sc.isGenerator = false) && decide N.Nodup && decide (N.take ps.length = ps) && ps.all (fun x => decide (sc.names.lookup x = some .local) || decide (sc.names.lookup x = some .cell)) && sc.names.all (fun y => !decide (y.2 = .free))
theorem scB_ok {N ps : List Str} {sc : Scope} (h : scB N ps sc = true) : FnScope N ps sc := by
  unfold scB at h
  simp only [Bool.and_eq_true, decide_eq_true_iff, List.all_eq_true, Bool.or_eq_true, Bool.not_eq_true', decide_eq_false_iff_not] at h
  obtain ⟨⟨⟨⟨⟨⟨h1, h2⟩, h3⟩, h4⟩, h5⟩, h6⟩, h7⟩ := h
  exact ⟨h1, h2, h3, h4, h5, h6, h7⟩
/-- a def that is never run, or one that stands as its text -/
def Dt.ok (P : Dc) (d : Dt) : Bool := decide (d.F.nn < d.F.np) || (scB d.N d.ps (defScope d.st) && decide (d.F.np = d.ps.length) && decide (d.F.nn = d.N.length) && ckSs P ⟨d.N, defScope d.st, fun _ => true, d.lm⟩ d.F.body (defBody d.st))
/-- what stands behind the top -/
structure Behind (Pr : Program) (w0 : Ew) (D : List Dt) (P : Dc) (Gc : List PyData) (K : PySem.W.Frag) (mg : Str → Option Value) (cs : List (Addr × Addr)) : Prop where
  defs : ∀ (f : Nat) (d : Dt), D[f]? = some d → ∃ fad fd dvs kws, FunD K d.name d.name (defArgs d.st) (defBody d.st) (defScope d.st) dvs kws fad fd ∧ mg d.gname = some (.ref fad) ∧ ∀ nu ks perm dfl, (f, nu, ks, perm, dfl) ∈ P.shs → ShapeOk K fd d.ps nu ks perm dfl
  blts : ∀ b : Blt, mg (Str.ofString (bltName b)) = none
  tys : ∀ t : Ty, mg (Str.ofString (tyName t)) = none
  isin : mg ("isinstance" : Str) = none
  rng : mg ("range" : Str) = none
  more : mg ("dict" : Str) = none ∧ mg ("sorted" : Str) = none ∧ mg ("enumerate" : Str) = none
  errs : ∀ (c : Nat) (x : Str), P.errs[c]? = some x → ∃ Fl fI, P.flds[c]? = some Fl ∧ ErrTxt K Pr (Fld.s Fl) (w0.cA c) fI ∧ w0.cF c = Fl.s ∧ mg x = some (.ref (w0.cA c))
  exm : ∀ c c', c < P.errs.length → c' < P.errs.length → PySem.W.exmOne K (.ref (w0.cA c')) (.ref (w0.cA c)) = some (decide (c' = c))
  gls : ∀ (g : Nat) (x : Str), P.gls[g]? = some x → ∃ d v u, Gc[g]? = some d ∧ mg x = some u ∧ RelV v u ∧ ∀ G, Da K G v d
  cods : ∀ (f : Nat) (d : Dt) (fad : Addr) (fd : FuncData), D[f]? = some d → d.lm = true → mg d.gname = some (.ref fad) → (∃ oc od osl, K.lookup fad = some ⟨oc, od, .func fd, osl⟩) → ∃ c Pt, fd.code = .ref c ∧ (c, Pt) ∈ cs ∧ (Pt, d.name ++ ".<locals>." ++ "<lambda>") ∈ w0.T
  uniq : ∀ p ∈ w0.T, ∀ q ∈ w0.T, p.1 = q.1 → p = q

end Dw

set_option Elab.async false
set_option linter.all false
set_option maxRecDepth 100000
set_option maxHeartbeats 4000000
/-! f(lambda: ..), f a def that tries what it got. -/
namespace Dw
open PySem PySem.Spec PyProof.Rows L2 LamX

/-- a lambda without parameters: what it captures, its body, the def that it is handed to, and what that def hands back of an error -/
structure Lm where
  g : Nat
  idxs : List Nat
  e : Ex
  c : Nat
  tp : Bool
  l : List (Option PyData)
def vars (n : Nat) : List Ex := (List.range n).map .var
def Lm.r (ne f : Nat) (m : Lm) : Fd := ⟨m.idxs.length, m.idxs.length + 1, false, [.tryl [.exp (.call f (vars m.idxs.length))] m.c m.idxs.length ne m.tp m.l, .ret (.con .none)]⟩
def Lm.f (m : Lm) : Fd := ⟨m.idxs.length, m.idxs.length, false, [.ret m.e]⟩
def lamT (ne : Nat) : Nat → List Lm → List Fd
  | _, [] => []
  | k, m :: r => m.r ne (k + 1) :: m.f :: lamT ne (k + 2) r
def tabT (D : List Dt) (ne : Nat) (L : List Lm) : List Fd := D.map (·.F) ++ lamT ne D.length L
theorem lamT_at (ne : Nat) : ∀ (L : List Lm) (k j : Nat) (m : Lm), L[j]? = some m → (lamT ne k L)[2 * j]? = some (m.r ne (k + 2 * j + 1)) ∧ (lamT ne k L)[2 * j + 1]? = some m.f
  | [], _, _, _, h => by simp at h
  | m :: L, k, 0, m', h => by
    simp only [List.getElem?_cons_zero, Option.some.injEq] at h
    subst h
    exact ⟨rfl, rfl⟩
  | m :: L, k, j + 1, m', h => by
    have ih := lamT_at ne L (k + 2) j m' (by simpa using h)
    have e1 : 2 * (j + 1) = 2 * j + 1 + 1 := by omega
    have e2 : k + 2 * (j + 1) + 1 = k + 2 + 2 * j + 1 := by omega
    rw [e1]
    unfold lamT
    refine ⟨?_, ?_⟩
    · rw [List.getElem?_cons_succ, List.getElem?_cons_succ, ih.1]
      congr 2
      omega
    · rw [List.getElem?_cons_succ, List.getElem?_cons_succ]
      exact ih.2
theorem tabT_at {D : List Dt} {ne : Nat} {L : List Lm} {j : Nat} {m : Lm} (h : L[j]? = some m) : (tabT D ne L)[D.length + 2 * j]? = some (m.r ne (D.length + 2 * j + 1)) ∧ (tabT D ne L)[D.length + 2 * j + 1]? = some m.f := by
  obtain ⟨a, b⟩ := lamT_at ne L D.length j m h
  unfold tabT
  refine ⟨?_, ?_⟩
  · rw [List.getElem?_append_right (by rw [List.length_map]; omega), List.length_map, Nat.add_sub_cancel_left]
    exact a
  · rw [List.getElem?_append_right (by rw [List.length_map]; omega), List.length_map, show D.length + 2 * j + 1 - D.length = 2 * j + 1 by omega]
    exact b
theorem tabT_def {D : List Dt} {ne : Nat} {L : List Lm} {f : Nat} {d : Dt} (h : D[f]? = some d) : (tabT D ne L)[f]? = some d.F := by
  unfold tabT
  rw [List.getElem?_append_left (by rw [List.length_map]; exact (List.getElem?_eq_some_iff.mp h).1), List.getElem?_map, h]
  rfl

/-! what is read of the captured names -/
def varsOf : List Ex → Option (List Nat)
  | [] => some []
  | .var i :: r => (varsOf r).map (i :: ·)
  | _ => none
theorem varsOf_eq : ∀ {es : List Ex} {is : List Nat}, varsOf es = some is → es = is.map .var
  | [], _, h => by cases h; rfl
  | e :: r, is, h => by
    cases e <;> first | (cases h; done) | skip
    rename_i i
    replace h : (varsOf r).map (i :: ·) = some is := h
    cases hr : varsOf r with
    | none => rw [hr] at h; cases h
    | some js =>
      rw [hr] at h
      cases h
      rw [varsOf_eq hr]
      rfl
theorem evL_vars {C : Nat → List Val → Sto → R Val} {G : List PyData} {ρ : Rho} {S : Sto} : ∀ (is : List Nat), (evL C G (is.map .var) ρ S = .bad) ∨ ∃ vs, evL C G (is.map .var) ρ S = .ok vs S ∧ is.map (fun i => (ρ[i]?).getD none) = vs.map some
  | [] => .inr ⟨[], rfl, rfl⟩
  | i :: is => by
    have ev : evL C G ((i :: is).map .var) ρ S = (evE C G (.var i) ρ S).bind fun v S => (evL C G (is.map .var) ρ S).bind fun vs S => .ok (v :: vs) S := rfl
    rw [ev]
    have e1 : evE C G (.var i) ρ S = (match ρ[i]? with
      | some (some v) => .ok v S
      | _ => .bad) := rfl
    rw [e1]
    cases h : ρ[i]? with
    | none => exact .inl rfl
    | some o =>
      cases o with
      | none => exact .inl rfl
      | some v =>
        rcases evL_vars (C := C) (G := G) (ρ := ρ) (S := S) is with q | ⟨vs, q1, q2⟩
        · refine .inl ?_
          show (evL C G (is.map .var) ρ S).bind _ = _
          rw [q]
          rfl
        · refine .inr ⟨v :: vs, ?_, ?_⟩
          · show (evL C G (is.map .var) ρ S).bind _ = _
            rw [q1]
            rfl
          · rw [List.map_cons, List.map_cons, q2, h]
            rfl
theorem evL_range {C : Nat → List Val → Sto → R Val} {G : List PyData} {S : Sto} (vs : List Val) (x : Rho) : evL C G (vars vs.length) (vs.map some ++ x) S = .ok vs S := by
  have key : ∀ (k : Nat) (ws us : List Val), vs = ws ++ us → k = ws.length → evL C G ((List.range' k us.length).map .var) (vs.map some ++ x) S = .ok us S := by
    intro k ws us
    induction us generalizing k ws with
    | nil => intro _ _; rfl
    | cons u us ih =>
      intro h1 h2
      rw [List.length_cons, List.range'_succ, List.map_cons]
      have g : (vs.map some ++ x)[k]? = some (some u) := by
        rw [h1, h2, List.map_append, List.append_assoc, List.getElem?_append_right (by rw [List.length_map]; exact Nat.le_refl _), List.length_map, Nat.sub_self]
        rfl
      have e1 : evE C G (.var k) (vs.map some ++ x) S = .ok u S := by
        show (match (vs.map some ++ x)[k]? with
          | some (some v) => R.ok v S
          | _ => .bad) = _
        rw [g]
      show (evE C G (.var k) (vs.map some ++ x) S).bind _ = _
      rw [e1]
      show (evL C G ((List.range' (k + 1) us.length).map .var) (vs.map some ++ x) S).bind _ = _
      rw [ih (k + 1) (ws ++ [u]) (by rw [h1, List.append_assoc]; rfl) (by rw [List.length_append, h2]; rfl)]
      rfl
  have := key 0 [] vs rfl rfl
  unfold vars
  rw [List.range_eq_range']
  exact this

/-! what the evaluator makes of it -/
section
variable {T : List Fd} {Gc : List PyData} {m : Lm} {ne r f : Nat} {caps : List Val} {S : Sto}
/-- a def's body seen from its call -/
theorem run_at {n : Nat} {F : Fd} (h : T[f]? = some F) (h1 : caps.length = F.np) (h2 : F.np ≤ F.nn) :
    run T Gc (n + 1) f caps S = handBack F.keep S.length (evSs (run T Gc n) Gc F.body (caps.map some ++ List.replicate (F.nn - F.np) none) S) := by
  unfold run
  rw [h]
  exact if_pos ⟨h1, h2⟩
/-- the lambda's call, read -/
def lamS (ne : Nat) (m : Lm) (caps : List Val) : R Val → SR
  | .ok _ S => .rt (.dat .none) S
  | .exc c d S => if c < ne ∧ m.idxs.length < (caps.map some ++ [none]).length then (if c = m.c then .rt (.dat (mkD m.tp (m.l.map fun (o : Option PyData) => o.getD d))) S else .exc c d (caps.map some ++ [none]) S) else .bad
  | .bad => .bad
theorem run_r {j : Nat} (hr : T[r]? = some (m.r ne f)) (hc : caps.length = m.idxs.length) :
    run T Gc (j + 1) r caps S = handBack false S.length (lamS ne m caps (run T Gc j f caps S)) := by
  rw [run_at hr hc (Nat.le_succ _)]
  have e1 : (m.r ne f).nn - (m.r ne f).np = 1 := by show m.idxs.length + 1 - m.idxs.length = 1; omega
  rw [e1]
  show handBack false S.length (evSs (run T Gc j) Gc [.tryl [.exp (.call f (vars m.idxs.length))] m.c m.idxs.length ne m.tp m.l, .ret (.con .none)] (caps.map some ++ [none]) S) = _
  have e2 : evSs (run T Gc j) Gc [.exp (.call f (vars m.idxs.length))] (caps.map some ++ [none]) S = (run T Gc j f caps S).st (caps.map some ++ [none]) fun _ S => .nx (caps.map some ++ [none]) S := by
    show (match evS (run T Gc j) Gc (.exp (.call f (vars m.idxs.length))) (caps.map some ++ [none]) S with
      | .nx ρ S => SR.nx ρ S
      | x => x) = _
    have e3 : evS (run T Gc j) Gc (.exp (.call f (vars m.idxs.length))) (caps.map some ++ [none]) S = (run T Gc j f caps S).st (caps.map some ++ [none]) fun _ S => .nx (caps.map some ++ [none]) S := by
      show ((evL (run T Gc j) Gc (vars m.idxs.length) (caps.map some ++ [none]) S).bind fun vs S => run T Gc j f vs S).st _ _ = _
      rw [← hc, evL_range]
      rfl
    rw [e3]
    cases run T Gc j f caps S <;> rfl
  congr 1
  show (match (match evSs (run T Gc j) Gc [.exp (.call f (vars m.idxs.length))] (caps.map some ++ [none]) S with
    | .exc c' d ρ' S' => if c' < ne ∧ m.idxs.length < ρ'.length then (if c' = m.c then SR.rt (.dat (mkD m.tp (m.l.map fun (o : Option PyData) => o.getD d))) S' else .exc c' d ρ' S') else .bad
    | r => r) with
    | .nx ρ S => evSs (run T Gc j) Gc [.ret (.con .none)] ρ S
    | x => x) = _
  rw [e2]
  cases run T Gc j f caps S with
  | ok v S' => rfl
  | bad => rfl
  | exc c d S' =>
    show (match (if c < ne ∧ m.idxs.length < (caps.map some ++ [none]).length then (if c = m.c then SR.rt (.dat (mkD m.tp (m.l.map fun (o : Option PyData) => o.getD d))) S' else .exc c d (caps.map some ++ [none]) S') else .bad) with
      | .nx ρ S => evSs (run T Gc j) Gc [.ret (.con .none)] ρ S
      | x => x) = lamS ne m caps (.exc c d S')
    have hs : lamS ne m caps (.exc c d S') = if c < ne ∧ m.idxs.length < (caps.map some ++ [none]).length then (if c = m.c then SR.rt (.dat (mkD m.tp (m.l.map fun (o : Option PyData) => o.getD d))) S' else .exc c d (caps.map some ++ [none]) S') else .bad := rfl
    rw [hs]
    by_cases h1 : c < ne ∧ m.idxs.length < (caps.map some ++ [none]).length
    · rw [if_pos h1]
      by_cases h2 : c = m.c
      · rw [if_pos h2]
      · rw [if_neg h2]
    · rw [if_neg h1]
theorem run_f {j : Nat} (hf : T[f]? = some m.f) (hc : caps.length = m.idxs.length) :
    run T Gc (j + 1) f caps S = handBack false S.length ((evE (run T Gc j) Gc m.e (caps.map some) S).st (caps.map some) fun v S => .rt v S) := by
  rw [run_at hf hc (Nat.le_refl _)]
  have e1 : m.f.nn - m.f.np = 0 := Nat.sub_self _
  rw [e1, List.replicate_zero, List.append_nil]
  congr 1
  show (match evS (run T Gc j) Gc (.ret m.e) (caps.map some) S with
    | .nx ρ S => SR.nx ρ S
    | x => x) = _
  show (match (evE (run T Gc j) Gc m.e (caps.map some) S).st (caps.map some) (fun v S => SR.rt v S) with
    | .nx ρ S => SR.nx ρ S
    | x => x) = _
  cases evE (run T Gc j) Gc m.e (caps.map some) S <;> rfl
end
end Dw

set_option Elab.async false
set_option linter.all false
set_option maxRecDepth 100000
set_option maxHeartbeats 4000000
/-! f(lambda: ..) is sound. -/
namespace Dw
open PySem PySem.Spec PyProof.Rows L2 LamX

def noArgs : Arguments → Bool
  | ⟨[], [], none, [], [], none, []⟩ => true
  | _ => false
/-- the def that tries what it got: its text -/
def refOk (P0 : Dc) (d : Dt) (m : Lm) : Bool := match d.N, d.ps, defBody d.st with
  | [a, n], [a1], [.Try [.Expr (.Call (.Name a2 _) [] [] _) _] [.ExceptHandler (some (.Name cx _)) (some n1) [.Return (some disp) _] _] [] [] _, .Return (some (.Constant .none _ _)) _] =>
    decide (a1 = a) && decide (a2 = a) && decide (n1 = n) && scB d.N d.ps (defScope d.st) && decide ((defScope d.st).names.lookup n = some .local) && !dbg a && !(a == ("__classdict__" : Str)) && !dbg n && !(n == ("__classdict__" : Str)) &&
    decide (P0.errs[m.c]? = some cx) && glB ⟨d.N, defScope d.st, fun _ => true, false⟩ cx && !dbg cx && decide (m.l.length ≤ 1000) && m.l.all (fun o => match o with
      | none => true
      | some d => cOk d) && (match P0.flds[m.c]?, m.tp, disp with
      | some Fl, true, .Tuple es _ _ => ckIt 1 n Fl.s m.l es
      | some Fl, false, .List es _ => ckIt 1 n Fl.s m.l es
      | _, _, _ => false)
  | _, _, _ => false
def ckLam (P0 : Dc) (D : List Dt) (L : List Lm) (r : Nat) (es : List Ex) (k : Kc) (e : Expr) : Bool := match L[(r - D.length) / 2]? with
  | none => false
  | some m => decide (r = D.length + 2 * ((r - D.length) / 2)) && decide (varsOf es = some m.idxs) && m.idxs.all (fun i => (k.N[i]?).isSome) && (match e with
    | .Call (.Name x _) [.Lambda params body scope _] [] _ => decide (P0.fns[m.g]? = some x) && glB k x && !dbg x && noArgs params && lamSB k.sc scope && decide ((m.g, 1, [], [0], []) ∈ P0.shs) && decide ((pickN k.N m.idxs).Nodup) && (match D[m.g]? with
      | some d => refOk P0 d m
      | none => false) && ckE P0 ⟨pickN k.N m.idxs, scope, fun _ => false, false⟩ m.e body
    | _ => false)

section
variable {K : PySem.W.Frag} {w0 : Ew} {G H : Hp} {as : List Addr}
/-- from what is asked of the reading to what is asked of the lambda's own value -/
theorem fin_lam {Wz Wq : WX} {σp : L2.St} {Q Qn : VK} {ne : Nat} {m : Lm} {caps : List Val} {S : Sto} {x : R Val} (r0 : Rst K w0 G as S H) (e : EnvR K G as σp (caps.map some))
    (h : FinG K w0 (At K) Wz [] Q G as H (handBack false S.length (lamS ne m caps (handBack false S.length (x.st (caps.map some) fun v S => .rt v S)))))
    (hn : ∀ v H', Q .non H' → Qn v H')
    (hx : ∀ (c : Nat) (d : PyData) (S2 : Sto) (G1 : Hp) (as1 : List Addr) (H1 : Hp) (dx : Addr) (v : V), FinG K w0 (At K) Wz [] Q G as H (handBack false S.length (lamS ne m caps (.exc c d (S2.take S.length)))) → Ext G as H G1 as1 H1 → Rst K w0 G1 as1 S2 H1 → H1 dx = some (.xd [(w0.cF c, v)]) → Da K G1 v d → Wq (.ref (w0.cA c)) (some dx) σp H1) :
    FinG K w0 (At K) Wq σp Qn G as H x := by
  have stop : ∀ {y : R Val}, y = .bad → FinG K w0 (At K) Wz [] Q G as H (handBack false S.length (lamS ne m caps y)) → False := fun e h => by
    rw [e] at h
    exact h
  cases x with
  | bad => exact (stop rfl h).elim
  | exc c d S2 =>
    intro G1 as1 H1 dx v x1 r1 h1 h2
    exact hx c d S2 G1 as1 H1 dx v h x1 r1 h1 h2
  | ok v S2 =>
    intro G1 as1 H1 u x1 r1 a1
    have done : FinG K w0 (At K) Wz [] Q G as H (handBack false S.length (.rt (.dat .none) (S2.take S.length))) → Qn u H1 := fun h => by
      have h : FinG K w0 (At K) Wz [] Q G as H (.ok (.dat .none) ((S2.take S.length).take S.length)) := h
      rw [List.take_take, Nat.min_self, ← r0.len] at h
      exact hn u H1 (h G1 as H1 .non x1.cut (r1.cut x1.pre) .non)
    cases v with
    | dat d => exact done h
    | cell k =>
      have h : FinG K w0 (At K) Wz [] Q G as H (handBack false S.length (lamS ne m caps (if S.length ≤ k then match S2[k]? with
        | some l => .ok (.dat (.list l)) (S2.take S.length)
        | none => .bad else .bad))) := h
      by_cases hk : S.length ≤ k
      · rw [if_pos hk] at h
        cases hl : S2[k]? with
        | none => rw [hl] at h; exact (stop rfl h).elim
        | some l => rw [hl] at h; exact done h
      · rw [if_neg hk] at h; exact (stop rfl h).elim
    | _ => exact (stop rfl h).elim
end

theorem no_pe {X : Cx} {e : Expr} {t : TE} (h : ∀ σ H Q, t σ H Q → False) : PE X e t := ⟨fun _ _ σ H Q _ q => (h σ H Q q).elim⟩
theorem noArgs_eq {p : Arguments} (h : noArgs p = true) : p = ⟨[], [], none, [], [], none, []⟩ := by
  unfold noArgs at h
  split at h
  · rfl
  · cases h
theorem lam_ok {X : Cx} {P0 : Dc} {Gc : List PyData} {w0 : Ew} {n : Nat} {k : Kc} {W : WX} {D : List Dt} {L : List Lm} {T : List Fd} (hT : T = tabT D P0.errs.length L) (g : Good P0 (run T Gc n) Gc w0 n X k W) (hP : P0.fns = D.map (·.gname))
    (low : ∀ j, j ≤ n → ∀ (f : Nat) (x : Str), P0.fns[f]? = some x → ∃ fad fd ps, FnG X.prog X.w X.K X.mg X.base j fad fd ps (spEv X.K w0 (run T Gc j f)) ∧ X.mg x = some (.ref fad) ∧ PySem.W.keepIn X.K (.ref fad) = true ∧ ∀ nu ks perm dfl, (f, nu, ks, perm, dfl) ∈ P0.shs → ShapeOk X.K fd ps nu ks perm dfl)
    (funs : ∀ (f : Nat) (d : Dt), D[f]? = some d → ∃ fad fd dvs kws, FunD X.K d.name d.name (defArgs d.st) (defBody d.st) (defScope d.st) dvs kws fad fd ∧ X.mg d.gname = some (.ref fad) ∧ ∀ nu ks perm dfl, (f, nu, ks, perm, dfl) ∈ P0.shs → ShapeOk X.K fd d.ps nu ks perm dfl)
    {c0 Pt : Addr} (hcode : X.env.code = .ref c0) (TB : TabB X.base X.mg c0 Pt) (hmT : (Pt, X.env.qual ++ "<lambda>") ∈ w0.T) (hu : ∀ p ∈ w0.T, p.1 = Pt → p.2 = X.env.qual ++ "<lambda>")
    {r : Nat} {es : List Ex} {e : Expr} (h : ckLam P0 D L r es k e = true) :
    PE X e (tE X.K w0 W (evE (run T Gc n) Gc (.call r es))) ∧ ∀ whole, isTrue e X.env whole = (do let v ← whole; standAt e.pos; holding [v] (truthy v)) := by
  unfold ckLam at h
  split at h
  · cases h
  rename_i m hm
  simp only [Bool.and_eq_true, decide_eq_true_iff, List.all_eq_true] at h
  obtain ⟨⟨⟨hr, hv⟩, hi⟩, h⟩ := h
  split at h <;> first | (cases h; done) | skip
  rename_i x p params body scope lpos pos
  simp only [Bool.and_eq_true, decide_eq_true_iff, Bool.not_eq_true'] at h
  obtain ⟨⟨⟨⟨⟨⟨⟨⟨hx, hg⟩, hd⟩, hn⟩, hL⟩, hsh⟩, hnd⟩, hD⟩, hb⟩ := h
  refine ⟨?_, fun _ => rfl⟩
  have Ls : LamS X.env.scope scope := lamS_by (by rw [g.sc]; exact hL)
  obtain rfl := noArgs_eq hn
  obtain rfl := varsOf_eq hv
  obtain ⟨t1, t2⟩ := tabT_at (D := D) (ne := P0.errs.length) hm
  rw [← hT, ← hr] at t1
  rw [← hT, ← hr] at t2
  -- the captured values
  have caught : ∀ (σ : L2.St) (Q : VK) (G H : Hp) (as : List Addr) (ρ : Rho) (S : Sto), FinG X.K w0 (At X.K) W σ Q G as H (evE (run T Gc n) Gc (.call r (m.idxs.map .var)) ρ S) →
      ∃ caps : List Val, m.idxs.map (fun i => (ρ[i]?).getD none) = caps.map some ∧ caps.length = m.idxs.length ∧ FinG X.K w0 (At X.K) W σ Q G as H (run T Gc n r caps S) := by
    intro σ Q G H as ρ S f
    have f : FinG X.K w0 (At X.K) W σ Q G as H ((evL (run T Gc n) Gc (m.idxs.map .var) ρ S).bind fun vs S => run T Gc n r vs S) := f
    rcases evL_vars (C := run T Gc n) (G := Gc) (ρ := ρ) (S := S) m.idxs with q | ⟨caps, q1, q2⟩
    · rw [q] at f; exact f.elim
    · rw [q1] at f
      have := congrArg List.length q2
      rw [List.length_map, List.length_map] at this
      exact ⟨caps, q2, this.symm, f⟩
  rcases n with _ | _ | j
  · exact no_pe fun σ H Q ⟨G, as, S, ρ, r0, e0, f⟩ => by
      obtain ⟨caps, _, _, f⟩ := caught _ _ _ _ _ _ _ f
      exact f
  · exact no_pe fun σ H Q ⟨G, as, S, ρ, r0, e0, f⟩ => by
      obtain ⟨caps, _, hc, f⟩ := caught _ _ _ _ _ _ _ f
      rw [run_r t1 hc] at f
      exact f
  · -- the def that is called
    cases hDg : D[m.g]? with
    | none => rw [hDg] at hD; cases hD
    | some d =>
      rw [hDg] at hD
      have hD : refOk P0 d m = true := hD
      obtain ⟨fad, fd, dvs, kws, F, hmg, shs⟩ := funs m.g d hDg
      have ex : x = d.gname := by
        rw [hP, List.getElem?_map, hDg] at hx
        exact (Option.some.inj hx).symm
      unfold refOk at hD
      split at hD <;> first | (cases hD; done) | skip
      rename_i a nn a1 a2 q1 q2 q3 cx q4 n1 disp q5 q6 q7 jj q8 q9 eN eP eB
      simp only [Bool.and_eq_true, decide_eq_true_iff, Bool.not_eq_true', List.all_eq_true] at hD
      obtain ⟨⟨⟨⟨⟨⟨⟨⟨⟨⟨⟨⟨⟨⟨rfl, rfl⟩, rfl⟩, hsc⟩, hln⟩, hda⟩, hca⟩, hdn⟩, hcn⟩, hce⟩, hgc⟩, hdc⟩, hll⟩, hal⟩, hds⟩ := hD
      have Sc := scB_ok hsc
      obtain ⟨Fl, fI, ef, ET, e1f, e2f⟩ := g.errs _ _ hce
      have hcl : m.c < P0.errs.length := (List.getElem?_eq_some_iff.mp hce).1
      obtain ⟨oc, od, dV, kV, doc, pm0, an, cdv, ct, osl, rfl, lk, hcd, _, _⟩ := F.ex
      have sh := shs _ _ _ _ hsh
      constructor
      intro pins s σ H Q I ⟨G, as, S, ρ, r0, e0, f⟩
      obtain ⟨caps, hcap, hcl2, f⟩ := caught _ _ _ _ _ _ _ f
      refine wpAny_Call_Name_kw (ld_glob I (g.gl hg) (by rw [ex]; exact hmg) ?_ hd)
      refine PySem.W.callWith_K (h₀ := X.base) I.ok.mod.kin F.kp ?_ (by rfl) (by rfl)
      show wpAny _ _ (spliced ((false, eval (.Lambda ⟨[], [], none, [], [], none, []⟩ body scope lpos) X.env) :: backTo pos (starEach [] X.env))) _ _ s
      refine Calls.spliced_cons (lam_make2 I TB hcode hmT hu r0.tab rfl (Ls.has I.ok) fun fl c' pm ctv H1 s' I1 eN2 T1 hf hfn hfr hco => ?_)
      refine Calls.spliced_nil ⟨I1.kIn, ?_⟩
      obtain ⟨r1, x1⟩ := rst_lam r0 eN2 T1
      have f1 := FinG.shift f x1
      rw [run_r t1 hcl2, run_f t2 hcl2] at f1
      have f2 : FinG X.K w0 (At X.K) (fun c d _ H' => W c d σ H') [] Q G as H1 (handBack false S.length (lamS P0.errs.length m caps (handBack false S.length ((evE (run T Gc j) Gc m.e (caps.map some) S).st (caps.map some) fun v S => .rt v S)))) := by
        generalize handBack false S.length (lamS P0.errs.length m caps (handBack false S.length ((evE (run T Gc j) Gc m.e (caps.map some) S).st (caps.map some) fun v S => SR.rt v S))) = y at f1
        cases y with
        | ok _ _ => exact f1
        | exc _ _ _ => exact f1
        | bad => exact f1
      have room2 := g.room
      have goodL : ∀ (E : XK) (A1 : Around) (outer : List PySem.Env) (s1 : Shared) (H : Hp), A1.guards = some [] → Room j (A1.deeper (lamEnv (Cx.pick X m.idxs) scope s1.heap.objs.size fl c')) →
          Good P0 (run T Gc j) Gc w0 j (lamCx (Cx.pick X m.idxs) A1 outer s1 H E scope fl c') ⟨pickN k.N m.idxs, scope, fun _ => false, false⟩ (fun c d _ H => E c d H) := fun E A1 outer s1 H hg1 hr1 =>
        { calm := rfl
          nd := by show (pickN X.N m.idxs).Nodup; rw [g.N]; exact hnd
          N := by show pickN X.N m.idxs = pickN k.N m.idxs; rw [g.N]
          sc := rfl
          fn := fun _ h => Bool.noConfusion h
          gd := hg1
          room := hr1
          tk := takes_of rfl rfl rfl rfl
          defs := low j (by omega)
          blts := g.blts
          tys := g.tys
          isin := g.isin
          rng := g.rng
          more := g.more
          gls := g.gls
          errs := g.errs
          exm := g.exm
          lam := fun h => Bool.noConfusion h }
      have I2 := inv_pick I1 m.idxs fun i hi' => by rw [g.N]; exact hi i hi'
      have hbnd : BindsTo s' (PySem.W.fnOf d.name d.name (defArgs d.st) (defBody d.st) (defScope d.st) dV kV doc pm0 an cdv ct) ⟨[.ref fl], []⟩ (d.ps.zip [.ref fl]) := by
        obtain ⟨ds, rd, hb'⟩ := sh.ex
        cases rd
        exact hb' s' [.ref fl] [] I1.kIn rfl rfl (by rw [eP]; rfl)
      have rc : codeAny (model X.prog X.w) X.A (.call (.ref fad) ⟨[.ref fl], []⟩) (CR (L2.CX X.prog X.w) X.stack X.prog X.w H1 s' Q fun c d H' => W c d σ H') s' := by
        refine run_once (vs := [.ref fl]) lk hcd Sc (by rw [eP]; rfl) room2 I1.env0 hbnd (.cons rfl .nil) fun hr' => ?_
        rw [eB]
        have hi0 : d.N[0]? = some a2 := by rw [eN]; rfl
        have hi1 : d.N[1]? = some n1 := by rw [eN]; rfl
        have hva : Vis (defScope d.st) a2 := by
          rcases Sc.par a2 (by rw [eP]; exact List.mem_cons_self) with z | z
          · exact .inl z
          · exact .inr (.inl z)
        have hcN : Names (Zx X d.N d.name (defScope d.st) fad cdv s' H1 fun c d H' => W c d σ H') cx (.ref (w0.cA m.c)) := by
          refine ⟨?_, hdc, .inl e2f⟩
          show (defScope d.st).names.lookup cx = _
          unfold glB at hgc
          split at hgc
          · assumption
          · cases hgc
        have tryP := fun (ts : Addr → Value → Option Addr → TS) (sb : Stmt) (hsu : ∀ (a : Addr) (oe : Obj) (cls : Value) (dd : Option Addr) (pn : List (Addr × Obj)), Zc cls dd oe → (∃ vs, oe.data = .fields vs) → PSs ((Zx X d.N d.name (defScope d.st) fad cdv s' H1 fun c d H' => W c d σ H').suite a ((a, oe) :: pn)) [sb] (ts a cls dd)) =>
          ps_try_as (X := Zx X d.N d.name (defScope d.st) fad cdv s' H1 fun c d H' => W c d σ H') (i := 1) (n := n1) (pos := q7) (pos' := q6) (np := q4) (ts := ts) (b₀ := sb) (suite := []) (body := [.Expr (.Call (.Name a2 q1) [] [] q2) q3]) (Wout := fun c d _ H' => W c d σ H')
            (tb := fun W' => tDrop fun σZ HZ Q => σZ[0]? = some (some (V.ref fl)) ∧ HZ c' = some (CodeO c' (X.env.qual ++ "<lambda>")) ∧ tE X.K w0 (fun c d _ H => W' c d σZ H) (evE (run T Gc j) Gc m.e) (pickS σ m.idxs) HZ Q)
            rfl rfl Sc.nd hi1 hln hcN (takes_of rfl rfl rfl rfl) (fun W' pn xe tk ow => pss_one (ps_expr (act_pe (X := Cx.pick X m.idxs) (tb := fun E => tE X.K w0 (fun c d _ H => E c d H) (evE (run T Gc j) Gc m.e)) I2 Ls hf hfn hfr rfl tk hr' (fun E outer s1 H hr1 => (ckE_ok P0 (run T Gc j) Gc w0 j m.e _ _ _ body (goodL E (X.A.deeper (envOfC d.name (defScope d.st) s'.heap.objs.size fad cdv)) outer s1 H g.gd hr1) hb).1) hi0 hva hda hca))) hsu
        rw [ef] at hds
        cases htp : m.tp with
        | true =>
          rw [htp] at hds
          cases disp with
          | Tuple tes jt pt =>
            have hds : ckIt 1 n1 Fl.s m.l tes = true := hds
            refine ⟨_, pss_cons (tryP (fun a cls dd => tRet (tTup (tItems (w0.cA m.c) Fl.s 1 a cls dd m.l))) _ fun a oe cls dd pn hz hfl => pss_one (ps_ret (pe_tup (items_pa (X := Zx X d.N d.name (defScope d.st) fad cdv s' H1 fun c d H' => W c d σ H') ET hz hfl hi1 (.inl hln) hdn hcn m.l tes hds)))) (pss_one (ps_ret pe_non)), ?_⟩
            refine ⟨rfl, hco, G, as, S, caps.map some, r1, by rw [← hcap]; exact env_pick e0 m.idxs, ?_⟩
            refine fin_lam r1 (by rw [← hcap]; exact env_pick e0 m.idxs) f2 (fun v H' q => q) (fun c dd S2 G1 as1 H2 dx v hF x2 r2 h1 h2 => ?_)
            have hs : lamS P0.errs.length m caps (.exc c dd (S2.take S.length)) = if c < P0.errs.length ∧ m.idxs.length < (caps.map some ++ [none]).length then (if c = m.c then SR.rt (.dat (mkD m.tp (m.l.map fun (o : Option PyData) => o.getD dd))) (S2.take S.length) else .exc c dd (caps.map some ++ [none]) (S2.take S.length)) else .bad := rfl
            rw [hs] at hF
            by_cases hk : c < P0.errs.length ∧ m.idxs.length < (caps.map some ++ [none]).length
            · rw [if_pos hk] at hF
              refine ⟨decide (c = m.c), g.exm m.c c hcl hk.1, fun hb' a' ha' => ?_, fun hb' => ?_⟩
              · have ec : c = m.c := of_decide_eq_true hb'
                subst ec
                rw [if_pos rfl, htp] at hF
                have hF : FinG X.K w0 (At X.K) (fun c d _ H' => W c d σ H') [] Q G as H1 (.ok (.dat (.tuple (Dw.shown dd m.l))) ((S2.take S.length).take S.length)) := hF
                have hσ : ((L2.start d.N [V.ref fl]).set 1 (some (V.ref a')))[1]? = some (some (.ref a')) := List.getElem?_set_self (by rw [eN]; exact Nat.lt_succ_self 1)
                refine items_run hσ (by rw [← e1f]; exact h1) h2 m.l _ (fun o ho k' hk' => ?_) fun vs dv => ?_
                · have := hal o ho
                  subst hk'
                  exact this
                · exact ⟨by
                    have e := dv.length
                    unfold Dw.shown at e
                    rw [List.length_map] at e
                    rw [e, sizeLine_eq]
                    omega, new_tup (r2.cut x2.pre) (by
                      have := FinG.shift hF x2.cut
                      rw [List.take_take, Nat.min_self, r0.len.symm] at this
                      exact this) dv⟩
              · have ec : c ≠ m.c := of_decide_eq_false hb'
                rw [if_neg ec] at hF
                have hF : FinG X.K w0 (At X.K) (fun c d _ H' => W c d σ H') [] Q G as H1 (.exc c dd ((S2.take S.length).take S.length)) := hF
                rw [List.take_take, Nat.min_self, r0.len.symm] at hF
                exact hF G1 as H2 dx v x2.cut (r2.cut x2.pre) h1 h2
            · rw [if_neg hk] at hF
              exact hF.elim
          | _ => exact (Bool.noConfusion (show false = true from hds))
        | false =>
          rw [htp] at hds
          cases disp with
          | List tes pt =>
            have hds : ckIt 1 n1 Fl.s m.l tes = true := hds
            refine ⟨_, pss_cons (tryP (fun a cls dd => tRet (tLst (tItems (w0.cA m.c) Fl.s 1 a cls dd m.l))) _ fun a oe cls dd pn hz hfl => pss_one (ps_ret (pe_lst (items_pa (X := Zx X d.N d.name (defScope d.st) fad cdv s' H1 fun c d H' => W c d σ H') ET hz hfl hi1 (.inl hln) hdn hcn m.l tes hds)))) (pss_one (ps_ret pe_non)), ?_⟩
            refine ⟨rfl, hco, G, as, S, caps.map some, r1, by rw [← hcap]; exact env_pick e0 m.idxs, ?_⟩
            refine fin_lam r1 (by rw [← hcap]; exact env_pick e0 m.idxs) f2 (fun v H' q => q) (fun c dd S2 G1 as1 H2 dx v hF x2 r2 h1 h2 => ?_)
            have hs : lamS P0.errs.length m caps (.exc c dd (S2.take S.length)) = if c < P0.errs.length ∧ m.idxs.length < (caps.map some ++ [none]).length then (if c = m.c then SR.rt (.dat (mkD m.tp (m.l.map fun (o : Option PyData) => o.getD dd))) (S2.take S.length) else .exc c dd (caps.map some ++ [none]) (S2.take S.length)) else .bad := rfl
            rw [hs] at hF
            by_cases hk : c < P0.errs.length ∧ m.idxs.length < (caps.map some ++ [none]).length
            · rw [if_pos hk] at hF
              refine ⟨decide (c = m.c), g.exm m.c c hcl hk.1, fun hb' a' ha' => ?_, fun hb' => ?_⟩
              · have ec : c = m.c := of_decide_eq_true hb'
                subst ec
                rw [if_pos rfl, htp] at hF
                have hF : FinG X.K w0 (At X.K) (fun c d _ H' => W c d σ H') [] Q G as H1 (.ok (.dat (.list (Dw.shown dd m.l))) ((S2.take S.length).take S.length)) := hF
                have hσ : ((L2.start d.N [V.ref fl]).set 1 (some (V.ref a')))[1]? = some (some (.ref a')) := List.getElem?_set_self (by rw [eN]; exact Nat.lt_succ_self 1)
                refine items_run hσ (by rw [← e1f]; exact h1) h2 m.l _ (fun o ho k' hk' => ?_) fun vs dv => ?_
                · have := hal o ho
                  subst hk'
                  exact this
                · refine ⟨by
                    have e := dv.length
                    unfold Dw.shown at e
                    rw [List.length_map] at e
                    rw [e, sizeLine_eq]
                    omega, fun p hp => ?_⟩
                  have hF2 := FinG.shift hF x2.cut
                  rw [List.take_take, Nat.min_self, r0.len.symm] at hF2
                  obtain ⟨r3, x3, g3⟩ := (r2.cut x2.pre).new hp (.lst vs)
                  exact hF2 _ _ _ _ x3 r3 (.lst g3 (DaAll.mono x3.g _ _ dv))
              · have ec : c ≠ m.c := of_decide_eq_false hb'
                rw [if_neg ec] at hF
                have hF : FinG X.K w0 (At X.K) (fun c d _ H' => W c d σ H') [] Q G as H1 (.exc c dd ((S2.take S.length).take S.length)) := hF
                rw [List.take_take, Nat.min_self, r0.len.symm] at hF
                exact hF G1 as H2 dx v x2.cut (r2.cut x2.pre) h1 h2
            · rw [if_neg hk] at hF
              exact hF.elim
          | _ => exact (Bool.noConfusion (show false = true from hds))
      refine wpAny_call (codeAny_mono rc fun rr s2 hq => ?_)
      match rr, hq with
      | .error e, hq => exact passAt' g.tk σ pins H1 s' e s2 I1 hq
      | .ok (.ret u), hq => exact I1.after hq
      | .ok .next, hq => exact hq.elim
      | .ok .brk, hq => exact hq.elim
      | .ok .cont, hq => exact hq.elim
end Dw

set_option Elab.async false
set_option linter.all false
set_option maxRecDepth 100000
set_option maxHeartbeats 4000000
/-! Defs, by induction on the fuel. -/
namespace Dw
open PySem PySem.Spec PyProof.Rows L2

/-- the checked program: its defs with the lambdas -/
def withL (P0 : Dc) (D : List Dt) (L : List Lm) : Dc := { P0 with lk := ckLam P0 D L }
theorem defs_ok {D : List Dt} {L : List Lm} {P0 : Dc} {Gc : List PyData} {Pr : Program} {w : World} {K : PySem.W.Frag} {mg : Str → Option Value} {base : Heap} {cs : List (Addr × Addr)} (w0 : Ew) (hD : ∀ d ∈ D, d.ok (withL P0 D L) = true) (hP : P0.fns = D.map (·.gname)) (hlk : ∀ r es k e, P0.lk r es k e = false)
    (B : Behind Pr w0 D P0 Gc K mg cs) (hTB : ∀ p ∈ cs, LamX.TabB base mg p.1 p.2) :
    ∀ (n j : Nat), j ≤ n → ∀ (f : Nat) (d : Dt), D[f]? = some d → ∀ fad fd dvs kws, FunD K d.name d.name (defArgs d.st) (defBody d.st) (defScope d.st) dvs kws fad fd → mg d.gname = some (.ref fad) → FnG Pr w K mg base j fad fd d.ps (spEv K w0 (run (tabT D P0.errs.length L) Gc j f)) := by
  have zero : ∀ (f : Nat) (d : Dt) (fad : Addr) (fd : FuncData), FnG Pr w K mg base 0 fad fd d.ps (spEv K w0 (run (tabT D P0.errs.length L) Gc 0 f)) := fun f d fad fd => ⟨fun vs H Q E ⟨_, _, _, _, _, _, h⟩ => h.elim, fun A outer s H args us vs Q E _ _ _ _ _ ⟨_, _, _, _, _, _, h⟩ => h.elim⟩
  intro n
  induction n with
  | zero =>
    intro j hj f d hd fad fd dvs kws F hmg
    obtain rfl : j = 0 := by omega
    exact zero f d fad fd
  | succ n ih =>
    intro j hj f d hd fad fd dvs kws F hmg
    by_cases hjn : j ≤ n
    · exact ih j hjn f d hd fad fd dvs kws F hmg
    obtain rfl : j = n + 1 := by omega
    have hok := hD d (List.mem_of_getElem? hd)
    have hT : (tabT D P0.errs.length L)[f]? = some d.F := tabT_def hd
    have unf : ∀ {vs : List V} {H : Hp} {Q : VK} {E : XK}, spEv K w0 (run (tabT D P0.errs.length L) Gc (n + 1) f) vs H Q E → ∃ G as S xs, Rst K w0 G as S H ∧ Ats K G as vs xs ∧ xs.length = d.F.np ∧ d.F.np ≤ d.F.nn ∧
        FinG K w0 (At K) (fun c d _ H' => E c d H') [] Q G as H (handBack d.F.keep S.length (evSs (run (tabT D P0.errs.length L) Gc n) Gc d.F.body (xs.map some ++ List.replicate (d.F.nn - d.F.np) none) S)) := by
      rintro vs H Q E ⟨G, as, S, xs, r0, a, h⟩
      refine ⟨G, as, S, xs, r0, a, ?_⟩
      unfold run at h
      rw [hT] at h
      dsimp only at h
      by_cases hc : xs.length = d.F.np ∧ d.F.np ≤ d.F.nn
      · rw [if_pos hc] at h
        exact ⟨hc.1, hc.2, h⟩
      · rw [if_neg hc] at h
        exact h.elim
    unfold Dt.ok at hok
    rw [Bool.or_eq_true] at hok
    rcases hok with hno | hok
    · have hno := of_decide_eq_true hno
      exact ⟨fun vs H Q E h => by
        obtain ⟨_, _, _, _, _, _, _, h2, _⟩ := unf h
        omega, fun A outer s H args us vs Q E _ _ _ _ _ h => by
        obtain ⟨_, _, _, _, _, _, _, h2, _⟩ := unf h
        omega⟩
    simp only [Bool.and_eq_true, decide_eq_true_iff] at hok
    obtain ⟨⟨⟨h1, h2⟩, h3⟩, h4⟩ := hok
    have Sc := scB_ok h1
    obtain ⟨oc, od, dV, kV, doc, pm, an, cdv, ct, osl, rfl, lk, hcd, _, _⟩ := F.ex
    refine fn_ofG lk hcd Sc (fun vs H Q E h => ?_) fun A outer s H vs Q E hr hg h => ⟨_, ckSs_ok (withL P0 D L) (run (tabT D P0.errs.length L) Gc n) Gc w0 n d.F.body _ ⟨d.N, defScope d.st, fun _ => true, d.lm⟩ (fun c d _ H' => E c d H') _ ?_ h4, ?_⟩
    · obtain ⟨G, as, S, xs, r0, a, e1, e2, h⟩ := unf h
      rw [ats_len a, e1, h2]
    · have low : ∀ j, j ≤ n → ∀ (g : Nat) (x : Str), P0.fns[g]? = some x → ∃ fad fd ps, FnG Pr w K mg base j fad fd ps (spEv K w0 (run (tabT D P0.errs.length L) Gc j g)) ∧ mg x = some (.ref fad) ∧ PySem.W.keepIn K (.ref fad) = true ∧ ∀ nu ks perm dfl, (g, nu, ks, perm, dfl) ∈ P0.shs → ShapeOk K fd ps nu ks perm dfl := by
        intro j hj g x hx
        rw [hP, List.getElem?_map] at hx
        cases hd' : D[g]? with
        | none => rw [hd'] at hx; cases hx
        | some d' =>
          rw [hd'] at hx
          cases hx
          obtain ⟨fad', fd', dvs', kws', F', m', sh⟩ := B.defs g d' hd'
          exact ⟨fad', fd', d'.ps, ih j hj g d' hd' fad' fd' dvs' kws' F' m', m', F'.kp, sh⟩
      have g0 : Good P0 (run (tabT D P0.errs.length L) Gc n) Gc w0 n (cxOf (L2.CX Pr w) Pr w K mg base d.N d.name (defScope d.st) fad cdv A outer s H E) ⟨d.N, defScope d.st, fun _ => true, d.lm⟩ (fun c d _ H' => E c d H') :=
        { calm := rfl
          nd := Sc.nd
          N := rfl
          sc := rfl
          fn := fun _ _ => rfl
          gd := hg
          room := hr
          tk := takes_of rfl rfl rfl rfl
          defs := low n (Nat.le_refl n)
          blts := B.blts
          tys := B.tys
          isin := B.isin
          rng := B.rng
          more := B.more
          gls := B.gls
          errs := B.errs
          exm := B.exm
          lam := fun _ r es e h => by rw [hlk] at h; cases h }
      exact
      { calm := g0.calm
        nd := g0.nd
        N := rfl
        sc := rfl
        fn := fun _ _ => rfl
        gd := hg
        room := hr
        tk := g0.tk
        defs := g0.defs
        blts := B.blts
        tys := B.tys
        isin := B.isin
        rng := B.rng
        more := B.more
        gls := B.gls
        errs := B.errs
        exm := B.exm
        lam := fun hl r es e h => by
          obtain ⟨c, Pt, e1, e2, e3⟩ := B.cods f d fad _ hd hl hmg ⟨oc, od, osl, lk⟩
          have hcode : (cxOf (L2.CX Pr w) Pr w K mg base d.N d.name (defScope d.st) fad cdv A outer s H E).env.code = .ref c := e1
          exact lam_ok rfl g0 hP low (fun f d hd => B.defs f d hd) hcode (hTB _ e2) e3 (fun p hp hpe => by
            have := B.uniq p hp _ e3 hpe
            rw [this]
            rfl) h
        stk := rfl
        frm := rfl
        own := passes_of rfl
        bk := by
          show (if (defScope d.st).kind.isAnnotationScope then ScopeKind.function else (defScope d.st).kind) = ScopeKind.function
          rw [Sc.kind]
          rfl }
    · obtain ⟨G, as, S, xs, r0, a, e1, e2, h⟩ := unf h
      refine ⟨G, as, S, _, r0, env_start a, fin_back (keep := d.F.keep) r0 ?_ fun _ _ _ _ q => q⟩
      rw [e1, ← h3]
      exact h
/-- a constant of the module -/
def GlIs (K : PySem.W.Frag) (x : Str) (d : PyData) : Prop := ∃ y v, PySem.W.nsIn K mainGlobals x = some (some y) ∧ RelV v y ∧ ∀ G, Da K G v d
section
variable {K : PySem.W.Frag} {x : Str} {y : Value} {a : Addr} {o : Obj} {its : List Value} {n : Nat}
theorem gl_int (i : Int) (h : PySem.W.nsIn K mainGlobals x = some (some y)) (r : RelV (.int i) y) : GlIs K x (.int i) := ⟨y, _, h, r, fun _ => .int i⟩
theorem gl_str (s : Str) (h : PySem.W.nsIn K mainGlobals x = some (some y)) (r : RelV (.str s) y) : GlIs K x (.str s) := ⟨y, _, h, r, fun _ => .str s⟩
theorem gl_strs (ss : List Str) (h : PySem.W.nsIn K mainGlobals x = some (some (.ref a))) (l : K.lookup a = some o) (c : o.cls = .type "tuple") (d : o.data = .seq its.toArray n) (hz : decide (its.length ≤ 1000) = true) (r : Vals (ss.map V.str) its) : GlIs K x (.tuple (ss.map .str)) := by
  refine ⟨_, .ref a, h, rfl, fun G => .tup (.inr ⟨o, its.toArray, n, l, c, d, ?_, r⟩) ?_⟩
  · have := of_decide_eq_true hz
    rw [List.size_toArray, ← LINE_eq]
    show its.length ≤ 16777216
    omega
  · have : ∀ ss : List Str, DaAll K G (ss.map V.str) (ss.map PyData.str) := fun ss => strs_all ss
    exact this ss
end
end Dw

set_option Elab.async false
set_option linter.all false
set_option maxRecDepth 100000
set_option maxHeartbeats 4000000
/-! The law's own call, from its promise. -/
namespace Dw
open PySem PySem.Spec PyProof.Rows L2

section
variable {P : Program} {w : World} {K : PySem.W.Frag} {mg mb : Str → Option Value} {k : Nat} {la z : Addr} {fd : FuncData} {x : Str} {sp : Sp} {t : Shared} {us : List Value} {ns : List Int} {cs : List (Addr × Addr)}
theorem go_law (inK : K.In t.heap) (gN : t.heap.Ns mainGlobals mg) (bN : t.heap.Ns builtinsNs mb) (bB : ∀ y : Str, y ≠ "__name__" → mb y = bootBuiltins y) (lim : t.heap.NoLimit) (gs : t.gens = #[])
    (hT : ∀ p ∈ cs, PySem.W.CodeHd t.heap p.1 p.2 ∧ t.heap.get? p.2 = some (PySem.W.tabObj #[])) (nT : ∀ p ∈ cs, K.lookup p.2 = none)
    (hbm : ∃ (bm : Addr) (ob : Obj), mg "__builtins__" = some (.ref bm) ∧ bm ≠ builtinsNs ∧ t.heap.get? bm = some ob ∧ ob.cls = .type "module" ∧ ob.dict = some builtinsNs ∧ ob.data = .plain)
    (oz : t.heap.get? z = some { cls := .type "list", data := .seq us.toArray }) (iz : IntsAre us ns) (lz : ns.length ≤ sizeLine) (rm : Room k callerA)
    (F : ∀ b : Heap, K.In b → b.Ns mainGlobals mg → (∀ p ∈ cs, LamX.TabB b mg p.1 p.2) → FnG P w K mg b k la fd [x] sp) (bd : ∀ (s : Shared) (u : Value), BindsTo s fd ⟨[u], []⟩ [(x, u)])
    (told : ∀ H : Hp, (∀ p ∈ cs, H p.2 = some (.tbl #[])) → SqL K H z (ns.map V.int) → sp [.ref z] H (fun v _ => v = .bl true) fun _ _ _ => False) :
    codeAny (model P w) callerA (.call (.ref la) ⟨[.ref z], []⟩) (fun r s' => r = .ok (.ret (.bool true)) ∧ OldK t.heap s'.heap ∧ s'.os = t.os ∧ AllBare s'.gens) t := by
  have vz := vals_ints iz
  have nz := iz.length
  obtain ⟨TS, hTS⟩ : ∃ TS : List Addr, TS = cs.map (·.2) := ⟨_, rfl⟩
  have inTS : ∀ p ∈ cs, p.2 ∈ TS := fun p hp => by rw [hTS]; exact List.mem_map.mpr ⟨p, hp, rfl⟩
  have ofTS : ∀ c ∈ TS, ∃ p ∈ cs, p.2 = c := fun c hc => by rw [hTS] at hc; obtain ⟨p, h1, h2⟩ := List.mem_map.mp hc; exact ⟨p, h1, h2⟩
  have tabAt : ∀ c ∈ TS, t.heap.get? c = some (PySem.W.tabObj #[]) := fun c hc => by
    obtain ⟨p, h1, rfl⟩ := ofTS c hc
    exact (hT p h1).2
  have zTS : z ∉ TS := fun hz => by
    have e := tabAt z hz
    rw [oz] at e
    have e2 : Data.seq us.toArray _ = Data.fields #[] := congrArg Obj.data (Option.some.inj e)
    cases e2
  have main : ∀ H : Hp, (∀ c, H c = none ∨ c ∈ TS ∨ ∃ o ys, H c = some (.frz o (.lst ys))) → (∀ c ∈ TS, H c = some (.tbl #[])) → SqL K H z (ns.map V.int) → HOk P w H t.heap → (∀ c, H c ≠ none → c = z ∨ c ∈ TS) → (H z ≠ none → K.lookup z = none) →
      codeAny (model P w) callerA (.call (.ref la) ⟨[.ref z], []⟩) (fun r s' => r = .ok (.ret (.bool true)) ∧ OldK t.heap s'.heap ∧ s'.os = t.os ∧ AllBare s'.gens) t := by
    intro H frz tbs seqz wk only nk
    have under : ∀ {c : Addr} {o : Obj}, t.heap.get? c = some o → H c = none → (hidT t.heap H).get? c = some o := fun e1 e2 => hidT_get e1 e2
    have free : ∀ {c : Addr} {o : Obj}, t.heap.get? c = some o → (∀ vs n, o.data ≠ .seq vs n) → o.data ≠ .fields #[] → H c = none := by
      intro c o e1 d1 d2
      by_cases hc : H c = none
      · exact hc
      · rcases only c hc with rfl | hm
        · rw [oz] at e1
          cases e1
          exact absurd rfl (d1 _ _)
        · rw [tabAt c hm] at e1
          cases e1
          exact absurd rfl d2
    have nodict : ∀ {c : Addr} {o : Obj} {es : Array DictEntry} {ep : Nat}, t.heap.get? c = some o → o.data = .dict es ep → H c = none := fun e1 e2 => free e1 (fun vs n y => by rw [e2] at y; cases y) fun y => by rw [e2] at y; cases y
    have names : ∀ {c : Addr} {m : Str → Option Value}, t.heap.Ns c m → (hidT t.heap H).Ns c m := fun ⟨o, es, ep, e1, e2, q⟩ => ⟨o, es, ep, under e1 (nodict e1 e2), e2, q⟩
    have kIn : K.In (hidT t.heap H) := by
      intro c o e1
      refine under (inK c o e1) ?_
      by_cases hc : H c = none
      · exact hc
      · rcases only c hc with rfl | hm
        · rw [nk hc] at e1
          cases e1
        · obtain ⟨p, h1, rfl⟩ := ofTS c hm
          rw [nT p h1] at e1
          cases e1
    have lim2 := lim
    obtain ⟨ml, l1, l2⟩ := lim2
    have md : Mod K mg (hidT t.heap H) := ⟨kIn, names gN, ⟨mb, names bN, bB⟩, ⟨ml, names l1, l2⟩⟩
    have en : Env0 P w K mg (hidT t.heap H) callerA [] t H := ⟨rfl, md, fun c o e1 => of_hidT e1, Nat.le_of_eq (hidT_size _ _), trivial, fun c hc => absurd (show c ∈ ([] : List Addr) from hc) (by simp), wk, .of_eq gs⟩
    have tabB : ∀ p ∈ cs, LamX.TabB (hidT t.heap H) mg p.1 p.2 := by
      intro p hp
      refine ⟨?_, ?_, fun y => ?_⟩
      · obtain ⟨o, vs, fl, tf, fg, tg, nf, tx, tt, k1, k2, k3, k4, k5⟩ := (hT p hp).1
        refine ⟨o, vs, fl, tf, fg, tg, nf, tx, tt, under k1 (free k1 (fun us n y => by rw [k3] at y; cases y) fun y => ?_), k2, k3, k4, k5⟩
        rw [k3] at y
        cases y
        simp at k4
      · obtain ⟨bm, ob, m1, m2, m3, m4, m5, m6⟩ := hbm
        refine ⟨bm, ob, m1, m2, fun y => ?_, fun y => ?_, under m3 (free m3 (fun us n y => by rw [m6] at y; cases y) fun y => by rw [m6] at y; cases y), m4, m5, m6⟩
        · obtain ⟨o, es, ep, n1, n2, _⟩ := gN
          rw [y, n1] at m3
          cases m3
          rw [n2] at m6
          cases m6
        · have n1 := (hT p hp).2
          rw [← y, m3] at n1
          cases n1
          cases m6
      · obtain ⟨o, es, ep, n1, n2, _⟩ := gN
        have n3 := (hT p hp).2
        rw [← y, n1] at n3
        cases n3
        cases n2
    have ran := (F _ kIn (names gN) tabB).runs callerA [] t H ⟨[.ref z], []⟩ [.ref z] [.ref z] (fun v _ => v = .bl true) (fun _ _ _ => False) rm rfl en (bd t (.ref z)) (.cons rfl .nil) (told H (fun p hp => tbs _ (inTS p hp)) seqz)
    refine codeAny_mono ran fun r s' q => ?_
    match r, q with
    | .error e, q =>
      obtain ⟨_, _, _, _, _, _, _, _, _, _, _, _, no⟩ := q
      exact no.elim
    | .ok .next, q => exact False.elim q
    | .ok .brk, q => exact False.elim q
    | .ok .cont, q => exact False.elim q
    | .ok (.ret u), ⟨v, H', e1, e2, e3, e4, e5, e6⟩ =>
      have e6 : v = .bl true := e6
      subst e6
      obtain rfl : u = Value.bool true := e5
      have kept : ∀ c o, c ∉ TS → t.heap.get? c = some o → s'.heap.get? c = some o := by
        intro c o hc oc
        rcases frz c with h1 | h1 | ⟨o2, ys, h1⟩
        · exact e3.keep c o oc h1 (by intro y; exact absurd (show c ∈ ([] : List Addr) from y) (by simp)) (by simp)
        · exact absurd h1 hc
        · have h2 := e3.frzs c o2 _ h1
          obtain ⟨q1, _⟩ := wk c _ h1
          obtain ⟨q2, _⟩ := e4 c _ h2
          rw [oc] at q1
          cases q1
          exact q2
      have more : ∀ p ∈ cs, ∃ ms : Array Value, s'.heap.get? p.2 = some { cls := .none, data := .fields ms } := fun p hp => by
        obtain ⟨ms, h1⟩ := e3.tbls p.2 #[] (tbs _ (inTS p hp))
        exact ⟨_, e4 p.2 _ h1⟩
      refine ⟨rfl, ⟨fun c o oc => ?_, fun c o oc => ?_⟩, e1, e2⟩
      · by_cases hc : c ∈ TS
        · obtain ⟨p, hp, rfl⟩ := ofTS c hc
          obtain ⟨ms, h1⟩ := more p hp
          rw [(hT p hp).2] at oc
          cases oc
          exact Or.inr (Or.inl ⟨((hT p hp).1.tab (hT p hp).2).isCodeTable, rfl, #[], ms, rfl, by rw [Array.empty_append]; exact h1⟩)
        · exact Or.inl (kept c o hc oc)
      · by_cases hc : c ∈ TS
        · obtain ⟨p, hp, rfl⟩ := ofTS c hc
          obtain ⟨ms, h1⟩ := more p hp
          exact ⟨_, h1⟩
        · exact ⟨o, kept c o hc oc⟩
  cases lk : K.lookup z with
  | some o =>
    have eo := inK z o lk
    rw [oz] at eo
    cases eo
    have at1 : ∀ c : Addr, c ∈ TS → (if c ∈ TS then some (HO.tbl #[]) else none) = some (.tbl #[]) := fun c hc => if_pos hc
    have at0 : ∀ c : Addr, c ∉ TS → (if c ∈ TS then some (HO.tbl #[]) else none) = none := fun c hc => if_neg hc
    refine main (fun c => if c ∈ TS then some (HO.tbl #[]) else none) (fun c => ?_) at1 (.inr ⟨_, us.toArray, _, lk, rfl, rfl, rfl, ?_, by simpa using vz⟩) (fun c u e1 => ?_) (fun c e1 => ?_) fun e1 => absurd (at0 z zTS) e1
    · by_cases hc : c ∈ TS
      · exact Or.inr (Or.inl hc)
      · exact Or.inl (at0 c hc)
    · rw [List.size_toArray, nz]
      exact lz
    · by_cases hc : c ∈ TS
      · have e2 := (at1 c hc).symm.trans e1
        cases e2
        exact tabAt c hc
      · have e2 := (at0 c hc).symm.trans e1
        cases e2
    · by_cases hc : c ∈ TS
      · exact Or.inr hc
      · exact absurd (at0 c hc) e1
  | none =>
    have atz : (if z = z then some (HO.frz { cls := .type "list", data := .seq us.toArray } (.lst (ns.map V.int))) else if z ∈ TS then some (HO.tbl #[]) else none) = some (HO.frz { cls := .type "list", data := .seq us.toArray } (.lst (ns.map V.int))) := if_pos rfl
    have at1 : ∀ c : Addr, c ∈ TS → (if c = z then some (HO.frz { cls := .type "list", data := .seq us.toArray } (.lst (ns.map V.int))) else if c ∈ TS then some (HO.tbl #[]) else none) = some (.tbl #[]) := fun c hc => by
      rw [if_neg (fun y => zTS (by rw [← y]; exact hc)), if_pos hc]
    have at0 : ∀ c : Addr, c ≠ z → c ∉ TS → (if c = z then some (HO.frz { cls := .type "list", data := .seq us.toArray } (.lst (ns.map V.int))) else if c ∈ TS then some (HO.tbl #[]) else none) = none := fun c h1 h2 => by
      rw [if_neg h1, if_neg h2]
    refine main (fun c => if c = z then some (HO.frz { cls := .type "list", data := .seq us.toArray } (.lst (ns.map V.int))) else if c ∈ TS then some (HO.tbl #[]) else none) (fun c => ?_) at1 (.inl (.inr ⟨_, atz⟩)) (fun c u e1 => ?_) (fun c e1 => ?_) fun _ => lk
    · by_cases h1 : c = z
      · subst h1
        exact Or.inr (Or.inr ⟨_, _, atz⟩)
      · by_cases h2 : c ∈ TS
        · exact Or.inr (Or.inl h2)
        · exact Or.inl (at0 c h1 h2)
    · by_cases h1 : c = z
      · subst h1
        have e2 := atz.symm.trans e1
        cases e2
        exact ⟨oz, by rw [List.length_map]; exact lz, us, _, vz, oz⟩
      · by_cases h2 : c ∈ TS
        · have e2 := (at1 c h2).symm.trans e1
          cases e2
          exact tabAt c h2
        · have e2 := (at0 c h1 h2).symm.trans e1
          cases e2
    · by_cases h1 : c = z
      · exact Or.inl h1
      · by_cases h2 : c ∈ TS
        · exact Or.inr h2
        · exact absurd (at0 c h1 h2) e1
end
/-- the goal that the head leaves -/
theorem walk_law {l : PySem.W.OpenLaw} {n k : Nat} {q : Program} {loose : List Str} {XP : (Str → Option Value) → Heap → Prop} {YP : World → Heap → Prop} {d : DefRec} {K : Params → PySem.W.Frag} {x : Str}
    (hn : l.most = some n) (h2 : n ≤ sizeLine) (nd : d.params.defaults = []) (rm : Room k callerA) (hY : ∀ (w : World) (h : Heap), YP w h → (K w.params).In h)
    (F : ∀ (w : World) (mg : Str → Option Value) (la : Addr) (h : Heap), YP w h → (K w.params).In h → h.Ns mainGlobals mg → mg d.name = some (.ref la) →
      ∃ (fd : FuncData) (sp : Sp) (cs : List (Addr × Addr)), (∀ p ∈ cs, PySem.W.CodeHd h p.1 p.2 ∧ h.get? p.2 = some (PySem.W.tabObj #[])) ∧ (∀ p ∈ cs, (K w.params).lookup p.2 = none) ∧ (∀ (s : Shared) (u : Value), BindsTo s fd ⟨[u], []⟩ [(x, u)]) ∧
        (∀ (H : Hp) (z : Addr) (ns : List Int), ns.length ≤ n → (∀ p ∈ cs, H p.2 = some (.tbl #[])) → SqL (K w.params) H z (ns.map V.int) → sp [.ref z] H (fun v _ => v = .bl true) fun _ _ _ => False) ∧
        ∀ b : Heap, (K w.params).In b → b.Ns mainGlobals mg → (∀ p ∈ cs, LamX.TabB b mg p.1 p.2) → FnG l.prog w (K w.params) mg b k la fd [x] sp) :
    PySem.W.WalkO q loose XP YP l.row.toRowW d [] (fun f vs => PySem.call f vs) := by
  refine Att.attach_call hn nd ?_
  intro w s0 t mg mb la o pm cd doc z us ns G Y o1 o2 o3 o4 oz iz lz gs
  have inK := hY w _ Y
  obtain ⟨fd, sp, cs, c1, c2, b1, told, b2⟩ := F w mg la _ Y inK G.T.g o4
  exact go_law inK G.T.g G.T.b G.T.builtins G.T.nolimit gs c1 c2 G.T.bmain oz iz (Nat.le_trans lz h2) rm b2 b1 fun H hb s => told H z ns lz hb s
/-- what is known, but for the tables -/
def noT (H : Hp) : Hp := fun b => match H b with
  | some (.tbl _) => none
  | o => o
theorem noT_some {H : Hp} {b : Addr} {o : HO} (e : noT H b = some o) : H b = some o ∧ ∀ ps, o ≠ .tbl ps := by
  unfold noT at e
  split at e
  · cases e
  · rename_i h
    refine ⟨e, fun ps q => ?_⟩
    rw [q] at e
    exact h ps e
theorem noT_of {H : Hp} {b : Addr} {o : HO} (e : H b = some o) (n : ∀ ps, o ≠ .tbl ps) : noT H b = some o := by
  unfold noT
  split
  · rename_i ps h
    rw [h] at e
    exact absurd (Option.some.inj e).symm (n ps)
  · exact e
/-- the law's promise: what its def computes at every script -/
theorem told_law {K : PySem.W.Frag} {w0 : Ew} {H : Hp} {z : Addr} {ns : List Int} {f : List Val → Sto → R Val} (s : SqL K H z (ns.map V.int)) (hT : ∀ p ∈ w0.T, H p.1 = some (.tbl #[])) (h : ∃ S, f [.scr (ns.map .int)] [] = .ok (.dat (.bool true)) S) :
    spEv K w0 f [.ref z] H (fun v _ => v = .bl true) (fun _ _ _ => False) := by
  obtain ⟨S, h⟩ := h
  have datI : ∀ l : List Int, DaAll K (noT H) (l.map V.int) (l.map PyData.int) := fun l => by
    induction l with
    | nil => exact .nil
    | cons i l ih => exact .cons (.int i) ih
  have s2 : SqL K (noT H) z (ns.map V.int) := by
    rcases s with (q | ⟨o, q⟩) | q
    · exact .inl (.inl (noT_of q fun ps y => by cases y))
    · exact .inl (.inr ⟨o, noT_of q fun ps y => by cases y⟩)
    · exact .inr q
  refine ⟨noT H, [], [], [.scr (ns.map .int)], ⟨fun b o e => (noT_some e).1, rfl, fun k a e => by simp at e, by simp, fun p hp => LamX.TabS.nil (hT p hp), fun b ps e => (noT_some e).2 ps rfl⟩, .cons ⟨z, _, rfl, s2, datI ns⟩ .nil, ?_⟩
  rw [h]
  intro G1 as1 H1 v x r a
  cases a
  rfl
end Dw

set_option Elab.async false
set_option linter.all false
set_option maxRecDepth 100000
set_option maxHeartbeats 4000000
/-! What is asked of the written part for an own error. -/
namespace Dw
open PySem PySem.W PySem.Calls PyProof.Rows PySem.HandSPX
theorem err_mk {K : Frag} {prog : Program} {Fl : Fld} {C fI D0 N cda cc : Addr} {nm q0 qual : Str} {bs sub : List Value} {sn : List Str} {ab : Bool} {col : Option Bool} {dd od an cdd cld : Option Addr} {k0 k1 k2 k3 k5 : Option Value} {oc doc pm ct ccl cl : Value} {osl ccs csl : Array (Option Value)} {vs : Array Value} {file : Str} {tf : Tok} {p1 p2 q1 q2 q3 q4 q5 q6 q7 q8 q9 q10 : Pos}
    (xL : K.lookup C = some (excClassObj nm q0 C N bs [.ref D0, .type "ValueError", .type "Exception", .type "BaseException", .type "object"] true sn sub ab col dd k0 k1 k2 k3 k5 "ValueError.__new__"))
    (al : ks_superIn K C C "__init__" = some (some (.builtin "ValueError.__init__"))) (sa : findIn K (.ref C) "__setattr__" = some (some (.builtin "object.__setattr__"))) (ga : findIn K (.ref C) "__getattribute__" = some (some (.builtin "BaseException.__getattribute__"))) (gg : findIn K (.ref C) "__getattr__" = some none)
    (noN : findIn K (.ref C) Fl.s = some none) (iC : findIn K (.ref C) "__init__" = some (some (.ref fI))) (tC : typeIn K (.ref fI) = some (.type "function")) (kC : keepIn K (.ref C) = true) (exC : subIn K (.ref C) (.type "BaseException") = some true) (veC : subIn K (.ref C) (.type "ValueError") = some true)
    (slf : mroIn K C (.ref C) = some true) (tyC : typeIn K (.ref C) = some (.type "type")) (hdC : hasDictIn K C = true) (opq : nsIn K cStatics "thirdparty.any" = some none) (sup : nsIn K mainGlobals "super" = some none)
    (fn : K.lookup fI = some ⟨oc, od, .func (ksFn "__init__" qual (eA Fl.s p1 p2) (eB Fl.s ⟨q1, q2, q3, q4, q5, q6, q7, q8, q9, q10⟩) (eS Fl.s) .none .none doc pm an (.ref cda) ct cc), osl⟩) (cd : codeIn K (.ref cda) qual = true) (co : K.lookup cda = some ⟨ccl, cdd, .fields vs, ccs⟩) (cell : K.lookup cc = some ⟨cl, cld, .cell (some (.ref C)), csl⟩)
    (hl : (q3.endLine == q5.line) = true) (hv : vs[2]? = some (.str file tf)) (hf : ((prog.main.file : Str) == file) = true) (top : (prog.main.scope.names.lookup ("super" : Str)).isSome = false) : ErrTxt K prog Fl.s C fI := by
  have hcl : clsIn K C = some { name := nm, bases := bs, mro := .ref C :: [.ref D0, .type "ValueError", .type "Exception", .type "BaseException", .type "object"], ns := N, qualname := q0, hasDict := true, slotNames := sn, subclasses := sub, abstract := ab, collection := col, hasDel := false } := by unfold clsIn; rw [xL] <;> rfl
  have al2 : alongIn K "__init__" [.ref D0, .type "ValueError", .type "Exception", .type "BaseException", .type "object"] = some (some (.builtin "ValueError.__init__")) := by
    unfold ks_superIn at al
    rw [hcl, Option.bind_some] at al
    simpa using al
  exact ⟨⟨_, _, _, _, _, _, _, _, _, _, _, _, _, _, _, xL, (show refsVE [.type "ValueError", .type "Exception", .type "BaseException", .type "object"] = true by decide +kernel), al2⟩, sa, ga, gg, noN, iC, tC, kC, exC, veC, slf, tyC, hdC, opq, sup, top, ⟨_, _, _, _, _, _, _, _, _, _, _, _, _, _, _, _, _, _, _, _, _, _, fn, cd, hl, co, hv, hf, cell⟩⟩
end Dw

set_option Elab.async false
set_option linter.all false
set_option maxRecDepth 100000
set_option maxHeartbeats 4000000
namespace Dw
open PySem PySem.Spec PyProof.Rows L2
def topS (i : Nat) : Stmt := PySem.Challenge.pw_duewrights_k06_whole_trees_judged.main.body.getD i (.Pass ⟨0, 0, 0, 0⟩)
def F_is_whole : Fd := ⟨1, 1, false, [.ret (.and [(.isi (.var 0) .int), (.not (.isi (.var 0) .bool))])]⟩
def F_is_number : Fd := ⟨3, 3, false, [.ife (.or [(.not (.callK 0 [] [0] [] [(.var 0)] [])), (.and [(.notN (.var 1)), (.cmp .lt (.var 0) (.var 1))])])
    [.ret (.con (.bool false))]
    [],
    .ret (.or [(.isN (.var 2)), (.cmp .le (.var 0) (.var 2))])]⟩
def F_is_string : Fd := ⟨1, 1, false, [.ret (.isi (.var 0) .str)]⟩
def F_is_of_signs : Fd := ⟨2, 3, false, [.ret (.blt .all1 [(.cp (.cmp .inn (.var 2) (.var 1)) (.name 2) (.val (.var 0)) [] [2])])]⟩
def F_is_tuple_of : Fd := ⟨2, 2, false, [.ret (.and [(.isi (.var 0) .tuple), (.cmp .eq (.blt .len [(.var 0)]) (.var 1))])]⟩
def F_is_tuple_up_to : Fd := ⟨2, 2, false, [.ret (.and [(.isi (.var 0) .tuple), (.cmp .le (.blt .len [(.var 0)]) (.var 1))])]⟩
def F_are_unlike : Fd := ⟨1, 3, false, [.ret (.blt .all1 [(.cp (.cmp .nin (.var 2) (.sl (.var 0) none (some (.var 1)))) (.names [1, 2]) (.enu (.var 0)) [] [1, 2])])]⟩
def F_is_name_form : Fd := ⟨1, 1, false, [.ife (.or [(.not (.callK 2 [] [0] [] [(.var 0)] [])), (.not (.chn .le .le (.con (.int 1)) (.blt .len [(.var 0)]) (.glob 0)))])
    [.ret (.con (.bool false))]
    [],
    .ret (.and [(.callK 3 [] [0, 1] [] [(.var 0), (.glob 1)] []), (.cmp .nin (.var 0) (.glob 2))])]⟩
def F_is_marked : Fd := ⟨3, 3, false, [.ret (.and [(.callK 4 [] [0, 1] [] [(.var 0), (.var 2)] []), (.callK 2 [] [0] [] [(.idx (.var 0) (.con (.int 0)))] []), (.cmp .eq (.idx (.var 0) (.con (.int 0))) (.var 1))])]⟩
def F_is_any_sum : Fd := ⟨2, 2, false, [.ife (.or [(.not (.callK 4 [] [0, 1] [] [(.var 0), (.con (.int 3))] [])), (.not (.callK 2 [] [0] [] [(.idx (.var 0) (.con (.int 0)))] [])), (.cmp .nin (.idx (.var 0) (.con (.int 0))) (.var 1))])
    [.ret (.con (.bool false))]
    [],
    .ret (.and [(.callK 10 [] [0] [] [(.idx (.var 0) (.con (.int 1)))] []), (.callK 10 [] [0] [] [(.idx (.var 0) (.con (.int 2)))] [])])]⟩
def F_is_part : Fd := ⟨1, 1, false, [.ife (.callK 8 [] [0, 1, 2] [] [(.var 0), (.con (.str (Str.ofString "number"))), (.con (.int 2))] [])
    [.ret (.callK 1 [] [0, 1, 2] [] [(.idx (.var 0) (.con (.int 1))), (.con (.int 0)), (.glob 3)] [])]
    [],
    .ife (.callK 8 [] [0, 1, 2] [] [(.var 0), (.con (.str (Str.ofString "name"))), (.con (.int 2))] [])
    [.ret (.callK 7 [] [0] [] [(.idx (.var 0) (.con (.int 1)))] [])]
    [],
    .ret (.callK 9 [] [0, 1] [] [(.var 0), (.dsp true [(.glob 4), (.glob 5)] [true, false])] [])]⟩
def F_leaves_in : Fd := ⟨1, 1, false, [.ret (.ife (.cmp .inn (.idx (.var 0) (.con (.int 0))) (.tup [(.con (.str (Str.ofString "number"))), (.con (.str (Str.ofString "name")))])) (.con (.int 1)) (.bin .add (.callK 11 [] [0] [] [(.idx (.var 0) (.con (.int 1)))] []) (.callK 11 [] [0] [] [(.idx (.var 0) (.con (.int 2)))] [])))]⟩
def F_is_expression_tree : Fd := ⟨1, 1, false, [.ret (.and [(.callK 10 [] [0] [] [(.var 0)] []), (.cmp .le (.callK 11 [] [0] [] [(.var 0)] []) (.glob 6))])]⟩
def F_is_test_tree : Fd := ⟨1, 1, false, [.ife (.not (.callK 9 [] [0, 1] [] [(.var 0), (.glob 7)] []))
    [.ret (.con (.bool false))]
    [],
    .ret (.and [(.cmp .le (.callK 11 [] [0] [] [(.idx (.var 0) (.con (.int 1)))] []) (.glob 6)), (.cmp .le (.callK 11 [] [0] [] [(.idx (.var 0) (.con (.int 2)))] []) (.glob 6))])]⟩
def F_names_of_treework : Fd := ⟨1, 1, false, [.ife (.cmp .eq (.idx (.var 0) (.con (.int 0))) (.con (.str (Str.ofString "name"))))
    [.ret (.lst [(.idx (.var 0) (.con (.int 1)))])]
    [],
    .ret (.ife (.cmp .ne (.idx (.var 0) (.con (.int 0))) (.con (.str (Str.ofString "number")))) (.bin .add (.callK 14 [] [0] [] [(.idx (.var 0) (.con (.int 1)))] []) (.callK 14 [] [0] [] [(.idx (.var 0) (.con (.int 2)))] [])) (.lst []))]⟩
def F_is_body : Fd := ⟨2, 3, false, [.ret (.and [(.isi (.var 0) .tuple), (.blt .all1 [(.cp (.callK 18 [] [0, 1] [] [(.var 2), (.var 1)] []) (.name 2) (.val (.var 0)) [] [2])])])]⟩
def F_is_full_body : Fd := ⟨2, 2, false, [.ret (.and [(.callK 15 [] [0, 1] [] [(.var 0), (.var 1)] []), (.cmp .ne (.var 0) (.tup []))])]⟩
def F_is_branch : Fd := ⟨2, 2, false, [.ife (.callK 8 [] [0, 1, 2] [] [(.var 0), (.con (.str (Str.ofString "if"))), (.con (.int 4))] [])
    [.ret (.and [(.callK 13 [] [0] [] [(.idx (.var 0) (.con (.int 1)))] []), (.callK 16 [] [0, 1] [] [(.idx (.var 0) (.con (.int 2))), (.var 1)] []), (.callK 15 [] [0, 1] [] [(.idx (.var 0) (.con (.int 3))), (.var 1)] [])])]
    [],
    .ret (.and [(.callK 8 [] [0, 1, 2] [] [(.var 0), (.con (.str (Str.ofString "while"))), (.con (.int 3))] []), (.callK 13 [] [0] [] [(.idx (.var 0) (.con (.int 1)))] []), (.callK 16 [] [0, 1] [] [(.idx (.var 0) (.con (.int 2))), (.var 1)] [])])]⟩
def F_is_statement : Fd := ⟨2, 2, false, [.ife (.callK 8 [] [0, 1, 2] [] [(.var 0), (.con (.str (Str.ofString "read"))), (.con (.int 2))] [])
    [.ret (.callK 7 [] [0] [] [(.idx (.var 0) (.con (.int 1)))] [])]
    [],
    .ife (.callK 8 [] [0, 1, 2] [] [(.var 0), (.con (.str (Str.ofString "set"))), (.con (.int 3))] [])
    [.ret (.and [(.callK 7 [] [0] [] [(.idx (.var 0) (.con (.int 1)))] []), (.callK 12 [] [0] [] [(.idx (.var 0) (.con (.int 2)))] [])])]
    [],
    .ife (.callK 8 [] [0, 1, 2] [] [(.var 0), (.con (.str (Str.ofString "work"))), (.con (.int 2))] [])
    [.ret (.callK 1 [] [0, 1, 2] [] [(.idx (.var 0) (.con (.int 1))), (.con (.int 1)), (.glob 8)] [])]
    [],
    .ife (.callK 8 [] [0, 1, 2] [] [(.var 0), (.con (.str (Str.ofString "hold"))), (.con (.int 2))] [])
    [.ret (.and [(.not (.var 1)), (.callK 16 [] [0, 1] [] [(.idx (.var 0) (.con (.int 1))), (.con (.bool true))] [])])]
    [],
    .ret (.callK 17 [] [0, 1] [] [(.var 0), (.var 1)] [])]⟩
def F_inner_bodies : Fd := ⟨1, 3, false, [.ret (.cp (.tup [(.var 1), (.var 2)]) (.names [1, 2]) (.enu (.var 0)) [(.callK 20 [] [0, 1] [] [(.idx (.var 0) (.con (.int 0))), (.var 1)] [])] [1, 2])]⟩
def F_is_bodied : Fd := ⟨2, 2, false, [.ret (.cmp .inn (.tup [(.var 0), (.var 1)]) (.tup [(.tup [(.con (.str (Str.ofString "hold"))), (.con (.int 1))]), (.tup [(.con (.str (Str.ofString "if"))), (.con (.int 2))]), (.tup [(.con (.str (Str.ofString "if"))), (.con (.int 3))]), (.tup [(.con (.str (Str.ofString "while"))), (.con (.int 2))]), (.tup [(.con (.str (Str.ofString "either"))), (.con (.int 1))]), (.tup [(.con (.str (Str.ofString "either"))), (.con (.int 2))])]))]⟩
def F_placed_in : Fd := ⟨1, 8, false, [.asg (.name 1) (.new []),
    .fr (.names [2, 3]) (.enu (.var 0))
    [.exp (.mth .append (.var 1) [(.tup [(.tup [(.var 2)]), (.var 3)])]),
    .fr (.names [4, 5]) (.val (.callK 19 [] [0] [] [(.var 3)] []))
    [.asg (.name 1) (.cat (.var 1) (.cp (.tup [(.dsp true [(.var 2), (.var 4), (.var 6)] [false, false, true]), (.var 7)]) (.names [6, 7]) (.val (.callK 21 [] [0] [] [(.var 5)] [])) [] [6, 7]))]],
    .ret (.var 1)]⟩
def F_names_told : Fd := ⟨1, 1, false, [.ife (.cmp .eq (.idx (.var 0) (.con (.int 0))) (.con (.str (Str.ofString "read"))))
    [.ret (.lst [(.idx (.var 0) (.con (.int 1)))])]
    [],
    .ife (.cmp .eq (.idx (.var 0) (.con (.int 0))) (.con (.str (Str.ofString "set"))))
    [.ret (.dsp false [(.idx (.var 0) (.con (.int 1))), (.callK 14 [] [0] [] [(.idx (.var 0) (.con (.int 2)))] [])] [false, true])]
    [],
    .ret (.ife (.cmp .inn (.idx (.var 0) (.con (.int 0))) (.tup [(.con (.str (Str.ofString "if"))), (.con (.str (Str.ofString "while")))])) (.callK 14 [] [0] [] [(.idx (.var 0) (.con (.int 1)))] []) (.lst []))]⟩
def F_is_ranged : Fd := ⟨2, 3, false, [.ife (.or [(.not (.callK 4 [] [0, 1] [] [(.var 0), (.var 1)] [])), (.not (.callK 7 [] [0] [] [(.idx (.var 0) (.con (.int 0)))] []))])
    [.ret (.con (.bool false))]
    [],
    .ret (.and [(.blt .all1 [(.cp (.callK 1 [] [0, 1, 2] [] [(.var 2), (.con (.int 0)), (.glob 8)] []) (.name 2) (.val (.sl (.var 0) (some (.con (.int 1))) none)) [] [2])]), (.cmp .le (.idx (.var 0) (.con (.int 1))) (.idx (.var 0) (.con (.int 2))))])]⟩
def F_is_keep : Fd := ⟨1, 1, false, [.ret (.and [(.callK 23 [] [0, 1] [] [(.var 0), (.con (.int 4))] []), (.chn .le .le (.idx (.var 0) (.con (.int 1))) (.idx (.var 0) (.con (.int 3))) (.idx (.var 0) (.con (.int 2))))])]⟩
def F_own_names : Fd := ⟨1, 2, false, [.ret (.bin .add (.cp (.idx (.var 1) (.con (.int 0))) (.name 1) (.val (.idx (.var 0) (.con (.int 2)))) [] [1]) (.cp (.idx (.var 1) (.con (.int 0))) (.name 1) (.val (.idx (.var 0) (.con (.int 3)))) [] [1]))]⟩
def F_are_declared : Fd := ⟨1, 7, false, [.asg (.name 1) (.callK 25 [] [0] [] [(.var 0)] []),
    .asg (.name 2) (.sl (.var 1) none (some (.blt .len [(.idx (.var 0) (.con (.int 2)))]))),
    .asg (.name 3) (.callK 14 [] [0] [] [(.idx (.var 0) (.con (.int 6)))] []),
    .fr (.names [4, 5]) (.val (.callK 21 [] [0] [] [(.idx (.var 0) (.con (.int 5)))] []))
    [.asg (.name 3) (.bin .add (.var 3) (.callK 22 [] [0] [] [(.var 5)] []))],
    .ife (.or [(.not (.callK 6 [] [0] [] [(.var 1)] [])), (.cmp .gt (.blt .len [(.callK 21 [] [0] [] [(.idx (.var 0) (.con (.int 5)))] [])]) (.glob 9))])
    [.ret (.con (.bool false))]
    [],
    .ret (.and [(.blt .all1 [(.cp (.cmp .inn (.var 6) (.var 1)) (.name 6) (.val (.var 3)) [] [6])]), (.blt .all1 [(.cp (.cmp .inn (.var 6) (.var 2)) (.name 6) (.val (.callK 14 [] [0] [] [(.idx (.var 0) (.con (.int 4)))] [])) [] [6])])])]⟩
def F_is_task_tree : Fd := ⟨1, 2, false, [.ife (.or [(.not (.callK 8 [] [0, 1, 2] [] [(.var 0), (.con (.str (Str.ofString "task"))), (.con (.int 7))] [])), (.not (.callK 7 [] [0] [] [(.idx (.var 0) (.con (.int 1)))] []))])
    [.ret (.con (.bool false))]
    [],
    .ife (.or [(.not (.callK 5 [] [0, 1] [] [(.idx (.var 0) (.con (.int 2))), (.glob 10)] [])), (.not (.callK 5 [] [0, 1] [] [(.idx (.var 0) (.con (.int 3))), (.glob 10)] []))])
    [.ret (.con (.bool false))]
    [],
    .ife (.or [(.not (.blt .all1 [(.cp (.callK 24 [] [0] [] [(.var 1)] []) (.name 1) (.val (.idx (.var 0) (.con (.int 2)))) [] [1])])), (.not (.blt .all1 [(.cp (.callK 23 [] [0, 1] [] [(.var 1), (.con (.int 3))] []) (.name 1) (.val (.idx (.var 0) (.con (.int 3)))) [] [1])]))])
    [.ret (.con (.bool false))]
    [],
    .ife (.or [(.not (.callK 12 [] [0] [] [(.idx (.var 0) (.con (.int 4)))] [])), (.not (.callK 15 [] [0, 1] [] [(.idx (.var 0) (.con (.int 5))), (.con (.bool false))] [])), (.not (.callK 12 [] [0] [] [(.idx (.var 0) (.con (.int 6)))] []))])
    [.ret (.con (.bool false))]
    [],
    .ret (.callK 26 [] [0] [] [(.var 0)] [])]⟩
def F_is_hand_body : Fd := ⟨1, 2, false, [.ret (.and [(.isi (.var 0) .tuple), (.cmp .ne (.var 0) (.tup [])), (.blt .all1 [(.cp (.callK 29 [] [0] [] [(.var 1)] []) (.name 1) (.val (.var 0)) [] [1])])])]⟩
def F_is_hand_statement : Fd := ⟨1, 1, false, [.ife (.callK 8 [] [0, 1, 2] [] [(.var 0), (.con (.str (Str.ofString "serve"))), (.con (.int 2))] [])
    [.ret (.callK 1 [] [0, 1, 2] [] [(.idx (.var 0) (.con (.int 1))), (.con (.int 1)), (.glob 8)] [])]
    [],
    .ife (.callK 8 [] [0, 1, 2] [] [(.var 0), (.con (.str (Str.ofString "rest"))), (.con (.int 3))] [])
    [.ret (.and [(.callK 1 [] [0, 1, 2] [] [(.idx (.var 0) (.con (.int 1))), (.con (.int 0)), (.glob 8)] []), (.callK 1 [] [0, 1, 2] [] [(.idx (.var 0) (.con (.int 2))), (.idx (.var 0) (.con (.int 1))), (.glob 8)] [])])]
    [],
    .ret (.and [(.callK 8 [] [0, 1, 2] [] [(.var 0), (.con (.str (Str.ofString "either"))), (.con (.int 3))] []), (.callK 28 [] [0] [] [(.idx (.var 0) (.con (.int 1)))] []), (.callK 28 [] [0] [] [(.idx (.var 0) (.con (.int 2)))] [])])]⟩
def F_does_serve : Fd := ⟨1, 2, false, [.ret (.blt .any1 [(.cp (.or [(.cmp .eq (.idx (.var 1) (.con (.int 0))) (.con (.str (Str.ofString "serve")))), (.callK 31 [] [0] [] [(.var 1)] [])]) (.name 1) (.val (.var 0)) [] [1])])]⟩
def F_does_each_serve : Fd := ⟨1, 1, false, [.ret (.and [(.cmp .eq (.idx (.var 0) (.con (.int 0))) (.con (.str (Str.ofString "either")))), (.callK 30 [] [0] [] [(.idx (.var 0) (.con (.int 1)))] []), (.callK 30 [] [0] [] [(.idx (.var 0) (.con (.int 2)))] [])])]⟩
def F_is_hand_tree : Fd := ⟨1, 1, false, [.ret (.and [(.callK 28 [] [0] [] [(.var 0)] []), (.cmp .le (.blt .len [(.callK 21 [] [0] [] [(.var 0)] [])]) (.glob 11)), (.callK 30 [] [0] [] [(.var 0)] [])])]⟩
def F_is_crew_tree : Fd := ⟨1, 2, false, [.ife (.or [(.not (.callK 4 [] [0, 1] [] [(.var 0), (.con (.int 2))] [])), (.not (.callK 5 [] [0, 1] [] [(.idx (.var 0) (.con (.int 0))), (.glob 12)] [])), (.cmp .eq (.idx (.var 0) (.con (.int 0))) (.tup []))])
    [.ret (.con (.bool false))]
    [],
    .ife (.or [(.not (.blt .all1 [(.cp (.callK 27 [] [0] [] [(.var 1)] []) (.name 1) (.val (.idx (.var 0) (.con (.int 0)))) [] [1])])), (.not (.callK 32 [] [0] [] [(.idx (.var 0) (.con (.int 1)))] []))])
    [.ret (.con (.bool false))]
    [],
    .ret (.callK 6 [] [0] [] [(.cp (.idx (.var 1) (.con (.int 1))) (.name 1) (.val (.idx (.var 0) (.con (.int 0)))) [] [1])] [])]⟩
def F_text_by : Fd := ⟨1, 0, false, []⟩
def F_part_words : Fd := ⟨1, 0, false, []⟩
def F_closed : Fd := ⟨1, 0, false, []⟩
def F_test_words : Fd := ⟨1, 0, false, []⟩
def F_body_rows : Fd := ⟨1, 0, false, []⟩
def F_statement_rows : Fd := ⟨1, 0, false, []⟩
def F_task_rows : Fd := ⟨1, 0, false, []⟩
def F_crew_rows : Fd := ⟨1, 0, false, []⟩
def F_check_task : Fd := ⟨1, 1, false, [.ife (.not (.callK 27 [] [0] [] [(.var 0)] []))
    [.rai 0 (.var 0)]
    []]⟩
def F_check_hand : Fd := ⟨1, 1, false, [.ife (.not (.callK 32 [] [0] [] [(.var 0)] []))
    [.rai 0 (.var 0)]
    []]⟩
def F_check_crew : Fd := ⟨1, 1, false, [.ife (.not (.callK 33 [] [0] [] [(.var 0)] []))
    [.rai 0 (.var 0)]
    []]⟩
def F_places_of : Fd := ⟨1, 0, false, []⟩
def F_is_task : Fd := ⟨1, 1, false, [.ret (.callK 27 [] [0] [] [(.var 0)] [])]⟩
def F_task_text : Fd := ⟨1, 1, false, [.exp (.callK 42 [] [0] [] [(.var 0)] []),
    .ret (.callK 34 [] [0] [] [(.callK 40 [] [0] [] [(.var 0)] [])] [])]⟩
def F_places : Fd := ⟨1, 1, false, [.exp (.callK 42 [] [0] [] [(.var 0)] []),
    .ret (.blt .tup1 [(.callK 45 [] [0] [] [(.var 0)] [])])]⟩
def F_names_in_crew : Fd := ⟨1, 2, false, [.ret (.blt .tup1 [(.cp (.idx (.var 1) (.con (.int 1))) (.name 1) (.val (.idx (.var 0) (.con (.int 0)))) [] [1])])]⟩
def F_is_crew : Fd := ⟨1, 1, false, [.ret (.callK 33 [] [0] [] [(.var 0)] [])]⟩
def F_crew_text : Fd := ⟨1, 1, false, [.exp (.callK 44 [] [0] [] [(.var 0)] []),
    .ret (.callK 34 [] [0] [] [(.callK 41 [] [0] [] [(.var 0)] [])] [])]⟩
def F_names_of_crews : Fd := ⟨1, 1, false, [.exp (.callK 44 [] [0] [] [(.var 0)] []),
    .ret (.callK 49 [] [0] [] [(.var 0)] [])]⟩
def F_is_hand : Fd := ⟨1, 1, false, [.ret (.callK 32 [] [0] [] [(.var 0)] [])]⟩
def F_hand_text : Fd := ⟨1, 1, false, [.exp (.callK 43 [] [0] [] [(.var 0)] []),
    .ret (.callK 34 [] [0] [] [(.callK 38 [] [0] [] [(.var 0)] [])] [])]⟩
def F__law_well : Fd := ⟨2, 5, true, [.asg (.name 2) (.bin .add (.con (.int 4527026)) (.bin .mul (.con (.int 5231)) (.var 1))),
    .fr (.name 3) (.val (.sl (.var 0) none (some (.con (.int 9)))))
    [.asg (.name 2) (.bin .mod (.blt .int1 [(.bin .add (.bin .add (.bin .mul (.var 2) (.con (.int 47521))) (.bin .mod (.blt .int1 [(.var 3)]) (.con (.int 2147483549)))) (.con (.int 41)))]) (.con (.int 2147483629)))],
    .asg (.name 4) (.ife (.cmp .lt (.var 1) (.blt .len [(.var 0)])) (.blt .int1 [(.idx (.var 0) (.var 1))]) (.con (.int 0))),
    .asg (.name 2) (.bin .mod (.blt .int1 [(.bin .add (.bin .add (.bin .mul (.var 2) (.con (.int 61))) (.bin .mul (.bin .mod (.blt .int1 [(.var 4)]) (.con (.int 2147483549))) (.con (.int 16007)))) (.con (.int 17)))]) (.con (.int 2147483629))),
    .ret (.new [(.ife (.or [(.cmp .lt (.var 4) (.con (.int 0))), (.cmp .ge (.var 4) (.bin .pow (.con (.int 10)) (.con (.int 15))))]) (.blt .abs [(.var 4)]) (.con (.int 0))), (.var 2), (.con (.int 0))])]⟩
def F__law_draw : Fd := ⟨2, 4, false, [.ife (.cmp .gt (.idx (.var 0) (.con (.int 0))) (.con (.int 0)))
    [.subn (.var 0) (.con (.int 0)) 3 (.blt .divmod [(.idx (.var 0) (.con (.int 0))), (.var 1)]),
    .ret (.var 3)]
    [],
    .sub (.var 0) (.con (.int 2)) (.bin .add (.idx (.var 0) (.con (.int 2))) (.con (.int 1))),
    .asg (.name 2) (.bin .mod (.blt .int1 [(.bin .add (.bin .mul (.idx (.var 0) (.con (.int 1))) (.con (.int 40009))) (.bin .mul (.con (.int 15013)) (.idx (.var 0) (.con (.int 2)))))]) (.con (.int 2147483629))),
    .sub (.var 0) (.con (.int 1)) (.bin .mod (.blt .int1 [(.bin .add (.bin .mul (.var 2) (.bin .add (.bin .mod (.blt .int1 [(.var 2)]) (.con (.int 5003))) (.con (.int 20011)))) (.idx (.var 0) (.con (.int 2))))]) (.con (.int 2147483629))),
    .ret (.bin .mod (.blt .int1 [(.bin .fdiv (.idx (.var 0) (.con (.int 1))) (.con (.int 1031)))]) (.var 1))]⟩
def F__law_of : Fd := ⟨2, 2, false, [.ret (.idx (.var 1) (.callK 56 [] [0, 1] [] [(.var 0), (.blt .len [(.var 1)])] []))]⟩
def F__law_is : Fd := ⟨2, 2, false, [.ret (.cmp .eq (.blt .repr [(.var 0)]) (.blt .repr [(.var 1)]))]⟩
def F__law_pick_names : Fd := ⟨1, 2, false, [.ret (.cp (.tup [(.con (.str (Str.ofString "name"))), (.var 1)]) (.name 1) (.val (.var 0)) [] [1])]⟩
def F__law_test : Fd := ⟨2, 4, false, [.asg (.name 2) (.callK 57 [] [0, 1] [] [(.var 0), (.bin .add (.callK 59 [] [0] [] [(.var 1)] []) (.lst [(.tup [(.con (.str (Str.ofString "number"))), (.con (.int 1))])]))] []),
    .asg (.name 3) (.callK 57 [] [0, 1] [] [(.var 0), (.bin .add (.lst [(.tup [(.con (.str (Str.ofString "number"))), (.callK 56 [] [0, 1] [] [(.var 0), (.con (.int 3))] [])])]) (.callK 59 [] [0] [] [(.var 1)] []))] []),
    .ret (.tup [(.callK 57 [] [0, 1] [] [(.var 0), (.tup [(.con (.str (Str.ofString "="))), (.con (.str (Str.ofString "<")))])] []), (.var 2), (.var 3)])]⟩
def F__law_inside : Fd := ⟨3, 7, false, [.asg (.names [3, 4]) (.idx (.var 2) (.var 1)),
    .asg (.name 5) (.cp (.tup [(.con (.str (Str.ofString "name"))), (.var 6)]) (.name 6) (.val (.srt (.var 2))) [(.and [(.cmp .le (.var 3) (.idx (.idx (.var 2) (.var 6)) (.con (.int 0)))), (.cmp .le (.idx (.idx (.var 2) (.var 6)) (.con (.int 1))) (.var 4))])] [6]),
    .asg (.name 5) (.bin .add (.var 5) (.bin .mul (.lst [(.tup [(.con (.str (Str.ofString "number"))), (.bin .add (.var 3) (.callK 56 [] [0, 1] [] [(.var 0), (.bin .add (.bin .sub (.var 4) (.var 3)) (.con (.int 1)))] []))])]) (.con (.int 2)))),
    .ret (.callK 57 [] [0, 1] [] [(.var 0), (.bin .add (.var 5) (.lst [(.tup [(.con (.str (Str.ofString "-"))), (.tup [(.con (.str (Str.ofString "number"))), (.bin .add (.var 3) (.var 4))]), (.tup [(.con (.str (Str.ofString "name"))), (.var 1)])]), (.tup [(.con (.str (Str.ofString "+"))), (.tup [(.con (.str (Str.ofString "name"))), (.var 1)]), (.tup [(.con (.str (Str.ofString "number"))), (.con (.int 1))])])]))] [])]⟩
def F__law_body : Fd := ⟨6, 14, false, [.par 6 7 (.new []) (.srt (.var 3)),
    .fr (.name 8) (.rng1 (.bin .add (.con (.int 1)) (.callK 56 [] [0, 1] [] [(.var 0), (.con (.int 3))] [])))
    [.asg (.name 9) (.callK 56 [] [0, 1] [] [(.var 0), (.con (.int 9))] []),
    .ife (.and [(.cmp .eq (.var 9) (.con (.int 0))), (.cmp .ne (.var 2) (.lst []))])
    [.exp (.mth .append (.var 6) [(.tup [(.con (.str (Str.ofString "read"))), (.callK 57 [] [0, 1] [] [(.var 0), (.var 2)] [])])])]
    [.ife (.and [(.cmp .lt (.var 9) (.con (.int 3))), (.cmp .ne (.var 7) (.lst []))])
    [.asg (.name 10) (.callK 57 [] [0, 1] [] [(.var 0), (.var 7)] []),
    .exp (.mth .append (.var 6) [(.tup [(.con (.str (Str.ofString "set"))), (.var 10), (.callK 61 [] [0, 1, 2] [] [(.var 0), (.var 10), (.var 3)] [])])])]
    [.ife (.and [(.cmp .eq (.var 9) (.con (.int 3))), (.cmp .ne (.var 2) (.lst []))])
    [.asg (.name 10) (.callK 57 [] [0, 1] [] [(.var 0), (.var 2)] []),
    .asg (.name 11) (.tup [(.con (.str (Str.ofString "set"))), (.var 10), (.tup [(.con (.str (Str.ofString "+"))), (.tup [(.con (.str (Str.ofString "name"))), (.var 10)]), (.tup [(.con (.str (Str.ofString "number"))), (.con (.int 1))])])]),
    .exp (.mth .append (.var 6) [(.tup [(.con (.str (Str.ofString "while"))), (.tup [(.con (.str (Str.ofString "<"))), (.tup [(.con (.str (Str.ofString "name"))), (.var 10)]), (.tup [(.con (.str (Str.ofString "number"))), (.idx (.idx (.var 3) (.var 10)) (.con (.int 1)))])]), (.tup [(.var 11)])])])]
    [.ife (.and [(.cmp .lt (.var 9) (.con (.int 6))), (.cmp .gt (.var 4) (.con (.int 0)))])
    [.asg (.name 12) (.callK 62 [] [0, 1, 2, 3, 4, 5] [] [(.var 0), (.var 1), (.var 2), (.var 3), (.bin .sub (.var 4) (.con (.int 1))), (.var 5)] []),
    .asg (.name 13) (.ife (.cmp .eq (.callK 56 [] [0, 1] [] [(.var 0), (.con (.int 2))] []) (.con (.int 0))) (.callK 62 [] [0, 1, 2, 3, 4, 5] [] [(.var 0), (.var 1), (.var 2), (.var 3), (.bin .sub (.var 4) (.con (.int 1))), (.var 5)] []) (.tup [])),
    .exp (.mth .append (.var 6) [(.tup [(.con (.str (Str.ofString "if"))), (.callK 60 [] [0, 1] [] [(.var 0), (.var 7)] []), (.var 12), (.var 13)])])]
    [.ife (.and [(.cmp .eq (.var 9) (.con (.int 6))), (.not (.var 5))])
    [.exp (.mth .append (.var 6) [(.tup [(.con (.str (Str.ofString "hold"))), (.callK 62 [] [0, 1, 2, 3, 4, 5] [] [(.var 0), (.var 1), (.var 2), (.var 3), (.con (.int 0)), (.con (.bool true))] [])])])]
    [.exp (.mth .append (.var 6) [(.tup [(.con (.str (Str.ofString "work"))), (.bin .add (.con (.int 1)) (.callK 56 [] [0, 1] [] [(.var 0), (.con (.int 3))] []))])])]]]]]],
    .ret (.blt .tup1 [(.var 6)])]⟩
def F__law_many : Fd := ⟨1, 4, false, [.asg (.name 1) (.blt .len [(.var 0)]),
    .fr (.name 2) (.val (.var 0))
    [.fr (.name 3) (.val (.sl (.var 2) (some (.con (.int 1))) none))
    [.ife (.and [(.cmp .inn (.idx (.var 2) (.con (.int 0))) (.tup [(.con (.str (Str.ofString "if"))), (.con (.str (Str.ofString "while"))), (.con (.str (Str.ofString "hold")))])), (.or [(.cmp .eq (.var 3) (.tup [])), (.isi (.idx (.var 3) (.con (.int 0))) .tuple)])])
    [.asg (.name 1) (.bin .add (.var 1) (.callK 63 [] [0] [] [(.var 3)] []))]
    []]],
    .ret (.var 1)]⟩
def F__law_rows_most : Fd := ⟨2, 6, false, [.asg (.name 2) (.con (.int 1)),
    .fr (.name 3) (.val (.var 0))
    [.ife (.cmp .eq (.idx (.var 3) (.con (.int 0))) (.con (.str (Str.ofString "read"))))
    [.asg (.name 2) (.bin .mul (.var 2) (.bin .add (.bin .sub (.idx (.idx (.var 1) (.idx (.var 3) (.con (.int 1)))) (.con (.int 1))) (.idx (.idx (.var 1) (.idx (.var 3) (.con (.int 1)))) (.con (.int 0)))) (.con (.int 1))))]
    [.ife (.cmp .inn (.idx (.var 3) (.con (.int 0))) (.tup [(.con (.str (Str.ofString "if"))), (.con (.str (Str.ofString "while"))), (.con (.str (Str.ofString "hold")))]))
    [.asg (.name 4) (.cp (.callK 64 [] [0, 1] [] [(.var 5), (.var 1)] []) (.name 5) (.val (.sl (.var 3) (some (.con (.int 1))) none)) [(.or [(.cmp .eq (.var 5) (.tup [])), (.isi (.idx (.var 5) (.con (.int 0))) .tuple)])] [5]),
    .asg (.name 2) (.bin .mul (.var 2) (.blt .sum1 [(.var 4)]))]
    []]],
    .ret (.var 2)]⟩
def F__law_drawn : Fd := ⟨2, 12, false, [.asg (.name 2) (.cp (.tup [(.bin .add (.con (.str (Str.ofString "k"))) (.var 9)), (.callK 56 [] [0, 1] [] [(.var 0), (.con (.int 2))] [])]) (.name 9) (.val (.sl (.con (.str (Str.ofString "ab"))) none (some (.callK 56 [] [0, 1] [] [(.var 0), (.con (.int 3))] [])))) [] [9]),
    .asg (.name 2) (.cp (.tup [(.var 10), (.var 11), (.bin .add (.var 11) (.callK 56 [] [0, 1] [] [(.var 0), (.con (.int 3))] [])), (.var 11)]) (.names [10, 11]) (.val (.var 2)) [] [10, 11]),
    .asg (.name 3) (.cp (.tup [(.bin .add (.con (.str (Str.ofString "v"))) (.var 9)), (.con (.int 0)), (.callK 56 [] [0, 1] [] [(.var 0), (.con (.int 3))] [])]) (.name 9) (.val (.sl (.con (.str (Str.ofString "ab"))) none (some (.callK 56 [] [0, 1] [] [(.var 0), (.con (.int 3))] [])))) [] [9]),
    .asg (.name 4) (.dic (.cp (.bin .add (.sl (.var 10) none (some (.con (.int 1)))) (.tup [(.sl (.var 10) (some (.con (.int 1))) (some (.con (.int 3))))])) (.name 10) (.val (.bin .add (.var 2) (.var 3))) [] [10])),
    .asg (.name 5) (.ife (.cmp .gt (.callK 56 [] [0, 1] [] [(.var 0), (.con (.int 9))] []) (.con (.int 0))) (.callK 62 [] [0, 1, 2, 3, 4, 5] [] [(.var 0), (.var 2), (.cp (.idx (.var 10) (.con (.int 0))) (.name 10) (.val (.var 3)) [] [10]), (.var 4), (.con (.int 2)), (.con (.bool false))] []) (.tup [])),
    .fr (.name 6) (.rng1 (.con (.int 3)))
    [.asg (.name 5) (.ife (.or [(.cmp .gt (.callK 63 [] [0] [] [(.var 5)] []) (.con (.int 16))), (.cmp .gt (.callK 64 [] [0, 1] [] [(.var 5), (.var 4)] []) (.con (.int 12)))]) (.sl (.var 5) none (some (.neg (.con (.int 1))))) (.var 5))],
    .asg (.name 7) (.tup [(.con (.str (Str.ofString "number"))), (.bin .add (.con (.int 6)) (.callK 56 [] [0, 1] [] [(.var 0), (.con (.int 7))] []))]),
    .ife (.and [(.cmp .ne (.var 2) (.lst [])), (.cmp .eq (.callK 56 [] [0, 1] [] [(.var 0), (.con (.int 3))] []) (.con (.int 0)))])
    [.asg (.name 7) (.tup [(.con (.str (Str.ofString "+"))), (.var 7), (.tup [(.con (.str (Str.ofString "name"))), (.idx (.idx (.var 2) (.con (.int 0))) (.con (.int 0)))])])]
    [],
    .asg (.name 8) (.callK 57 [] [0, 1] [] [(.var 0), (.lst [(.tup [(.con (.str (Str.ofString "number"))), (.con (.int 24))]), (.tup [(.con (.str (Str.ofString "number"))), (.con (.int 24))]), (.tup [(.con (.str (Str.ofString "number"))), (.con (.int 16))]), (.tup [(.con (.str (Str.ofString "number"))), (.con (.int 12))])])] []),
    .ife (.and [(.cmp .ne (.var 2) (.lst [])), (.cmp .lt (.idx (.idx (.var 2) (.con (.int 0))) (.con (.int 2))) (.con (.int 2))), (.cmp .eq (.callK 56 [] [0, 1] [] [(.var 0), (.con (.int 2))] []) (.con (.int 0)))])
    [.asg (.name 8) (.tup [(.con (.str (Str.ofString "+"))), (.tup [(.con (.str (Str.ofString "number"))), (.con (.int 12))]), (.tup [(.con (.str (Str.ofString "*"))), (.tup [(.con (.str (Str.ofString "number"))), (.con (.int 12))]), (.tup [(.con (.str (Str.ofString "name"))), (.idx (.idx (.var 2) (.con (.int 0))) (.con (.int 0)))])])])]
    [],
    .ret (.tup [(.con (.str (Str.ofString "task"))), (.var 1), (.blt .tup1 [(.var 2)]), (.blt .tup1 [(.var 3)]), (.var 7), (.var 5), (.var 8)])]⟩
def F__law_hand : Fd := ⟨1, 2, false, [.asg (.name 1) (.new [(.tup [(.con (.str (Str.ofString "serve"))), (.bin .add (.con (.int 1)) (.callK 56 [] [0, 1] [] [(.var 0), (.con (.int 6))] []))])]),
    .ife (.cmp .eq (.callK 56 [] [0, 1] [] [(.var 0), (.con (.int 2))] []) (.con (.int 0)))
    [.exp (.mth .append (.var 1) [(.tup [(.con (.str (Str.ofString "rest"))), (.con (.int 0)), (.callK 56 [] [0, 1] [] [(.var 0), (.con (.int 2))] [])])])]
    [],
    .ife (.cmp .eq (.callK 56 [] [0, 1] [] [(.var 0), (.con (.int 4))] []) (.con (.int 0)))
    [.exp (.mth .append (.var 1) [(.tup [(.con (.str (Str.ofString "either"))), (.tup [(.tup [(.con (.str (Str.ofString "serve"))), (.con (.int 2))])]), (.tup [(.tup [(.con (.str (Str.ofString "serve"))), (.con (.int 3))]), (.tup [(.con (.str (Str.ofString "rest"))), (.con (.int 0)), (.con (.int 1))])])])])]
    [],
    .ret (.blt .tup1 [(.var 1)])]⟩
def F__law_refused : Fd := ⟨1, 0, false, []⟩
def F__law_wrongs : Fd := ⟨1, 14, false, [.asg (.names [1, 2, 3, 4, 5, 6, 7]) (.var 0),
    .asg (.names [8, 9]) (.tup [(.tup [(.con (.str (Str.ofString "number"))), (.con (.int 1))]), (.tup [(.con (.str (Str.ofString "work"))), (.con (.int 1))])]),
    .asg (.name 10) (.new [(.con .none), (.sl (.var 0) none (some (.con (.int 6)))), (.blt .lst1 [(.var 0)]), (.bin .add (.tup [(.con (.str (Str.ofString "work")))]) (.sl (.var 0) (some (.con (.int 1))) none)), (.tup [(.var 1), (.con (.str (Str.ofString "if"))), (.var 3), (.var 4), (.var 5), (.var 6), (.var 7)])]),
    .asg (.name 11) (.lst [(.tup [(.con (.str (Str.ofString "work"))), (.con (.int 0))]), (.tup [(.con (.str (Str.ofString "work"))), (.con (.int 10))]), (.tup [(.con (.str (Str.ofString "work"))), (.con (.bool true))]), (.tup [(.con (.str (Str.ofString "read"))), (.con (.str (Str.ofString "zz")))]), (.tup [(.con (.str (Str.ofString "set"))), (.con (.str (Str.ofString "zz"))), (.var 8)]), (.tup [(.con (.str (Str.ofString "hold"))), (.tup [])]), (.tup [(.con (.str (Str.ofString "free")))])]),
    .fr (.name 12) (.val (.bin .add (.var 11) (.lst [(.sl (.var 9) none (some (.con (.int 1))))])))
    [.exp (.mth .append (.var 10) [(.tup [(.var 1), (.var 2), (.var 3), (.var 4), (.var 5), (.bin .add (.var 6) (.tup [(.var 12)])), (.var 7)])])],
    .asg (.name 11) (.lst [(.tup [(.con (.str (Str.ofString "if"))), (.tup [(.con (.str (Str.ofString "<"))), (.var 8)]), (.tup [(.var 9)]), (.tup [])]), (.tup [(.con (.str (Str.ofString "if"))), (.tup [(.con (.str (Str.ofString "="))), (.var 8), (.var 8)]), (.tup []), (.tup [(.var 9)])]), (.tup [(.con (.str (Str.ofString "while"))), (.tup [(.con (.str (Str.ofString "="))), (.var 8), (.var 8)]), (.tup [])])]),
    .fr (.name 12) (.val (.bin .add (.var 11) (.lst [(.lst [(.con (.str (Str.ofString "work"))), (.con (.int 1))])])))
    [.exp (.mth .append (.var 10) [(.tup [(.var 1), (.var 2), (.var 3), (.var 4), (.var 5), (.bin .add (.var 6) (.tup [(.var 12)])), (.var 7)])])],
    .asg (.name 13) (.tup [(.con (.str (Str.ofString "hold"))), (.tup [(.tup [(.con (.str (Str.ofString "if"))), (.tup [(.con (.str (Str.ofString "="))), (.var 8), (.var 8)]), (.tup [(.tup [(.con (.str (Str.ofString "hold"))), (.tup [(.var 9)])])]), (.tup [])])])]),
    .exp (.mth .append (.var 10) [(.tup [(.var 1), (.var 2), (.var 3), (.var 4), (.var 5), (.bin .add (.var 6) (.tup [(.var 13)])), (.var 7)])]),
    .exp (.mth .append (.var 10) [(.tup [(.var 1), (.var 2), (.tup [(.tup [(.con (.str (Str.ofString "a"))), (.con (.int 0)), (.con (.int 1)), (.con (.int 2))])]), (.tup []), (.var 8), (.tup []), (.var 8)])]),
    .exp (.mth .append (.var 10) [(.tup [(.var 1), (.var 2), (.tup [(.tup [(.con (.str (Str.ofString "a"))), (.con (.int 0)), (.con (.int 1)), (.con (.int 0))])]), (.tup [(.tup [(.con (.str (Str.ofString "a"))), (.con (.int 0)), (.con (.int 1))])]), (.var 8), (.tup []), (.var 8)])]),
    .exp (.mth .append (.var 10) [(.tup [(.var 1), (.var 2), (.tup []), (.tup [(.tup [(.con (.str (Str.ofString "a"))), (.con (.int 2)), (.con (.int 1))])]), (.var 8), (.tup []), (.var 8)])]),
    .exp (.mth .append (.var 10) [(.tup [(.var 1), (.var 2), (.tup []), (.tup [(.tup [(.con (.str (Str.ofString "a"))), (.con (.int 0)), (.con (.int 1))])]), (.tup [(.con (.str (Str.ofString "name"))), (.con (.str (Str.ofString "a")))]), (.tup []), (.var 8)])]),
    .exp (.mth .append (.var 10) [(.tup [(.var 1), (.var 2), (.tup []), (.tup [(.tup [(.con (.str (Str.ofString "a"))), (.con (.int 0)), (.con (.int 10))])]), (.var 8), (.tup []), (.var 8)])]),
    .exp (.mth .append (.var 10) [(.tup [(.var 1), (.var 2), (.bin .mul (.tup [(.tup [(.con (.str (Str.ofString "a"))), (.con (.int 0)), (.con (.int 1)), (.con (.int 0))])]) (.con (.int 2))), (.tup []), (.var 8), (.tup []), (.var 8)])]),
    .exp (.mth .append (.var 10) [(.tup [(.var 1), (.var 2), (.tup [(.tup [(.con (.str (Str.ofString "a"))), (.con (.int 0)), (.con (.int 1)), (.con (.int 0))]), (.tup [(.con (.str (Str.ofString "b"))), (.con (.int 0)), (.con (.int 1)), (.con (.int 0))]), (.tup [(.con (.str (Str.ofString "c"))), (.con (.int 0)), (.con (.int 1)), (.con (.int 0))])]), (.tup []), (.var 8), (.tup []), (.var 8)])]),
    .exp (.mth .append (.var 10) [(.tup [(.var 1), (.var 2), (.var 3), (.var 4), (.var 5), (.bin .mul (.tup [(.var 9)]) (.con (.int 21))), (.var 7)])]),
    .ret (.bin .add (.var 10) (.lst [(.tup [(.var 1), (.var 2), (.var 3), (.var 4), (.var 5), (.var 6), (.tup [(.con (.str (Str.ofString "name"))), (.con (.str (Str.ofString "zz")))])])]))]⟩
def F__law_right : Fd := ⟨1, 10, false, [.asg (.names [1, 2]) (.tup [(.callK 65 [] [0, 1] [] [(.var 0), (.con (.str (Str.ofString "cam")))] []), (.callK 66 [] [0] [] [(.var 0)] [])]),
    .asg (.name 3) (.tup [(.tup [(.var 1)]), (.var 2)]),
    .asg (.name 4) (.lst [(.callK 46 [] [0] [] [(.var 1)] []), (.callK 46 ["value"] [0] [] [] [(.var 1)]), (.callK 53 ["value"] [0] [] [] [(.var 2)]), (.callK 50 [] [0] [] [(.var 3)] []), (.callK 50 ["value"] [0] [] [] [(.var 3)]), (.callK 52 [] [0] [] [(.var 3)] [])]),
    .ife (.not (.callK 58 [] [0, 1] [] [(.var 4), (.bin .add (.bin .mul (.lst [(.con (.bool true))]) (.con (.int 5))) (.lst [(.tup [(.con (.str (Str.ofString "cam")))])]))] []))
    [.ret (.con (.bool false))]
    [],
    .fr (.name 5) (.val (.callK 68 [] [0] [] [(.var 1)] []))
    [.asg (.name 4) (.new [(.callK 46 [] [0] [] [(.var 5)] []), (.callK 50 [] [0] [] [(.tup [(.tup [(.var 5)]), (.var 2)])] []), (.call 71 [.var 5])]),
    .exp (.mth .append (.var 4) [(.call 73 [.var 5])]),
    .ife (.not (.callK 58 [] [0, 1] [] [(.var 4), (.lst [(.con (.bool false)), (.con (.bool false)), (.tup [(.var 5)]), (.tup [(.var 5)])])] []))
    [.ret (.con (.bool false))]
    []],
    .asg (.name 6) (.lst [(.con .none), (.tup []), (.lst [(.tup [(.con (.str (Str.ofString "serve"))), (.con (.int 1))])]), (.tup [(.tup [(.con (.str (Str.ofString "serve"))), (.con (.int 0))])]), (.tup [(.tup [(.con (.str (Str.ofString "serve"))), (.con (.int 10))])]), (.tup [(.tup [(.con (.str (Str.ofString "rest"))), (.con (.int 1)), (.con (.int 2))])])]),
    .asg (.name 6) (.cat (.var 6) (.lst [(.tup [(.tup [(.con (.str (Str.ofString "rest"))), (.con (.int 2)), (.con (.int 1))]), (.tup [(.con (.str (Str.ofString "serve"))), (.con (.int 1))])]), (.bin .mul (.tup [(.tup [(.con (.str (Str.ofString "serve"))), (.con (.int 1))])]) (.con (.int 9))), (.tup [(.tup [(.con (.str (Str.ofString "either"))), (.tup [(.tup [(.con (.str (Str.ofString "serve"))), (.con (.int 1))])]), (.tup [])])])])),
    .exp (.mth .append (.var 6) [(.tup [(.tup [(.con (.str (Str.ofString "either"))), (.tup [(.tup [(.con (.str (Str.ofString "serve"))), (.con (.int 1))])]), (.tup [(.tup [(.con (.str (Str.ofString "rest"))), (.con (.int 1)), (.con (.int 1))])])])])]),
    .asg (.name 6) (.bin .add (.var 6) (.lst [(.tup [(.tup [(.con (.str (Str.ofString "serve"))), (.con (.bool true))])]), (.tup [(.tup [(.con (.str (Str.ofString "serve"))), (.con (.int 1))]), (.tup [(.con (.str (Str.ofString "go"))), (.con (.int 1))])]), (.tup [(.con (.str (Str.ofString "serve"))), (.con (.int 1))])])),
    .fr (.name 5) (.val (.var 6))
    [.asg (.name 4) (.new [(.callK 53 [] [0] [] [(.var 5)] []), (.callK 50 [] [0] [] [(.tup [(.tup [(.var 1)]), (.var 5)])] []), (.call 75 [.var 5])]),
    .exp (.mth .append (.var 4) [(.call 77 [.var 5, .var 1])]),
    .ife (.not (.callK 58 [] [0, 1] [] [(.var 4), (.lst [(.con (.bool false)), (.con (.bool false)), (.tup [(.var 5)]), (.tup [(.tup [(.tup [(.var 1)]), (.var 5)])])])] []))
    [.ret (.con (.bool false))]
    []],
    .asg (.name 7) (.lst [(.con .none), (.tup [(.tup []), (.var 2)]), (.tup [(.tup [(.var 1), (.var 1)]), (.var 2)]), (.tup [(.lst [(.var 1)]), (.var 2)]), (.tup [(.tup [(.var 1)])]), (.tup [(.tup [(.var 1)]), (.var 2), (.con (.int 1))]), (.lst [(.tup [(.var 1)]), (.var 2)])]),
    .fr (.name 5) (.val (.var 7))
    [.ife (.not (.callK 58 [] [0, 1] [] [(.lst [(.callK 50 ["value"] [0] [] [] [(.var 5)]), (.call 79 [.var 5])]), (.lst [(.con (.bool false)), (.tup [(.var 5)])])] []))
    [.ret (.con (.bool false))]
    []],
    .asg (.name 8) (.blt .tup1 [(.cp (.bin .add (.bin .add (.sl (.var 1) none (some (.con (.int 1)))) (.tup [(.var 9)])) (.sl (.var 1) (some (.con (.int 2))) none)) (.name 9) (.val (.tup [(.con (.str (Str.ofString "a"))), (.con (.str (Str.ofString "b"))), (.con (.str (Str.ofString "c"))), (.con (.str (Str.ofString "d"))), (.con (.str (Str.ofString "e")))])) [] [9])]),
    .asg (.name 4) (.lst [(.callK 50 [] [0] [] [(.tup [(.sl (.var 8) none (some (.con (.int 4)))), (.var 2)])] []), (.callK 50 [] [0] [] [(.tup [(.var 8), (.var 2)])] []), (.callK 53 [] [0] [] [(.bin .mul (.tup [(.tup [(.con (.str (Str.ofString "serve"))), (.con (.int 1))])]) (.con (.int 8)))] [])]),
    .ret (.callK 58 [] [0, 1] [] [(.var 4), (.lst [(.con (.bool true)), (.con (.bool false)), (.con (.bool true))])] [])]⟩
def F_law : Fd := ⟨1, 2, false, [.ret (.blt .all1 [(.cp (.callK 69 [] [0] [] [(.callK 55 [] [0, 1] [] [(.var 0), (.var 1)] [])] []) (.name 1) (.rng1 (.blt .max2 [(.con (.int 3)), (.blt .min2 [(.blt .len [(.var 0)]), (.con (.int 5))])])) [] [1])])]⟩
def D : List Dt := [⟨Str.ofString "is_whole", Str.ofString "is_whole", topS 2, [Str.ofString "value"], [Str.ofString "value"], F_is_whole, false⟩,
  ⟨Str.ofString "is_number", Str.ofString "is_number", topS 3, [Str.ofString "value", Str.ofString "low", Str.ofString "high"], [Str.ofString "value", Str.ofString "low", Str.ofString "high"], F_is_number, false⟩,
  ⟨Str.ofString "is_string", Str.ofString "is_string", topS 4, [Str.ofString "value"], [Str.ofString "value"], F_is_string, false⟩,
  ⟨Str.ofString "is_of_signs", Str.ofString "is_of_signs", topS 5, [Str.ofString "value", Str.ofString "signs", Str.ofString "sign"], [Str.ofString "value", Str.ofString "signs"], F_is_of_signs, false⟩,
  ⟨Str.ofString "is_tuple_of", Str.ofString "is_tuple_of", topS 6, [Str.ofString "value", Str.ofString "many"], [Str.ofString "value", Str.ofString "many"], F_is_tuple_of, false⟩,
  ⟨Str.ofString "is_tuple_up_to", Str.ofString "is_tuple_up_to", topS 7, [Str.ofString "value", Str.ofString "most"], [Str.ofString "value", Str.ofString "most"], F_is_tuple_up_to, false⟩,
  ⟨Str.ofString "are_unlike", Str.ofString "are_unlike", topS 8, [Str.ofString "row", Str.ofString "at", Str.ofString "each"], [Str.ofString "row"], F_are_unlike, false⟩,
  ⟨Str.ofString "is_name_form", Str.ofString "is_name_form", topS 22, [Str.ofString "value"], [Str.ofString "value"], F_is_name_form, false⟩,
  ⟨Str.ofString "is_marked", Str.ofString "is_marked", topS 23, [Str.ofString "value", Str.ofString "mark", Str.ofString "many"], [Str.ofString "value", Str.ofString "mark", Str.ofString "many"], F_is_marked, false⟩,
  ⟨Str.ofString "is_any_sum", Str.ofString "is_any_sum", topS 24, [Str.ofString "value", Str.ofString "marks"], [Str.ofString "value", Str.ofString "marks"], F_is_any_sum, false⟩,
  ⟨Str.ofString "is_part", Str.ofString "is_part", topS 25, [Str.ofString "value"], [Str.ofString "value"], F_is_part, false⟩,
  ⟨Str.ofString "leaves_in", Str.ofString "leaves_in", topS 26, [Str.ofString "part"], [Str.ofString "part"], F_leaves_in, false⟩,
  ⟨Str.ofString "is_expression_tree", Str.ofString "is_expression_tree", topS 27, [Str.ofString "value"], [Str.ofString "value"], F_is_expression_tree, false⟩,
  ⟨Str.ofString "is_test_tree", Str.ofString "is_test_tree", topS 28, [Str.ofString "value"], [Str.ofString "value"], F_is_test_tree, false⟩,
  ⟨Str.ofString "names_of_treework", Str.ofString "names_of", topS 29, [Str.ofString "part"], [Str.ofString "part"], F_names_of_treework, false⟩,
  ⟨Str.ofString "is_body", Str.ofString "is_body", topS 31, [Str.ofString "value", Str.ofString "is_held", Str.ofString "each"], [Str.ofString "value", Str.ofString "is_held"], F_is_body, false⟩,
  ⟨Str.ofString "is_full_body", Str.ofString "is_full_body", topS 32, [Str.ofString "value", Str.ofString "is_held"], [Str.ofString "value", Str.ofString "is_held"], F_is_full_body, false⟩,
  ⟨Str.ofString "is_branch", Str.ofString "is_branch", topS 33, [Str.ofString "value", Str.ofString "is_held"], [Str.ofString "value", Str.ofString "is_held"], F_is_branch, false⟩,
  ⟨Str.ofString "is_statement", Str.ofString "is_statement", topS 34, [Str.ofString "value", Str.ofString "is_held"], [Str.ofString "value", Str.ofString "is_held"], F_is_statement, false⟩,
  ⟨Str.ofString "inner_bodies", Str.ofString "inner_bodies", topS 35, [Str.ofString "statement", Str.ofString "at", Str.ofString "part"], [Str.ofString "statement"], F_inner_bodies, false⟩,
  ⟨Str.ofString "is_bodied", Str.ofString "is_bodied", topS 36, [Str.ofString "word", Str.ofString "at"], [Str.ofString "word", Str.ofString "at"], F_is_bodied, false⟩,
  ⟨Str.ofString "placed_in", Str.ofString "placed_in", topS 37, [Str.ofString "body", Str.ofString "found", Str.ofString "at", Str.ofString "statement", Str.ofString "inner", Str.ofString "part", Str.ofString "place", Str.ofString "each"], [Str.ofString "body"], F_placed_in, false⟩,
  ⟨Str.ofString "names_told", Str.ofString "names_told", topS 38, [Str.ofString "statement"], [Str.ofString "statement"], F_names_told, false⟩,
  ⟨Str.ofString "is_ranged", Str.ofString "is_ranged", topS 39, [Str.ofString "value", Str.ofString "many", Str.ofString "each"], [Str.ofString "value", Str.ofString "many"], F_is_ranged, false⟩,
  ⟨Str.ofString "is_keep", Str.ofString "is_keep", topS 40, [Str.ofString "value"], [Str.ofString "value"], F_is_keep, false⟩,
  ⟨Str.ofString "own_names", Str.ofString "own_names", topS 41, [Str.ofString "task", Str.ofString "each"], [Str.ofString "task"], F_own_names, false⟩,
  ⟨Str.ofString "are_declared", Str.ofString "are_declared", topS 42, [Str.ofString "task", Str.ofString "own", Str.ofString "kept", Str.ofString "told", Str.ofString "_", Str.ofString "statement", Str.ofString "name"], [Str.ofString "task"], F_are_declared, false⟩,
  ⟨Str.ofString "is_task_tree", Str.ofString "is_task_tree", topS 43, [Str.ofString "value", Str.ofString "each"], [Str.ofString "value"], F_is_task_tree, false⟩,
  ⟨Str.ofString "is_hand_body", Str.ofString "is_hand_body", topS 44, [Str.ofString "value", Str.ofString "each"], [Str.ofString "value"], F_is_hand_body, false⟩,
  ⟨Str.ofString "is_hand_statement", Str.ofString "is_hand_statement", topS 45, [Str.ofString "value"], [Str.ofString "value"], F_is_hand_statement, false⟩,
  ⟨Str.ofString "does_serve", Str.ofString "does_serve", topS 46, [Str.ofString "body", Str.ofString "each"], [Str.ofString "body"], F_does_serve, false⟩,
  ⟨Str.ofString "does_each_serve", Str.ofString "does_each_serve", topS 47, [Str.ofString "statement"], [Str.ofString "statement"], F_does_each_serve, false⟩,
  ⟨Str.ofString "is_hand_tree", Str.ofString "is_hand_tree", topS 48, [Str.ofString "value"], [Str.ofString "value"], F_is_hand_tree, false⟩,
  ⟨Str.ofString "is_crew_tree", Str.ofString "is_crew_tree", topS 49, [Str.ofString "value", Str.ofString "task"], [Str.ofString "value"], F_is_crew_tree, false⟩,
  ⟨Str.ofString "text_by", Str.ofString "text_by", topS 54, [Str.ofString "rows", Str.ofString "row"], [Str.ofString "rows"], F_text_by, false⟩,
  ⟨Str.ofString "part_words", Str.ofString "part_words", topS 55, [Str.ofString "part", Str.ofString "left", Str.ofString "right"], [Str.ofString "part"], F_part_words, false⟩,
  ⟨Str.ofString "closed", Str.ofString "closed", topS 56, [Str.ofString "part", Str.ofString "marks"], [Str.ofString "part", Str.ofString "marks"], F_closed, false⟩,
  ⟨Str.ofString "test_words", Str.ofString "test_words", topS 57, [Str.ofString "test"], [Str.ofString "test"], F_test_words, false⟩,
  ⟨Str.ofString "body_rows", Str.ofString "body_rows", topS 58, [Str.ofString "body", Str.ofString "found", Str.ofString "statement"], [Str.ofString "body"], F_body_rows, false⟩,
  ⟨Str.ofString "statement_rows", Str.ofString "statement_rows", topS 59, [Str.ofString "statement", Str.ofString "word", Str.ofString "other", Str.ofString "each"], [Str.ofString "statement"], F_statement_rows, false⟩,
  ⟨Str.ofString "task_rows", Str.ofString "task_rows", topS 60, [Str.ofString "task", Str.ofString "found", Str.ofString "each", Str.ofString "part"], [Str.ofString "task"], F_task_rows, false⟩,
  ⟨Str.ofString "crew_rows", Str.ofString "crew_rows", topS 61, [Str.ofString "crew", Str.ofString "found", Str.ofString "task"], [Str.ofString "crew"], F_crew_rows, false⟩,
  ⟨Str.ofString "check_task", Str.ofString "check_task", topS 63, [Str.ofString "value"], [Str.ofString "value"], F_check_task, false⟩,
  ⟨Str.ofString "check_hand", Str.ofString "check_hand", topS 64, [Str.ofString "value"], [Str.ofString "value"], F_check_hand, false⟩,
  ⟨Str.ofString "check_crew", Str.ofString "check_crew", topS 65, [Str.ofString "value"], [Str.ofString "value"], F_check_crew, false⟩,
  ⟨Str.ofString "places_of", Str.ofString "places_of", topS 67, [Str.ofString "task", Str.ofString "place", Str.ofString "_"], [Str.ofString "task"], F_places_of, false⟩,
  ⟨Str.ofString "is_task", Str.ofString "is_task", topS 68, [Str.ofString "value"], [Str.ofString "value"], F_is_task, false⟩,
  ⟨Str.ofString "task_text", Str.ofString "task_text", topS 69, [Str.ofString "task"], [Str.ofString "task"], F_task_text, false⟩,
  ⟨Str.ofString "places", Str.ofString "places", topS 70, [Str.ofString "task"], [Str.ofString "task"], F_places, false⟩,
  ⟨Str.ofString "names_in_crew", Str.ofString "names_in_crew", topS 72, [Str.ofString "crew", Str.ofString "task"], [Str.ofString "crew"], F_names_in_crew, false⟩,
  ⟨Str.ofString "is_crew", Str.ofString "is_crew", topS 74, [Str.ofString "value"], [Str.ofString "value"], F_is_crew, false⟩,
  ⟨Str.ofString "crew_text", Str.ofString "crew_text", topS 75, [Str.ofString "crew"], [Str.ofString "crew"], F_crew_text, false⟩,
  ⟨Str.ofString "names_of_crews", Str.ofString "names_of", topS 76, [Str.ofString "crew"], [Str.ofString "crew"], F_names_of_crews, false⟩,
  ⟨Str.ofString "is_hand", Str.ofString "is_hand", topS 79, [Str.ofString "value"], [Str.ofString "value"], F_is_hand, false⟩,
  ⟨Str.ofString "hand_text", Str.ofString "hand_text", topS 80, [Str.ofString "hand"], [Str.ofString "hand"], F_hand_text, false⟩,
  ⟨Str.ofString "_law_well", Str.ofString "_law_well", topS 82, [Str.ofString "script", Str.ofString "lap", Str.ofString "stirred", Str.ofString "cell", Str.ofString "own"], [Str.ofString "script", Str.ofString "lap"], F__law_well, false⟩,
  ⟨Str.ofString "_law_draw", Str.ofString "_law_draw", topS 83, [Str.ofString "well", Str.ofString "limit", Str.ofString "mixed", Str.ofString "figure"], [Str.ofString "well", Str.ofString "limit"], F__law_draw, false⟩,
  ⟨Str.ofString "_law_of", Str.ofString "_law_of", topS 84, [Str.ofString "well", Str.ofString "some"], [Str.ofString "well", Str.ofString "some"], F__law_of, false⟩,
  ⟨Str.ofString "_law_is", Str.ofString "_law_is", topS 85, [Str.ofString "told", Str.ofString "due"], [Str.ofString "told", Str.ofString "due"], F__law_is, false⟩,
  ⟨Str.ofString "_law_pick_names", Str.ofString "_law_pick_names", topS 86, [Str.ofString "some", Str.ofString "own"], [Str.ofString "some"], F__law_pick_names, false⟩,
  ⟨Str.ofString "_law_test", Str.ofString "_law_test", topS 87, [Str.ofString "well", Str.ofString "names", Str.ofString "one", Str.ofString "two"], [Str.ofString "well", Str.ofString "names"], F__law_test, false⟩,
  ⟨Str.ofString "_law_inside", Str.ofString "_law_inside", topS 88, [Str.ofString "well", Str.ofString "name", Str.ofString "spans", Str.ofString "low", Str.ofString "high", Str.ofString "some", Str.ofString "own"], [Str.ofString "well", Str.ofString "name", Str.ofString "spans"], F__law_inside, false⟩,
  ⟨Str.ofString "_law_body", Str.ofString "_law_body", topS 89, [Str.ofString "well", Str.ofString "keeps", Str.ofString "freshes", Str.ofString "spans", Str.ofString "deep", Str.ofString "held", Str.ofString "found", Str.ofString "names", Str.ofString "lap", Str.ofString "way", Str.ofString "name", Str.ofString "step", Str.ofString "one", Str.ofString "two"], [Str.ofString "well", Str.ofString "keeps", Str.ofString "freshes", Str.ofString "spans", Str.ofString "deep", Str.ofString "held"], F__law_body, false⟩,
  ⟨Str.ofString "_law_many", Str.ofString "_law_many", topS 90, [Str.ofString "body", Str.ofString "found", Str.ofString "own", Str.ofString "part"], [Str.ofString "body"], F__law_many, false⟩,
  ⟨Str.ofString "_law_rows_most", Str.ofString "_law_rows_most", topS 91, [Str.ofString "body", Str.ofString "spans", Str.ofString "found", Str.ofString "own", Str.ofString "inner", Str.ofString "part"], [Str.ofString "body", Str.ofString "spans"], F__law_rows_most, false⟩,
  ⟨Str.ofString "_law_drawn", Str.ofString "_law_drawn", topS 92, [Str.ofString "well", Str.ofString "name", Str.ofString "keeps", Str.ofString "freshes", Str.ofString "spans", Str.ofString "body", Str.ofString "lap", Str.ofString "due", Str.ofString "again", Str.ofString "letter", Str.ofString "own", Str.ofString "low"], [Str.ofString "well", Str.ofString "name"], F__law_drawn, false⟩,
  ⟨Str.ofString "_law_hand", Str.ofString "_law_hand", topS 93, [Str.ofString "well", Str.ofString "some"], [Str.ofString "well"], F__law_hand, false⟩,
  ⟨Str.ofString "_law_refused", Str.ofString "_law_refused", topS 94, [Str.ofString "act", Str.ofString "e"], [Str.ofString "act"], F__law_refused, false⟩,
  ⟨Str.ofString "_law_wrongs", Str.ofString "_law_wrongs", topS 95, [Str.ofString "task", Str.ofString "word", Str.ofString "name", Str.ofString "keeps", Str.ofString "freshes", Str.ofString "due", Str.ofString "body", Str.ofString "again", Str.ofString "one", Str.ofString "work", Str.ofString "found", Str.ofString "some", Str.ofString "own", Str.ofString "nest"], [Str.ofString "task"], F__law_wrongs, false⟩,
  ⟨Str.ofString "_law_right", Str.ofString "_law_right", topS 96, [Str.ofString "well", Str.ofString "task", Str.ofString "hand", Str.ofString "crew", Str.ofString "had", Str.ofString "bad", Str.ofString "hands", Str.ofString "some", Str.ofString "five", Str.ofString "name"], [Str.ofString "well"], F__law_right, true⟩,
  ⟨Str.ofString "law", Str.ofString "law", topS 97, [Str.ofString "script", Str.ofString "lap"], [Str.ofString "script"], F_law, false⟩]
def P : Dc := ⟨D.map (·.gname), [Str.ofString "MOST_LETTERS", Str.ofString "LETTERS", Str.ofString "KEY_WORDS", Str.ofString "MOST_NUMBER", Str.ofString "SUMS", Str.ofString "TIMES", Str.ofString "MOST_LEAVES", Str.ofString "COMPARES", Str.ofString "MOST_VALUE", Str.ofString "MOST_STATEMENTS", Str.ofString "MOST_NAMES", Str.ofString "MOST_IN_HAND", Str.ofString "MOST_TASKS"], [Str.ofString "InvalidTree"], [.given], [(0, 1, [], [0], []), (2, 1, [], [0], []), (3, 2, [], [0, 1], []), (4, 2, [], [0, 1], []), (10, 1, [], [0], []), (8, 3, [], [0, 1, 2], []), (1, 3, [], [0, 1, 2], []), (7, 1, [], [0], []), (9, 2, [], [0, 1], []), (11, 1, [], [0], []), (14, 1, [], [0], []), (18, 2, [], [0, 1], []), (15, 2, [], [0, 1], []), (13, 1, [], [0], []), (16, 2, [], [0, 1], []), (12, 1, [], [0], []), (17, 2, [], [0, 1], []), (20, 2, [], [0, 1], []), (19, 1, [], [0], []), (21, 1, [], [0], []), (23, 2, [], [0, 1], []), (25, 1, [], [0], []), (22, 1, [], [0], []), (6, 1, [], [0], []), (5, 2, [], [0, 1], []), (24, 1, [], [0], []), (26, 1, [], [0], []), (29, 1, [], [0], []), (28, 1, [], [0], []), (31, 1, [], [0], []), (30, 1, [], [0], []), (27, 1, [], [0], []), (32, 1, [], [0], []), (33, 1, [], [0], []), (42, 1, [], [0], []), (34, 1, [], [0], []), (40, 1, [], [0], []), (45, 1, [], [0], []), (44, 1, [], [0], []), (41, 1, [], [0], []), (49, 1, [], [0], []), (43, 1, [], [0], []), (38, 1, [], [0], []), (56, 2, [], [0, 1], []), (57, 2, [], [0, 1], []), (59, 1, [], [0], []), (61, 3, [], [0, 1, 2], []), (62, 6, [], [0, 1, 2, 3, 4, 5], []), (60, 2, [], [0, 1], []), (63, 1, [], [0], []), (64, 2, [], [0, 1], []), (65, 2, [], [0, 1], []), (66, 1, [], [0], []), (46, 1, [], [0], []), (46, 0, [Str.ofString "value"], [0], []), (53, 0, [Str.ofString "value"], [0], []), (50, 1, [], [0], []), (50, 0, [Str.ofString "value"], [0], []), (52, 1, [], [0], []), (58, 2, [], [0, 1], []), (68, 1, [], [0], []), (47, 1, [], [0], []), (67, 1, [], [0], []), (48, 0, [Str.ofString "task"], [0], []), (53, 1, [], [0], []), (54, 1, [], [0], []), (51, 1, [], [0], []), (69, 1, [], [0], []), (55, 2, [], [0, 1], [])], fun _ _ _ _ => false⟩
def L : List Lm := [⟨67, [5], (.callK 47 [] [0] [] [(.var 0)] []), 0, true, [none]⟩,
  ⟨67, [5], (.callK 48 ["task"] [0] [] [] [(.var 0)]), 0, true, [none]⟩,
  ⟨67, [5], (.callK 54 [] [0] [] [(.var 0)] []), 0, true, [none]⟩,
  ⟨67, [5, 1], (.callK 51 [] [0] [] [(.tup [(.tup [(.var 1)]), (.var 0)])] []), 0, true, [none]⟩,
  ⟨67, [5], (.callK 52 [] [0] [] [(.var 0)] []), 0, true, [none]⟩]
def GL : List PyData := [.int 8, .str (Str.ofString "abcdefghijklmnopqrstuvwxyz"), .tuple ([Str.ofString "again", Str.ofString "due", Str.ofString "either", Str.ofString "else", Str.ofString "end", Str.ofString "free", Str.ofString "hand", Str.ofString "hold", Str.ofString "if", Str.ofString "keep", Str.ofString "or", Str.ofString "read", Str.ofString "rest", Str.ofString "serve", Str.ofString "set", Str.ofString "task", Str.ofString "var", Str.ofString "while", Str.ofString "work"].map .str), .int 99, .tuple ([Str.ofString "+", Str.ofString "-"].map .str), .str (Str.ofString "*"), .int 15, .tuple ([Str.ofString "=", Str.ofString "<"].map .str), .int 9, .int 20, .int 2, .int 8, .int 4]
theorem tab_ok : (D.all (Dt.ok (withL P D L))) = true := by decide +kernel
end Dw

set_option Elab.async false
set_option linter.all false
set_option maxRecDepth 100000
set_option maxHeartbeats 4000000
/-! What the defs compute: the evaluator at symbolic values. -/
namespace Dw
open PySem
abbrev TT : List Fd := tabT D P.errs.length L
theorem run_eq {T : List Fd} {Gc : List PyData} {n f : Nat} {vs : List Val} {S : Sto} {F : Fd} (h : T[f]? = some F) (h1 : vs.length = F.np) (h2 : F.np ≤ F.nn) :
    run T Gc (n + 1) f vs S = handBack F.keep S.length (evSs (run T Gc n) Gc F.body (vs.map some ++ List.replicate (F.nn - F.np) none) S) := by
  unfold run
  rw [h]
  exact if_pos ⟨h1, h2⟩
theorem run_rt {T : List Fd} {Gc : List PyData} {n f : Nat} {vs : List Val} {S : Sto} {F : Fd} {d : PyData} {ρ : Rho} {b : List Sx} (h : T[f]? = some F) (h1 : vs.length = F.np) (h2 : F.np ≤ F.nn) (hk : F.keep = false) (hb : F.body = b)
    (hρ : vs.map some ++ List.replicate (F.nn - F.np) none = ρ) (he : evSs (run T Gc n) Gc b ρ S = .rt (.dat d) S) : run T Gc (n + 1) f vs S = .ok (.dat d) S := by
  rw [run_eq h h1 h2, hk, hb, hρ, he]
  show R.ok (Val.dat d) (S.take S.length) = _
  rw [List.take_length]
@[simp] theorem bind_ok {α β : Type} (a : α) (S : Sto) (f : α → Sto → R β) : (R.ok a S).bind f = f a S := id rfl
@[simp] theorem bind_exc {α β : Type} (c : Nat) (d : PyData) (S : Sto) (f : α → Sto → R β) : (R.exc c d S : R α).bind f = .exc c d S := id rfl
@[simp] theorem bind_bad {α β : Type} (f : α → Sto → R β) : (R.bad : R α).bind f = .bad := id rfl
@[simp] theorem calm_ok' {α : Type} (a : α) (S : Sto) : (R.ok a S).calm = .ok a S := id rfl
@[simp] theorem st_ok {α : Type} (a : α) (S : Sto) (ρ : Rho) (f : α → Sto → SR) : (R.ok a S).st ρ f = f a S := id rfl
@[simp] theorem give_some {α : Type} (a : α) (S : Sto) : give (some a) S = .ok a S := id rfl
@[simp] theorem give_none {α : Type} (S : Sto) : give (none : Option α) S = .bad := id rfl
@[simp] theorem toB_ok (b : Bool) (S : Sto) : toB (.dat (.bool b)) S = .ok b S := id rfl
@[simp] theorem toI_ok (b : Int) (S : Sto) : toI (.dat (.int b)) S = .ok b S := id rfl
@[simp] theorem deref_dat (S : Sto) (d : PyData) : deref S (.dat d) = some d := id rfl
@[simp] theorem derefB_dat (S : Sto) (d : PyData) : derefB S (.dat d) = some d := id rfl
@[simp] theorem collect_dat (l : List PyData) : collect (l.map .dat) = some (.dat (.list l)) := by
  have : plains (l.map .dat) = some l := by
    induction l with
    | nil => rfl
    | cons d l ih => simp [plains, ih]
  unfold collect
  rw [this]
theorem compL_dat {f : Val → Sto → R (Option Val)} {S : Sto} {g : Val → PyData} : ∀ {vs : List Val}, (∀ v ∈ vs, f v S = .ok (some (.dat (g v))) S) → compL f vs S = .ok ((vs.map g).map .dat) S
  | [], _ => rfl
  | v :: vs, h => by
    unfold compL
    rw [h v List.mem_cons_self, bind_ok, compL_dat fun w hw => h w (List.mem_cons_of_mem _ hw)]
    rfl
theorem compL_opt {f : Val → Sto → R (Option Val)} {S : Sto} {g : Val → Option PyData} : ∀ {vs : List Val}, (∀ v ∈ vs, f v S = .ok ((g v).map .dat) S) → compL f vs S = .ok ((vs.filterMap g).map .dat) S
  | [], _ => rfl
  | v :: vs, h => by
    unfold compL
    rw [h v List.mem_cons_self, bind_ok, compL_opt fun w hw => h w (List.mem_cons_of_mem _ hw), bind_ok]
    rw [List.filterMap_cons]
    cases g v <;> rfl
theorem setTg_name (i : Nat) (v : Val) (ρ : Rho) : setTg (.name i) v ρ = some (ρ.set i (some v)) := id rfl

section
variable (C : Nat → List Val → Sto → R Val) (G : List PyData) (ρ : Rho) (S : Sto)
@[simp] theorem e_var (i : Nat) : evE C G (.var i) ρ S = (match ρ[i]? with
    | some (some v) => .ok v S
    | _ => .bad) := id rfl
@[simp] theorem e_con (d : PyData) : evE C G (.con d) ρ S = .ok (.dat d) S := id rfl
@[simp] theorem e_glob (g : Nat) : evE C G (.glob g) ρ S = give (G[g]?.map .dat) S := id rfl
@[simp] theorem e_bin (op : Bop) (a b : Ex) : evE C G (.bin op a b) ρ S = (evE C G a ρ S).bind fun x S => (evE C G b ρ S).bind fun y S => binR op x y S := id rfl
@[simp] theorem e_neg (a : Ex) : evE C G (.neg a) ρ S = (evE C G a ρ S).bind negR := id rfl
@[simp] theorem e_cmp (op : Cop) (a b : Ex) : evE C G (.cmp op a b) ρ S = (evE C G a ρ S).bind fun x S => (evE C G b ρ S).bind fun y S => cmpR op x y S := id rfl
@[simp] theorem e_chn (op op' : Cop) (a b c : Ex) : evE C G (.chn op op' a b c) ρ S = (evE C G a ρ S).bind fun x S => (evE C G b ρ S).bind fun y S => ((cmpR op x y S).bind toB).bind fun k S =>
    if k = true then (evE C G c ρ S).bind fun z S => cmpR op' y z S else .ok (.dat (.bool false)) S := id rfl
@[simp] theorem e_isN (a : Ex) : evE C G (.isN a) ρ S = (evE C G a ρ S).bind fun x S => .ok (.dat (.bool (isNone x))) S := id rfl
@[simp] theorem e_notN (a : Ex) : evE C G (.notN a) ρ S = (evE C G a ρ S).bind fun x S => .ok (.dat (.bool (!isNone x))) S := id rfl
@[simp] theorem e_not (a : Ex) : evE C G (.not a) ρ S = ((evE C G a ρ S).bind toB).bind fun c S => .ok (.dat (.bool (!c))) S := id rfl
@[simp] theorem e_and1 (a : Ex) : evAnd C G [a] ρ S = evE C G a ρ S := id rfl
@[simp] theorem e_and2 (a b : Ex) (r : List Ex) : evAnd C G (a :: b :: r) ρ S = ((evE C G a ρ S).bind toB).bind fun k S => if k = true then evAnd C G (b :: r) ρ S else .ok (.dat (.bool false)) S := id rfl
@[simp] theorem e_or1 (a : Ex) : evOr C G [a] ρ S = evE C G a ρ S := id rfl
@[simp] theorem e_or2 (a b : Ex) (r : List Ex) : evOr C G (a :: b :: r) ρ S = ((evE C G a ρ S).bind toB).bind fun k S => if k = true then .ok (.dat (.bool true)) S else evOr C G (b :: r) ρ S := id rfl
@[simp] theorem e_and (es : List Ex) : evE C G (.and es) ρ S = evAnd C G es ρ S := id rfl
@[simp] theorem e_or (es : List Ex) : evE C G (.or es) ρ S = evOr C G es ρ S := id rfl
@[simp] theorem e_ife (c a b : Ex) : evE C G (.ife c a b) ρ S = ((evE C G c ρ S).bind toB).bind fun k S => if k = true then evE C G a ρ S else evE C G b ρ S := id rfl
@[simp] theorem e_tup (es : List Ex) : evE C G (.tup es) ρ S = (evL C G es ρ S).bind tupR := id rfl
@[simp] theorem e_lst (es : List Ex) : evE C G (.lst es) ρ S = (evL C G es ρ S).bind lstR := id rfl
@[simp] theorem e_new (es : List Ex) : evE C G (.new es) ρ S = (evL C G es ρ S).bind newR := id rfl
@[simp] theorem e_idx (a b : Ex) : evE C G (.idx a b) ρ S = (evE C G a ρ S).bind fun x S => (evE C G b ρ S).bind fun y S => idxR x y S := id rfl
@[simp] theorem e_sl (a : Ex) (lo hi : Option Ex) : evE C G (.sl a lo hi) ρ S = (evE C G a ρ S).bind fun x S => (evO C G lo ρ S).bind fun l S => (evO C G hi ρ S).bind fun h S => slR x l h S := id rfl
@[simp] theorem e_call (f : Nat) (kws : List String) (perm : List Nat) (dfl : List Int) (es kes : List Ex) : evE C G (.callK f kws perm dfl es kes) ρ S = (evL C G es ρ S).bind fun vs S => (evL C G kes ρ S).bind fun ws S => callKR C f es.length kws.length perm dfl vs ws S := id rfl
@[simp] theorem e_blt (b : Blt) (es : List Ex) : evE C G (.blt b es) ρ S = (evL C G es ρ S).bind fun vs S => bltR b vs S := id rfl
@[simp] theorem e_isi (a : Ex) (t : Ty) : evE C G (.isi a t) ρ S = (evE C G a ρ S).bind fun x S => isiR t x S := id rfl
@[simp] theorem e_app (o : Ex) (es : List Ex) : evE C G (.mth .append o es) ρ S = ((evE C G o ρ S).bind isCell).bind fun x S => (evL C G es ρ S).bind fun vs S => appR x vs S := id rfl
theorem e_cp (e : Ex) (tg : Tg) (it : It) (ifs : List Ex) (own : List Nat) : evE C G (.cp e tg it ifs own) ρ S = (evI C G it ρ S).bind fun vs S =>
    if vs.length ≤ LINE then
      (compL (fun v S => match setTg tg v (wipeE ρ own) with
        | none => .bad
        | some ρ' => R.calm ((evIf C G ifs ρ' S).bind fun b S => if b = true then (evE C G e ρ' S).bind fun x S => .ok (some x) S else .ok none S)) vs S).bind lstR
    else .bad := id rfl
@[simp] theorem l_nil : evL C G [] ρ S = .ok [] S := id rfl
@[simp] theorem l_cons (e : Ex) (es : List Ex) : evL C G (e :: es) ρ S = (evE C G e ρ S).bind fun v S => (evL C G es ρ S).bind fun vs S => .ok (v :: vs) S := id rfl
@[simp] theorem if_nil : evIf C G [] ρ S = .ok true S := id rfl
@[simp] theorem if_one (c : Ex) : evIf C G [c] ρ S = (evE C G c ρ S).bind toB := id rfl
@[simp] theorem o_none : evO C G none ρ S = .ok none S := id rfl
@[simp] theorem o_some (e : Ex) : evO C G (some e) ρ S = ((evE C G e ρ S).bind toI).bind fun i S => .ok (some i) S := id rfl
@[simp] theorem i_val (e : Ex) : evI C G (.val e) ρ S = (evE C G e ρ S).bind fun x S => give (items x) S := id rfl
@[simp] theorem i_rng1 (a : Ex) : evI C G (.rng1 a) ρ S = ((evE C G a ρ S).bind toI).bind fun i S => give (rangeV 0 i) S := id rfl
@[simp] theorem i_rng2 (a b : Ex) : evI C G (.rng2 a b) ρ S = (evE C G a ρ S).bind fun x S => (evE C G b ρ S).bind fun y S => (toI x S).bind fun i S => (toI y S).bind fun j S => give (rangeV i j) S := id rfl
@[simp] theorem s_nil : evSs C G [] ρ S = .nx ρ S := id rfl
@[simp] theorem s_cons (s : Sx) (r : List Sx) : evSs C G (s :: r) ρ S = (match evS C G s ρ S with
    | .nx ρ S => evSs C G r ρ S
    | x => x) := id rfl
@[simp] theorem s_asg (tg : Tg) (e : Ex) : evS C G (.asg tg e) ρ S = R.st (evE C G e ρ S) ρ fun v S => match setTg tg v ρ with
    | some ρ => .nx ρ S
    | none => .bad := id rfl
@[simp] theorem s_par (i j : Nat) (a b : Ex) : evS C G (.par i j a b) ρ S = R.st (evE C G a ρ S) ρ fun v S => R.st (evE C G b ρ S) ρ fun w S => .nx ((ρ.set i (some v)).set j (some w)) S := id rfl
@[simp] theorem s_exp (e : Ex) : evS C G (.exp e) ρ S = R.st (evE C G e ρ S) ρ fun _ S => .nx ρ S := id rfl
@[simp] theorem s_ret (e : Ex) : evS C G (.ret e) ρ S = R.st (evE C G e ρ S) ρ fun v S => .rt v S := id rfl
@[simp] theorem s_ife (c : Ex) (a b : List Sx) : evS C G (.ife c a b) ρ S = R.st ((evE C G c ρ S).bind toB) ρ fun k S => if k = true then evSs C G a ρ S else evSs C G b ρ S := id rfl
theorem s_whl (n : Nat) (c : Ex) (b : List Sx) : evS C G (.whl n c b) ρ S = loopW (fun ρ S => (evE C G c ρ S).bind toB) (evSs C G b) n ρ S := id rfl
theorem s_fr (tg : Tg) (it : It) (b : List Sx) : evS C G (.fr tg it b) ρ S = (match evI C G it ρ S with
    | .ok vs S => loopF tg (evSs C G b) vs ρ S
    | .exc c d S => .exc c d ρ S
    | .bad => .bad) := id rfl
@[simp] theorem s_sub (o i e : Ex) : evS C G (.sub o i e) ρ S = R.st (evE C G e ρ S) ρ fun v S => match v with
    | .dat d => evSub C G o i d ρ S fun S => .nx ρ S
    | _ => .bad := id rfl
@[simp] theorem s_subn (o i : Ex) (j : Nat) (e : Ex) : evS C G (.subn o i j e) ρ S = R.st (evE C G e ρ S) ρ fun v S => match v with
    | .dat (.tuple [d, d']) => evSub C G o i d ρ S fun S => .nx (ρ.set j (some (.dat d'))) S
    | _ => .bad := id rfl
end
section
variable (a b : Int) (x y : PyData) (l m : List PyData) (S : Sto)
@[simp] theorem b_add : binD .add (.int a) (.int b) = some (.int (a + b)) := id rfl
@[simp] theorem b_sub : binD .sub (.int a) (.int b) = some (.int (a - b)) := id rfl
@[simp] theorem b_mod (h : 0 < b) : binD .mod (.int a) (.int b) = some (.int (a % b)) := by exact if_pos h
@[simp] theorem b_fdiv (h : 0 < b) (h2 : b < 1073741824) : binD .fdiv (.int a) (.int b) = some (.int (a / b)) := by exact if_pos ⟨h, h2⟩
@[simp] theorem b_mul (h : mulOk a b = true) : binD .mul (.int a) (.int b) = some (.int (a * b)) := by exact if_pos h
@[simp] theorem b_addT (h : l.length + m.length ≤ LINE) : binD .add (.tuple l) (.tuple m) = some (.tuple (l ++ m)) := by exact if_pos h
@[simp] theorem c_eq : cmpD .eq (.int a) (.int b) = some (a == b) := id rfl
@[simp] theorem c_ne : cmpD .ne (.int a) (.int b) = some (!(a == b)) := id rfl
@[simp] theorem c_lt : cmpD .lt (.int a) (.int b) = some (decide (a < b)) := id rfl
@[simp] theorem c_le : cmpD .le (.int a) (.int b) = some (decide (a ≤ b)) := id rfl
@[simp] theorem c_gt : cmpD .gt (.int a) (.int b) = some (decide (b < a)) := id rfl
@[simp] theorem c_ge : cmpD .ge (.int a) (.int b) = some (decide (b ≤ a)) := id rfl
@[simp] theorem c_eqS (u v : Str) : cmpD .eq (.str u) (.str v) = some (decide (u = v)) := id rfl
@[simp] theorem c_neS (u v : Str) : cmpD .ne (.str u) (.str v) = some (!decide (u = v)) := id rfl
@[simp] theorem binR_dat (op : Bop) : binR op (.dat x) (.dat y) S = give ((binD op x y).map .dat) S := id rfl
@[simp] theorem cmpR_dat (op : Cop) : cmpR op (.dat x) (.dat y) S = give ((cmpD op x y).map fun c => .dat (.bool c)) S := id rfl
@[simp] theorem idxR_dat : idxR (.dat x) (.dat y) S = give ((idxD x y).map .dat) S := id rfl
@[simp] theorem ix_l : idxD (.list l) (.int a) = nth l a := id rfl
@[simp] theorem ix_t : idxD (.tuple l) (.int a) = nth l a := id rfl
@[simp] theorem isiR_dat (t : Ty) : isiR t (.dat x) S = .ok (.dat (.bool (isT x t))) S := id rfl
@[simp] theorem bltR_1 (k : Blt) : bltR k [.dat x] S = give ((bltD k [x]).map .dat) S := id rfl
@[simp] theorem bltR_2 (k : Blt) : bltR k [.dat x, .dat y] S = give ((bltD k [x, y]).map .dat) S := id rfl
@[simp] theorem bl_lenL : bltD .len [.list l] = some (.int l.length) := id rfl
@[simp] theorem bl_lenT : bltD .len [.tuple l] = some (.int l.length) := id rfl
@[simp] theorem bl_abs : bltD .abs [.int a] = some (.int (if a < 0 then -a else a)) := id rfl
@[simp] theorem bl_max : bltD .max2 [.int a, .int b] = some (.int (if b > a then b else a)) := id rfl
@[simp] theorem bl_int : bltD .int1 [.int a] = some (.int a) := id rfl
@[simp] theorem bl_tupL : bltD .tup1 [.list l] = some (.tuple l) := id rfl
@[simp] theorem bl_lst : bltD .lst1 [.tuple l] = some (.list l) := id rfl
@[simp] theorem bl_all : bltD .all1 [.list l] = (allTrue l).map .bool := id rfl
@[simp] theorem bl_repr (h : reprOk x = true) : bltD .repr [x] = some (.str x.shown) := by exact if_pos h
@[simp] theorem tupR_dat (ds : List PyData) : tupR (ds.map .dat) S = .ok (.dat (.tuple ds)) S := by
  have : plains (ds.map .dat) = some ds := by
    induction ds with
    | nil => rfl
    | cons d l ih => simp [plains, ih]
  unfold tupR
  rw [this]
  rfl
@[simp] theorem tupR_0 : tupR [] S = .ok (.dat (.tuple [])) S := id rfl
@[simp] theorem tupR_1 : tupR [.dat x] S = .ok (.dat (.tuple [x])) S := id rfl
@[simp] theorem tupR_2 : tupR [.dat x, .dat y] S = .ok (.dat (.tuple [x, y])) S := id rfl
@[simp] theorem tupR_3 (z : PyData) : tupR [.dat x, .dat y, .dat z] S = .ok (.dat (.tuple [x, y, z])) S := id rfl
@[simp] theorem lstR_dat (ds : List PyData) : lstR (ds.map .dat) S = .ok (.dat (.list ds)) S := by
  unfold lstR
  rw [collect_dat]
  rfl
@[simp] theorem isNone_int : isNone (.dat (.int a)) = false := id rfl
@[simp] theorem handBack_dat (d : PyData) (n : Nat) : handBack false n (.rt (.dat d) S) = .ok (.dat d) (S.take n) := id rfl
@[simp] theorem handBack_nx (ρ : Rho) (n : Nat) : handBack false n (.nx ρ S) = .ok (.dat .none) (S.take n) := id rfl
@[simp] theorem setTg_names2 (i j : Nat) (d e : PyData) (ρ : Rho) : setTg (.names [i, j]) (.dat (.tuple [d, e])) ρ = some ((ρ.set i (some (.dat d))).set j (some (.dat e))) := id rfl
@[simp] theorem setTg_names3 (i j k : Nat) (d e f : PyData) (ρ : Rho) : setTg (.names [i, j, k]) (.dat (.tuple [d, e, f])) ρ = some (((ρ.set i (some (.dat d))).set j (some (.dat e))).set k (some (.dat f))) := id rfl
@[simp] theorem setTg_name' (i : Nat) (v : Val) (ρ : Rho) : setTg (.name i) v ρ = some (ρ.set i (some v)) := id rfl
@[simp] theorem wipe_1 (i : Nat) (ρ : Rho) : wipeE ρ [i] = ρ.set i none := id rfl
end
theorem mul_ok {a b : Int} (ha : a.natAbs < 2 ^ 1000) (hb : b.natAbs < 2 ^ 1000) : mulOk a b = true := by
  have lg : ∀ n : Nat, n < 2 ^ 1000 → n.log2 ≤ 1000 := fun n h => by
    by_cases h0 : n = 0
    · subst h0; decide
    · exact Nat.le_of_lt ((Nat.log2_lt h0).mpr h)
  unfold mulOk
  have h1 := lg _ ha
  have h2 := lg _ hb
  exact decide_eq_true (by omega)
theorem big1000 {n : Nat} (h : n < 1000000000000) : n < 2 ^ 1000 := Nat.lt_of_lt_of_le h (by decide +kernel)
theorem mul_nat {a b : Nat} (ha : a < 1000000000000) (hb : b < 1000000000000) : mulOk (a : Int) (b : Int) = true := mul_ok (by simpa using big1000 ha) (by simpa using big1000 hb)
theorem line_big {n : Nat} (h : n ≤ 16777216) : n ≤ LINE := h
theorem rangeV_nat (lo hi : Nat) (h : hi < 1000000000000) (h2 : lo < 1000000000000) : rangeV (lo : Int) (hi : Int) = some ((List.range (hi - lo)).map fun (i : Nat) => Val.dat (.int ((lo + i : Nat) : Int))) := by
  unfold rangeV
  rw [if_pos ⟨by omega, by omega, by omega, by omega⟩]
  congr 1
  have : ((hi : Int) - (lo : Int)).toNat = hi - lo := by omega
  rw [this]
  rfl
theorem nth_nat {α : Type} (l : List α) (i : Nat) : nth l (i : Int) = l[i]? := by
  unfold nth
  rw [if_pos (by omega)]
  rfl
theorem nth_nat' {α : Type} (l : List α) {k : Int} (i : Nat) (h : k = i) : nth l k = l[i]? := by rw [h, nth_nat]
theorem allTrue_map {α : Type} (f : α → Bool) : ∀ l : List α, allTrue (l.map fun x => PyData.bool (f x)) = some (l.all f)
  | [] => rfl
  | x :: l => by
    show (allTrue (l.map _)).map (f x && ·) = _
    rw [allTrue_map f l]
    rfl

section
variable {C : Nat → List Val → Sto → R Val} {G : List PyData} {ρ ρ1 : Rho} {S S1 S2 : Sto} {s : Sx} {r : List Sx} {e e1 : Ex} {v w : Val} {tg : Tg} {x : SR} {k : Bool} {a b : List Sx}
theorem s_nx (h : evS C G s ρ S = .nx ρ1 S1) (h2 : evSs C G r ρ1 S1 = x) : evSs C G (s :: r) ρ S = x := by rw [s_cons, h]; exact h2
theorem s_rt (h : evS C G s ρ S = .rt v S1) : evSs C G (s :: r) ρ S = .rt v S1 := by rw [s_cons, h]
theorem a_nx (h : evE C G e ρ S = .ok v S1) (ht : setTg tg v ρ = some ρ1) : evS C G (.asg tg e) ρ S = .nx ρ1 S1 := by rw [s_asg, h, st_ok, ht]
theorem p_nx {i j : Nat} (h : evE C G e ρ S = .ok v S1) (h2 : evE C G e1 ρ S1 = .ok w S2) (ht : (ρ.set i (some v)).set j (some w) = ρ1) : evS C G (.par i j e e1) ρ S = .nx ρ1 S2 := by rw [s_par, h, st_ok, h2, st_ok, ht]
theorem x_nx (h : evE C G e ρ S = .ok v S1) : evS C G (.exp e) ρ S = .nx ρ S1 := by rw [s_exp, h, st_ok]
theorem r_rt (h : evE C G e ρ S = .ok v S1) : evS C G (.ret e) ρ S = .rt v S1 := by rw [s_ret, h, st_ok]
theorem if_t (h : evE C G e ρ S = .ok (.dat (.bool true)) S1) (h2 : evSs C G a ρ S1 = x) : evS C G (.ife e a b) ρ S = x := by rw [s_ife, h, bind_ok, toB_ok, st_ok, if_pos rfl, h2]
theorem if_f (h : evE C G e ρ S = .ok (.dat (.bool false)) S1) (h2 : evSs C G b ρ S1 = x) : evS C G (.ife e a b) ρ S = x := by rw [s_ife, h, bind_ok, toB_ok, st_ok, if_neg (by decide), h2]
theorem f_nx {it : It} {vs : List Val} (h : evI C G it ρ S = .ok vs S1) (h2 : loopF tg (evSs C G b) vs ρ S1 = x) : evS C G (.fr tg it b) ρ S = x := by rw [s_fr, h]; exact h2
end

abbrev iN (x : Nat) : PyData := .int (x : Int)
theorem callKR_1 (C : Nat → List Val → Sto → R Val) (f : Nat) (v : Val) (S : Sto) : callKR C f 1 0 [0] [] [v] [] S = C f [v] S := id rfl
theorem callKR_1k (C : Nat → List Val → Sto → R Val) (f : Nat) (v : Val) (S : Sto) : callKR C f 0 1 [0] [] [] [v] S = C f [v] S := id rfl
theorem callKR_2 (C : Nat → List Val → Sto → R Val) (f : Nat) (v w : Val) (S : Sto) : callKR C f 2 0 [0, 1] [] [v, w] [] S = C f [v, w] S := id rfl
theorem callKR_3 (C : Nat → List Val → Sto → R Val) (f : Nat) (v w x : Val) (S : Sto) : callKR C f 3 0 [0, 1, 2] [] [v, w, x] [] S = C f [v, w, x] S := id rfl
theorem callKR_6 (C : Nat → List Val → Sto → R Val) (f : Nat) (a b c d e g : Val) (S : Sto) : callKR C f 6 0 [0, 1, 2, 3, 4, 5] [] [a, b, c, d, e, g] [] S = C f [a, b, c, d, e, g] S := id rfl
section
variable (C : Nat → List Val → Sto → R Val) (G : List PyData) (ρ : Rho) (S : Sto)
theorem e_smt (m : Smt) (o a : Ex) : evE C G (.smt m o a) ρ S = ((evE C G o ρ S).bind isStrV).bind fun x S => (evE C G a ρ S).bind fun y S => smtR m x y S := id rfl
theorem e_cat (a b : Ex) : evE C G (.cat a b) ρ S = (evE C G a ρ S).bind fun x S => (evE C G b ρ S).bind fun y S => catR x y S := id rfl
theorem e_dic (a : Ex) : evE C G (.dic a) ρ S = (evE C G a ρ S).bind dicR := id rfl
theorem e_srt (a : Ex) : evE C G (.srt a) ρ S = (evE C G a ρ S).bind srtR := id rfl
theorem i_enu (a : Ex) : evI C G (.enu a) ρ S = (evE C G a ρ S).bind fun x S => give (itemsE S x) S := id rfl
theorem e_cpF (e : Ex) (tg : Tg) (it : It) (ifs : List Ex) (own : List Nat) : evE C G (.cp e tg it ifs own) ρ S = cpF tg own (evIf C G ifs) (evE C G e) (evI C G it) ρ S := id rfl
theorem e_cp2F (e : Ex) (tg tg1 : Tg) (it it1 : It) (ifs : List Ex) (own own1 : List Nat) : evE C G (.cp2 e tg it tg1 it1 ifs own own1) ρ S = cp2F tg tg1 own own1 (evIf C G ifs) (evE C G e) (evI C G it) (evI C G it1) ρ S := id rfl
end
section
variable (x y z : PyData) (l m : List PyData) (a b : Str) (S : Sto) (k : Nat) (v w : Val)
theorem isStrV_ok : isStrV (.dat (.str a)) S = .ok (.dat (.str a)) S := id rfl
theorem smtR_dat (o : Smt) : smtR o (.dat x) (.dat y) S = give ((smtD o x y).map .dat) S := id rfl
theorem b_addS (h : a.length + b.length ≤ LINE) : binD .add (.str a) (.str b) = some (.str (a ++ b)) := by exact if_pos h
theorem b_addL (h : l.length + m.length ≤ LINE) : binD .add (.list l) (.list m) = some (.list (l ++ m)) := by exact if_pos h
theorem lstR_0 : lstR [] S = .ok (.dat (.list [])) S := id rfl
theorem lstR_1 : lstR [.dat x] S = .ok (.dat (.list [x])) S := id rfl
theorem lstR_2 : lstR [.dat x, .dat y] S = .ok (.dat (.list [x, y])) S := id rfl
theorem lstR_3 : lstR [.dat x, .dat y, .dat z] S = .ok (.dat (.list [x, y, z])) S := id rfl
theorem lstR_4 (u : PyData) : lstR [.dat x, .dat y, .dat z, .dat u] S = .ok (.dat (.list [x, y, z, u])) S := id rfl
theorem tupR_4 (u : PyData) : tupR [.dat x, .dat y, .dat z, .dat u] S = .ok (.dat (.tuple [x, y, z, u])) S := id rfl
theorem tupR_5 (u t : PyData) : tupR [.dat x, .dat y, .dat z, .dat u, .dat t] S = .ok (.dat (.tuple [x, y, z, u, t])) S := id rfl
theorem tupR_7 (u t s r : PyData) : tupR [.dat x, .dat y, .dat z, .dat u, .dat t, .dat s, .dat r] S = .ok (.dat (.tuple [x, y, z, u, t, s, r])) S := id rfl
theorem newR_0 : newR [] S = .ok (.cell S.length) (S ++ [[]]) := id rfl
theorem newR_1 : newR [.dat x] S = .ok (.cell S.length) (S ++ [[x]]) := id rfl
theorem isCell_ok : isCell (.cell k) S = .ok (.cell k) S := id rfl
theorem n_0 : nth (x :: l) 0 = some x := id rfl
theorem n_1 : nth (x :: y :: l) 1 = some y := id rfl
theorem n_2 : nth (x :: y :: z :: l) 2 = some z := id rfl
theorem n_3 (u : PyData) : nth (x :: y :: z :: u :: l) 3 = some u := id rfl
theorem n_4 (u t : PyData) : nth (x :: y :: z :: u :: t :: l) 4 = some t := id rfl
theorem n_5 (u t s : PyData) : nth (x :: y :: z :: u :: t :: s :: l) 5 = some s := id rfl
theorem n_6 (u t s r : PyData) : nth (x :: y :: z :: u :: t :: s :: r :: l) 6 = some r := id rfl
theorem bl_str : bltD .str1 [.str a] = some (.str a) := id rfl
theorem bl_min (i j : Int) : bltD .min2 [.int i, .int j] = some (.int (if j < i then j else i)) := id rfl
theorem items_l : items (.dat (.list l)) = some (l.map .dat) := id rfl
theorem items_t : items (.dat (.tuple l)) = some (l.map .dat) := id rfl
theorem items_s : items (.dat (.str a)) = some (a.cps.toList.map fun c => .dat (.str ⟨#[c]⟩)) := id rfl
theorem idx_dct (kvs : List (Str × PyData)) : idxR (.dct kvs) (.dat (.str a)) S = give ((getD' kvs a).map .dat) S := id rfl
end
/-! ### what comes of a part, told by a property -/
def W {α : Type} (r : R α) (Q : α → Sto → Prop) : Prop := match r with
  | .ok a S => Q a S
  | _ => False
theorem W_ok {α : Type} (a : α) (S : Sto) (Q : α → Sto → Prop) : W (.ok a S) Q = Q a S := id rfl
theorem W_bind {α β : Type} (r : R α) (f : α → Sto → R β) (Q : β → Sto → Prop) : W (r.bind f) Q = W r fun a S => W (f a S) Q := by cases r <;> rfl
theorem W.imp {α : Type} {r : R α} {Q Q' : α → Sto → Prop} (h : W r Q) (f : ∀ a S, Q a S → Q' a S) : W r Q' := by
  cases r with
  | ok a S => exact f a S h
  | exc c d S => exact h
  | bad => exact h
theorem W.eq {α : Type} {r : R α} {Q : α → Sto → Prop} (h : W r Q) : ∃ a S, r = .ok a S ∧ Q a S := by
  cases r with
  | ok a S => exact ⟨a, S, rfl, h⟩
  | exc c d S => exact h.elim
  | bad => exact h.elim
theorem W_of {α : Type} {r : R α} {Q : α → Sto → Prop} {a : α} {S : Sto} (e : r = .ok a S) (h : Q a S) : W r Q := by rw [e]; exact h
theorem W_ite {α : Type} {c : Prop} [Decidable c] {a b : R α} {Q : α → Sto → Prop} : W (if c then a else b) Q = if c then W a Q else W b Q := by split <;> rfl
def WS (r : SR) (N : Rho → Sto → Prop) (T : Val → Sto → Prop) : Prop := match r with
  | .nx ρ S => N ρ S
  | .rt v S => T v S
  | _ => False
section
variable {C : Nat → List Val → Sto → R Val} {G : List PyData} {ρ : Rho} {S : Sto} {N : Rho → Sto → Prop} {T : Val → Sto → Prop}
theorem WS.imp {r : SR} {N N' : Rho → Sto → Prop} {T T' : Val → Sto → Prop} (h : WS r N T) (f : ∀ ρ S, N ρ S → N' ρ S) (g : ∀ v S, T v S → T' v S) : WS r N' T' := by
  cases r <;> first | exact f _ _ h | exact g _ _ h | exact h
theorem WS_st {α : Type} (r : R α) (f : α → Sto → SR) : WS (R.st r ρ f) N T = W r fun a S => WS (f a S) N T := by cases r <;> rfl
theorem WS_nil : WS (evSs C G [] ρ S) N T = N ρ S := id rfl
theorem WS_cons (s : Sx) (r : List Sx) : WS (evSs C G (s :: r) ρ S) N T = WS (evS C G s ρ S) (fun ρ S => WS (evSs C G r ρ S) N T) T := by
  rw [s_cons]
  cases evS C G s ρ S <;> rfl
theorem WS_asg (i : Nat) (e : Ex) : WS (evS C G (.asg (.name i) e) ρ S) N T = W (evE C G e ρ S) fun v S => N (ρ.set i (some v)) S := by rw [s_asg, WS_st]; rfl
theorem WS_asgs (is : List Nat) (e : Ex) : WS (evS C G (.asg (.names is) e) ρ S) N T = W (evE C G e ρ S) fun v S => ∃ ρ', setTg (.names is) v ρ = some ρ' ∧ N ρ' S := by
  rw [s_asg, WS_st]
  congr 1
  funext v S
  cases setTg (.names is) v ρ with
  | none => exact propext ⟨fun h => h.elim, fun ⟨_, h, _⟩ => nomatch h⟩
  | some ρ' => exact propext ⟨fun h => ⟨_, rfl, h⟩, fun ⟨_, h, h2⟩ => by cases h; exact h2⟩
theorem WS_par (i j : Nat) (a b : Ex) : WS (evS C G (.par i j a b) ρ S) N T = W (evE C G a ρ S) fun v S => W (evE C G b ρ S) fun w S => N ((ρ.set i (some v)).set j (some w)) S := by rw [s_par, WS_st]; congr 1; funext v S; rw [WS_st]; rfl
theorem WS_exp (e : Ex) : WS (evS C G (.exp e) ρ S) N T = W (evE C G e ρ S) fun _ S => N ρ S := by rw [s_exp, WS_st]; rfl
theorem WS_ret (e : Ex) : WS (evS C G (.ret e) ρ S) N T = W (evE C G e ρ S) T := by rw [s_ret, WS_st]; rfl
theorem WS_ife (c : Ex) (a b : List Sx) : WS (evS C G (.ife c a b) ρ S) N T = W (evE C G c ρ S) fun v S => W (toB v S) fun k S => if k = true then WS (evSs C G a ρ S) N T else WS (evSs C G b ρ S) N T := by
  rw [s_ife, WS_st, W_bind]
  congr 1
  funext v S
  congr 1
  funext k S
  split <;> rfl
theorem WS_fr (tg : Tg) (it : It) (b : List Sx) : WS (evS C G (.fr tg it b) ρ S) N T = W (evI C G it ρ S) fun vs S => WS (loopF tg (evSs C G b) vs ρ S) N T := by
  rw [s_fr]
  cases evI C G it ρ S <;> rfl
theorem WS_loop {tg : Tg} {body : Rho → Sto → SR} (I : Nat → Rho → Sto → Prop) : ∀ (vs : List Val) (i : Nat) (ρ : Rho) (S : Sto), I i ρ S → (∀ (j : Nat) v ρ S, i ≤ j → vs[j - i]? = some v → I j ρ S → ∃ ρ', setTg tg v ρ = some ρ' ∧ WS (body ρ' S) (fun ρ S => I (j + 1) ρ S) T) → (∀ ρ S, I (i + vs.length) ρ S → N ρ S) → WS (loopF tg body vs ρ S) N T
  | [], i, ρ, S, h, _, hN => hN ρ S h
  | v :: vs, i, ρ, S, h, hb, hN => by
    obtain ⟨ρ', e, h1⟩ := hb i v ρ S (Nat.le_refl _) (by rw [Nat.sub_self]; rfl) h
    unfold loopF
    rw [e]
    simp only
    cases hr : body ρ' S with
    | nx ρ1 S1 =>
      rw [hr] at h1
      exact WS_loop I vs (i + 1) ρ1 S1 h1 (fun j w ρ S hj hw => hb j w ρ S (by omega) (by rw [show j - i = (j - (i + 1)) + 1 by omega]; exact hw)) fun ρ S hI => hN ρ S (by rw [List.length_cons, show i + (vs.length + 1) = i + 1 + vs.length by omega]; exact hI)
    | rt v1 S1 => rw [hr] at h1; exact h1
    | bk _ _ => rw [hr] at h1; exact h1.elim
    | ct _ _ => rw [hr] at h1; exact h1.elim
    | exc _ _ _ _ => rw [hr] at h1; exact h1.elim
    | bad => rw [hr] at h1; exact h1.elim
theorem W_fn {n f : Nat} {vs : List Val} {F : Fd} {Q : Val → Sto → Prop} {b : List Sx} {Tb : List Fd} (h : Tb[f]? = some F) (h1 : vs.length = F.np) (h2 : F.np ≤ F.nn) (hk : F.keep = false) (hb : F.body = b) (hρ : vs.map some ++ List.replicate (F.nn - F.np) none = ρ)
    (hw : WS (evSs (run Tb G n) G b ρ S) (fun _ S' => Q (.dat .none) (S'.take S.length)) (fun v S' => match v with
      | .dat d => Q (.dat d) (S'.take S.length)
      | .cell k => S.length ≤ k ∧ ∃ l, S'[k]? = some l ∧ Q (.dat (.list l)) (S'.take S.length)
      | _ => False)) : W (run Tb G (n + 1) f vs S) Q := by
  rw [run_eq h h1 h2, hk, hb, hρ]
  cases hr : evSs (run Tb G n) G b ρ S with
  | nx ρ1 S1 => rw [hr] at hw; exact hw
  | rt v S1 =>
    rw [hr] at hw
    cases v with
    | dat d => exact hw
    | cell k =>
      obtain ⟨hle, l, e, q⟩ := hw
      show W (if S.length ≤ k then match S1[k]? with
        | some l => .ok (.dat (.list l)) (S1.take S.length)
        | none => .bad else .bad) Q
      rw [if_pos hle, e]
      exact q
    | _ => exact hw.elim
  | bk _ _ => rw [hr] at hw; exact hw.elim
  | ct _ _ => rw [hr] at hw; exact hw.elim
  | exc _ _ _ _ => rw [hr] at hw; exact hw.elim
  | bad => rw [hr] at hw; exact hw.elim
end
end Dw

set_option Elab.async false
set_option linter.all false
set_option maxRecDepth 100000
set_option maxHeartbeats 4000000
/-! Words, rows, texts. -/
namespace Dw
open PySem
abbrev sp : Str := Str.ofString " "
abbrev nl : Str := Str.ofString "\n"
theorem tl_sp : TL.tl sp = [32] := by decide +kernel
theorem tl_nl : TL.tl nl = [10] := by decide +kernel
structure Wd (w : Str) : Prop where
  ne : w ≠ Str.ofString ""
  le : w.length ≤ 8
  ok : ∀ c ∈ TL.tl w, c ≠ 32 ∧ c ≠ 10 ∧ c < 128
def wdB (w : Str) : Bool := decide (w ≠ Str.ofString "") && decide (w.length ≤ 8) && (TL.tl w).all fun c => decide (c ≠ 32) && decide (c ≠ 10) && decide (c < 128)
theorem wd_of {w : Str} (h : wdB w = true) : Wd w := by
  unfold wdB at h
  simp only [Bool.and_eq_true, decide_eq_true_eq, List.all_eq_true] at h
  exact ⟨h.1.1, h.1.2, fun c hc => ⟨(h.2 c hc).1.1, (h.2 c hc).1.2, (h.2 c hc).2⟩⟩
def nW (n : Nat) : Str := Str.ofString (toString (n : Int))
theorem nW_all : ∀ n, n < 61 → wdB (nW n) = true := by decide +kernel
theorem nW_wd {n : Nat} (h : n < 61) : Wd (nW n) := wd_of (nW_all n h)
def RowT (n : Nat) (r : Str) : Prop := ∃ ws : List Str, ws ≠ [] ∧ ws.length ≤ n ∧ (∀ w ∈ ws, Wd w) ∧ r = Str.join sp ws
theorem RowT.mono {n m : Nat} {r : Str} (h : RowT n r) (hm : n ≤ m) : RowT m r := by
  obtain ⟨ws, a, b, c, d⟩ := h
  exact ⟨ws, a, by omega, c, d⟩
theorem row_one {w : Str} (h : Wd w) : RowT 1 w := ⟨[w], by simp, by simp, by simpa using h, rfl⟩
theorem join_app : ∀ {ws vs : List Str}, ws ≠ [] → vs ≠ [] → Str.join sp (ws ++ vs) = Str.join sp ws ++ sp ++ Str.join sp vs
  | [], _, h, _ => absurd rfl h
  | [x], v :: vs, _, _ => rfl
  | x :: y :: r, vs, _, h => by
    have ih := join_app (ws := y :: r) (vs := vs) (by simp) h
    have e1 : Str.join sp (x :: y :: r ++ vs) = x ++ sp ++ Str.join sp (y :: r ++ vs) := rfl
    have e2 : Str.join sp (x :: y :: r) = x ++ sp ++ Str.join sp (y :: r) := rfl
    rw [e1, e2, ih]
    exact TL.ext_tl (by simp [TL.tl_append])
theorem row_app {n m : Nat} {a b : Str} (h : RowT n a) (h2 : RowT m b) : RowT (n + m) (a ++ sp ++ b) := by
  obtain ⟨ws, q1, q2, q3, rfl⟩ := h
  obtain ⟨vs, p1, p2, p3, rfl⟩ := h2
  refine ⟨ws ++ vs, by simp [q1], by rw [List.length_append]; omega, fun w hw => ?_, (join_app q1 p1).symm⟩
  rcases List.mem_append.mp hw with z | z
  · exact q3 w z
  · exact p3 w z
theorem row_pre {n : Nat} {k kk b : Str} (e : kk = k ++ sp) (h : Wd k) (h2 : RowT n b) : RowT (1 + n) (kk ++ b) := by
  rw [e]
  exact row_app (row_one h) h2
theorem str_len (a b : Str) : (a ++ b).length = a.length + b.length := by
  rw [TL.len_tl, TL.len_tl a, TL.len_tl b, TL.tl_append, List.length_append]
theorem RowT.len {n : Nat} {r : Str} (h : RowT n r) : r.length ≤ 9 * n := by
  obtain ⟨ws, a, b, c, rfl⟩ := h
  have : ∀ ws : List Str, (∀ w ∈ ws, Wd w) → (Str.join sp ws).length ≤ 9 * ws.length := by
    intro ws
    induction ws with
    | nil => intro _; exact Nat.zero_le _
    | cons x r ih =>
      intro h
      have hx := (h x List.mem_cons_self).le
      cases r with
      | nil =>
        show x.length ≤ _
        simp only [List.length_cons, List.length_nil]
        omega
      | cons y r =>
        have i := ih fun w hw => h w (List.mem_cons_of_mem _ hw)
        show (x ++ sp ++ Str.join sp (y :: r)).length ≤ _
        rw [str_len, str_len]
        have : sp.length = 1 := by rw [TL.len_tl, tl_sp]; rfl
        simp only [List.length_cons] at i ⊢
        omega
  have := this ws c
  omega
abbrev Asc (x : Str) : Prop := ∀ c ∈ TL.tl x, c < 128
theorem asc_app {a b : Str} (h : Asc a) (h2 : Asc b) : Asc (a ++ b) := fun c hc => by
  rw [TL.tl_append] at hc
  rcases List.mem_append.mp hc with z | z
  · exact h c z
  · exact h2 c z
theorem asc_join {s : Str} (hs : Asc s) : ∀ ws : List Str, (∀ w ∈ ws, Asc w) → Asc (Str.join s ws)
  | [], _ => fun c hc => by cases hc
  | [x], h => h x List.mem_cons_self
  | x :: y :: r, h => asc_app (asc_app (h x List.mem_cons_self) hs) (asc_join hs (y :: r) fun w hw => h w (List.mem_cons_of_mem _ hw))
theorem asc_sp : Asc sp := by intro c hc; rw [tl_sp] at hc; simp at hc; omega
theorem asc_nl : Asc nl := by intro c hc; rw [tl_nl] at hc; simp at hc; omega
theorem RowT.asc {n : Nat} {r : Str} (h : RowT n r) : Asc r := by
  obtain ⟨ws, a, b, c, rfl⟩ := h
  exact asc_join asc_sp ws fun w hw x hx => ((c w hw).ok x hx).2.2
theorem row_no10 {n : Nat} {r : Str} (h : RowT n r) : 10 ∉ TL.tl r := by
  obtain ⟨ws, a, b, c, rfl⟩ := h
  rw [TL.tl_join, tl_sp]
  have : ∀ ps : List (List Nat), (∀ p ∈ ps, 10 ∉ p) → 10 ∉ TL.joinL [32] ps := by
    intro ps
    induction ps with
    | nil => intro _ h; cases h
    | cons p r ih =>
      intro h
      cases r with
      | nil => exact h p List.mem_cons_self
      | cons q r =>
        have i := ih fun w hw => h w (List.mem_cons_of_mem _ hw)
        show 10 ∉ p ++ ([32] ++ TL.joinL [32] (q :: r))
        simp only [List.mem_append, List.mem_singleton, not_or]
        exact ⟨h p List.mem_cons_self, by omega, i⟩
  refine this _ fun p hp => ?_
  obtain ⟨w, hw, rfl⟩ := List.mem_map.mp hp
  exact fun hc => ((c w hw).ok 10 hc).2.1 rfl
theorem row_split {n : Nat} {r : Str} (h : RowT n r) : ∃ ws, ws ≠ [] ∧ (∀ w ∈ ws, Wd w) ∧ Txt.split r sp = ws ∧ r = Txt.join sp ws := by
  obtain ⟨ws, a, b, c, rfl⟩ := h
  refine ⟨ws, a, c, ?_, (TL.join_eq sp ws).symm⟩
  rw [← TL.join_eq]
  exact TL.split_join (s := 32) (S := []) tl_sp (by decide +kernel) a fun p hp hc => ((c p hp).ok 32 hc).1 rfl
/-- a text of rows -/
def TxtT (m : Nat) (x : Str) : Prop := ∃ rs : List Str, rs ≠ [] ∧ rs.length ≤ m ∧ (∀ r ∈ rs, RowT 8 r) ∧ x = Txt.join nl rs
theorem txt_split {m : Nat} {x : Str} (h : TxtT m x) : ∃ rs, rs ≠ [] ∧ rs.length ≤ m ∧ (∀ r ∈ rs, RowT 8 r) ∧ Txt.split x nl = rs ∧ x = Txt.join nl rs := by
  obtain ⟨rs, a, b, c, rfl⟩ := h
  exact ⟨rs, a, b, c, TL.split_join (s := 10) (S := []) tl_nl (by decide +kernel) a fun p hp => row_no10 (c p hp), rfl⟩
theorem TxtT.asc {m : Nat} {x : Str} (h : TxtT m x) : Asc x := by
  obtain ⟨rs, a, b, c, rfl⟩ := h
  rw [TL.join_eq]
  exact asc_join asc_nl rs fun r hr => (c r hr).asc
theorem join_len {s : Str} (hs : s.length = 1) {k : Nat} : ∀ {rs : List Str}, (∀ r ∈ rs, r.length ≤ k) → (Str.join s rs).length ≤ rs.length * (k + 1)
  | [], _ => Nat.zero_le _
  | [x], h => by
    have := h x List.mem_cons_self
    show x.length ≤ _
    simp only [List.length_cons, List.length_nil]
    omega
  | x :: y :: r, h => by
    have h1 := h x List.mem_cons_self
    have i := join_len hs (rs := y :: r) fun w hw => h w (List.mem_cons_of_mem _ hw)
    show (x ++ s ++ Str.join s (y :: r)).length ≤ _
    rw [str_len, str_len]
    simp only [List.length_cons, Nat.succ_mul] at i ⊢
    omega
theorem TxtT.len {m : Nat} {x : Str} (h : TxtT m x) : x.length ≤ m * 73 := by
  obtain ⟨rs, a, b, c, rfl⟩ := h
  rw [TL.join_eq]
  have h1 := join_len (s := nl) (k := 72) (by rw [TL.len_tl, tl_nl]; rfl) (rs := rs) fun r hr => by
    have := (c r hr).len
    omega
  have h2 := Nat.mul_le_mul_right 73 b
  omega
/-! ### splits of any text -/
def cutL (s : Nat) : List Nat → List Nat → List (List Nat)
  | acc, [] => [acc]
  | acc, c :: r => if c = s then acc :: cutL s [] r else cutL s (acc ++ [c]) r
theorem spl_cut (s : Nat) : ∀ (l acc : List Nat), TL.spl [s] 0 acc l = cutL s acc l
  | [], acc => rfl
  | c :: r, acc => by
    unfold cutL
    by_cases h : c = s
    · rw [if_pos h, TL.spl_hit (by rw [h]; exact TL.pre_self [s] r)]
      show acc :: TL.spl [s] 0 [] r = _
      rw [spl_cut s r []]
    · rw [if_neg h, TL.spl_miss (TL.pre_of_head [] r h), spl_cut s r]
theorem cut_sum (s : Nat) : ∀ (l acc : List Nat), ((cutL s acc l).map fun p => p.length + 1).sum = acc.length + l.length + 1
  | [], acc => by simp [cutL]
  | c :: r, acc => by
    unfold cutL
    by_cases h : c = s
    · rw [if_pos h, List.map_cons, List.sum_cons, cut_sum s r []]
      simp only [List.length_cons, List.length_nil]
      omega
    · rw [if_neg h, cut_sum s r]
      simp only [List.length_cons, List.length_append, List.length_nil]
      omega
theorem cut_mem (s : Nat) : ∀ (l acc : List Nat), ∀ p ∈ cutL s acc l, ∀ c ∈ p, c ∈ acc ∨ c ∈ l
  | [], acc, p, hp, c, hc => by
    unfold cutL at hp
    rw [List.mem_singleton] at hp
    exact .inl (hp ▸ hc)
  | x :: r, acc, p, hp, c, hc => by
    unfold cutL at hp
    by_cases h : x = s
    · rw [if_pos h] at hp
      rcases List.mem_cons.mp hp with rfl | hp
      · exact .inl hc
      · rcases cut_mem s r [] p hp c hc with z | z
        · cases z
        · exact .inr (List.mem_cons_of_mem _ z)
    · rw [if_neg h] at hp
      rcases cut_mem s r _ p hp c hc with z | z
      · rcases List.mem_append.mp z with z | z
        · exact .inl z
        · rw [List.mem_singleton] at z
          exact .inr (z ▸ List.mem_cons_self)
      · exact .inr (List.mem_cons_of_mem _ z)
/-- a sign that parts -/
structure Sep (y : Str) (s : Nat) : Prop where
  tl : TL.tl y = [s]
  lo : y.cps.all (· < 256) = true
theorem sep_sp : Sep sp 32 := ⟨tl_sp, by decide +kernel⟩
theorem sep_nl : Sep nl 10 := ⟨tl_nl, by decide +kernel⟩
theorem split_cut {x y : Str} {s : Nat} (h : Sep y s) : (Txt.split x y).map TL.tl = cutL s [] (TL.tl x) := by
  rw [TL.split_spl x y (by rw [h.tl]; simp) (TL.kind_ok h.lo), h.tl, spl_cut]
theorem split_sum {x y : Str} {s : Nat} (h : Sep y s) : ((Txt.split x y).map fun p => p.length + 1).sum = x.length + 1 := by
  have e := cut_sum s (TL.tl x) []
  rw [← split_cut h, List.map_map] at e
  have e2 : (Txt.split x y).map ((fun p : List Nat => p.length + 1) ∘ TL.tl) = (Txt.split x y).map fun p => p.length + 1 := List.map_congr_left fun p _ => by
    show (TL.tl p).length + 1 = p.length + 1
    rw [← TL.len_tl]
  rw [e2] at e
  rw [e, ← TL.len_tl, List.length_nil]
  omega
theorem split_asc {x y : Str} {s : Nat} (h : Sep y s) (hx : Asc x) : ∀ p ∈ Txt.split x y, Asc p := fun p hp c hc => by
  have hm : TL.tl p ∈ cutL s [] (TL.tl x) := by rw [← split_cut h]; exact List.mem_map_of_mem hp
  rcases cut_mem s _ _ _ hm c hc with z | z
  · cases z
  · exact hx c z
theorem sum_len {α : Type} (f : α → Nat) : ∀ l : List α, l.length ≤ (l.map fun p => f p + 1).sum
  | [] => Nat.le_refl _
  | x :: l => by
    have := sum_len f l
    simp only [List.map_cons, List.sum_cons, List.length_cons]
    omega
theorem split_len {x y : Str} {s : Nat} (h : Sep y s) : (Txt.split x y).length ≤ x.length + 1 := by
  rw [← split_sum h]
  exact sum_len (fun p : Str => p.length) _
theorem le_sum {α : Type} (f : α → Nat) : ∀ {l : List α} {x : α}, x ∈ l → f x ≤ (l.map f).sum
  | y :: l, x, h => by
    simp only [List.map_cons, List.sum_cons]
    rcases List.mem_cons.mp h with rfl | h
    · omega
    · have := le_sum f h
      omega
theorem split_le {x y : Str} {s : Nat} (h : Sep y s) : ∀ p ∈ Txt.split x y, p.length ≤ x.length := fun p hp => by
  have := le_sum (fun p : Str => p.length + 1) hp
  rw [split_sum h] at this
  omega
def wD (ws : List Str) : PyData := .tuple (ws.map .str)
def rowsD (x : Str) : PyData := .tuple ((Txt.split x nl).map fun r => wD (Txt.split r sp))
def worded (x : Str) : Bool := (Txt.split x nl).all fun r => (Txt.split r sp).all fun w => !decide (w = Str.ofString "")
theorem txt_worded {m : Nat} {x : Str} (h : TxtT m x) : worded x = true := by
  obtain ⟨rs, a, b, c, e, rfl⟩ := txt_split h
  unfold worded
  rw [e, List.all_eq_true]
  intro r hr
  obtain ⟨ws, p, q, e2, _⟩ := row_split (c r hr)
  rw [e2, List.all_eq_true]
  intro w hw
  rw [decide_eq_false (q w hw).ne]
  rfl
/-! ### what may be shown -/
structure Nice (m k : Nat) (d : PyData) : Prop where
  lay : d.canLay0 = true
  dp : d.depth ≤ k
  wt : d.weight ≤ m
  sh : d.intsShort 13 = true
  sw : d.showable = true
theorem Nice.mono {m k m' k' : Nat} {d : PyData} (h : Nice m k d) (h1 : m ≤ m') (h2 : k ≤ k') : Nice m' k' d := ⟨h.lay, Nat.le_trans h.dp h2, Nat.le_trans h.wt h1, h.sh, h.sw⟩
theorem nice_all {k : Nat} : ∀ {l : List PyData} {ms : List Nat}, Paired (fun d m => Nice m k d) l ms → PyData.canLayAll0 l = true ∧ PyData.depthAll l ≤ k ∧ PyData.weightAll l ≤ (ms.map (· + 1)).sum ∧ PyData.intsShortAll 13 l = true ∧ PyData.showableAll l = true
  | _, _, .nil => ⟨by simp [PyData.canLayAll0], by simp [PyData.depthAll], by simp [PyData.weightAll], by simp [PyData.intsShortAll], by simp [PyData.showableAll]⟩
  | _, _, .cons hd h => by
    obtain ⟨a, b, c, e, f⟩ := nice_all h
    have h3 := hd.wt
    have h4 := hd.dp
    refine ⟨by simp [PyData.canLayAll0, hd.lay, a], by simp [PyData.depthAll]; omega, ?_, by simp [PyData.intsShortAll, hd.sh, e], by simp [PyData.showableAll, hd.sw, f]⟩
    simp only [PyData.weightAll, List.map_cons, List.sum_cons]
    omega
theorem nice_tup {k : Nat} {l : List PyData} {ms : List Nat} (h : Paired (fun d m => Nice m k d) l ms) : Nice (ms.map (· + 1)).sum (k + 1) (.tuple l) := by
  obtain ⟨a, b, c, e, f⟩ := nice_all h
  exact ⟨by simpa [PyData.canLay0] using a, by simp only [PyData.depth]; omega, by simpa [PyData.weight] using c, by simpa [PyData.intsShort] using e, by simpa [PyData.showable] using f⟩
theorem nice_lst {k : Nat} {l : List PyData} {ms : List Nat} (h : Paired (fun d m => Nice m k d) l ms) : Nice (ms.map (· + 1)).sum (k + 1) (.list l) := by
  obtain ⟨a, b, c, e, f⟩ := nice_all h
  exact ⟨by simpa [PyData.canLay0] using a, by simp only [PyData.depth]; omega, by simpa [PyData.weight] using c, by simpa [PyData.intsShort] using e, by simpa [PyData.showable] using f⟩
theorem nice_bool (b : Bool) : Nice 0 0 (.bool b) := ⟨by simp [PyData.canLay0], by simp [PyData.depth], by simp [PyData.weight], by simp [PyData.intsShort], by simp [PyData.showable]⟩
theorem nice_none : Nice 0 0 .none := ⟨by simp [PyData.canLay0], by simp [PyData.depth], by simp [PyData.weight], by simp [PyData.intsShort], by simp [PyData.showable]⟩
theorem nice_str {x : Str} (h : Asc x) : Nice x.length 0 (.str x) := by
  refine ⟨?_, by simp [PyData.depth], by simp only [PyData.weight]; exact Nat.le_refl _, by simp [PyData.intsShort], by simp [PyData.showable]⟩
  simp only [PyData.canLay0, PyData.strOk]
  rw [Array.all_eq_true']
  intro c hc
  have := h c (by rw [Array.mem_toList_iff]; exact hc)
  simp only [decide_eq_true_eq]
  omega
theorem nice_int {n : Nat} (h : n < 1000000000000) : Nice 41 0 (iN n) := by
  have hl : n.log2 ≤ 40 := by
    by_cases h0 : n = 0
    · subst h0; decide
    · have : n.log2 < 41 := (Nat.log2_lt h0).mpr (by omega)
      omega
  have hs := PyData.intsShortAll_ints [(n : Int)] (fun m hm => by
    rw [List.mem_singleton] at hm
    subst hm
    simpa using h)
  refine ⟨by simp [PyData.canLay0], by simp [PyData.depth], ?_, by simpa [PyData.intsShortAll] using hs, ?_⟩
  · simp only [PyData.weight]
    split
    · omega
    · rw [Int.natAbs_natCast]; omega
  · simp only [PyData.showable, Int.natAbs_natCast, decide_eq_true_iff]
    omega
theorem Nice.repr {m k : Nat} {d : PyData} (h : Nice m k d) (h1 : m ≤ 1048576) (h2 : k ≤ 50) : reprOk d = true := by
  have hl : d.layable0 = true := by
    have e : (2 : Nat) ^ 20 = 1048576 := by decide
    have a := h.dp
    have b := h.wt
    unfold PyData.layable0
    rw [h.lay, e, decide_eq_true (show d.depth ≤ 64 by omega), decide_eq_true (show d.weight ≤ 1048576 by omega)]
    rfl
  have s := PyProof.Rows.shown_le13 hl h.sh
  have a := h.dp
  unfold reprOk
  rw [h.sw, PyData.hasDict_of_canLay d h.lay, decide_eq_true (show d.depth ≤ 50 by omega), decide_eq_true (show d.shown.length ≤ LINE from line_big (by omega))]
  rfl
theorem Nice.shape {m k : Nat} {d : PyData} (h : Nice m k d) (h2 : k ≤ 50) : SeqAt.shaped d = true := by
  have a := h.dp
  unfold SeqAt.shaped
  rw [h.lay, decide_eq_true (show d.depth ≤ 64 by omega)]
  rfl
theorem paired_map {α β γ : Type} {P : β → γ → Prop} {f : α → β} {g : α → γ} : ∀ {l : List α}, (∀ x ∈ l, P (f x) (g x)) → Paired P (l.map f) (l.map g)
  | [], _ => .nil
  | x :: l, h => .cons (h x List.mem_cons_self) (paired_map fun y hy => h y (List.mem_cons_of_mem _ hy))
theorem nice_wD {x : Str} (h : Asc x) : Nice (x.length + 1) 1 (wD (Txt.split x sp)) := by
  have := nice_tup (k := 0) (l := (Txt.split x sp).map PyData.str) (ms := (Txt.split x sp).map fun p => p.length) (paired_map fun p hp => nice_str (split_asc sep_sp h p hp))
  rw [List.map_map] at this
  rw [← split_sum (x := x) sep_sp]
  exact this
theorem nice_rowsD {x : Str} (h : Asc x) : Nice (2 * (x.length + 1)) 2 (rowsD x) := by
  have := nice_tup (k := 1) (l := (Txt.split x nl).map fun r => wD (Txt.split r sp)) (ms := (Txt.split x nl).map fun r => r.length + 1) (paired_map fun p hp => nice_wD (split_asc sep_nl h p hp))
  refine this.mono ?_ (Nat.le_refl _)
  rw [List.map_map]
  have e : ∀ l : List Str, (l.map ((· + 1) ∘ fun r : Str => r.length + 1)).sum = (l.map fun r => r.length + 1).sum + l.length := by
    intro l
    induction l with
    | nil => rfl
    | cons x l ih =>
      simp only [List.map_cons, List.sum_cons, List.length_cons, ih, Function.comp]
      omega
  rw [e, split_sum sep_nl]
  have := split_len (x := x) sep_nl
  omega
end Dw

set_option Elab.async false
set_option linter.all false
set_option maxRecDepth 100000
set_option maxHeartbeats 4000000
/-! Steps of evaluations; the defs over texts. -/
namespace Dw
open PySem
section
variable {C : Nat → List Val → Sto → R Val} {G : List PyData} {ρ ρ1 : Rho} {S S1 S2 S3 S4 : Sto} {a b c e e' : Ex} {r : List Ex} {x y z u d : PyData} {v v' w : Val} {k : Blt} {f i : Nat}
theorem e_call1 (h : evE C G e ρ S = .ok v S1) (h2 : C f [v] S1 = .ok w S2) : evE C G (.callK f [] [0] [] [e] []) ρ S = .ok w S2 := by
  rw [e_call, l_cons, h, bind_ok, l_nil, bind_ok, bind_ok, l_nil, bind_ok]
  exact (callKR_1 C f v S1).trans h2
theorem e_call1R {q : R Val} (h : evE C G e ρ S = .ok v S1) (h2 : C f [v] S1 = q) : evE C G (.callK f [] [0] [] [e] []) ρ S = q := by
  rw [e_call, l_cons, h, bind_ok, l_nil, bind_ok, bind_ok, l_nil, bind_ok]
  exact (callKR_1 C f v S1).trans h2
theorem s_exc {s : Sx} {l : List Sx} {ρ1 : Rho} {c : Nat} (h : evS C G s ρ S = .exc c d ρ1 S1) : evSs C G (s :: l) ρ S = .exc c d ρ1 S1 := by rw [s_cons, h]
theorem x_exc {c : Nat} (h : evE C G e ρ S = .exc c d S1) : evS C G (.exp e) ρ S = .exc c d ρ S1 := by rw [s_exp, h]; rfl
theorem e_call1k {q : String} (h : evE C G e ρ S = .ok v S1) (h2 : C f [v] S1 = .ok w S2) : evE C G (.callK f [q] [0] [] [] [e]) ρ S = .ok w S2 := by
  rw [e_call, l_nil, bind_ok, l_cons, h, bind_ok, l_nil, bind_ok, bind_ok]
  exact (callKR_1k C f v S1).trans h2
theorem e_call2 (h : evE C G e ρ S = .ok v S1) (h' : evE C G e' ρ S1 = .ok v' S2) (h2 : C f [v, v'] S2 = .ok w S3) : evE C G (.callK f [] [0, 1] [] [e, e'] []) ρ S = .ok w S3 := by
  rw [e_call, l_cons, h, bind_ok, l_cons, h', bind_ok, l_nil, bind_ok, bind_ok, bind_ok, l_nil, bind_ok]
  exact (callKR_2 C f v v' S2).trans h2
theorem v_ok (h : ρ[i]? = some (some v)) : evE C G (.var i) ρ S = .ok v S := by
  rw [e_var, h]
theorem bin_ok {op : Bop} (h : evE C G a ρ S = .ok (.dat x) S1) (h' : evE C G b ρ S1 = .ok (.dat y) S2) (h2 : binD op x y = some z) : evE C G (.bin op a b) ρ S = .ok (.dat z) S2 := by
  rw [e_bin, h, bind_ok, h', bind_ok, binR_dat, h2]
  rfl
theorem cmp_ok {op : Cop} {t : Bool} (h : evE C G a ρ S = .ok (.dat x) S1) (h' : evE C G b ρ S1 = .ok (.dat y) S2) (h2 : cmpD op x y = some t) : evE C G (.cmp op a b) ρ S = .ok (.dat (.bool t)) S2 := by
  rw [e_cmp, h, bind_ok, h', bind_ok, cmpR_dat, h2]
  rfl
theorem idx_ok (h : evE C G a ρ S = .ok (.dat x) S1) (h' : evE C G b ρ S1 = .ok (.dat y) S2) (h2 : idxD x y = some z) : evE C G (.idx a b) ρ S = .ok (.dat z) S2 := by
  rw [e_idx, h, bind_ok, h', bind_ok, idxR_dat, h2]
  rfl
theorem sl_ok {lo hi : Option Ex} {l h : Option Int} (h1 : evE C G a ρ S = .ok (.dat x) S1) (h2 : evO C G lo ρ S1 = .ok l S2) (h3 : evO C G hi ρ S2 = .ok h S3) (h4 : slD x l h = some z) : evE C G (.sl a lo hi) ρ S = .ok (.dat z) S3 := by
  rw [e_sl, h1, bind_ok, h2, bind_ok, h3, bind_ok]
  show give ((slD x l h).map Val.dat) S3 = _
  rw [h4]
  rfl
theorem blt1_ok (h : evE C G a ρ S = .ok (.dat x) S1) (h2 : bltD k [x] = some z) : evE C G (.blt k [a]) ρ S = .ok (.dat z) S1 := by
  rw [e_blt, l_cons, h, bind_ok, l_nil, bind_ok, bind_ok, bltR_1, h2]
  rfl
theorem blt2_ok (h : evE C G a ρ S = .ok (.dat x) S1) (h' : evE C G b ρ S1 = .ok (.dat y) S2) (h2 : bltD k [x, y] = some z) : evE C G (.blt k [a, b]) ρ S = .ok (.dat z) S2 := by
  rw [e_blt, l_cons, h, bind_ok, l_cons, h', bind_ok, l_nil, bind_ok, bind_ok, bind_ok, bltR_2, h2]
  rfl
theorem and2_t {q : R Val} (h : evE C G a ρ S = .ok (.dat (.bool true)) S1) (h2 : evAnd C G (b :: r) ρ S1 = q) : evAnd C G (a :: b :: r) ρ S = q := by
  rw [e_and2, h, bind_ok, toB_ok, bind_ok, if_pos rfl, h2]
theorem and2_f (h : evE C G a ρ S = .ok (.dat (.bool false)) S1) : evAnd C G (a :: b :: r) ρ S = .ok (.dat (.bool false)) S1 := by
  rw [e_and2, h, bind_ok, toB_ok, bind_ok, if_neg (by decide)]
/-- and, of parts that change nothing -/
theorem and2_b {p q : Bool} (h : evE C G a ρ S = .ok (.dat (.bool p)) S) (h2 : p = true → evAnd C G (b :: r) ρ S = .ok (.dat (.bool q)) S) : evAnd C G (a :: b :: r) ρ S = .ok (.dat (.bool (p && q))) S := by
  cases p with
  | true => exact (and2_t h (h2 rfl)).trans (by rw [Bool.true_and])
  | false => exact and2_f h
theorem and1_b {p : Bool} (h : evE C G a ρ S = .ok (.dat (.bool p)) S) : evAnd C G [a] ρ S = .ok (.dat (.bool p)) S := by rw [e_and1, h]
theorem or2_t (h : evE C G a ρ S = .ok (.dat (.bool true)) S1) : evOr C G (a :: b :: r) ρ S = .ok (.dat (.bool true)) S1 := by
  rw [e_or2, h, bind_ok, toB_ok, bind_ok, if_pos rfl]
theorem or2_f {q : R Val} (h : evE C G a ρ S = .ok (.dat (.bool false)) S1) (h2 : evOr C G (b :: r) ρ S1 = q) : evOr C G (a :: b :: r) ρ S = q := by
  rw [e_or2, h, bind_ok, toB_ok, bind_ok, if_neg (by decide), h2]
theorem or2_b {p q : Bool} (h : evE C G a ρ S = .ok (.dat (.bool p)) S) (h2 : p = false → evOr C G (b :: r) ρ S = .ok (.dat (.bool q)) S) : evOr C G (a :: b :: r) ρ S = .ok (.dat (.bool (p || q))) S := by
  cases p with
  | false => exact (or2_f h (h2 rfl)).trans (by rw [Bool.false_or])
  | true => exact or2_t h
theorem or1_b {p : Bool} (h : evE C G a ρ S = .ok (.dat (.bool p)) S) : evOr C G [a] ρ S = .ok (.dat (.bool p)) S := by rw [e_or1, h]
theorem and_ok {q : R Val} {es : List Ex} (h : evAnd C G es ρ S = q) : evE C G (.and es) ρ S = q := by rw [e_and, h]
theorem or_ok {q : R Val} {es : List Ex} (h : evOr C G es ρ S = q) : evE C G (.or es) ρ S = q := by rw [e_or, h]
theorem isi_ok {t : Ty} (h : evE C G a ρ S = .ok (.dat d) S1) : evE C G (.isi a t) ρ S = .ok (.dat (.bool (isT d t))) S1 := by
  rw [e_isi, h, bind_ok, isiR_dat]
theorem not_ok {q : Bool} (h : evE C G e ρ S = .ok (.dat (.bool q)) S1) : evE C G (.not e) ρ S = .ok (.dat (.bool (!q))) S1 := by
  rw [e_not, h, bind_ok, toB_ok, bind_ok]
theorem tup2_ok (h1 : evE C G a ρ S = .ok (.dat x) S1) (h2 : evE C G b ρ S1 = .ok (.dat y) S2) : evE C G (.tup [a, b]) ρ S = .ok (.dat (.tuple [x, y])) S2 := by
  rw [e_tup, l_cons, h1, bind_ok, l_cons, h2, bind_ok, l_nil, bind_ok, bind_ok, bind_ok, tupR_2]
theorem tup1_ok (h1 : evE C G a ρ S = .ok (.dat x) S1) : evE C G (.tup [a]) ρ S = .ok (.dat (.tuple [x])) S1 := by
  rw [e_tup, l_cons, h1, bind_ok, l_nil, bind_ok, bind_ok, tupR_1]
theorem tup3_ok (h1 : evE C G a ρ S = .ok (.dat x) S1) (h2 : evE C G b ρ S1 = .ok (.dat y) S2) (h3 : evE C G c ρ S2 = .ok (.dat z) S3) : evE C G (.tup [a, b, c]) ρ S = .ok (.dat (.tuple [x, y, z])) S3 := by
  rw [e_tup, l_cons, h1, bind_ok, l_cons, h2, bind_ok, l_cons, h3, bind_ok, l_nil, bind_ok, bind_ok, bind_ok, bind_ok, tupR_3]
theorem tup4_ok {g : Ex} (h1 : evE C G a ρ S = .ok (.dat x) S1) (h2 : evE C G b ρ S1 = .ok (.dat y) S2) (h3 : evE C G c ρ S2 = .ok (.dat z) S3) (h4 : evE C G g ρ S3 = .ok (.dat u) S4) : evE C G (.tup [a, b, c, g]) ρ S = .ok (.dat (.tuple [x, y, z, u])) S4 := by
  rw [e_tup, l_cons, h1, bind_ok, l_cons, h2, bind_ok, l_cons, h3, bind_ok, l_cons, h4, bind_ok, l_nil, bind_ok, bind_ok, bind_ok, bind_ok, bind_ok, tupR_4]
theorem lst0_ok : evE C G (.lst []) ρ S = .ok (.dat (.list [])) S := by
  rw [e_lst, l_nil, bind_ok, lstR_0]
theorem lst1_ok (h1 : evE C G a ρ S = .ok (.dat x) S1) : evE C G (.lst [a]) ρ S = .ok (.dat (.list [x])) S1 := by
  rw [e_lst, l_cons, h1, bind_ok, l_nil, bind_ok, bind_ok, lstR_1]
theorem lst2_ok (h1 : evE C G a ρ S = .ok (.dat x) S1) (h2 : evE C G b ρ S1 = .ok (.dat y) S2) : evE C G (.lst [a, b]) ρ S = .ok (.dat (.list [x, y])) S2 := by
  rw [e_lst, l_cons, h1, bind_ok, l_cons, h2, bind_ok, l_nil, bind_ok, bind_ok, bind_ok, lstR_2]
theorem lst4_ok {g : Ex} (h1 : evE C G a ρ S = .ok (.dat x) S1) (h2 : evE C G b ρ S1 = .ok (.dat y) S2) (h3 : evE C G c ρ S2 = .ok (.dat z) S3) (h4 : evE C G g ρ S3 = .ok (.dat u) S4) : evE C G (.lst [a, b, c, g]) ρ S = .ok (.dat (.list [x, y, z, u])) S4 := by
  rw [e_lst, l_cons, h1, bind_ok, l_cons, h2, bind_ok, l_cons, h3, bind_ok, l_cons, h4, bind_ok, l_nil, bind_ok, bind_ok, bind_ok, bind_ok, bind_ok, lstR_4]
theorem ife_t (h : evE C G c ρ S = .ok (.dat (.bool true)) S1) (h2 : evE C G a ρ S1 = .ok v S2) : evE C G (.ife c a b) ρ S = .ok v S2 := by
  rw [e_ife, h, bind_ok, toB_ok, bind_ok, if_pos rfl, h2]
theorem ife_f (h : evE C G c ρ S = .ok (.dat (.bool false)) S1) (h2 : evE C G b ρ S1 = .ok v S2) : evE C G (.ife c a b) ρ S = .ok v S2 := by
  rw [e_ife, h, bind_ok, toB_ok, bind_ok, if_neg (by decide), h2]
theorem smt_ok {m : Smt} {t : Str} (h : evE C G a ρ S = .ok (.dat (.str t)) S1) (h' : evE C G b ρ S1 = .ok (.dat y) S2) (h2 : smtD m (.str t) y = some z) : evE C G (.smt m a b) ρ S = .ok (.dat z) S2 := by
  rw [e_smt, h, bind_ok, isStrV_ok, bind_ok, h', bind_ok, smtR_dat, h2]
  rfl
theorem val_ok {vs : List Val} (h : evE C G a ρ S = .ok v S1) (h2 : items v = some vs) : evI C G (.val a) ρ S = .ok vs S1 := by
  rw [i_val, h, bind_ok, h2]
  rfl
theorem cp_map {it : It} {ds : List PyData} {g : PyData → PyData} {own : List Nat} (hi : evI C G it ρ S = .ok (ds.map .dat) S1) (hl : ds.length ≤ 16777216) (h : ∀ d ∈ ds, evE C G e ((wipeE ρ own).set i (some (.dat d))) S1 = .ok (.dat (g d)) S1) : evE C G (.cp e (.name i) it [] own) ρ S = .ok (.dat (.list (ds.map g))) S1 := by
  rw [e_cpF]
  unfold cpF
  rw [hi, bind_ok, if_pos (show (ds.map Val.dat).length ≤ LINE from line_big (by rw [List.length_map]; exact hl)), compL_dat (g := fun v => match v with
    | .dat d => g d
    | _ => .none)]
  · rw [bind_ok, lstR_dat, List.map_map]
    rfl
  · intro v hv
    obtain ⟨d, hd, rfl⟩ := List.mem_map.mp hv
    unfold turnF
    rw [setTg_name]
    simp only
    rw [if_nil, bind_ok, if_pos rfl, h d hd, bind_ok, calm_ok']
theorem cp_filt {it : It} {ds : List PyData} {p : PyData → Bool} {g : PyData → PyData} {own : List Nat} (hi : evI C G it ρ S = .ok (ds.map .dat) S1) (hl : ds.length ≤ 16777216)
    (hp : ∀ d ∈ ds, evE C G c ((wipeE ρ own).set i (some (.dat d))) S1 = .ok (.dat (.bool (p d))) S1) (h : ∀ d ∈ ds, p d = true → evE C G e ((wipeE ρ own).set i (some (.dat d))) S1 = .ok (.dat (g d)) S1) : evE C G (.cp e (.name i) it [c] own) ρ S = .ok (.dat (.list ((ds.filter p).map g))) S1 := by
  rw [e_cpF]
  unfold cpF
  rw [hi, bind_ok, if_pos (show (ds.map Val.dat).length ≤ LINE from line_big (by rw [List.length_map]; exact hl)), compL_opt (g := fun v => match v with
    | .dat d => if p d = true then some (g d) else none
    | _ => none)]
  · rw [bind_ok, lstR_dat, List.filterMap_map]
    have : ∀ ds : List PyData, List.filterMap ((fun v => match v with
      | Val.dat d => if p d = true then some (g d) else none
      | _ => none) ∘ Val.dat) ds = (ds.filter p).map g := by
      intro ds
      induction ds with
      | nil => rfl
      | cons d ds ih =>
        rw [List.filterMap_cons, List.filter_cons]
        simp only [Function.comp] at ih ⊢
        cases p d with
        | true => simp only [if_true, List.map_cons]; rw [ih]
        | false => simp only [Bool.false_eq_true, if_false]; exact ih
    rw [this]
  · intro v hv
    obtain ⟨d, hd, rfl⟩ := List.mem_map.mp hv
    unfold turnF
    rw [setTg_name]
    simp only
    rw [if_one, hp d hd, bind_ok, toB_ok, bind_ok]
    by_cases q : p d = true
    · rw [if_pos q, if_pos q, h d hd q, bind_ok, calm_ok']
      rfl
    · rw [if_neg q, if_neg q, calm_ok']
      rfl
theorem compM_dat {f : Val → Sto → R (List Val)} {g : PyData → List PyData} : ∀ {ds : List PyData}, (∀ d ∈ ds, f (.dat d) S = .ok ((g d).map .dat) S) → compM f (ds.map .dat) S = .ok ((ds.map g).flatten.map .dat) S
  | [], _ => rfl
  | d :: ds, h => by
    rw [List.map_cons]
    unfold compM
    rw [h d List.mem_cons_self, bind_ok, compM_dat fun w hw => h w (List.mem_cons_of_mem _ hw), bind_ok, List.map_cons, List.flatten_cons, List.map_append]
theorem cp2_map {it it1 : It} {i1 : Nat} {ds : List PyData} {hh : PyData → List PyData} {g : PyData → PyData → PyData} {own own1 : List Nat} (hi : evI C G it ρ S = .ok (ds.map .dat) S1) (hl : ((ds.map fun d => (hh d).map (g d)).flatten).length ≤ 16777216)
    (h1 : ∀ d ∈ ds, evI C G it1 ((wipeE ρ own).set i (some (.dat d))) S1 = .ok ((hh d).map .dat) S1)
    (h2 : ∀ d ∈ ds, ∀ w ∈ hh d, evE C G e ((wipeE ((wipeE ρ own).set i (some (.dat d))) own1).set i1 (some (.dat w))) S1 = .ok (.dat (g d w)) S1) :
    evE C G (.cp2 e (.name i) it (.name i1) it1 [] own own1) ρ S = .ok (.dat (.list (ds.map fun d => (hh d).map (g d)).flatten)) S1 := by
  rw [e_cp2F]
  unfold cp2F
  rw [hi, bind_ok, compM_dat (g := fun d => (hh d).map (g d)), bind_ok, if_pos (show (List.map Val.dat _).length ≤ LINE from line_big (by rw [List.length_map]; exact hl)), lstR_dat]
  intro d hd
  unfold outF
  rw [setTg_name]
  simp only
  rw [h1 d hd, bind_ok, compL_dat (g := fun v => match v with
    | .dat w => g d w
    | _ => .none), calm_ok']
  · simp only [List.map_map]
    rfl
  · intro v hv
    obtain ⟨w, hw, rfl⟩ := List.mem_map.mp hv
    unfold turnF
    rw [setTg_name]
    simp only
    rw [if_nil, bind_ok, if_pos rfl, h2 d hd w hw, bind_ok, calm_ok']
end
theorem run_nx {T : List Fd} {Gc : List PyData} {n f : Nat} {vs : List Val} {S : Sto} {F : Fd} {ρ ρ1 : Rho} {b : List Sx} (h : T[f]? = some F) (h1 : vs.length = F.np) (h2 : F.np ≤ F.nn) (hk : F.keep = false) (hb : F.body = b)
    (hρ : vs.map some ++ List.replicate (F.nn - F.np) none = ρ) (he : evSs (run T Gc n) Gc b ρ S = .nx ρ1 S) : run T Gc (n + 1) f vs S = .ok (.dat .none) S := by
  rw [run_eq h h1 h2, hk, hb, hρ, he]
  show R.ok (Val.dat .none) (S.take S.length) = _
  rw [List.take_length]
theorem run_ex {T : List Fd} {Gc : List PyData} {n f c : Nat} {vs : List Val} {S : Sto} {F : Fd} {d : PyData} {ρ ρ1 : Rho} {b : List Sx} (h : T[f]? = some F) (h1 : vs.length = F.np) (h2 : F.np ≤ F.nn) (hk : F.keep = false) (hb : F.body = b)
    (hρ : vs.map some ++ List.replicate (F.nn - F.np) none = ρ) (he : evSs (run T Gc n) Gc b ρ S = .exc c d ρ1 S) : run T Gc (n + 1) f vs S = .exc c d S := by
  rw [run_eq h h1 h2, hk, hb, hρ, he]
  show R.exc c d (S.take S.length) = _
  rw [List.take_length]
theorem sp_ok {x y : Str} (hx : x.length ≤ 1000000) (hy : 0 < y.length) : smtD .split (.str x) (.str y) = some (.list ((Txt.split x y).map .str)) := by
  exact if_pos ⟨hy, line_big (by omega)⟩
theorem strsOf_map : ∀ ys : List Str, strsOf (ys.map .str) = some ys
  | [] => rfl
  | y :: ys => by
    show (strsOf (ys.map .str)).map (y :: ·) = _
    rw [strsOf_map ys]
    rfl
theorem jn_ok {x : Str} {ys : List Str} (h : (ys.map (·.length)).sum + ys.length * x.length ≤ 16777216) : smtD .join (.str x) (.list (ys.map .str)) = some (.str (Txt.join x ys)) ∧ smtD .join (.str x) (.tuple (ys.map .str)) = some (.str (Txt.join x ys)) := by
  have : joinS x (ys.map .str) = some (.str (Txt.join x ys)) := by
    unfold joinS
    rw [strsOf_map]
    exact if_pos h
  exact ⟨this, this⟩
theorem len_sp : sp.length = 1 := by rw [TL.len_tl, tl_sp]; rfl
theorem len_nl : nl.length = 1 := by rw [TL.len_tl, tl_nl]; rfl
/-- is a text without empty words -/
theorem allTrue_bl (l : List Bool) : allTrue (l.map PyData.bool) = some (l.all id) := by
  have := allTrue_map (fun b : Bool => b) l
  rw [this]
  rfl
section
variable (n : Nat) (S : Sto)
theorem r_isstr (d : PyData) : run TT GL (n + 1) 2 [.dat d] S = .ok (.dat (.bool (isT d .str))) S :=
  run_rt (F := F_is_string) (by rfl) (by rfl) (by decide) (by rfl) (by rfl) (by rfl) (s_rt (r_rt (isi_ok (v_ok rfl))))
def inS (g : Str) (c : Nat) : Bool := !(Builtin.Str.occurrences g ⟨#[c]⟩ 0 g.length 1).isEmpty
def inSD (g : Str) : PyData → Bool
  | .str a => !(Builtin.Str.occurrences g a 0 g.length 1).isEmpty
  | _ => false
abbrev sgn (v : Str) : List PyData := v.cps.toList.map fun c => .str ⟨#[c]⟩
theorem items_sgn (v : Str) : items (.dat (.str v)) = some ((sgn v).map .dat) := by rw [items_s, List.map_map]; rfl
theorem r_signs {v g : Str} (hv : v.length ≤ 500000) : run TT GL (n + 1) 3 [.dat (.str v), .dat (.str g)] S = .ok (.dat (.bool ((sgn v).all (inSD g)))) S := by
  have e : evE (run TT GL n) GL (.cp (.cmp .inn (.var 2) (.var 1)) (.name 2) (.val (.var 0)) [] [2]) [some (.dat (.str v)), some (.dat (.str g)), none] S = .ok (.dat (.list ((sgn v).map fun d => .bool (inSD g d)))) S :=
    cp_map (val_ok (v_ok rfl) (items_sgn v)) (by rw [List.length_map, ← TL.len_tl]; omega) fun d hd => by
      obtain ⟨c, _, rfl⟩ := List.mem_map.mp hd
      exact cmp_ok (v_ok rfl) (v_ok rfl) rfl
  exact run_rt (F := F_is_of_signs) (by rfl) (by rfl) (by decide) (by rfl) (by rfl) (by rfl) (s_rt (r_rt (blt1_ok e (by rw [bl_all, allTrue_map]; rfl))))
end
end Dw

set_option Elab.async false
set_option linter.all false
set_option maxRecDepth 100000
set_option maxHeartbeats 4000000
/-! The law's own split; texts put together; names and number words. -/
namespace Dw
open PySem
theorem eqv_str (a b : Str) : PyData.eqv (.str a) (.str b) = decide (a = b) := by
  simp [PyData.eqv]
  rw [Bool.eq_iff_iff]
  simp
theorem eqv_nil (l : List PyData) : PyData.eqv (.list l) (.list []) = l.isEmpty := by
  cases l <;> simp [PyData.eqv, PyData.eqvAll]
theorem shaped_list {l : List PyData} {m k : Nat} (h : ∀ d ∈ l, Nice m k d) (hk : k ≤ 49) : SeqAt.shaped (.list l) = true := by
  have p : Paired (fun d m => Nice m k d) l (l.map fun _ => m) := by
    have := paired_map (P := fun d m => Nice m k d) (f := id) (g := fun _ : PyData => m) (l := l) h
    rw [List.map_id] at this
    exact this
  exact (nice_lst p).shape (by omega)
theorem shaped_tup {l : List PyData} {m k : Nat} (h : ∀ d ∈ l, Nice m k d) (hk : k ≤ 49) : SeqAt.shaped (.tuple l) = true := by
  have p : Paired (fun d m => Nice m k d) l (l.map fun _ => m) := by
    have := paired_map (P := fun d m => Nice m k d) (f := id) (g := fun _ : PyData => m) (l := l) h
    rw [List.map_id] at this
    exact this
  exact (nice_tup p).shape (by omega)
theorem eq_nil {l : List PyData} (h : SeqAt.shaped (.list l) = true) : cmpD .eq (.list l) (.list []) = some l.isEmpty := by
  show (if SeqAt.shaped (.list l) = true ∧ SeqAt.shaped (.list []) = true then some (PyData.eqv (.list l) (.list [])) else none) = _
  rw [if_pos ⟨h, by decide +kernel⟩, eqv_nil]
theorem ne_nil {l : List PyData} (h : SeqAt.shaped (.list l) = true) : cmpD .ne (.list l) (.list []) = some (!l.isEmpty) := by
  show (cmpD .eq (.list l) (.list [])).map (!·) = _
  rw [eq_nil h]
  rfl
theorem in_tup {a : Str} {l : List PyData} (ha : Asc a) (h : SeqAt.shaped (.tuple l) = true) : cmpD .inn (.str a) (.tuple l) = some (l.any fun z => PyData.eqv z (.str a)) := by
  show (if SeqAt.shaped (.str a) = true ∧ SeqAt.shaped (.tuple l) = true then some (l.any fun z => PyData.eqv z (.str a)) else none) = _
  rw [if_pos ⟨(nice_str ha).shape (by omega), h⟩]
theorem nin_tup {a : Str} {l : List PyData} (ha : Asc a) (h : SeqAt.shaped (.tuple l) = true) : cmpD .nin (.str a) (.tuple l) = some (!(l.any fun z => PyData.eqv z (.str a))) := by
  show (cmpD .inn (.str a) (.tuple l)).map (!·) = _
  rw [in_tup ha h]
  rfl
theorem nin_lst {a : Str} {l : List PyData} (ha : Asc a) (h : SeqAt.shaped (.list l) = true) : cmpD .nin (.str a) (.list l) = some (!(l.any fun z => PyData.eqv z (.str a))) := by
  show (if SeqAt.shaped (.str a) = true ∧ SeqAt.shaped (.list l) = true then some (l.any fun z => PyData.eqv z (.str a)) else none).map (!·) = _
  rw [if_pos ⟨(nice_str ha).shape (by omega), h⟩]
  rfl
theorem nice_strs {ws : List Str} {m : Nat} (h : ∀ w ∈ ws, Asc w ∧ w.length ≤ m) : ∀ d ∈ ws.map PyData.str, Nice m 0 d := fun d hd => by
  obtain ⟨w, hw, rfl⟩ := List.mem_map.mp hd
  exact (nice_str (h w hw).1).mono (h w hw).2 (Nat.le_refl _)
def VAs (d : PyData) : Prop := ∀ x, d = .str x → Asc x
def emptyIn : PyData → Bool
  | .tuple l => l.any fun z => PyData.eqv z (.str (Str.ofString ""))
  | _ => false
theorem asc_e : Asc (Str.ofString "") := by
  have e : TL.tl (Str.ofString "") = [] := by decide +kernel
  intro c hc
  rw [e] at hc
  cases hc
theorem any_all {α : Type} (p : α → Bool) : ∀ l : List α, (l.filter p).isEmpty = l.all fun x => !p x
  | [] => rfl
  | x :: l => by
    rw [List.filter_cons, List.all_cons]
    cases p x with
    | true => simp
    | false => simp only [Bool.false_eq_true, if_false, Bool.not_false, Bool.true_and]; exact any_all p l
theorem map_empty {α β : Type} (f : α → β) (l : List α) : (l.map f).isEmpty = l.isEmpty := by cases l <;> rfl
section
variable (n : Nat) (S : Sto)
theorem r_is {d : PyData} (hd : reprOk d = true) : run TT GL (n + 1) 58 [.dat d, .dat d] S = .ok (.dat (.bool true)) S :=
  run_rt (F := F__law_is) (by rfl) (by rfl) (by decide) (by rfl) (by rfl) (by rfl) (s_rt (r_rt (cmp_ok (blt1_ok (v_ok rfl) (bl_repr _ hd)) (blt1_ok (v_ok rfl) (bl_repr _ hd)) (by rw [c_eqS]; simp))))
/-! names, number words -/
abbrev LET : Str := Str.ofString "abcdefghijklmnopqrstuvwxyz"
abbrev FIG : Str := Str.ofString "0123456789"
def KW : List Str := [Str.ofString "again", Str.ofString "due", Str.ofString "either", Str.ofString "else", Str.ofString "end", Str.ofString "free", Str.ofString "hand", Str.ofString "hold", Str.ofString "if", Str.ofString "keep", Str.ofString "or", Str.ofString "read", Str.ofString "rest", Str.ofString "serve", Str.ofString "set", Str.ofString "task", Str.ofString "var", Str.ofString "while", Str.ofString "work"]
theorem kw_asc : ∀ w ∈ KW, Asc w ∧ w.length ≤ 8 := by decide +kernel
theorem kw_tup : SeqAt.shaped (.tuple (KW.map .str)) = true := shaped_tup (nice_strs kw_asc) (by omega)
theorem kw_lst : SeqAt.shaped (.list (KW.map .str)) = true := shaped_list (nice_strs kw_asc) (by omega)
def lenIn (v : Str) (k : Nat) : Bool := decide (1 ≤ v.length) && decide (v.length ≤ k)
def keyB (v : Str) : Bool := (KW.map PyData.str).any fun z => PyData.eqv z (.str v)
def nameB (v : Str) : Bool := lenIn v 8 && ((sgn v).all (inSD LET) && !keyB v)
def zeroB (v : Str) : Bool := decide (v = Str.ofString "0") || !decide ((match v.cps.toList with
  | c :: _ => (⟨#[c]⟩ : Str)
  | [] => Str.ofString "") = Str.ofString "0")
def numB (v : Str) : Bool := lenIn v 2 && ((sgn v).all (inSD FIG) && zeroB v)
section
variable {v : Str} (hv : v.length ≤ 1000) (hA : Asc v)
include hv
theorem len_ok {C : Nat → List Val → Sto → R Val} {ρ : Rho} (h : ρ[0]? = some (some (.dat (.str v)))) : evE C GL (.blt .len [(.var 0)]) ρ S = .ok (.dat (iN v.length)) S :=
  blt1_ok (v_ok h) (show (if v.length ≤ LINE then some (PyData.int (v.length : Int)) else none) = _ by rw [if_pos (line_big (by omega))])
theorem chn_len {C : Nat → List Val → Sto → R Val} {ρ : Rho} {g k : Nat} (h : ρ[0]? = some (some (.dat (.str v)))) (hg : GL[g]? = some (.int (k : Int))) : evE C GL (.chn .le .le (.con (.int 1)) (.blt .len [(.var 0)]) (.glob g)) ρ S = .ok (.dat (.bool (lenIn v k))) S := by
  rw [e_chn, e_con, bind_ok, len_ok S hv h, bind_ok, cmpR_dat, c_le, Option.map_some, give_some, bind_ok, toB_ok, bind_ok, e_glob, hg]
  unfold lenIn
  by_cases h1 : 1 ≤ v.length
  · rw [decide_eq_true (show (1 : Int) ≤ (v.length : Int) by omega), decide_eq_true h1, if_pos rfl, Option.map_some, give_some, bind_ok, cmpR_dat, c_le, Option.map_some, give_some]
    congr 3
    rw [Bool.true_and, Bool.eq_iff_iff]
    simp
  · rw [decide_eq_false (show ¬ (1 : Int) ≤ (v.length : Int) by omega), decide_eq_false h1, if_neg (by decide)]
    rfl
include hA
theorem r_name_str : run TT GL (n + 2) 7 [.dat (.str v)] S = .ok (.dat (.bool (nameB v))) S := by
  have e0 : evE (run TT GL (n + 1)) GL (.callK 2 [] [0] [] [(.var 0)] []) [some (.dat (.str v))] S = .ok (.dat (.bool true)) S := e_call1 (v_ok rfl) (r_isstr n S (.str v))
  have e1 := chn_len (C := run TT GL (n + 1)) (ρ := [some (.dat (.str v))]) (g := 0) (k := 8) S hv rfl rfl
  have e2 : evE (run TT GL (n + 1)) GL (.and [(.callK 3 [] [0, 1] [] [(.var 0), (.glob 1)] []), (.cmp .nin (.var 0) (.glob 2))]) [some (.dat (.str v))] S = .ok (.dat (.bool ((sgn v).all (inSD LET) && !keyB v))) S :=
    and_ok (and2_b (e_call2 (v_ok rfl) (show evE _ GL (.glob 1) _ S = .ok (.dat (.str LET)) S from rfl) (r_signs n S (by omega))) fun _ => and1_b (cmp_ok (v_ok rfl) (show evE _ GL (.glob 2) _ S = .ok (.dat (.tuple (KW.map .str))) S from rfl) (nin_tup hA kw_tup)))
  unfold nameB
  have c := or_ok (or2_b (q := !lenIn v 8) (not_ok e0) (fun _ => or1_b (not_ok e1)))
  cases hl : lenIn v 8 with
  | true =>
    rw [hl] at c
    exact run_rt (F := F_is_name_form) (by rfl) (by rfl) (by decide) (by rfl) (by rfl) (by rfl) (s_nx (if_f c (s_nil _ _ _ _)) (s_rt (r_rt e2)))
  | false =>
    rw [hl] at c
    exact run_rt (F := F_is_name_form) (by rfl) (by rfl) (by decide) (by rfl) (by rfl) (by rfl) (s_rt (if_t c (s_rt (r_rt (e_con _ _ _ _ _)))))
end
theorem r_name_oth {d : PyData} (h : isT d .str = false) : run TT GL (n + 2) 7 [.dat d] S = .ok (.dat (.bool false)) S := by
  have e0 : evE (run TT GL (n + 1)) GL (.callK 2 [] [0] [] [(.var 0)] []) [some (.dat d)] S = .ok (.dat (.bool false)) S := e_call1 (v_ok rfl) (by rw [r_isstr n S d, h])
  exact run_rt (F := F_is_name_form) (by rfl) (by rfl) (by decide) (by rfl) (by rfl) (by rfl) (s_rt (if_t (or_ok (or2_t (not_ok e0))) (s_rt (r_rt (e_con _ _ _ _ _)))))
end
end Dw

set_option Elab.async false
set_option linter.all false
set_option maxRecDepth 100000
set_option maxHeartbeats 4000000
/-! The draws. -/
namespace Dw
open PySem
theorem add_nat (a b : Nat) : binD .add (iN a) (iN b) = some (iN (a + b)) := by
  rw [b_add]
  unfold iN
  rw [Int.natCast_add]
theorem sub_nat {a b : Nat} (h : b ≤ a) : binD .sub (iN a) (iN b) = some (iN (a - b)) := by
  rw [b_sub]
  unfold iN
  rw [Int.ofNat_sub h]
theorem mul_nat' {a b : Nat} (ha : a < 1000000000000) (hb : b < 1000000000000) : binD .mul (iN a) (iN b) = some (iN (a * b)) := by
  rw [b_mul _ _ (mul_nat ha hb)]
  unfold iN
  rw [Int.natCast_mul]
theorem mod_nat {a b : Nat} (hb : 0 < b) : binD .mod (iN a) (iN b) = some (iN (a % b)) := by
  rw [b_mod _ _ (by omega)]
  unfold iN
  rw [Int.natCast_emod]
theorem div_nat {a b : Nat} (hb : 0 < b) (h2 : b < 1073741824) : binD .fdiv (iN a) (iN b) = some (iN (a / b)) := by
  rw [b_fdiv _ _ (by omega) (by omega)]
  unfold iN
  rw [Int.natCast_ediv]
theorem eq_nat (a b : Nat) : cmpD .eq (iN a) (iN b) = some (decide (a = b)) := by
  rw [c_eq]
  congr 1
  rw [Bool.eq_iff_iff]
  simp
  omega
theorem lt_nat (a b : Nat) : cmpD .lt (iN a) (iN b) = some (decide (a < b)) := by
  rw [c_lt]
  congr 1
  rw [Bool.eq_iff_iff]
  simp
theorem gt_nat (a b : Nat) : cmpD .gt (iN a) (iN b) = some (decide (b < a)) := by
  rw [c_gt]
  congr 1
  rw [Bool.eq_iff_iff]
  simp
theorem le_nat (a b : Nat) : cmpD .le (iN a) (iN b) = some (decide (a ≤ b)) := by
  rw [c_le]
  congr 1
  rw [Bool.eq_iff_iff]
  simp
theorem rangeV_nat' (lo hi : Nat) {a b : Int} (ha : a = lo) (hb : b = hi) (h : hi < 1000000000000) (h2 : lo < 1000000000000) {l : List Val} (hl : l = (List.range (hi - lo)).map fun (i : Nat) => Val.dat (.int ((lo + i : Nat) : Int))) : rangeV a b = some l := by
  rw [ha, hb, rangeV_nat lo hi h h2, hl]
theorem rng1_nat {C : Nat → List Val → Sto → R Val} {G : List PyData} {ρ : Rho} {S S1 : Sto} {e : Ex} {p : Nat} (hp : p < 1000000000) (h : evE C G e ρ S = .ok (.dat (iN p)) S1) : evI C G (.rng1 e) ρ S = .ok ((List.range p).map fun k => Val.dat (iN k)) S1 := by
  rw [i_rng1, h, bind_ok, toI_ok, bind_ok, rangeV_nat' 0 p (a := 0) (b := (p : Int)) rfl rfl (by omega) (by omega) rfl, give_some]
  simp
/-- the well at place k: its digits, what is stirred, how often -/
def Wl (S : Sto) (k B : Nat) : Prop := ∃ a b c : Nat, S[k]? = some [iN a, iN b, iN c] ∧ b < 2147483629 ∧ c ≤ B
/-- nothing but the place k has changed -/
structure Upd (S S' : Sto) (k : Nat) : Prop where
  len : S'.length = S.length
  oth : ∀ j, j ≠ k → S'[j]? = S[j]?
theorem Upd.refl (S : Sto) (k : Nat) : Upd S S k := ⟨rfl, fun _ _ => rfl⟩
theorem Upd.trans {S S1 S2 : Sto} {k : Nat} (a : Upd S S1 k) (b : Upd S1 S2 k) : Upd S S2 k := ⟨b.len.trans a.len, fun j h => (b.oth j h).trans (a.oth j h)⟩
theorem Upd.set (S : Sto) (k : Nat) (l : List PyData) : Upd S (S.set k l) k := ⟨List.length_set, fun j h => List.getElem?_set_ne (Ne.symm h)⟩
theorem Wl.mono {S : Sto} {k B B' : Nat} (h : Wl S k B) (h2 : B ≤ B') : Wl S k B' := by
  obtain ⟨a, b, c, h1, h3, h4⟩ := h
  exact ⟨a, b, c, h1, h3, by omega⟩
theorem Wl.lt {S : Sto} {k B : Nat} (h : Wl S k B) : k < S.length := by
  obtain ⟨a, b, c, h1, _⟩ := h
  exact (List.getElem?_eq_some_iff.mp h1).1
theorem Wl.at {S S' : Sto} {k B : Nat} (h : Wl S k B) (e : S'[k]? = S[k]?) : Wl S' k B := by
  obtain ⟨a, b, c, h1, h3, h4⟩ := h
  exact ⟨a, b, c, by rw [e]; exact h1, h3, h4⟩
theorem run_rtS {T : List Fd} {Gc : List PyData} {n f : Nat} {vs : List Val} {S S' : Sto} {F : Fd} {d : PyData} {ρ : Rho} {b : List Sx} (h : T[f]? = some F) (h1 : vs.length = F.np) (h2 : F.np ≤ F.nn) (hk : F.keep = false) (hb : F.body = b)
    (hρ : vs.map some ++ List.replicate (F.nn - F.np) none = ρ) (he : evSs (run T Gc n) Gc b ρ S = .rt (.dat d) S') (hl : S'.length = S.length) : run T Gc (n + 1) f vs S = .ok (.dat d) S' := by
  rw [run_eq h h1 h2, hk, hb, hρ, he]
  show R.ok (Val.dat d) (S'.take S.length) = _
  rw [← hl, List.take_length]
section
variable {C : Nat → List Val → Sto → R Val} {G : List PyData} {ρ ρ1 : Rho} {S S1 S2 S3 : Sto} {a b o i e : Ex} {k : Nat} {l : List PyData} {z d : PyData}
theorem cidx_ok {j : Int} (h : evE C G a ρ S = .ok (.cell k) S1) (h' : evE C G b ρ S1 = .ok (.dat (.int j)) S2) (hk : S2[k]? = some l) (hz : nth l j = some z) : evE C G (.idx a b) ρ S = .ok (.dat z) S2 := by
  rw [e_idx, h, bind_ok, h', bind_ok]
  have e1 : deref S2 (.cell k) = some (.list l) := by
    show (S2[k]?).map PyData.list = _
    rw [hk]
    rfl
  have e2 : idxR (.cell k) (.dat (.int j)) S2 = give ((idxD (.list l) (.int j)).map .dat) S2 := by
    show (match deref S2 (.cell k), deref S2 (.dat (.int j)) with
      | some x, some y => give ((idxD x y).map Val.dat) S2
      | _, _ => .bad) = _
    rw [e1]
    rfl
  rw [e2, ix_l, hz]
  rfl
theorem sub_nx {j : Int} {l' : List PyData} (h0 : evE C G e ρ S = .ok (.dat d) S1) (h : evE C G o ρ S1 = .ok (.cell k) S2) (h' : evE C G i ρ S2 = .ok (.dat (.int j)) S3) (hk : S3[k]? = some l) (h1 : 0 ≤ j ∧ j < l.length) (hl : l.set j.toNat d = l') :
    evS C G (.sub o i e) ρ S = .nx ρ (S3.set k l') := by
  rw [s_sub, h0, st_ok]
  simp only [evSub]
  rw [h, st_ok, h', st_ok]
  simp only [setCell, hk]
  rw [if_pos h1, hl]
theorem subn_nx {j : Int} {m : Nat} {d2 : PyData} {l' : List PyData} (h0 : evE C G e ρ S = .ok (.dat (.tuple [d, d2])) S1) (h : evE C G o ρ S1 = .ok (.cell k) S2) (h' : evE C G i ρ S2 = .ok (.dat (.int j)) S3) (hk : S3[k]? = some l) (h1 : 0 ≤ j ∧ j < l.length) (hl : l.set j.toNat d = l')
    (hρ : ρ.set m (some (.dat d2)) = ρ1) : evS C G (.subn o i m e) ρ S = .nx ρ1 (S3.set k l') := by
  rw [s_subn, h0, st_ok]
  simp only [evSub]
  rw [h, st_ok, h', st_ok]
  simp only [setCell, hk]
  rw [if_pos h1, hl, hρ]
theorem app_nx (h : evE C G o ρ S = .ok (.cell k) S1) (h' : evE C G e ρ S1 = .ok (.dat d) S2) (hk : S2[k]? = some l) (hl : l.length < 16777216) : evS C G (.exp (.mth .append o [e])) ρ S = .nx ρ (S2.set k (l ++ [d])) := by
  rw [s_exp, e_app, h, bind_ok, isCell_ok, bind_ok, l_cons, h', bind_ok, l_nil, bind_ok, bind_ok]
  have : appR (.cell k) [.dat d] S2 = .ok (.dat .none) (S2.set k (l ++ [d])) := by
    show (match S2[k]? with
      | some l => if l.length < LINE then R.ok (Val.dat .none) (S2.set k (l ++ [d])) else .bad
      | none => .bad) = _
    rw [hk]
    exact if_pos hl
  rw [this]
  rfl
end
theorem set_same {S : Sto} {k : Nat} {l l' : List PyData} (h : S[k]? = some l) : (S.set k l')[k]? = some l' := List.getElem?_set_self (List.getElem?_eq_some_iff.mp h).1
theorem r_draw (n : Nat) {S : Sto} {k B m : Nat} (w : Wl S k B) (hB : B < 1000000) (m1 : 1 ≤ m) (m2 : m ≤ 1000000) :
    ∃ r S', run TT GL (n + 1) 56 [.cell k, .dat (iN m)] S = .ok (.dat (iN r)) S' ∧ r < m ∧ Wl S' k (B + 1) ∧ Upd S S' k := by
  obtain ⟨a, b, c, hk, hb, hc⟩ := w
  have i0 : nth [iN a, iN b, iN c] 0 = some (iN a) := rfl
  have tst : evE (run TT GL n) GL (.cmp .gt (.idx (.var 0) (.con (.int 0))) (.con (.int 0))) [some (.cell k), some (.dat (iN m)), none, none] S = .ok (.dat (.bool (decide (0 < a)))) S :=
    cmp_ok (cidx_ok (v_ok rfl) (e_con _ _ _ _ _) hk i0) (e_con _ _ _ _ _) (gt_nat a 0)
  by_cases h0 : 0 < a
  · rw [decide_eq_true h0] at tst
    have dm : evE (run TT GL n) GL (.blt .divmod [(.idx (.var 0) (.con (.int 0))), (.var 1)]) [some (.cell k), some (.dat (iN m)), none, none] S = .ok (.dat (.tuple [iN (a / m), iN (a % m)])) S := by
      refine blt2_ok (cidx_ok (v_ok rfl) (e_con _ _ _ _ _) hk i0) (v_ok rfl) ?_
      show (if 0 < (m : Int) ∧ (m : Int) < 1073741824 then some (PyData.tuple [.int ((a : Int) / (m : Int)), .int ((a : Int) % (m : Int))]) else none) = _
      rw [if_pos ⟨by omega, by omega⟩]
      unfold iN
      rw [Int.natCast_ediv, Int.natCast_emod]
    refine ⟨a % m, S.set k [iN (a / m), iN b, iN c], ?_, Nat.mod_lt _ m1, ⟨a / m, b, c, set_same hk, hb, by omega⟩, Upd.set _ _ _⟩
    exact run_rtS (F := F__law_draw) (by rfl) (by rfl) (by decide) (by rfl) (by rfl) (by rfl)
      (s_rt (if_t tst (s_nx (subn_nx (l' := [iN (a / m), iN b, iN c]) dm (v_ok rfl) (e_con _ _ _ _ _) hk ⟨by decide, by simp⟩ rfl rfl) (s_rt (r_rt (v_ok rfl)))))) List.length_set
  · rw [decide_eq_false h0] at tst
    have i1 : nth [iN a, iN b, iN (c + 1)] 1 = some (iN b) := rfl
    have i2 : nth [iN a, iN b, iN c] 2 = some (iN c) := rfl
    have i2' : nth [iN a, iN b, iN (c + 1)] 2 = some (iN (c + 1)) := rfl
    have k1 : (S.set k [iN a, iN b, iN (c + 1)])[k]? = some [iN a, iN b, iN (c + 1)] := set_same hk
    have t1 : evE (run TT GL n) GL (.bin .add (.idx (.var 0) (.con (.int 2))) (.con (.int 1))) [some (.cell k), some (.dat (iN m)), none, none] S = .ok (.dat (iN (c + 1))) S :=
      bin_ok (cidx_ok (v_ok rfl) (e_con _ _ _ _ _) hk i2) (e_con _ _ _ _ _) (add_nat c 1)
    have t2 : evE (run TT GL n) GL (.bin .mod (.blt .int1 [(.bin .add (.bin .mul (.idx (.var 0) (.con (.int 1))) (.con (.int 40009))) (.bin .mul (.con (.int 15013)) (.idx (.var 0) (.con (.int 2)))))]) (.con (.int 2147483629))) [some (.cell k), some (.dat (iN m)), none, none] (S.set k [iN a, iN b, iN (c + 1)]) = .ok (.dat (iN ((b * 40009 + 15013 * (c + 1)) % 2147483629))) (S.set k [iN a, iN b, iN (c + 1)]) :=
      bin_ok (blt1_ok (bin_ok (bin_ok (cidx_ok (v_ok rfl) (e_con _ _ _ _ _) k1 i1) (e_con _ _ _ _ _) (mul_nat' (a := b) (b := 40009) (by omega) (by omega))) (bin_ok (e_con _ _ _ _ _) (cidx_ok (v_ok rfl) (e_con _ _ _ _ _) k1 i2') (mul_nat' (a := 15013) (b := c + 1) (by omega) (by omega))) (add_nat _ _)) (bl_int _)) (e_con _ _ _ _ _) (mod_nat (b := 2147483629) (by omega))
    generalize hs : (b * 40009 + 15013 * (c + 1)) % 2147483629 = s at t2
    have sb : s < 2147483629 := by rw [← hs]; exact Nat.mod_lt _ (by omega)
    have t3 : evE (run TT GL n) GL (.bin .mod (.blt .int1 [(.bin .add (.bin .mul (.var 2) (.bin .add (.bin .mod (.blt .int1 [(.var 2)]) (.con (.int 5003))) (.con (.int 20011)))) (.idx (.var 0) (.con (.int 2))))]) (.con (.int 2147483629))) [some (.cell k), some (.dat (iN m)), some (.dat (iN s)), none] (S.set k [iN a, iN b, iN (c + 1)]) = .ok (.dat (iN ((s * (s % 5003 + 20011) + (c + 1)) % 2147483629))) (S.set k [iN a, iN b, iN (c + 1)]) :=
      bin_ok (blt1_ok (bin_ok (bin_ok (v_ok rfl) (bin_ok (bin_ok (blt1_ok (v_ok rfl) (bl_int _)) (e_con _ _ _ _ _) (mod_nat (b := 5003) (by omega))) (e_con _ _ _ _ _) (add_nat _ 20011)) (mul_nat' (by omega) (by have := Nat.mod_lt s (show 0 < 5003 by omega); omega))) (cidx_ok (v_ok rfl) (e_con _ _ _ _ _) k1 i2') (add_nat _ _)) (bl_int _)) (e_con _ _ _ _ _) (mod_nat (b := 2147483629) (by omega))
    generalize hs2 : (s * (s % 5003 + 20011) + (c + 1)) % 2147483629 = s2 at t3
    have sb2 : s2 < 2147483629 := by rw [← hs2]; exact Nat.mod_lt _ (by omega)
    have k2 : ((S.set k [iN a, iN b, iN (c + 1)]).set k [iN a, iN s2, iN (c + 1)])[k]? = some [iN a, iN s2, iN (c + 1)] := set_same k1
    have j1 : nth [iN a, iN s2, iN (c + 1)] 1 = some (iN s2) := rfl
    have t4 : evE (run TT GL n) GL (.bin .mod (.blt .int1 [(.bin .fdiv (.idx (.var 0) (.con (.int 1))) (.con (.int 1031)))]) (.var 1)) [some (.cell k), some (.dat (iN m)), some (.dat (iN s)), none] ((S.set k [iN a, iN b, iN (c + 1)]).set k [iN a, iN s2, iN (c + 1)]) = .ok (.dat (iN (s2 / 1031 % m))) ((S.set k [iN a, iN b, iN (c + 1)]).set k [iN a, iN s2, iN (c + 1)]) :=
      bin_ok (blt1_ok (bin_ok (cidx_ok (v_ok rfl) (e_con _ _ _ _ _) k2 j1) (e_con _ _ _ _ _) (div_nat (b := 1031) (by omega) (by omega))) (bl_int _)) (v_ok rfl) (mod_nat m1)
    refine ⟨s2 / 1031 % m, (S.set k [iN a, iN b, iN (c + 1)]).set k [iN a, iN s2, iN (c + 1)], ?_, Nat.mod_lt _ m1, ⟨a, s2, c + 1, k2, sb2, by omega⟩, (Upd.set _ _ _).trans (Upd.set _ _ _)⟩
    exact run_rtS (F := F__law_draw) (by rfl) (by rfl) (by decide) (by rfl) (by rfl) (by rfl)
      (s_nx (if_f tst (s_nil _ _ _ _)) (s_nx (sub_nx (l' := [iN a, iN b, iN (c + 1)]) t1 (v_ok rfl) (e_con _ _ _ _ _) hk ⟨by decide, by simp⟩ rfl) (s_nx (a_nx t2 rfl) (s_nx (sub_nx (l' := [iN a, iN s2, iN (c + 1)]) t3 (v_ok rfl) (e_con _ _ _ _ _) k1 ⟨by decide, by simp⟩ rfl) (s_rt (r_rt t4)))))) (by rw [List.length_set, List.length_set])
/-- a draw, as a part of an expression -/
theorem d_ok {n k B m : Nat} {ρ : Rho} {S S0 : Sto} {e : Ex} (hv : ρ[0]? = some (some (.cell k))) (he : evE (run TT GL (n + 1)) GL e ρ S0 = .ok (.dat (iN m)) S) (w : Wl S k B) (hB : B < 1000000) (m1 : 1 ≤ m) (m2 : m ≤ 1000000) (h0 : S0 = S) :
    ∃ r S', evE (run TT GL (n + 1)) GL (.callK 56 [] [0, 1] [] [(.var 0), e] []) ρ S0 = .ok (.dat (iN r)) S' ∧ r < m ∧ Wl S' k (B + 1) ∧ Upd S S' k := by
  subst h0
  obtain ⟨r, S', h1, h2, h3, h4⟩ := r_draw n w hB m1 m2
  exact ⟨r, S', e_call2 (v_ok hv) he h1, h2, h3, h4⟩
/-- one of some things -/
theorem r_of (n : Nat) {S : Sto} {k B : Nat} {l : List PyData} (w : Wl S k B) (hB : B < 1000000) (h1 : l ≠ []) (h2 : l.length ≤ 1000) :
    ∃ d S', run TT GL (n + 2) 57 [.cell k, .dat (.list l)] S = .ok (.dat d) S' ∧ d ∈ l ∧ Wl S' k (B + 1) ∧ Upd S S' k := by
  obtain ⟨r, S', e, hr, w', u'⟩ := d_ok (n := n) (ρ := [some (.cell k), some (.dat (.list l))]) (S0 := S) (e := .blt .len [(.var 1)]) (m := l.length) rfl (blt1_ok (v_ok rfl) (bl_lenL _)) w hB (List.length_pos_iff.mpr h1) (by omega) rfl
  refine ⟨l[r], S', ?_, List.getElem_mem hr, w', u'⟩
  refine run_rtS (F := F__law_of) (by rfl) (by rfl) (by decide) (by rfl) (by rfl) (by rfl) (s_rt (r_rt (idx_ok (v_ok rfl) e ?_))) u'.len
  rw [ix_l, nth_nat, List.getElem?_eq_getElem hr]
theorem r_ofT (n : Nat) {S : Sto} {k B : Nat} {l : List PyData} (w : Wl S k B) (hB : B < 1000000) (h1 : l ≠ []) (h2 : l.length ≤ 1000) :
    ∃ d S', run TT GL (n + 2) 57 [.cell k, .dat (.tuple l)] S = .ok (.dat d) S' ∧ d ∈ l ∧ Wl S' k (B + 1) ∧ Upd S S' k := by
  obtain ⟨r, S', e, hr, w', u'⟩ := d_ok (n := n) (ρ := [some (.cell k), some (.dat (.tuple l))]) (S0 := S) (e := .blt .len [(.var 1)]) (m := l.length) rfl (blt1_ok (v_ok rfl) (bl_lenT _)) w hB (List.length_pos_iff.mpr h1) (by omega) rfl
  refine ⟨l[r], S', ?_, List.getElem_mem hr, w', u'⟩
  refine run_rtS (F := F__law_of) (by rfl) (by rfl) (by decide) (by rfl) (by rfl) (by rfl) (s_rt (r_rt (idx_ok (v_ok rfl) e ?_))) u'.len
  rw [ix_t, nth_nat, List.getElem?_eq_getElem hr]
/-! ### what is drawn -/
abbrev sS (x : String) : PyData := .str (Str.ofString x)
abbrev nam (s : Str) : PyData := .tuple [sS "name", .str s]
abbrev num (n : Nat) : PyData := .tuple [sS "number", iN n]
def Lf (V : List Str) (d : PyData) : Prop := (∃ n, n < 61 ∧ d = num n) ∨ ∃ s, s ∈ V ∧ Wd s ∧ d = nam s
def Op (o : Str) : Prop := o = Str.ofString "+" ∨ o = Str.ofString "-" ∨ o = Str.ofString "*"
def Sd (V : List Str) (d : PyData) : Prop := Lf V d ∨ ∃ o a b, Op o ∧ Lf V a ∧ Lf V b ∧ d = .tuple [.str o, a, b]
def Ag (V : List Str) (d : PyData) : Prop := Lf V d ∨ ∃ a b c, Lf V a ∧ Lf V b ∧ Lf V c ∧ d = .tuple [sS "+", a, .tuple [sS "*", b, c]]
def Ts (V : List Str) (d : PyData) : Prop := ∃ o a b, (o = Str.ofString "=" ∨ o = Str.ofString "<") ∧ Lf V a ∧ Lf V b ∧ d = .tuple [.str o, a, b]
def Bdy (P : PyData → Prop) (b : PyData) : Prop := ∃ l, b = .tuple l ∧ l.length ≤ 3 ∧ ∀ d ∈ l, P d
def BdyF (P : PyData → Prop) (b : PyData) : Prop := ∃ l, b = .tuple l ∧ 1 ≤ l.length ∧ l.length ≤ 3 ∧ ∀ d ∈ l, P d
theorem BdyF.bdy {P : PyData → Prop} {b : PyData} (h : BdyF P b) : Bdy P b := by
  obtain ⟨l, e, _, h2, h3⟩ := h
  exact ⟨l, e, h2, h3⟩
theorem BdyF.imp {P Q : PyData → Prop} {b : PyData} (h : BdyF P b) (f : ∀ d, P d → Q d) : BdyF Q b := by
  obtain ⟨l, e, h0, h1, h2⟩ := h
  exact ⟨l, e, h0, h1, fun d hd => f d (h2 d hd)⟩
def Bas (N V : List Str) (d : PyData) : Prop := (∃ s, s ∈ N ∧ s ∈ V ∧ Wd s ∧ d = .tuple [sS "read", .str s]) ∨ (∃ s e, s ∈ V ∧ Wd s ∧ Sd V e ∧ d = .tuple [sS "set", .str s, e]) ∨ ∃ n, 1 ≤ n ∧ n ≤ 9 ∧ d = .tuple [sS "work", iN n]
def Whl (N V : List Str) (d : PyData) : Prop := ∃ t e, Ts V t ∧ Bas N V e ∧ d = .tuple [sS "while", t, .tuple [e]]
def Bs1 (N V : List Str) (d : PyData) : Prop := Bas N V d ∨ Whl N V d
def Stm (N V : List Str) : Nat → PyData → Prop
  | 0, d => Bas N V d
  | 1, d => Bs1 N V d
  | k + 2, d => Bs1 N V d ∨ (∃ b, BdyF (Bs1 N V) b ∧ d = .tuple [sS "hold", b]) ∨ (∃ t b c, Ts V t ∧ BdyF (Stm N V (k + 1)) b ∧ Bdy (Stm N V (k + 1)) c ∧ d = .tuple [sS "if", t, b, c])
theorem Bdy.imp {P Q : PyData → Prop} {b : PyData} (h : Bdy P b) (f : ∀ d, P d → Q d) : Bdy Q b := by
  obtain ⟨l, e, h1, h2⟩ := h
  exact ⟨l, e, h1, fun d hd => f d (h2 d hd)⟩
theorem Stm.one {N V : List Str} {d : PyData} (h : Bs1 N V d) : ∀ k, Stm N V (k + 1) d
  | 0 => h
  | _ + 1 => .inl h
theorem Stm.bas {N V : List Str} {d : PyData} (h : Bas N V d) : ∀ k, Stm N V k d
  | 0 => h
  | k + 1 => Stm.one (.inl h) k
theorem Stm.up {N V : List Str} : ∀ (k : Nat) (d : PyData), Stm N V k d → Stm N V (k + 1) d
  | 0, d, h => .inl h
  | 1, d, h => .inl h
  | k + 2, d, h => by
    rcases h with h | ⟨b, h1, e⟩ | ⟨t, b, c, ht, h1, h2, e⟩
    · exact .inl h
    · exact .inr (.inl ⟨b, h1, e⟩)
    · exact .inr (.inr ⟨t, b, c, ht, h1.imp (Stm.up (k + 1)), h2.imp (Stm.up (k + 1)), e⟩)
/-- the names and their ranges -/
structure Spn (kvs : List (Str × PyData)) : Prop where
  len : kvs.length ≤ 4
  srt : PyProof.Rows.sortedS (kvs.map (·.1)) = true
  ok : ∀ p ∈ kvs, Wd p.1 ∧ ∃ lo hi : Nat, p.2 = .tuple [iN lo, iN hi] ∧ lo ≤ hi ∧ hi ≤ 5
theorem Spn.get {kvs : List (Str × PyData)} (h : Spn kvs) {s : Str} (hs : s ∈ kvs.map (·.1)) : ∃ lo hi : Nat, getD' kvs s = some (.tuple [iN lo, iN hi]) ∧ lo ≤ hi ∧ hi ≤ 5 := by
  obtain ⟨p, hp, rfl⟩ := List.mem_map.mp hs
  unfold getD'
  cases hf : kvs.find? (fun q => decide (q.1 = p.1)) with
  | none => exact absurd (List.find?_eq_none.mp hf p hp) (by simp)
  | some q =>
    obtain ⟨_, lo, hi, e, h1, h2⟩ := h.ok q (List.mem_of_find?_eq_some hf)
    exact ⟨lo, hi, by rw [Option.map_some, e], h1, h2⟩
theorem Spn.wd {kvs : List (Str × PyData)} (h : Spn kvs) {s : Str} (hs : s ∈ kvs.map (·.1)) : Wd s := by
  obtain ⟨p, hp, rfl⟩ := List.mem_map.mp hs
  exact (h.ok p hp).1
theorem dct_ok {C : Nat → List Val → Sto → R Val} {G : List PyData} {ρ : Rho} {S S1 S2 : Sto} {a b : Ex} {kvs : List (Str × PyData)} {s : Str} {d : PyData} (h : evE C G a ρ S = .ok (.dct kvs) S1) (h' : evE C G b ρ S1 = .ok (.dat (.str s)) S2) (e : getD' kvs s = some d) : evE C G (.idx a b) ρ S = .ok (.dat d) S2 := by
  rw [e_idx, h, bind_ok, h', bind_ok, idx_dct, e]
  rfl
theorem srt_ok {C : Nat → List Val → Sto → R Val} {G : List PyData} {ρ : Rho} {S S1 : Sto} {a : Ex} {kvs : List (Str × PyData)} (hk : Spn kvs) (h : evE C G a ρ S = .ok (.dct kvs) S1) : evE C G (.srt a) ρ S = .ok (.dat (.list ((kvs.map (·.1)).map .str))) S1 := by
  rw [e_srt, h, bind_ok]
  show (if kvs.length < 64 ∧ PyProof.Rows.sortedS (kvs.map (·.1)) = true then R.ok (Val.dat (.list (kvs.map fun p => .str p.1))) S1 else .bad) = _
  rw [if_pos ⟨by have := hk.len; omega, hk.srt⟩, List.map_map]
  rfl
theorem r_pick (n : Nat) {S : Sto} {l : List Str} (hl : l.length ≤ 1000) : run TT GL (n + 1) 59 [.dat (.list (l.map .str))] S = .ok (.dat (.list (l.map nam))) S := by
  have e : evE (run TT GL n) GL (.cp (.tup [(.con (sS "name")), (.var 1)]) (.name 1) (.val (.var 0)) [] [1]) [some (.dat (.list (l.map .str))), none] S = .ok (.dat (.list ((l.map PyData.str).map fun d => .tuple [sS "name", d]))) S :=
    cp_map (val_ok (v_ok rfl) (items_l _)) (by rw [List.length_map]; omega) fun d hd => tup2_ok (e_con _ _ _ _ _) (v_ok rfl)
  rw [List.map_map] at e
  exact run_rt (F := F__law_pick_names) (by rfl) (by rfl) (by decide) (by rfl) (by rfl) (by rfl) (s_rt (r_rt e))
theorem lf_nam {l : List Str} (h : ∀ s ∈ l, Wd s) : ∀ d ∈ l.map nam, Lf l d := fun d hd => by
  obtain ⟨s, hs, rfl⟩ := List.mem_map.mp hd
  exact .inr ⟨s, hs, h s hs, rfl⟩
theorem r_test (n : Nat) {S : Sto} {k B : Nat} {l : List Str} (w : Wl S k B) (hB : B < 900000) (hl : l.length ≤ 4) (hw : ∀ s ∈ l, Wd s) :
    ∃ d S', run TT GL (n + 3) 60 [.cell k, .dat (.list (l.map .str))] S = .ok (.dat d) S' ∧ Ts l d ∧ Wl S' k (B + 4) ∧ Upd S S' k := by
  obtain ⟨d1, S1, e1, m1, w1, u1⟩ := r_of n (l := l.map nam ++ [num 1]) w (by omega) (by simp) (by rw [List.length_append, List.length_map]; simp only [List.length_cons, List.length_nil]; omega)
  obtain ⟨r, S2, e2, hr, w2, u2⟩ := r_draw (n + 1) w1 (m := 3) (by omega) (by omega) (by omega)
  obtain ⟨d3, S3, e3, m3, w3, u3⟩ := r_of n (l := [num r] ++ l.map nam) w2 (by omega) (by simp) (by rw [List.length_append, List.length_map]; simp only [List.length_cons, List.length_nil]; omega)
  obtain ⟨d4, S4, e4, m4, w4, u4⟩ := r_ofT n (l := [sS "=", sS "<"]) w3 (by omega) (by simp) (by simp)
  have t1 : evE (run TT GL (n + 2)) GL (.callK 57 [] [0, 1] [] [(.var 0), (.bin .add (.callK 59 [] [0] [] [(.var 1)] []) (.lst [(.tup [(.con (sS "number")), (.con (.int 1))])]))] []) [some (.cell k), some (.dat (.list (l.map .str))), none, none] S = .ok (.dat d1) S1 :=
    e_call2 (v_ok rfl) (bin_ok (e_call1 (v_ok rfl) (r_pick (n + 1) (by omega))) (lst1_ok (tup2_ok (e_con _ _ _ _ _) (e_con _ _ _ _ _))) (b_addL _ _ (line_big (by rw [List.length_map]; simp only [List.length_cons, List.length_nil]; omega)))) e1
  have t2 : evE (run TT GL (n + 2)) GL (.callK 57 [] [0, 1] [] [(.var 0), (.bin .add (.lst [(.tup [(.con (sS "number")), (.callK 56 [] [0, 1] [] [(.var 0), (.con (.int 3))] [])])]) (.callK 59 [] [0] [] [(.var 1)] []))] []) [some (.cell k), some (.dat (.list (l.map .str))), some (.dat d1), none] S1 = .ok (.dat d3) S3 :=
    e_call2 (v_ok rfl) (bin_ok (lst1_ok (tup2_ok (e_con _ _ _ _ _) (e_call2 (v_ok rfl) (e_con _ _ _ _ _) e2))) (e_call1 (v_ok rfl) (r_pick (n + 1) (by omega))) (b_addL _ _ (line_big (by rw [List.length_map]; simp only [List.length_cons, List.length_nil]; omega)))) e3
  have t3 : evE (run TT GL (n + 2)) GL (.tup [(.callK 57 [] [0, 1] [] [(.var 0), (.tup [(.con (sS "=")), (.con (sS "<"))])] []), (.var 2), (.var 3)]) [some (.cell k), some (.dat (.list (l.map .str))), some (.dat d1), some (.dat d3)] S3 = .ok (.dat (.tuple [d4, d1, d3])) S4 :=
    tup3_ok (e_call2 (v_ok rfl) (tup2_ok (e_con _ _ _ _ _) (e_con _ _ _ _ _)) e4) (v_ok rfl) (v_ok rfl)
  have u := ((u1.trans u2).trans u3).trans u4
  refine ⟨_, S4, run_rtS (F := F__law_test) (by rfl) (by rfl) (by decide) (by rfl) (by rfl) (by rfl) (s_nx (a_nx t1 (by rfl)) (s_nx (a_nx t2 (by rfl)) (s_rt (r_rt t3)))) u.len, ?_, w4.mono (by omega), u⟩
  have l1 : Lf l d1 := by
    rcases List.mem_append.mp m1 with z | z
    · exact lf_nam hw d1 z
    · rw [List.mem_singleton] at z
      exact .inl ⟨1, by omega, z⟩
  have l3 : Lf l d3 := by
    rcases List.mem_append.mp m3 with z | z
    · rw [List.mem_singleton] at z
      exact .inl ⟨r, by omega, z⟩
    · exact lf_nam hw d3 z
  rcases List.mem_cons.mp m4 with rfl | m4
  · exact ⟨_, d1, d3, .inl rfl, l1, l3, rfl⟩
  · rw [List.mem_singleton] at m4
    subst m4
    exact ⟨_, d1, d3, .inr rfl, l1, l3, rfl⟩
end Dw

set_option Elab.async false
set_option linter.all false
set_option maxRecDepth 100000
set_option maxHeartbeats 8000000
/-! Bodies that are drawn. -/
namespace Dw
open PySem
section
variable {C : Nat → List Val → Sto → R Val} {G : List PyData} {ρ : Rho} {S S1 S2 S3 S4 S5 S6 S7 : Sto} {a b c d e f : Ex} {u v w x y z q : Val} {g : Nat}
theorem e_call3 (h1 : evE C G a ρ S = .ok u S1) (h2 : evE C G b ρ S1 = .ok v S2) (h3 : evE C G c ρ S2 = .ok w S3) (h : C g [u, v, w] S3 = .ok q S4) : evE C G (.callK g [] [0, 1, 2] [] [a, b, c] []) ρ S = .ok q S4 := by
  rw [e_call, l_cons, h1, bind_ok, l_cons, h2, bind_ok, l_cons, h3, bind_ok, l_nil, bind_ok, bind_ok, bind_ok, bind_ok, l_nil, bind_ok]
  exact (callKR_3 C g u v w S3).trans h
theorem e_call6 (h1 : evE C G a ρ S = .ok u S1) (h2 : evE C G b ρ S1 = .ok v S2) (h3 : evE C G c ρ S2 = .ok w S3) (h4 : evE C G d ρ S3 = .ok x S4) (h5 : evE C G e ρ S4 = .ok y S5) (h6 : evE C G f ρ S5 = .ok z S6) (h : C g [u, v, w, x, y, z] S6 = .ok q S7) : evE C G (.callK g [] [0, 1, 2, 3, 4, 5] [] [a, b, c, d, e, f] []) ρ S = .ok q S7 := by
  rw [e_call, l_cons, h1, bind_ok, l_cons, h2, bind_ok, l_cons, h3, bind_ok, l_cons, h4, bind_ok, l_cons, h5, bind_ok, l_cons, h6, bind_ok, l_nil, bind_ok, bind_ok, bind_ok, bind_ok, bind_ok, bind_ok, bind_ok, l_nil, bind_ok]
  exact (callKR_6 C g u v w x y z S6).trans h
end
def pIn (kvs : List (Str × PyData)) (lo hi : Nat) : PyData → Bool
  | .str s => match getD' kvs s with
    | some (.tuple [.int a, .int b]) => decide ((lo : Int) ≤ a) && decide (b ≤ (hi : Int))
    | _ => false
  | _ => false
theorem b_mulL (l : List PyData) (h : l.length ≤ 1000) : binD .mul (.list l) (.int 2) = some (.list (l ++ l)) := by
  show (if l.length ≤ 1000 ∧ (0 : Int) ≤ 2 ∧ (2 : Int) ≤ 1000 then some (PyData.list (List.replicate (2 : Int).toNat l).flatten) else none) = _
  rw [if_pos ⟨h, by decide, by decide⟩, show (2 : Int).toNat = 2 from rfl, List.replicate_succ, List.replicate_succ, List.replicate_zero, List.flatten_cons, List.flatten_cons, List.flatten_nil, List.append_nil]
abbrev inC : Ex := .and [(.cmp .le (.var 3) (.idx (.idx (.var 2) (.var 6)) (.con (.int 0)))), (.cmp .le (.idx (.idx (.var 2) (.var 6)) (.con (.int 1))) (.var 4))]
theorem r_inside (n : Nat) {S : Sto} {k B : Nat} {kvs : List (Str × PyData)} {s : Str} (hk : Spn kvs) (hs : s ∈ kvs.map (·.1)) (w : Wl S k B) (hB : B < 900000) :
    ∃ d S', run TT GL (n + 3) 61 [.cell k, .dat (.str s), .dct kvs] S = .ok (.dat d) S' ∧ Sd (kvs.map (·.1)) d ∧ Wl S' k (B + 2) ∧ Upd S S' k := by
  obtain ⟨lo, hi, hg, h1, h2⟩ := hk.get hs
  have hl := hk.len
  have t1 : evE (run TT GL (n + 2)) GL (.idx (.var 2) (.var 1)) [some (.cell k), some (.dat (.str s)), some (.dct kvs), none, none, none, none] S = .ok (.dat (.tuple [iN lo, iN hi])) S := dct_ok (v_ok rfl) (v_ok rfl) hg
  have t2 : evE (run TT GL (n + 2)) GL (.cp (.tup [(.con (sS "name")), (.var 6)]) (.name 6) (.val (.srt (.var 2))) [inC] [6]) [some (.cell k), some (.dat (.str s)), some (.dct kvs), some (.dat (iN lo)), some (.dat (iN hi)), none, none] S = .ok (.dat (.list ((((kvs.map (·.1)).map PyData.str).filter (pIn kvs lo hi)).map fun d => .tuple [sS "name", d]))) S :=
    cp_filt (val_ok (srt_ok hk (v_ok rfl)) (items_l _)) (by rw [List.length_map, List.length_map]; omega) (fun d hd => by
      obtain ⟨q, hq, rfl⟩ := List.mem_map.mp hd
      obtain ⟨a, b, hg2, _, _⟩ := hk.get hq
      have e : pIn kvs lo hi (.str q) = (decide (lo ≤ a) && decide (b ≤ hi)) := by
        unfold pIn
        simp only [hg2]
        congr 1 <;> (rw [Bool.eq_iff_iff]; simp)
      rw [e]
      exact and_ok (and2_b (cmp_ok (v_ok rfl) (idx_ok (dct_ok (v_ok rfl) (v_ok rfl) hg2) (e_con _ _ _ _ _) rfl) (le_nat _ _)) fun _ => and1_b (cmp_ok (idx_ok (dct_ok (v_ok rfl) (v_ok rfl) hg2) (e_con _ _ _ _ _) rfl) (v_ok rfl) (le_nat _ _)))) (fun d hd _ => tup2_ok (e_con _ _ _ _ _) (v_ok rfl))
  generalize hf : (((kvs.map (·.1)).map PyData.str).filter (pIn kvs lo hi)).map (fun d => PyData.tuple [sS "name", d]) = fs at t2
  have fl : fs.length ≤ 4 := by
    rw [← hf, List.length_map]
    refine Nat.le_trans (List.length_filter_le _ _) ?_
    rw [List.length_map, List.length_map]
    exact hl
  have flf : ∀ d ∈ fs, Lf (kvs.map (·.1)) d := fun d hd => by
    rw [← hf] at hd
    obtain ⟨x, hx, rfl⟩ := List.mem_map.mp hd
    obtain ⟨q, hq, rfl⟩ := List.mem_map.mp (List.mem_filter.mp hx).1
    exact .inr ⟨q, hq, hk.wd hq, rfl⟩
  obtain ⟨r, S1, e1, hr, w1, u1⟩ := r_draw (n + 1) w (m := hi - lo + 1) (by omega) (by omega) (by omega)
  have t3 : evE (run TT GL (n + 2)) GL (.bin .add (.var 5) (.bin .mul (.lst [(.tup [(.con (sS "number")), (.bin .add (.var 3) (.callK 56 [] [0, 1] [] [(.var 0), (.bin .add (.bin .sub (.var 4) (.var 3)) (.con (.int 1)))] []))])]) (.con (.int 2)))) [some (.cell k), some (.dat (.str s)), some (.dct kvs), some (.dat (iN lo)), some (.dat (iN hi)), some (.dat (.list fs)), none] S = .ok (.dat (.list (fs ++ ([num (lo + r)] ++ [num (lo + r)])))) S1 :=
    bin_ok (v_ok rfl) (bin_ok (lst1_ok (tup2_ok (e_con _ _ _ _ _) (bin_ok (v_ok rfl) (e_call2 (v_ok rfl) (bin_ok (bin_ok (v_ok rfl) (v_ok rfl) (sub_nat h1)) (e_con _ _ _ _ _) (add_nat _ 1)) e1) (add_nat _ _)))) (e_con _ _ _ _ _) (b_mulL _ (by simp))) (b_addL _ _ (line_big (by simp only [List.length_append, List.length_cons, List.length_nil]; omega)))
  generalize hls : fs ++ ([num (lo + r)] ++ [num (lo + r)]) = ls at t3
  have ll : ls.length ≤ 6 := by rw [← hls]; simp only [List.length_append, List.length_cons, List.length_nil]; omega
  have llf : ∀ d ∈ ls, Lf (kvs.map (·.1)) d := fun d hd => by
    rw [← hls] at hd
    rcases List.mem_append.mp hd with z | z
    · exact flf d z
    · refine .inl ⟨lo + r, by omega, ?_⟩
      simpa using z
  obtain ⟨d, S2, e2, m2, w2, u2⟩ := r_of n (l := ls ++ [.tuple [sS "-", num (lo + hi), nam s], .tuple [sS "+", nam s, num 1]]) w1 (by omega) (by simp) (by simp only [List.length_append, List.length_cons, List.length_nil]; omega)
  have t4 : evE (run TT GL (n + 2)) GL (.callK 57 [] [0, 1] [] [(.var 0), (.bin .add (.var 5) (.lst [(.tup [(.con (sS "-")), (.tup [(.con (sS "number")), (.bin .add (.var 3) (.var 4))]), (.tup [(.con (sS "name")), (.var 1)])]), (.tup [(.con (sS "+")), (.tup [(.con (sS "name")), (.var 1)]), (.tup [(.con (sS "number")), (.con (.int 1))])])]))] []) [some (.cell k), some (.dat (.str s)), some (.dct kvs), some (.dat (iN lo)), some (.dat (iN hi)), some (.dat (.list ls)), none] S1 = .ok (.dat d) S2 :=
    e_call2 (v_ok rfl) (bin_ok (v_ok rfl) (lst2_ok (tup3_ok (e_con _ _ _ _ _) (tup2_ok (e_con _ _ _ _ _) (bin_ok (v_ok rfl) (v_ok rfl) (add_nat _ _))) (tup2_ok (e_con _ _ _ _ _) (v_ok rfl))) (tup3_ok (e_con _ _ _ _ _) (tup2_ok (e_con _ _ _ _ _) (v_ok rfl)) (tup2_ok (e_con _ _ _ _ _) (e_con _ _ _ _ _)))) (b_addL _ _ (line_big (by simp only [List.length_append, List.length_cons, List.length_nil]; omega)))) e2
  have u := u1.trans u2
  refine ⟨d, S2, run_rtS (F := F__law_inside) (by rfl) (by rfl) (by decide) (by rfl) (by rfl) (by rfl) (s_nx (a_nx t1 (by rfl)) (s_nx (a_nx t2 (by rfl)) (s_nx (a_nx t3 (by rfl)) (s_rt (r_rt t4))))) u.len, ?_, w2.mono (by omega), u⟩
  have ln : Lf (kvs.map (·.1)) (nam s) := .inr ⟨s, hs, hk.wd hs, rfl⟩
  rcases List.mem_append.mp m2 with z | z
  · exact .inl (llf d z)
  · rcases List.mem_cons.mp z with rfl | z
    · exact .inr ⟨_, _, _, .inr (.inl rfl), .inl ⟨lo + hi, by omega, rfl⟩, ln, rfl⟩
    · rw [List.mem_singleton] at z
      subst z
      exact .inr ⟨_, _, _, .inl rfl, ln, .inl ⟨1, by omega, rfl⟩, rfl⟩
/-! ### a list of one's own beside the well -/
structure LocI (S S1 : Sto) (k B : Nat) (l : List PyData) : Prop where
  len : S1.length = S.length + 1
  wl : Wl S1 k B
  oth : ∀ j, j < S.length → j ≠ k → S1[j]? = S[j]?
  at_ : S1[S.length]? = some l
theorem LocI.upd {S S1 S2 : Sto} {k B B2 : Nat} {l : List PyData} (h : LocI S S1 k B l) (hk : k < S.length) (u : Upd S1 S2 k) (w : Wl S2 k B2) : LocI S S2 k B2 l :=
  ⟨u.len.trans h.len, w, fun j h1 h2 => (u.oth j h2).trans (h.oth j h1 h2), (u.oth _ (by omega)).trans h.at_⟩
theorem LocI.set {S S1 : Sto} {k B : Nat} {l l2 : List PyData} (h : LocI S S1 k B l) (hk : k < S.length) : LocI S (S1.set S.length l2) k B l2 :=
  ⟨by rw [List.length_set]; exact h.len, h.wl.at (List.getElem?_set_ne (by omega)), fun j h1 h2 => (List.getElem?_set_ne (by omega)).trans (h.oth j h1 h2), set_same h.at_⟩
theorem LocI.start {S : Sto} {k B : Nat} (w : Wl S k B) : LocI S (S ++ [[]]) k B [] :=
  ⟨by simp, w.at (List.getElem?_append_left w.lt), fun j h1 _ => List.getElem?_append_left h1, by simp⟩
theorem LocI.fin {S S1 : Sto} {k B : Nat} {l : List PyData} (h : LocI S S1 k B l) (hk : k < S.length) : Wl (S1.take S.length) k B ∧ Upd S (S1.take S.length) k :=
  ⟨h.wl.at (List.getElem?_take_of_lt hk), ⟨by rw [List.length_take, h.len]; omega, fun j hj => by
    by_cases q : j < S.length
    · rw [List.getElem?_take_of_lt q]
      exact h.oth j q hj
    · rw [List.getElem?_eq_none (by rw [List.length_take]; omega), List.getElem?_eq_none (by omega)]⟩⟩
theorem LocI.mono {S S1 : Sto} {k B B2 : Nat} {l : List PyData} (h : LocI S S1 k B l) (hb : B ≤ B2) : LocI S S1 k B2 l := ⟨h.len, h.wl.mono hb, h.oth, h.at_⟩
abbrev bT : List Sx := [.asg (.name 9) (.callK 56 [] [0, 1] [] [(.var 0), (.con (.int 9))] []),
    .ife (.and [(.cmp .eq (.var 9) (.con (.int 0))), (.cmp .ne (.var 2) (.lst []))])
    [.exp (.mth .append (.var 6) [(.tup [(.con (.str (Str.ofString "read"))), (.callK 57 [] [0, 1] [] [(.var 0), (.var 2)] [])])])]
    [.ife (.and [(.cmp .lt (.var 9) (.con (.int 3))), (.cmp .ne (.var 7) (.lst []))])
    [.asg (.name 10) (.callK 57 [] [0, 1] [] [(.var 0), (.var 7)] []),
    .exp (.mth .append (.var 6) [(.tup [(.con (.str (Str.ofString "set"))), (.var 10), (.callK 61 [] [0, 1, 2] [] [(.var 0), (.var 10), (.var 3)] [])])])]
    [.ife (.and [(.cmp .eq (.var 9) (.con (.int 3))), (.cmp .ne (.var 2) (.lst []))])
    [.asg (.name 10) (.callK 57 [] [0, 1] [] [(.var 0), (.var 2)] []),
    .asg (.name 11) (.tup [(.con (.str (Str.ofString "set"))), (.var 10), (.tup [(.con (.str (Str.ofString "+"))), (.tup [(.con (.str (Str.ofString "name"))), (.var 10)]), (.tup [(.con (.str (Str.ofString "number"))), (.con (.int 1))])])]),
    .exp (.mth .append (.var 6) [(.tup [(.con (.str (Str.ofString "while"))), (.tup [(.con (.str (Str.ofString "<"))), (.tup [(.con (.str (Str.ofString "name"))), (.var 10)]), (.tup [(.con (.str (Str.ofString "number"))), (.idx (.idx (.var 3) (.var 10)) (.con (.int 1)))])]), (.tup [(.var 11)])])])]
    [.ife (.and [(.cmp .lt (.var 9) (.con (.int 6))), (.cmp .gt (.var 4) (.con (.int 0)))])
    [.asg (.name 12) (.callK 62 [] [0, 1, 2, 3, 4, 5] [] [(.var 0), (.var 1), (.var 2), (.var 3), (.bin .sub (.var 4) (.con (.int 1))), (.var 5)] []),
    .asg (.name 13) (.ife (.cmp .eq (.callK 56 [] [0, 1] [] [(.var 0), (.con (.int 2))] []) (.con (.int 0))) (.callK 62 [] [0, 1, 2, 3, 4, 5] [] [(.var 0), (.var 1), (.var 2), (.var 3), (.bin .sub (.var 4) (.con (.int 1))), (.var 5)] []) (.tup [])),
    .exp (.mth .append (.var 6) [(.tup [(.con (.str (Str.ofString "if"))), (.callK 60 [] [0, 1] [] [(.var 0), (.var 7)] []), (.var 12), (.var 13)])])]
    [.ife (.and [(.cmp .eq (.var 9) (.con (.int 6))), (.not (.var 5))])
    [.exp (.mth .append (.var 6) [(.tup [(.con (.str (Str.ofString "hold"))), (.callK 62 [] [0, 1, 2, 3, 4, 5] [] [(.var 0), (.var 1), (.var 2), (.var 3), (.con (.int 0)), (.con (.bool true))] [])])])]
    [.exp (.mth .append (.var 6) [(.tup [(.con (.str (Str.ofString "work"))), (.bin .add (.con (.int 1)) (.callK 56 [] [0, 1] [] [(.var 0), (.con (.int 3))] []))])])]]]]]]
abbrev bR (k c deep : Nat) (held : Bool) (ke : PyData) (fr nm : List Str) (kvs : List (Str × PyData)) (x8 x9 x10 x11 x12 x13 : Option Val) : Rho :=
  [some (.cell k), some (.dat ke), some (.dat (.list (fr.map .str))), some (.dct kvs), some (.dat (iN deep)), some (.dat (.bool held)), some (.cell c), some (.dat (.list (nm.map .str))), x8, x9, x10, x11, x12, x13]
def BSp (fr : List Str) (kvs : List (Str × PyData)) (C : Nat → List Val → Sto → R Val) (deep : Nat) (held : Bool) (lvl u : Nat) : Prop := ∀ (ke : PyData) (S : Sto) (k B : Nat), Wl S k B → B + u < 800000 →
  ∃ d S', C 62 [.cell k, .dat ke, .dat (.list (fr.map .str)), .dct kvs, .dat (iN deep), .dat (.bool held)] S = .ok (.dat d) S' ∧ BdyF (Stm fr (kvs.map (·.1)) lvl) d ∧ Wl S' k (B + u) ∧ Upd S S' k
theorem strs_shaped {l : List Str} (h : ∀ s ∈ l, Wd s) : SeqAt.shaped (.list (l.map PyData.str)) = true := shaped_list (nice_strs (m := 8) fun w hw => ⟨fun c hc => ((h w hw).ok c hc).2.2, (h w hw).le⟩) (by omega)
theorem ne_strs {l : List Str} (h : ∀ s ∈ l, Wd s) : cmpD .ne (.list (l.map PyData.str)) (.list []) = some (!l.isEmpty) := by
  rw [ne_nil (strs_shaped h), map_empty]
theorem loop_ex {i : Nat} {body : Rho → Sto → SR} (I : Nat → Rho → Sto → Prop) : ∀ (vs : List Val) (j : Nat) (ρ : Rho) (S : Sto), I j ρ S → (∀ (t : Nat) v ρ S, t < j + vs.length → I t ρ S → ∃ ρ' S', body (ρ.set i (some v)) S = .nx ρ' S' ∧ I (t + 1) ρ' S') → ∃ ρ' S', loopF (.name i) body vs ρ S = .nx ρ' S' ∧ I (j + vs.length) ρ' S'
  | [], j, ρ, S, h, _ => ⟨ρ, S, rfl, h⟩
  | v :: vs, j, ρ, S, h, hb => by
    obtain ⟨ρ1, S1, e1, h1⟩ := hb j v ρ S (by rw [List.length_cons]; omega) h
    obtain ⟨ρ2, S2, e2, h2⟩ := loop_ex I vs (j + 1) ρ1 S1 h1 fun t w ρ S ht => hb t w ρ S (by rw [List.length_cons]; omega)
    refine ⟨ρ2, S2, ?_, by rw [List.length_cons, show j + (vs.length + 1) = j + 1 + vs.length by omega]; exact h2⟩
    unfold loopF
    rw [setTg_name]
    simp only [e1]
    exact e2
theorem run_rtT {T : List Fd} {Gc : List PyData} {n f : Nat} {vs : List Val} {S S' : Sto} {F : Fd} {d : PyData} {ρ : Rho} {b : List Sx} (h : T[f]? = some F) (h1 : vs.length = F.np) (h2 : F.np ≤ F.nn) (hk : F.keep = false) (hb : F.body = b)
    (hρ : vs.map some ++ List.replicate (F.nn - F.np) none = ρ) (he : evSs (run T Gc n) Gc b ρ S = .rt (.dat d) S') : run T Gc (n + 1) f vs S = .ok (.dat d) (S'.take S.length) := by
  rw [run_eq h h1 h2, hk, hb, hρ, he]
  rfl
theorem tupC_ok {C : Nat → List Val → Sto → R Val} {G : List PyData} {ρ : Rho} {S : Sto} {i c : Nat} {l : List PyData} (h : ρ[i]? = some (some (.cell c))) (hc : S[c]? = some l) : evE C G (.blt .tup1 [(.var i)]) ρ S = .ok (.dat (.tuple l)) S := by
  rw [e_blt, l_cons, v_ok h, bind_ok, l_nil, bind_ok, bind_ok]
  have : derefs S [Val.cell c] = some [.list l] := by
    have e1 : deref S (.cell c) = some (.list l) := by
      show (S[c]?).map PyData.list = _
      rw [hc]
      rfl
    unfold derefs
    rw [e1]
    rfl
  unfold bltR
  rw [this]
  rfl
section
variable (n : Nat) {S S1 : Sto} {k B deep lvl u : Nat} {held : Bool} {ke : PyData} {fr : List Str} {kvs : List (Str × PyData)} {l : List PyData} (hk : Spn kvs) (hf : ∀ s ∈ fr, s ∈ kvs.map (·.1)) (hfl : fr.length ≤ 4)
  (h1 : 0 < deep → (∃ j, lvl = j + 1) ∧ BSp fr kvs (run TT GL (n + 3)) (deep - 1) held lvl u) (h2 : held = false → (∃ j, lvl = j + 1) ∧ BSp fr kvs (run TT GL (n + 3)) 0 true 1 u)
include hk hf hfl h1 h2
set_option maxHeartbeats 16000000 in
theorem body_turn (x8 x9 x10 x11 x12 x13 : Option Val) (L : LocI S S1 k B l) (hkS : k < S.length) (hB : B + 2 * u + 8 < 800000) (hl : l.length < 1000) :
    ∃ (y9 y10 y11 y12 y13 : Option Val) (d : PyData) (S2 : Sto), evSs (run TT GL (n + 3)) GL bT (bR k S.length deep held ke fr (kvs.map (·.1)) kvs x8 x9 x10 x11 x12 x13) S1 = .nx (bR k S.length deep held ke fr (kvs.map (·.1)) kvs x8 y9 y10 y11 y12 y13) S2 ∧ LocI S S2 k (B + (2 * u + 8)) (l ++ [d]) ∧ Stm fr (kvs.map (·.1)) (lvl + 1) d := by
  have fw : ∀ s ∈ fr, Wd s := fun s hs => hk.wd (hf s hs)
  have nw : ∀ s ∈ kvs.map (·.1), Wd s := fun s hs => hk.wd hs
  have nl : (kvs.map (·.1)).length ≤ 4 := by rw [List.length_map]; exact hk.len
  have fv : ∀ s ∈ fr, s ∈ kvs.map (·.1) := hf
  generalize hnm : kvs.map (·.1) = nm at nw nl fv ⊢
  obtain ⟨r, S2, e9, hr, w2, u2⟩ := d_ok (n := n + 2) (ρ := bR k S.length deep held ke fr nm kvs x8 x9 x10 x11 x12 x13) (S0 := S1) (e := .con (.int 9)) (m := 9) rfl (e_con _ _ _ _ _) L.wl (by omega) (by omega) (by omega) rfl
  have L2 := L.upd hkS u2 w2
  have c1 : evE (run TT GL (n + 3)) GL (.and [(.cmp .eq (.var 9) (.con (.int 0))), (.cmp .ne (.var 2) (.lst []))]) (bR k S.length deep held ke fr nm kvs x8 (some (.dat (iN r))) x10 x11 x12 x13) S2 = .ok (.dat (.bool (decide (r = 0) && !fr.isEmpty))) S2 :=
    and_ok (and2_b (cmp_ok (v_ok rfl) (e_con _ _ _ _ _) (eq_nat r 0)) fun _ => and1_b (cmp_ok (v_ok rfl) lst0_ok (ne_strs fw)))
  have c2 : evE (run TT GL (n + 3)) GL (.and [(.cmp .lt (.var 9) (.con (.int 3))), (.cmp .ne (.var 7) (.lst []))]) (bR k S.length deep held ke fr nm kvs x8 (some (.dat (iN r))) x10 x11 x12 x13) S2 = .ok (.dat (.bool (decide (r < 3) && !nm.isEmpty))) S2 :=
    and_ok (and2_b (cmp_ok (v_ok rfl) (e_con _ _ _ _ _) (lt_nat r 3)) fun _ => and1_b (cmp_ok (v_ok rfl) lst0_ok (ne_strs nw)))
  have c3 : evE (run TT GL (n + 3)) GL (.and [(.cmp .eq (.var 9) (.con (.int 3))), (.cmp .ne (.var 2) (.lst []))]) (bR k S.length deep held ke fr nm kvs x8 (some (.dat (iN r))) x10 x11 x12 x13) S2 = .ok (.dat (.bool (decide (r = 3) && !fr.isEmpty))) S2 :=
    and_ok (and2_b (cmp_ok (v_ok rfl) (e_con _ _ _ _ _) (eq_nat r 3)) fun _ => and1_b (cmp_ok (v_ok rfl) lst0_ok (ne_strs fw)))
  have c4 : evE (run TT GL (n + 3)) GL (.and [(.cmp .lt (.var 9) (.con (.int 6))), (.cmp .gt (.var 4) (.con (.int 0)))]) (bR k S.length deep held ke fr nm kvs x8 (some (.dat (iN r))) x10 x11 x12 x13) S2 = .ok (.dat (.bool (decide (r < 6) && decide (0 < deep)))) S2 :=
    and_ok (and2_b (cmp_ok (v_ok rfl) (e_con _ _ _ _ _) (lt_nat r 6)) fun _ => and1_b (cmp_ok (v_ok rfl) (e_con _ _ _ _ _) (gt_nat deep 0)))
  have c5 : evE (run TT GL (n + 3)) GL (.and [(.cmp .eq (.var 9) (.con (.int 6))), (.not (.var 5))]) (bR k S.length deep held ke fr nm kvs x8 (some (.dat (iN r))) x10 x11 x12 x13) S2 = .ok (.dat (.bool (decide (r = 6) && !held))) S2 :=
    and_ok (and2_b (cmp_ok (v_ok rfl) (e_con _ _ _ _ _) (eq_nat r 6)) fun _ => and1_b (not_ok (v_ok rfl)))
  have frne : fr.isEmpty = false → fr.map PyData.str ≠ [] := fun h z => by
    rw [List.map_eq_nil_iff] at z
    rw [z] at h
    cases h
  cases b1 : decide (r = 0) && !fr.isEmpty with
  | true =>
    rw [b1] at c1
    simp only [Bool.and_eq_true, Bool.not_eq_true'] at b1
    obtain ⟨d, S3, e3, m3, w3, u3⟩ := r_of (n + 1) (l := fr.map .str) w2 (by omega) (frne b1.2) (by rw [List.length_map]; omega)
    obtain ⟨s, hs, rfl⟩ := List.mem_map.mp m3
    have L3 := L2.upd hkS u3 w3
    refine ⟨_, _, _, _, _, _, _, s_nx (a_nx e9 rfl) (s_nx (if_t c1 (s_nx (app_nx (v_ok rfl) (tup2_ok (e_con _ _ _ _ _) (e_call2 (v_ok rfl) (v_ok rfl) e3)) L3.at_ (by omega)) (s_nil _ _ _ _))) (s_nil _ _ _ _)), (L3.set hkS).mono (by omega), Stm.bas (.inl ⟨s, hs, fv s hs, fw s hs, rfl⟩) _⟩
  | false =>
  rw [b1] at c1
  cases b2 : decide (r < 3) && !nm.isEmpty with
  | true =>
    rw [b2] at c2
    simp only [Bool.and_eq_true, Bool.not_eq_true'] at b2
    obtain ⟨d, S3, e3, m3, w3, u3⟩ := r_of (n + 1) (l := nm.map .str) w2 (by omega) (fun z => by
      rw [List.map_eq_nil_iff] at z
      rw [z] at b2
      cases b2.2) (by rw [List.length_map]; omega)
    obtain ⟨s, hs, rfl⟩ := List.mem_map.mp m3
    obtain ⟨d4, S4, e4, m4, w4, u4⟩ := r_inside n hk (s := s) (by rw [hnm]; exact hs) w3 (by omega)
    have L4 := (L2.upd hkS u3 w3).upd hkS u4 w4
    refine ⟨_, _, _, _, _, _, _, s_nx (a_nx e9 rfl) (s_nx (if_f c1 (s_nx (if_t c2 (s_nx (a_nx (e_call2 (v_ok rfl) (v_ok rfl) e3) rfl) (s_nx (app_nx (v_ok rfl) (tup3_ok (e_con _ _ _ _ _) (v_ok rfl) (e_call3 (v_ok rfl) (v_ok rfl) (v_ok rfl) e4)) L4.at_ (by omega)) (s_nil _ _ _ _)))) (s_nil _ _ _ _))) (s_nil _ _ _ _)), (L4.set hkS).mono (by omega), Stm.bas (.inr (.inl ⟨s, d4, hs, nw s hs, hnm ▸ m4, rfl⟩)) _⟩
  | false =>
  rw [b2] at c2
  cases b3 : decide (r = 3) && !fr.isEmpty with
  | true =>
    rw [b3] at c3
    simp only [Bool.and_eq_true, Bool.not_eq_true'] at b3
    obtain ⟨d, S3, e3, m3, w3, u3⟩ := r_of (n + 1) (l := fr.map .str) w2 (by omega) (frne b3.2) (by rw [List.length_map]; omega)
    obtain ⟨s, hs, rfl⟩ := List.mem_map.mp m3
    have L3 := L2.upd hkS u3 w3
    obtain ⟨lo, hi, hg, _, hhi⟩ := hk.get (hf s hs)
    have ln : Lf nm (nam s) := .inr ⟨s, fv s hs, fw s hs, rfl⟩
    refine ⟨_, _, _, _, _, _, _, s_nx (a_nx e9 rfl) (s_nx (if_f c1 (s_nx (if_f c2 (s_nx (if_t c3 (s_nx (a_nx (e_call2 (v_ok rfl) (v_ok rfl) e3) rfl) (s_nx (a_nx (tup3_ok (e_con _ _ _ _ _) (v_ok rfl) (tup3_ok (e_con _ _ _ _ _) (tup2_ok (e_con _ _ _ _ _) (v_ok rfl)) (tup2_ok (e_con _ _ _ _ _) (e_con _ _ _ _ _)))) rfl)
      (s_nx (app_nx (v_ok rfl) (tup3_ok (e_con _ _ _ _ _) (tup3_ok (e_con _ _ _ _ _) (tup2_ok (e_con _ _ _ _ _) (v_ok rfl)) (tup2_ok (e_con _ _ _ _ _) (idx_ok (dct_ok (v_ok rfl) (v_ok rfl) hg) (e_con _ _ _ _ _) rfl))) (tup1_ok (v_ok rfl))) L3.at_ (by omega)) (s_nil _ _ _ _))))) (s_nil _ _ _ _))) (s_nil _ _ _ _))) (s_nil _ _ _ _)), (L3.set hkS).mono (by omega), ?_⟩
    exact Stm.one (.inr ⟨_, _, ⟨_, _, _, .inr rfl, ln, .inl ⟨hi, by omega, rfl⟩, rfl⟩, .inr (.inl ⟨s, _, fv s hs, fw s hs, .inr ⟨_, _, _, .inl rfl, ln, .inl ⟨1, by omega, rfl⟩, rfl⟩, rfl⟩), rfl⟩) _
  | false =>
  rw [b3] at c3
  cases b4 : decide (r < 6) && decide (0 < deep) with
  | true =>
    rw [b4] at c4
    simp only [Bool.and_eq_true, decide_eq_true_eq] at b4
    obtain ⟨⟨jl, hj⟩, H⟩ := h1 b4.2
    obtain ⟨d3, S3, e3, m3, w3, u3⟩ := H ke S2 k (B + 1) w2 (by omega)
    have L3 := L2.upd hkS u3 w3
    have dp : binD .sub (iN deep) (.int 1) = some (iN (deep - 1)) := sub_nat (b := 1) b4.2
    have q3 : evE (run TT GL (n + 3)) GL (.callK 62 [] [0, 1, 2, 3, 4, 5] [] [(.var 0), (.var 1), (.var 2), (.var 3), (.bin .sub (.var 4) (.con (.int 1))), (.var 5)] []) (bR k S.length deep held ke fr nm kvs x8 (some (.dat (iN r))) x10 x11 x12 x13) S2 = .ok (.dat d3) S3 :=
      e_call6 (v_ok rfl) (v_ok rfl) (v_ok rfl) (v_ok rfl) (bin_ok (v_ok rfl) (e_con _ _ _ _ _) dp) (v_ok rfl) e3
    obtain ⟨r4, S4, e4, hr4, w4, u4⟩ := d_ok (n := n + 2) (ρ := bR k S.length deep held ke fr nm kvs x8 (some (.dat (iN r))) x10 x11 (some (.dat d3)) x13) (S0 := S3) (e := .con (.int 2)) (m := 2) rfl (e_con _ _ _ _ _) w3 (by omega) (by omega) (by omega) rfl
    have L4 := L3.upd hkS u4 w4
    have q5 : ∃ d5 S5, evE (run TT GL (n + 3)) GL (.ife (.cmp .eq (.callK 56 [] [0, 1] [] [(.var 0), (.con (.int 2))] []) (.con (.int 0))) (.callK 62 [] [0, 1, 2, 3, 4, 5] [] [(.var 0), (.var 1), (.var 2), (.var 3), (.bin .sub (.var 4) (.con (.int 1))), (.var 5)] []) (.tup [])) (bR k S.length deep held ke fr nm kvs x8 (some (.dat (iN r))) x10 x11 (some (.dat d3)) x13) S3 = .ok (.dat d5) S5 ∧ Bdy (Stm fr nm lvl) d5 ∧ Wl S5 k (B + 1 + u + 1 + u) ∧ Upd S4 S5 k := by
      have cc := cmp_ok (op := .eq) (b := .con (.int 0)) e4 (e_con _ _ _ _ _) (eq_nat r4 0)
      by_cases h0 : r4 = 0
      · rw [decide_eq_true h0] at cc
        obtain ⟨d5, S5, e5, m5, w5, u5⟩ := H ke S4 k (B + 1 + u + 1) w4 (by omega)
        exact ⟨d5, S5, ife_t cc (e_call6 (v_ok rfl) (v_ok rfl) (v_ok rfl) (v_ok rfl) (bin_ok (v_ok rfl) (e_con _ _ _ _ _) dp) (v_ok rfl) e5), hnm ▸ m5.bdy, w5, u5⟩
      · rw [decide_eq_false h0] at cc
        exact ⟨.tuple [], S4, ife_f cc (by rw [e_tup, l_nil, bind_ok, tupR_0]), ⟨[], rfl, by simp, by simp⟩, w4.mono (by omega), Upd.refl _ _⟩
    obtain ⟨d5, S5, e5, m5, w5, u5⟩ := q5
    have L5 := L4.upd hkS u5 w5
    obtain ⟨d6, S6, e6, m6, w6, u6⟩ := r_test n (l := nm) w5 (by omega) nl nw
    have L6 := L5.upd hkS u6 w6
    refine ⟨_, _, _, _, _, _, _, s_nx (a_nx e9 rfl) (s_nx (if_f c1 (s_nx (if_f c2 (s_nx (if_f c3 (s_nx (if_t c4 (s_nx (a_nx q3 rfl) (s_nx (a_nx e5 rfl) (s_nx (app_nx (v_ok rfl) (tup4_ok (e_con _ _ _ _ _) (e_call2 (v_ok rfl) (v_ok rfl) e6) (v_ok rfl) (v_ok rfl)) L6.at_ (by omega)) (s_nil _ _ _ _))))) (s_nil _ _ _ _))) (s_nil _ _ _ _))) (s_nil _ _ _ _))) (s_nil _ _ _ _)), (L6.set hkS).mono (by omega), ?_⟩
    subst hj
    exact .inr (.inr ⟨d6, d3, d5, m6, hnm ▸ m3, m5, rfl⟩)
  | false =>
  rw [b4] at c4
  cases b5 : decide (r = 6) && !held with
  | true =>
    rw [b5] at c5
    simp only [Bool.and_eq_true, Bool.not_eq_true', decide_eq_true_eq] at b5
    obtain ⟨⟨jl, hj⟩, H⟩ := h2 b5.2
    obtain ⟨d3, S3, e3, m3, w3, u3⟩ := H ke S2 k (B + 1) w2 (by omega)
    have L3 := L2.upd hkS u3 w3
    refine ⟨_, _, _, _, _, _, _, s_nx (a_nx e9 rfl) (s_nx (if_f c1 (s_nx (if_f c2 (s_nx (if_f c3 (s_nx (if_f c4 (s_nx (if_t c5 (s_nx (app_nx (v_ok rfl) (tup2_ok (e_con _ _ _ _ _) (e_call6 (v_ok rfl) (v_ok rfl) (v_ok rfl) (v_ok rfl) (e_con _ _ _ _ _) (e_con _ _ _ _ _) e3)) L3.at_ (by omega)) (s_nil _ _ _ _))) (s_nil _ _ _ _))) (s_nil _ _ _ _))) (s_nil _ _ _ _))) (s_nil _ _ _ _))) (s_nil _ _ _ _)), (L3.set hkS).mono (by omega), ?_⟩
    subst hj
    exact .inr (.inl ⟨d3, hnm ▸ m3, rfl⟩)
  | false =>
    rw [b5] at c5
    obtain ⟨r3, S3, e3, hr3, w3, u3⟩ := d_ok (n := n + 2) (ρ := bR k S.length deep held ke fr nm kvs x8 (some (.dat (iN r))) x10 x11 x12 x13) (S0 := S2) (e := .con (.int 3)) (m := 3) rfl (e_con _ _ _ _ _) w2 (by omega) (by omega) (by omega) rfl
    have L3 := L2.upd hkS u3 w3
    refine ⟨_, _, _, _, _, _, _, s_nx (a_nx e9 rfl) (s_nx (if_f c1 (s_nx (if_f c2 (s_nx (if_f c3 (s_nx (if_f c4 (s_nx (if_f c5 (s_nx (app_nx (v_ok rfl) (tup2_ok (e_con _ _ _ _ _) (bin_ok (e_con _ _ _ _ _) e3 (add_nat 1 r3))) L3.at_ (by omega)) (s_nil _ _ _ _))) (s_nil _ _ _ _))) (s_nil _ _ _ _))) (s_nil _ _ _ _))) (s_nil _ _ _ _))) (s_nil _ _ _ _)), (L3.set hkS).mono (by omega), ?_⟩
    exact Stm.bas (.inr (.inr ⟨1 + r3, by omega, by omega, rfl⟩)) _
theorem body_ok (hu : u < 100000) : BSp fr kvs (run TT GL (n + 4)) deep held (lvl + 1) (3 * (2 * u + 8) + 1) := by
  intro ke S k B w hB
  have hkS := w.lt
  have L0 := LocI.start w
  have e0 : evE (run TT GL (n + 3)) GL (.new []) [some (.cell k), some (.dat ke), some (.dat (.list (fr.map .str))), some (.dct kvs), some (.dat (iN deep)), some (.dat (.bool held)), none, none, none, none, none, none, none, none] S = .ok (.cell S.length) (S ++ [[]]) := by
    rw [e_new, l_nil, bind_ok, newR_0]
  have e1 : evE (run TT GL (n + 3)) GL (.srt (.var 3)) [some (.cell k), some (.dat ke), some (.dat (.list (fr.map .str))), some (.dct kvs), some (.dat (iN deep)), some (.dat (.bool held)), none, none, none, none, none, none, none, none] (S ++ [[]]) = .ok (.dat (.list ((kvs.map (·.1)).map .str))) (S ++ [[]]) := srt_ok hk (v_ok rfl)
  obtain ⟨r, S1, e2, hr, w1, u1⟩ := d_ok (n := n + 2) (ρ := bR k S.length deep held ke fr (kvs.map (·.1)) kvs none none none none none none) (S0 := S ++ [[]]) (e := .con (.int 3)) (m := 3) rfl (e_con _ _ _ _ _) L0.wl (by omega) (by omega) (by omega) rfl
  have L1 := L0.upd hkS u1 w1
  have hi : evI (run TT GL (n + 3)) GL (.rng1 (.bin .add (.con (.int 1)) (.callK 56 [] [0, 1] [] [(.var 0), (.con (.int 3))] []))) (bR k S.length deep held ke fr (kvs.map (·.1)) kvs none none none none none none) (S ++ [[]]) = .ok ((List.range (1 + r)).map fun k => Val.dat (iN k)) S1 := rng1_nat (by omega) (bin_ok (e_con _ _ _ _ _) e2 (add_nat 1 r))
  obtain ⟨ρ2, S2, e3, x8, x9, x10, x11, x12, x13, l, rfl, L2, hl, hs⟩ := loop_ex (i := 8) (body := evSs (run TT GL (n + 3)) GL bT)
    (I := fun t ρ S1 => ∃ x8 x9 x10 x11 x12 x13 l, ρ = bR k S.length deep held ke fr (kvs.map (·.1)) kvs x8 x9 x10 x11 x12 x13 ∧ LocI S S1 k (B + 1 + t * (2 * u + 8)) l ∧ l.length = t ∧ ∀ d ∈ l, Stm fr (kvs.map (·.1)) (lvl + 1) d)
    ((List.range (1 + r)).map fun k => Val.dat (iN k)) 0 (bR k S.length deep held ke fr (kvs.map (·.1)) kvs none none none none none none) S1 ⟨none, none, none, none, none, none, [], rfl, L1.mono (by omega), rfl, by simp⟩
    (fun t v ρ Sx ht ⟨x8, x9, x10, x11, x12, x13, l, e, L, hl, hs⟩ => by
      rw [List.length_map, List.length_range] at ht
      have ht2 : t ≤ 2 := by omega
      have hm : t * (2 * u + 8) ≤ 2 * (2 * u + 8) := Nat.mul_le_mul_right _ ht2
      have hb3 : B + 1 + t * (2 * u + 8) + 2 * u + 8 < 800000 := by
        generalize t * (2 * u + 8) = q at hm ⊢
        omega
      obtain ⟨y9, y10, y11, y12, y13, d, S3, e4, L3, m3⟩ := body_turn n hk hf hfl h1 h2 (some v) x9 x10 x11 x12 x13 L hkS hb3 (by omega)
      refine ⟨_, S3, ?_, some v, y9, y10, y11, y12, y13, l ++ [d], rfl, L3.mono (by rw [Nat.add_mul t 1 (2 * u + 8)]; omega), by rw [List.length_append, hl]; rfl, fun x hx => ?_⟩
      · rw [e]
        exact e4
      · rcases List.mem_append.mp hx with z | z
        · exact hs x z
        · rw [List.mem_singleton] at z
          exact z ▸ m3)
  rw [List.length_map, List.length_range, Nat.zero_add] at L2 hl
  have L2 := L2.mono (B2 := B + (3 * (2 * u + 8) + 1)) (by
    have : (1 + r) * (2 * u + 8) ≤ 3 * (2 * u + 8) := Nat.mul_le_mul_right _ (by omega)
    omega)
  obtain ⟨wf, uf⟩ := L2.fin hkS
  exact ⟨.tuple l, S2.take S.length, run_rtT (F := F__law_body) (by rfl) (by rfl) (by decide) (by rfl) (by rfl) (by rfl) (s_nx (p_nx e0 e1 (by rfl)) (s_nx (f_nx hi e3) (s_rt (r_rt (tupC_ok rfl L2.at_))))), ⟨l, rfl, by omega, by omega, hs⟩, wf, uf⟩
end
theorem BSp.up {fr : List Str} {kvs : List (Str × PyData)} {C : Nat → List Val → Sto → R Val} {deep lvl u u2 : Nat} {held : Bool} (h : BSp fr kvs C deep held lvl u) (hu : u ≤ u2) : BSp fr kvs C deep held (lvl + 1) u2 := fun ke S k B w hB => by
  obtain ⟨d, S', e, m, w', u'⟩ := h ke S k B w (by omega)
  exact ⟨d, S', e, m.imp (Stm.up lvl), w'.mono (by omega), u'⟩
theorem BSp.more {fr : List Str} {kvs : List (Str × PyData)} {C : Nat → List Val → Sto → R Val} {deep lvl u u2 : Nat} {held : Bool} (h : BSp fr kvs C deep held lvl u) (hu : u ≤ u2) : BSp fr kvs C deep held lvl u2 := fun ke S k B w hB => by
  obtain ⟨d, S', e, m, w', u'⟩ := h ke S k B w (by omega)
  exact ⟨d, S', e, m, w'.mono (by omega), u'⟩
theorem body_all (n : Nat) {fr : List Str} {kvs : List (Str × PyData)} (hk : Spn kvs) (hf : ∀ s ∈ fr, s ∈ kvs.map (·.1)) (hfl : fr.length ≤ 4) : BSp fr kvs (run TT GL (n + 7)) 2 false 4 10000 := by
  have b0 : ∀ n, BSp fr kvs (run TT GL (n + 4)) 0 true 1 25 := fun n => body_ok n (u := 0) hk hf hfl (fun h => absurd h (by omega)) (fun h => by cases h) (by omega)
  have b1 : ∀ n, BSp fr kvs (run TT GL (n + 5)) 0 false 2 175 := fun n => body_ok (n + 1) (u := 25) hk hf hfl (fun h => absurd h (by omega)) (fun _ => ⟨⟨0, rfl⟩, (b0 n)⟩) (by omega)
  have b2 : ∀ n, BSp fr kvs (run TT GL (n + 6)) 1 false 3 1075 := fun n => body_ok (n + 2) (u := 175) hk hf hfl (fun _ => ⟨⟨1, rfl⟩, b1 n⟩) (fun _ => ⟨⟨1, rfl⟩, (b0 (n + 1)).more (by omega)⟩) (by omega)
  have b3 : BSp fr kvs (run TT GL (n + 7)) 2 false 4 6475 := body_ok (n + 3) (u := 1075) hk hf hfl (fun _ => ⟨⟨2, rfl⟩, b2 n⟩) (fun _ => ⟨⟨2, rfl⟩, (b0 (n + 2)).more (by omega)⟩) (by omega)
  exact b3.more (by omega)
end Dw

set_option Elab.async false
set_option linter.all false
set_option maxRecDepth 100000
set_option maxHeartbeats 1000000
/-! How many statements, how many rows of reads. -/
namespace Dw
open PySem
structure Shp (m : Nat) (d : PyData) : Prop where
  lay : d.canLay0 = true
  dp : d.depth ≤ m
theorem Shp.ok {m : Nat} {d : PyData} (h : Shp m d) (hm : m ≤ 60) : SeqAt.shaped d = true := by
  have a := h.dp
  unfold SeqAt.shaped
  rw [h.lay, decide_eq_true (show d.depth ≤ 64 by omega)]
  rfl
theorem Shp.mono {m k : Nat} {d : PyData} (h : Shp m d) (hm : m ≤ k) : Shp k d := ⟨h.lay, Nat.le_trans h.dp hm⟩
theorem shp_str {x : Str} (h : Asc x) : Shp 0 (.str x) := ⟨(nice_str h).lay, (nice_str h).dp⟩
theorem shp_int (i : Int) : Shp 0 (.int i) := ⟨by simp [PyData.canLay0], by simp [PyData.depth]⟩
theorem shp_all {m : Nat} : ∀ {l : List PyData}, (∀ d ∈ l, Shp m d) → PyData.canLayAll0 l = true ∧ PyData.depthAll l ≤ m
  | [], _ => ⟨by simp [PyData.canLayAll0], by simp [PyData.depthAll]⟩
  | d :: l, h => by
    obtain ⟨a, b⟩ := shp_all fun x hx => h x (List.mem_cons_of_mem _ hx)
    have hd := h d List.mem_cons_self
    have h4 := hd.dp
    exact ⟨by simp [PyData.canLayAll0, hd.lay, a], by simp [PyData.depthAll]; omega⟩
theorem shp_tup {m : Nat} {l : List PyData} (h : ∀ d ∈ l, Shp m d) : Shp (m + 1) (.tuple l) := by
  obtain ⟨a, b⟩ := shp_all h
  exact ⟨by simpa [PyData.canLay0] using a, by simp only [PyData.depth]; omega⟩
theorem all1 {P : PyData → Prop} {a : PyData} (h1 : P a) : ∀ d ∈ [a], P d := by
  intro d hd
  rw [List.mem_singleton] at hd
  exact hd ▸ h1
theorem all2 {P : PyData → Prop} {a b : PyData} (h1 : P a) (h2 : P b) : ∀ d ∈ [a, b], P d := by
  intro d hd
  rcases List.mem_cons.mp hd with rfl | hd
  · exact h1
  · exact all1 h2 d hd
theorem all3 {P : PyData → Prop} {a b c : PyData} (h1 : P a) (h2 : P b) (h3 : P c) : ∀ d ∈ [a, b, c], P d := by
  intro d hd
  rcases List.mem_cons.mp hd with rfl | hd
  · exact h1
  · exact all2 h2 h3 d hd
theorem all4 {P : PyData → Prop} {a b c e : PyData} (h1 : P a) (h2 : P b) (h3 : P c) (h4 : P e) : ∀ d ∈ [a, b, c, e], P d := by
  intro d hd
  rcases List.mem_cons.mp hd with rfl | hd
  · exact h1
  · exact all3 h2 h3 h4 d hd
def ascB (x : Str) : Bool := (TL.tl x).all fun c => decide (c < 128)
theorem asc_of {x : Str} (h : ascB x = true) : Asc x := fun c hc => by
  unfold ascB at h
  rw [List.all_eq_true] at h
  exact of_decide_eq_true (h c hc)
theorem Wd.asc {w : Str} (h : Wd w) : Asc w := fun c hc => (h.ok c hc).2.2
theorem shp_lf {V : List Str} {d : PyData} (h : Lf V d) : Shp 1 d := by
  rcases h with ⟨n, _, rfl⟩ | ⟨s, _, hs, rfl⟩
  · exact shp_tup (all2 (shp_str (asc_of (by decide +kernel))) (shp_int _))
  · exact shp_tup (all2 (shp_str (asc_of (by decide +kernel))) (shp_str hs.asc))
theorem op_asc {o : Str} (h : Op o) : Asc o := by
  rcases h with rfl | rfl | rfl <;> exact asc_of (by decide +kernel)
theorem shp_sd {V : List Str} {d : PyData} (h : Sd V d) : Shp 2 d := by
  rcases h with h | ⟨o, a, b, ho, ha, hb, rfl⟩
  · exact (shp_lf h).mono (by omega)
  · exact shp_tup (all3 ((shp_str (op_asc ho)).mono (by omega)) (shp_lf ha) (shp_lf hb))
theorem shp_ts {V : List Str} {d : PyData} (h : Ts V d) : Shp 2 d := by
  obtain ⟨o, a, b, ho, ha, hb, rfl⟩ := h
  refine shp_tup (all3 ((shp_str ?_).mono (by omega)) (shp_lf ha) (shp_lf hb))
  rcases ho with rfl | rfl <;> exact asc_of (by decide +kernel)
theorem shp_bas {N V : List Str} {d : PyData} (h : Bas N V d) : Shp 3 d := by
  rcases h with ⟨s, _, _, hs, rfl⟩ | ⟨s, e, _, hs, he, rfl⟩ | ⟨n, _, _, rfl⟩
  · exact (shp_tup (m := 0) (all2 (shp_str (asc_of (by decide +kernel))) (shp_str hs.asc))).mono (by omega)
  · exact shp_tup (all3 ((shp_str (asc_of (by decide +kernel))).mono (by omega)) ((shp_str hs.asc).mono (by omega)) (shp_sd he))
  · exact (shp_tup (m := 0) (all2 (shp_str (asc_of (by decide +kernel))) (shp_int _))).mono (by omega)
theorem shp_bdy {P : PyData → Prop} {m : Nat} {b : PyData} (h : Bdy P b) (hp : ∀ d, P d → Shp m d) : Shp (m + 1) b := by
  obtain ⟨l, rfl, _, h2⟩ := h
  exact shp_tup fun d hd => hp d (h2 d hd)
theorem shp_bs1 {N V : List Str} {d : PyData} (h : Bs1 N V d) : Shp 5 d := by
  rcases h with h | ⟨t, e, ht, he, rfl⟩
  · exact (shp_bas h).mono (by omega)
  · exact shp_tup (all3 ((shp_str (asc_of (by decide +kernel))).mono (Nat.zero_le _)) ((shp_ts ht).mono (by omega)) (shp_tup (all1 (shp_bas he))))
theorem shp_stm {N V : List Str} : ∀ (k : Nat) (d : PyData), Stm N V k d → Shp (3 + 2 * k) d
  | 0, d, h => shp_bas h
  | 1, d, h => shp_bs1 h
  | k + 2, d, h => by
    have ih := fun d h => shp_stm (N := N) (V := V) (k + 1) d h
    rcases h with h | ⟨b, h1, rfl⟩ | ⟨t, b, c, ht, h1, h2, rfl⟩
    · exact (shp_bs1 h).mono (by omega)
    · exact (shp_tup (all2 ((shp_str (asc_of (by decide +kernel))).mono (Nat.zero_le _)) (shp_bdy h1.bdy fun d h => shp_bs1 h))).mono (by omega)
    · exact (shp_tup (all4 ((shp_str (asc_of (by decide +kernel))).mono (Nat.zero_le _)) ((shp_ts ht).mono (by omega)) (shp_bdy h1.bdy ih) (shp_bdy h2 ih))).mono (by omega)
theorem eqv_nilT (l : List PyData) : PyData.eqv (.tuple l) (.tuple []) = l.isEmpty := by
  cases l <;> simp [PyData.eqv, PyData.eqvAll]
theorem eq_nilT {l : List PyData} (h : SeqAt.shaped (.tuple l) = true) : cmpD .eq (.tuple l) (.tuple []) = some l.isEmpty := by
  show (if SeqAt.shaped (.tuple l) = true ∧ SeqAt.shaped (.tuple []) = true then some (PyData.eqv (.tuple l) (.tuple [])) else none) = _
  rw [if_pos ⟨h, by decide +kernel⟩, eqv_nilT]
theorem ne_nilT {l : List PyData} (h : SeqAt.shaped (.tuple l) = true) : cmpD .ne (.tuple l) (.tuple []) = some (!l.isEmpty) := by
  show (cmpD .eq (.tuple l) (.tuple [])).map (!·) = _
  rw [eq_nilT h]
  rfl
def isC (h : Str) : Bool := decide (h = Str.ofString "if") || (decide (h = Str.ofString "while") || decide (h = Str.ofString "hold"))
abbrev CMP : List PyData := [sS "if", sS "while", sS "hold"]
/-- a statement seen by its word and its parts -/
theorem stm_view {N V : List Str} : ∀ {k : Nat} {d : PyData}, Stm N V k d → ∃ h ps, d = .tuple (.str h :: ps) ∧ ps.length ≤ 3 ∧
    ((isC h = false ∧ cmpD .inn (.str h) (.tuple CMP) = some false ∧ ((h = Str.ofString "read" ∧ ∃ s, s ∈ N ∧ ps = [.str s]) ∨ decide (h = Str.ofString "read") = false)) ∨
     (isC h = true ∧ cmpD .inn (.str h) (.tuple CMP) = some true ∧ decide (h = Str.ofString "read") = false ∧ ∃ j, k = j + 1 ∧ ∀ p ∈ ps, Ts V p ∨ Bdy (Stm N V j) p)) := by
  intro k d h
  have bas : Bas N V d → _ := fun h => (show ∃ h ps, d = .tuple (.str h :: ps) ∧ ps.length ≤ 3 ∧ (isC h = false ∧ cmpD .inn (.str h) (.tuple CMP) = some false ∧ ((h = Str.ofString "read" ∧ ∃ s, s ∈ N ∧ ps = [.str s]) ∨ decide (h = Str.ofString "read") = false)) from by
    rcases h with ⟨s, hs, _, _, rfl⟩ | ⟨s, e, _, _, _, rfl⟩ | ⟨n, _, _, rfl⟩
    · exact ⟨_, _, rfl, by simp, by decide +kernel, by decide +kernel, .inl ⟨rfl, s, hs, rfl⟩⟩
    · exact ⟨_, _, rfl, by simp, by decide +kernel, by decide +kernel, .inr (by decide +kernel)⟩
    · exact ⟨_, _, rfl, by simp, by decide +kernel, by decide +kernel, .inr (by decide +kernel)⟩)
  have whl : ∀ j, k = j + 1 → Bs1 N V d → _ := fun j hj h => (show ∃ h ps, d = .tuple (.str h :: ps) ∧ ps.length ≤ 3 ∧
    ((isC h = false ∧ cmpD .inn (.str h) (.tuple CMP) = some false ∧ ((h = Str.ofString "read" ∧ ∃ s, s ∈ N ∧ ps = [.str s]) ∨ decide (h = Str.ofString "read") = false)) ∨
     (isC h = true ∧ cmpD .inn (.str h) (.tuple CMP) = some true ∧ decide (h = Str.ofString "read") = false ∧ ∃ j, k = j + 1 ∧ ∀ p ∈ ps, Ts V p ∨ Bdy (Stm N V j) p)) from by
    rcases h with h | ⟨t, e, ht, he, rfl⟩
    · obtain ⟨h, ps, e, hl, z⟩ := bas h
      exact ⟨h, ps, e, hl, .inl z⟩
    · exact ⟨_, _, rfl, by simp, .inr ⟨by decide +kernel, by decide +kernel, by decide +kernel, j, hj, all2 (.inl ht) (.inr ⟨_, rfl, by simp, all1 (Stm.bas he j)⟩)⟩⟩)
  match k, h, bas, whl with
  | 0, h, bas, _ =>
    obtain ⟨h, ps, e, hl, z⟩ := bas h
    exact ⟨h, ps, e, hl, .inl z⟩
  | 1, h, _, whl => exact whl 0 rfl h
  | k + 2, h, _, whl =>
    rcases h with h | ⟨b, h1, rfl⟩ | ⟨t, b, c, ht, h1, h2, rfl⟩
    · exact whl (k + 1) rfl h
    · exact ⟨_, _, rfl, by simp, .inr ⟨by decide +kernel, by decide +kernel, by decide +kernel, k + 1, rfl, all1 (.inr (h1.bdy.imp fun d hd => Stm.one hd k))⟩⟩
    · exact ⟨_, _, rfl, by simp, .inr ⟨by decide +kernel, by decide +kernel, by decide +kernel, k + 1, rfl, all3 (.inl ht) (.inr h1.bdy) (.inr h2)⟩⟩
theorem sl_tail (x : PyData) (ps : List PyData) : slD (.tuple (x :: ps)) (some 1) none = some (.tuple ps) := by
  show some (PyData.tuple (cutD (x :: ps) (some 1) none)) = _
  have : cutD (x :: ps) (some 1) none = ps := by
    unfold cutD sIx
    simp
  rw [this]
section
variable {C : Nat → List Val → Sto → R Val} {ρ : Rho} {S : Sto} {i : Nat} {N V : List Str} {j : Nat}
abbrev prtC (i : Nat) : Ex := .or [(.cmp .eq (.var i) (.tup [])), (.isi (.idx (.var i) (.con (.int 0))) .tuple)]
theorem tup0_ok {C : Nat → List Val → Sto → R Val} {G : List PyData} : evE C G (.tup []) ρ S = .ok (.dat (.tuple [])) S := by
  rw [e_tup, l_nil, bind_ok, tupR_0]
theorem prt_ts {p : PyData} (h : Ts V p) (hv : ρ[i]? = some (some (.dat p))) : evE C GL (prtC i) ρ S = .ok (.dat (.bool false)) S := by
  have sh := (shp_ts h).ok (by omega)
  obtain ⟨o, a, b, _, _, _, rfl⟩ := h
  exact or_ok (or2_f (cmp_ok (v_ok hv) tup0_ok (eq_nilT sh)) (or1_b (isi_ok (d := .str o) (idx_ok (v_ok hv) (e_con _ _ _ _ _) rfl))))
theorem prt_bdy {p : PyData} (hj : j ≤ 20) (h : Bdy (Stm N V j) p) (hv : ρ[i]? = some (some (.dat p))) : evE C GL (prtC i) ρ S = .ok (.dat (.bool true)) S := by
  have sh := (shp_bdy h (fun d hd => shp_stm j d hd)).ok (by omega)
  obtain ⟨l, rfl, _, h2⟩ := h
  cases l with
  | nil => exact or_ok (or2_t (cmp_ok (v_ok hv) tup0_ok (eq_nilT sh)))
  | cons d l =>
    obtain ⟨hh, ps, rfl, _, _⟩ := stm_view (h2 d List.mem_cons_self)
    exact or_ok (or2_f (cmp_ok (v_ok hv) tup0_ok (eq_nilT sh)) (or1_b (isi_ok (d := .tuple (.str hh :: ps)) (idx_ok (v_ok hv) (e_con _ _ _ _ _) rfl))))
end
theorem oc_ok {C : Nat → List Val → Sto → R Val} {G : List PyData} {ρ : Rho} {S : Sto} (i : Int) : evO C G (some (.con (.int i))) ρ S = .ok (some i) S := by rw [o_some, e_con, bind_ok, toI_ok, bind_ok]
theorem on_ok {C : Nat → List Val → Sto → R Val} {G : List PyData} {ρ : Rho} {S : Sto} : evO C G none ρ S = .ok none S := by rw [o_none]
theorem tail_it {C : Nat → List Val → Sto → R Val} {G : List PyData} {ρ : Rho} {S : Sto} {i : Nat} {x : PyData} {ps : List PyData} (h : ρ[i]? = some (some (.dat (.tuple (x :: ps))))) : evI C G (.val (.sl (.var i) (some (.con (.int 1))) none)) ρ S = .ok (ps.map .dat) S :=
  val_ok (sl_ok (v_ok h) (oc_ok 1) on_ok (sl_tail x ps)) (items_t ps)
theorem loop_ix {i : Nat} {body : Rho → Sto → SR} {S : Sto} (I : Nat → Rho → Prop) : ∀ (vs : List Val) (j : Nat) (ρ : Rho), I j ρ → (∀ (t : Nat) v ρ, t < j + vs.length → v ∈ vs → I t ρ → ∃ ρ', body (ρ.set i (some v)) S = .nx ρ' S ∧ I (t + 1) ρ') → ∃ ρ', loopF (.name i) body vs ρ S = .nx ρ' S ∧ I (j + vs.length) ρ'
  | [], j, ρ, h, _ => ⟨ρ, rfl, h⟩
  | v :: vs, j, ρ, h, hb => by
    obtain ⟨ρ1, e1, h1⟩ := hb j v ρ (by rw [List.length_cons]; omega) List.mem_cons_self h
    obtain ⟨ρ2, e2, h2⟩ := loop_ix I vs (j + 1) ρ1 h1 fun t w ρ ht hw => hb t w ρ (by rw [List.length_cons]; omega) (List.mem_cons_of_mem _ hw)
    refine ⟨ρ2, ?_, by rw [List.length_cons, show j + (vs.length + 1) = j + 1 + vs.length by omega]; exact h2⟩
    unfold loopF
    rw [setTg_name]
    simp only [e1]
    exact e2
end Dw

set_option Elab.async false
set_option linter.all false
set_option maxRecDepth 100000
set_option maxHeartbeats 1000000
/-! How many statements: exactly. -/
namespace Dw
open PySem
def isB : PyData → Bool
  | .tuple [] => true
  | .tuple (.tuple _ :: _) => true
  | _ => false
mutual
def cnt : PyData → Nat
  | .tuple l => l.length + cntL l
  | _ => 0
def cntL : List PyData → Nat
  | [] => 0
  | d :: r => cntS d + cntL r
def cntS : PyData → Nat
  | .tuple l => cntT l
  | _ => 0
def cntT : List PyData → Nat
  | [] => 0
  | h :: ps => match h with
    | .str w => if isC w = true then cntP ps else 0
    | _ => 0
def cntP : List PyData → Nat
  | [] => 0
  | p :: r => (if isB p = true then cnt p else 0) + cntP r
end
theorem isB_bdy {N V : List Str} {j : Nat} {p : PyData} (h : Bdy (Stm N V j) p) : isB p = true := by
  obtain ⟨l, rfl, _, h2⟩ := h
  cases l with
  | nil => rfl
  | cons d l =>
    obtain ⟨hh, ps, rfl, _, _⟩ := stm_view (h2 d List.mem_cons_self)
    rfl
theorem isB_ts {V : List Str} {p : PyData} (h : Ts V p) : isB p = false := by
  obtain ⟨o, a, b, _, _, _, rfl⟩ := h
  rfl
/-- a loop that adds up -/
theorem loop_sum {i : Nat} {body : Rho → Sto → SR} {S : Sto} (I : Nat → Rho → Prop) (g : PyData → Nat) : ∀ (vs : List PyData) (c : Nat) (ρ : Rho), I c ρ → (∀ v ∈ vs, ∀ c ρ, I c ρ → ∃ ρ', body (ρ.set i (some (.dat v))) S = .nx ρ' S ∧ I (c + g v) ρ') → ∃ ρ', loopF (.name i) body (vs.map .dat) ρ S = .nx ρ' S ∧ I (c + (vs.map g).sum) ρ'
  | [], c, ρ, h, _ => ⟨ρ, rfl, h⟩
  | v :: vs, c, ρ, h, hb => by
    obtain ⟨ρ1, e1, h1⟩ := hb v List.mem_cons_self c ρ h
    obtain ⟨ρ2, e2, h2⟩ := loop_sum I g vs (c + g v) ρ1 h1 fun w hw => hb w (List.mem_cons_of_mem _ hw)
    refine ⟨ρ2, ?_, by rw [List.map_cons, List.sum_cons, ← Nat.add_assoc]; exact h2⟩
    rw [List.map_cons]
    unfold loopF
    rw [setTg_name]
    simp only [e1]
    exact e2
theorem cntP_sum : ∀ ps : List PyData, (ps.map fun p => if isB p = true then cnt p else 0).sum = cntP ps
  | [] => by simp [cntP]
  | p :: r => by rw [List.map_cons, List.sum_cons, cntP_sum r, cntP]
theorem cntL_sum : ∀ l : List PyData, (l.map cntS).sum = cntL l
  | [] => by simp [cntL]
  | p :: r => by rw [List.map_cons, List.sum_cons, cntL_sum r, cntL]
abbrev mnI : List Sx := [.ife (.and [(.cmp .inn (.idx (.var 2) (.con (.int 0))) (.tup [(.con (sS "if")), (.con (sS "while")), (.con (sS "hold"))])), (prtC 3)]) [.asg (.name 1) (.bin .add (.var 1) (.callK 63 [] [0] [] [(.var 3)] []))] []]
abbrev mnR (b own : PyData) (c : Nat) (x3 : Option Val) : Rho := [some (.dat b), some (.dat (iN c)), some (.dat own), x3]
section
variable {m k : Nat} {N V : List Str} {b : PyData} {S : Sto}
theorem many_part (hk : k ≤ 20) {hh : Str} {ps : List PyData} (z : (isC hh = false ∧ cmpD .inn (.str hh) (.tuple CMP) = some false) ∨ (isC hh = true ∧ cmpD .inn (.str hh) (.tuple CMP) = some true ∧ ∀ p ∈ ps, Ts V p ∨ (∃ j, j ≤ 20 ∧ Bdy (Stm N V j) p ∧ run TT GL m 63 [.dat p] S = .ok (.dat (iN (cnt p))) S))) {p : PyData} (hp : p ∈ ps) (c : Nat) :
    evSs (run TT GL m) GL mnI (mnR b (.tuple (.str hh :: ps)) c (some (.dat p))) S = .nx (mnR b (.tuple (.str hh :: ps)) (c + if isC hh = true then (if isB p = true then cnt p else 0) else 0) (some (.dat p))) S := by
  have ix : evE (run TT GL m) GL (.idx (.var 2) (.con (.int 0))) (mnR b (.tuple (.str hh :: ps)) c (some (.dat p))) S = .ok (.dat (.str hh)) S := idx_ok (v_ok rfl) (e_con _ _ _ _ _) rfl
  rcases z with ⟨z0, z⟩ | ⟨z0, z, hpp⟩
  · rw [z0, if_neg (by decide)]
    exact s_nx (if_f (and_ok (and2_f (cmp_ok ix (tup3_ok (e_con _ _ _ _ _) (e_con _ _ _ _ _) (e_con _ _ _ _ _)) z))) (s_nil _ _ _ _)) (s_nil _ _ _ _)
  · have ti := cmp_ok (op := .inn) ix (tup3_ok (e_con _ _ _ _ _) (e_con _ _ _ _ _) (e_con _ _ _ _ _)) z
    rw [z0, if_pos rfl]
    rcases hpp p hp with ht | ⟨j, hj, hb, e4⟩
    · rw [isB_ts ht, if_neg (by decide)]
      exact s_nx (if_f (and_ok (and2_t ti (and1_b (prt_ts ht rfl)))) (s_nil _ _ _ _)) (s_nil _ _ _ _)
    · rw [isB_bdy hb, if_pos rfl]
      exact s_nx (if_t (and_ok (and2_t ti (and1_b (prt_bdy hj hb rfl)))) (s_nx (a_nx (bin_ok (v_ok rfl) (e_call1 (v_ok rfl) e4) (add_nat c (cnt p))) rfl) (s_nil _ _ _ _))) (s_nil _ _ _ _)
theorem many_inner (hk : k ≤ 20) {hh : Str} {ps : List PyData} (z : (isC hh = false ∧ cmpD .inn (.str hh) (.tuple CMP) = some false) ∨ (isC hh = true ∧ cmpD .inn (.str hh) (.tuple CMP) = some true ∧ ∀ p ∈ ps, Ts V p ∨ (∃ j, j ≤ 20 ∧ Bdy (Stm N V j) p ∧ run TT GL m 63 [.dat p] S = .ok (.dat (iN (cnt p))) S))) (c : Nat) (x3 : Option Val) :
    ∃ (y3 : Option Val), loopF (.name 3) (evSs (run TT GL m) GL mnI) (ps.map .dat) (mnR b (.tuple (.str hh :: ps)) c x3) S = .nx (mnR b (.tuple (.str hh :: ps)) (c + cntS (.tuple (.str hh :: ps))) y3) S := by
  obtain ⟨ρ3, e3, y3, rfl⟩ := loop_sum (i := 3) (body := evSs (run TT GL m) GL mnI) (S := S) (fun c ρ => ∃ (x3 : Option Val), ρ = mnR b (.tuple (.str hh :: ps)) c x3) (fun p => if isC hh = true then (if isB p = true then cnt p else 0) else 0) ps c (mnR b (.tuple (.str hh :: ps)) c x3) ⟨_, rfl⟩ (fun p hp c ρ ⟨x3, e⟩ => by
    subst e
    exact ⟨_, many_part (b := b) (k := k) hk z hp c, _, rfl⟩)
  have es : (ps.map fun p => if isC hh = true then (if isB p = true then cnt p else 0) else 0).sum = cntS (.tuple (.str hh :: ps)) := by
    unfold cntS cntT
    cases hc : isC hh with
    | true =>
      simp only [if_true, hc]
      exact cntP_sum ps
    | false =>
      have : ∀ l : List PyData, (l.map fun _ => (0 : Nat)).sum = 0 := fun l => by
        induction l with
        | nil => rfl
        | cons _ _ ih => rw [List.map_cons, List.sum_cons, ih]
      simp only [Bool.false_eq_true, if_false, hc]
      exact this ps
  rw [es] at e3
  exact ⟨y3, e3⟩
abbrev mnO : List Sx := [.fr (.name 3) (.val (.sl (.var 2) (some (.con (.int 1))) none)) mnI]
theorem many_outer (hk : k ≤ 20) {l : List PyData} (hs : ∀ d ∈ l, Stm N V k d) (ih : ∀ j, k = j + 1 → ∀ p, Bdy (Stm N V j) p → run TT GL m 63 [.dat p] S = .ok (.dat (iN (cnt p))) S) {d : PyData} (hd : d ∈ l) (c : Nat) (x3 : Option Val) :
    ∃ (y3 : Option Val), evSs (run TT GL m) GL mnO (mnR (.tuple l) d c x3) S = .nx (mnR (.tuple l) d (c + cntS d) y3) S := by
  obtain ⟨hh, ps, rfl, hps, z⟩ := stm_view (hs d hd)
  have z2 : (isC hh = false ∧ cmpD .inn (.str hh) (.tuple CMP) = some false) ∨ (isC hh = true ∧ cmpD .inn (.str hh) (.tuple CMP) = some true ∧ ∀ p ∈ ps, Ts V p ∨ (∃ j, j ≤ 20 ∧ Bdy (Stm N V j) p ∧ run TT GL m 63 [.dat p] S = .ok (.dat (iN (cnt p))) S)) := by
    rcases z with ⟨z0, z, _⟩ | ⟨z0, z, _, j, hj, hpp⟩
    · exact .inl ⟨z0, z⟩
    · exact .inr ⟨z0, z, fun p hp => (hpp p hp).imp id fun hb => ⟨j, by omega, hb, ih j hj p hb⟩⟩
  obtain ⟨y3, e3⟩ := many_inner (m := m) (S := S) (b := .tuple l) (k := k) hk z2 c x3
  have e4 : evI (run TT GL m) GL (.val (.sl (.var 2) (some (.con (.int 1))) none)) (mnR (.tuple l) (.tuple (.str hh :: ps)) c x3) S = .ok (ps.map .dat) S := tail_it rfl
  exact ⟨y3, s_nx (f_nx e4 e3) (s_nil _ _ _ _)⟩
theorem many_step (hk : k ≤ 20) (ih : ∀ j, k = j + 1 → ∀ p, Bdy (Stm N V j) p → run TT GL m 63 [.dat p] S = .ok (.dat (iN (cnt p))) S) (h : Bdy (Stm N V k) b) : run TT GL (m + 1) 63 [.dat b] S = .ok (.dat (iN (cnt b))) S := by
  obtain ⟨l, rfl, hl, hs⟩ := h
  obtain ⟨ρ2, e2, x2, x3, rfl⟩ := loop_sum (i := 2) (body := evSs (run TT GL m) GL mnO) (S := S) (fun c ρ => ∃ (x2 x3 : Option Val), ρ = [some (.dat (.tuple l)), some (.dat (iN c)), x2, x3]) cntS l l.length [some (.dat (.tuple l)), some (.dat (iN l.length)), none, none] ⟨_, _, rfl⟩ (fun d hd c ρ ⟨x2, x3, e⟩ => by
    subst e
    obtain ⟨y3, e4⟩ := many_outer hk hs ih hd c x3
    exact ⟨_, e4, _, _, rfl⟩)
  have e0 : evE (run TT GL m) GL (.blt .len [(.var 0)]) [some (.dat (.tuple l)), none, none, none] S = .ok (.dat (iN l.length)) S := blt1_ok (v_ok rfl) (bl_lenT _)
  have e1 : evI (run TT GL m) GL (.val (.var 0)) [some (.dat (.tuple l)), some (.dat (iN l.length)), none, none] S = .ok (l.map .dat) S := val_ok (v_ok rfl) (items_t _)
  have e5 : evE (run TT GL m) GL (.var 1) [some (.dat (.tuple l)), some (.dat (iN (l.length + (l.map cntS).sum))), x2, x3] S = .ok (.dat (iN (l.length + (l.map cntS).sum))) S := v_ok rfl
  have ec : l.length + (l.map cntS).sum = cnt (.tuple l) := by rw [cntL_sum, cnt]
  rw [ec] at e5 e2
  exact run_rt (F := F__law_many) (by rfl) (by rfl) (by decide) (by rfl) (by rfl) (by rfl) (s_nx (a_nx e0 (by rfl)) (s_nx (f_nx e1 e2) (s_rt (r_rt e5))))
end
theorem r_many {N V : List Str} : ∀ (k n : Nat) (b : PyData) (S : Sto), k ≤ 20 → Bdy (Stm N V k) b → run TT GL (n + k + 1) 63 [.dat b] S = .ok (.dat (iN (cnt b))) S := by
  intro k
  induction k with
  | zero => exact fun n b S hk h => many_step (m := n + 0) hk (fun j hj => absurd hj (by omega)) h
  | succ k ih => exact fun n b S hk h => many_step (m := n + (k + 1)) hk (fun j hj p hp => by
      obtain rfl : k = j := by omega
      exact ih n p S (by omega) hp) h
end Dw

set_option Elab.async false
set_option linter.all false
set_option maxRecDepth 100000
set_option maxHeartbeats 4000000
namespace Dw
open PySem
/-! rows of reads -/
theorem mul_pow {a b p q : Nat} (ha : a < 2 ^ p) (hb : b < 2 ^ q) (h : p + q < 900000) : binD .mul (iN a) (iN b) = some (iN (a * b)) := by
  have lg : ∀ n e : Nat, n < 2 ^ e → n.log2 ≤ e := fun n e h => by
    by_cases h0 : n = 0
    · subst h0
      exact Nat.zero_le _
    · exact Nat.le_of_lt ((Nat.log2_lt h0).mpr h)
  have h1 := lg _ _ ha
  have h2 := lg _ _ hb
  rw [b_mul _ _ (show mulOk (a : Int) (b : Int) = true from decide_eq_true (by rw [Int.natAbs_natCast, Int.natAbs_natCast]; omega))]
  unfold iN
  rw [Int.natCast_mul]
theorem sum_ok {M : Nat} {rs : List PyData} (h : ∀ r ∈ rs, ∃ c : Nat, r = iN c ∧ c < M) : ∃ s : Nat, bltD .sum1 [.list rs] = some (iN s) ∧ s ≤ rs.length * M := by
  have : ∀ rs : List PyData, (∀ r ∈ rs, ∃ c : Nat, r = iN c ∧ c < M) → ∃ (ns : List Int) (s : Nat), intsOf rs = some ns ∧ ns.sum = (s : Int) ∧ s ≤ rs.length * M := by
    intro rs
    induction rs with
    | nil => exact fun _ => ⟨[], 0, rfl, rfl, Nat.zero_le _⟩
    | cons r rs ih =>
      intro h
      obtain ⟨c, rfl, hc⟩ := h r List.mem_cons_self
      obtain ⟨ns, s, e, hs, hl⟩ := ih fun x hx => h x (List.mem_cons_of_mem _ hx)
      refine ⟨(c : Int) :: ns, c + s, ?_, by rw [List.sum_cons, hs, Int.natCast_add], by rw [List.length_cons, Nat.succ_mul]; omega⟩
      show (intsOf rs).map ((c : Int) :: ·) = _
      rw [e]
      rfl
  obtain ⟨ns, s, e, hs, hl⟩ := this rs h
  refine ⟨s, ?_, hl⟩
  show (intsOf rs).map (fun ns => PyData.int ns.sum) = _
  rw [e]
  show some (PyData.int ns.sum) = _
  rw [hs]
theorem cp_ex {C : Nat → List Val → Sto → R Val} {G : List PyData} {ρ : Rho} {S S1 : Sto} {e c : Ex} {i : Nat} {it : It} {ds : List PyData} {Q : PyData → Prop} {own : List Nat} (hi : evI C G it ρ S = .ok (ds.map .dat) S1) (hl : ds.length ≤ 16777216)
    (h : ∀ d ∈ ds, evE C G c ((wipeE ρ own).set i (some (.dat d))) S1 = .ok (.dat (.bool false)) S1 ∨ (evE C G c ((wipeE ρ own).set i (some (.dat d))) S1 = .ok (.dat (.bool true)) S1 ∧ ∃ r, evE C G e ((wipeE ρ own).set i (some (.dat d))) S1 = .ok (.dat r) S1 ∧ Q r)) :
    ∃ rs, evE C G (.cp e (.name i) it [c] own) ρ S = .ok (.dat (.list rs)) S1 ∧ rs.length ≤ ds.length ∧ ∀ r ∈ rs, Q r := by
  have key : ∀ ds : List PyData, (∀ d ∈ ds, evE C G c ((wipeE ρ own).set i (some (.dat d))) S1 = .ok (.dat (.bool false)) S1 ∨ (evE C G c ((wipeE ρ own).set i (some (.dat d))) S1 = .ok (.dat (.bool true)) S1 ∧ ∃ r, evE C G e ((wipeE ρ own).set i (some (.dat d))) S1 = .ok (.dat r) S1 ∧ Q r)) →
      ∃ rs : List PyData, compL (turnF (.name i) own (evIf C G [c]) (evE C G e) ρ) (ds.map .dat) S1 = .ok (rs.map .dat) S1 ∧ rs.length ≤ ds.length ∧ ∀ r ∈ rs, Q r := by
    intro ds
    induction ds with
    | nil => exact fun _ => ⟨[], rfl, Nat.le_refl _, by simp⟩
    | cons d ds ih =>
      intro h
      obtain ⟨rs, e1, hl, hq⟩ := ih fun x hx => h x (List.mem_cons_of_mem _ hx)
      rcases h d List.mem_cons_self with hf | ⟨ht, r, he, q⟩
      · refine ⟨rs, ?_, by rw [List.length_cons]; omega, hq⟩
        rw [List.map_cons]
        unfold compL
        have : turnF (.name i) own (evIf C G [c]) (evE C G e) ρ (.dat d) S1 = .ok none S1 := by
          unfold turnF
          rw [setTg_name]
          simp only
          rw [if_one, hf, bind_ok, toB_ok, bind_ok]
          rfl
        rw [this, bind_ok, e1, bind_ok]
      · refine ⟨r :: rs, ?_, by rw [List.length_cons, List.length_cons]; omega, fun x hx => ?_⟩
        · rw [List.map_cons]
          unfold compL
          have : turnF (.name i) own (evIf C G [c]) (evE C G e) ρ (.dat d) S1 = .ok (some (.dat r)) S1 := by
            unfold turnF
            rw [setTg_name]
            simp only
            rw [if_one, ht, bind_ok, toB_ok, bind_ok, if_pos rfl, he, bind_ok]
            rfl
          rw [this, bind_ok, e1, bind_ok]
          rfl
        · rcases List.mem_cons.mp hx with rfl | hx
          · exact q
          · exact hq x hx
  obtain ⟨rs, e1, h2, h3⟩ := key ds h
  refine ⟨rs, ?_, h2, h3⟩
  rw [e_cpF]
  unfold cpF
  rw [hi, bind_ok, if_pos (show (ds.map Val.dat).length ≤ LINE from line_big (by rw [List.length_map]; exact hl)), e1, bind_ok, lstR_dat]
def EX : Nat → Nat
  | 0 => 13
  | k + 1 => 3 * (EX k + 2) + 1
theorem EX_ge : ∀ k, 13 ≤ EX k
  | 0 => Nat.le_refl _
  | k + 1 => by
    have := EX_ge k
    unfold EX
    omega
theorem r_most {kvs : List (Str × PyData)} {N V : List Str} (hk : Spn kvs) (hN : ∀ s ∈ N, s ∈ kvs.map (·.1)) : ∀ (k n : Nat) (b : PyData) (S : Sto), k ≤ 4 → Bdy (Stm N V k) b → ∃ c : Nat, run TT GL (n + k + 1) 64 [.dat b, .dct kvs] S = .ok (.dat (iN c)) S ∧ c < 2 ^ EX k := by
  have exb2 : ∀ k, k ≤ 3 → EX k + 2 ≤ 20000 := by decide
  have aux : ∀ (k F : Nat), k ≤ 4 → F + 2 ≤ 20000 → 4 ≤ F + 2 → 3 * (F + 2) + 1 ≤ EX k → (∀ j, k = j + 1 → ∀ (n : Nat) (b : PyData) (S : Sto), Bdy (Stm N V j) b → ∃ c : Nat, run TT GL (n + j + 1) 64 [.dat b, .dct kvs] S = .ok (.dat (iN c)) S ∧ c < 2 ^ F) → ∀ (n : Nat) (b : PyData) (S : Sto), Bdy (Stm N V k) b → ∃ c : Nat, run TT GL (n + k + 1) 64 [.dat b, .dct kvs] S = .ok (.dat (iN c)) S ∧ c < 2 ^ EX k := by
    intro k F hk4 hF hF4 hEX ih n b S h
    obtain ⟨l, rfl, hl, hs⟩ := h
    have step : ∀ (t c f : Nat), t < 3 → c < 2 ^ (t * (F + 2) + 1) → f < 2 ^ (F + 2) → binD .mul (iN c) (iN f) = some (iN (c * f)) ∧ c * f < 2 ^ ((t + 1) * (F + 2) + 1) := fun t c f ht hc hf => by
      have e : 2 ^ ((t + 1) * (F + 2) + 1) = 2 ^ (t * (F + 2) + 1) * 2 ^ (F + 2) := by
        rw [← Nat.pow_add, Nat.add_mul t 1 (F + 2), Nat.one_mul]
        congr 1
        omega
      refine ⟨mul_pow hc hf ?_, by rw [e]; exact Nat.mul_lt_mul'' hc hf⟩
      have : t * (F + 2) ≤ 2 * (F + 2) := Nat.mul_le_mul_right _ (by omega)
      omega
    obtain ⟨ρ2, e2, c, x3, x4, x5, rfl, hc⟩ := loop_ix (i := 3) (body := evSs (run TT GL (n + k)) GL [.ife (.cmp .eq (.idx (.var 3) (.con (.int 0))) (.con (sS "read")))
      [.asg (.name 2) (.bin .mul (.var 2) (.bin .add (.bin .sub (.idx (.idx (.var 1) (.idx (.var 3) (.con (.int 1)))) (.con (.int 1))) (.idx (.idx (.var 1) (.idx (.var 3) (.con (.int 1)))) (.con (.int 0)))) (.con (.int 1))))]
      [.ife (.cmp .inn (.idx (.var 3) (.con (.int 0))) (.tup [(.con (sS "if")), (.con (sS "while")), (.con (sS "hold"))]))
      [.asg (.name 4) (.cp (.callK 64 [] [0, 1] [] [(.var 5), (.var 1)] []) (.name 5) (.val (.sl (.var 3) (some (.con (.int 1))) none)) [(prtC 5)] [5]),
      .asg (.name 2) (.bin .mul (.var 2) (.blt .sum1 [(.var 4)]))]
      []]]) (S := S)
      (I := fun t ρ => ∃ (c : Nat) (x3 x4 x5 : Option Val), ρ = [some (.dat (.tuple l)), some (.dct kvs), some (.dat (iN c)), x3, x4, x5] ∧ c < 2 ^ (t * (F + 2) + 1)) (l.map .dat) 0 [some (.dat (.tuple l)), some (.dct kvs), some (.dat (iN 1)), none, none, none] ⟨_, _, _, _, rfl, by simp⟩ (fun t v ρ ht hv ⟨c, x3, x4, x5, e, hc⟩ => by
        rw [List.length_map] at ht
        obtain ⟨d, hd, rfl⟩ := List.mem_map.mp hv
        subst e
        obtain ⟨hh, ps, rfl, hps, z⟩ := stm_view (hs d hd)
        have ix : evE (run TT GL (n + k)) GL (.idx (.var 3) (.con (.int 0))) [some (.dat (.tuple l)), some (.dct kvs), some (.dat (iN c)), some (.dat (.tuple (.str hh :: ps))), x4, x5] S = .ok (.dat (.str hh)) S := idx_ok (v_ok rfl) (e_con _ _ _ _ _) rfl
        rcases z with ⟨_, z, ⟨rfl, s, hsN, rfl⟩ | hr⟩ | ⟨_, z, hr, j, hj, hpp⟩
        · obtain ⟨lo, hi, hg, h1, h2⟩ := hk.get (hN s hsN)
          have hf6 : hi - lo + 1 < 2 ^ (F + 2) := by
            have : 2 ^ 4 ≤ 2 ^ (F + 2) := Nat.pow_le_pow_right (by omega) hF4
            omega
          obtain ⟨m1, m2⟩ := step t c (hi - lo + 1) (by omega) hc hf6
          have ix1 : evE (run TT GL (n + k)) GL (.idx (.var 1) (.idx (.var 3) (.con (.int 1)))) [some (.dat (.tuple l)), some (.dct kvs), some (.dat (iN c)), some (.dat (.tuple [sS "read", .str s])), x4, x5] S = .ok (.dat (.tuple [iN lo, iN hi])) S := dct_ok (v_ok rfl) (idx_ok (v_ok rfl) (e_con _ _ _ _ _) rfl) hg
          exact ⟨_, s_nx (if_t (cmp_ok ix (e_con _ _ _ _ _) (by decide +kernel)) (s_nx (a_nx (bin_ok (v_ok rfl) (bin_ok (bin_ok (idx_ok ix1 (e_con _ _ _ _ _) rfl) (idx_ok ix1 (e_con _ _ _ _ _) rfl) (sub_nat h1)) (e_con _ _ _ _ _) (add_nat _ 1)) m1) rfl) (s_nil _ _ _ _))) (s_nil _ _ _ _), _, _, _, _, rfl, m2⟩
        · have c1 := cmp_ok (op := .eq) (b := .con (sS "read")) ix (e_con _ _ _ _ _) ((c_eqS _ _).trans (by rw [hr]))
          have hc2 : c < 2 ^ ((t + 1) * (F + 2) + 1) := Nat.lt_of_lt_of_le hc (Nat.pow_le_pow_right (by omega) (Nat.add_le_add_right (Nat.mul_le_mul_right _ (by omega)) 1))
          exact ⟨_, s_nx (if_f c1 (s_nx (if_f (cmp_ok ix (tup3_ok (e_con _ _ _ _ _) (e_con _ _ _ _ _) (e_con _ _ _ _ _)) z) (s_nil _ _ _ _)) (s_nil _ _ _ _))) (s_nil _ _ _ _), _, _, _, _, rfl, hc2⟩
        · have c1 := cmp_ok (op := .eq) (b := .con (sS "read")) ix (e_con _ _ _ _ _) ((c_eqS _ _).trans (by rw [hr]))
          have ti := cmp_ok (op := .inn) ix (tup3_ok (e_con _ _ _ _ _) (e_con _ _ _ _ _) (e_con _ _ _ _ _)) z
          obtain ⟨rs, e5, hrl, hrs⟩ := cp_ex (C := run TT GL (n + k)) (G := GL) (ρ := [some (.dat (.tuple l)), some (.dct kvs), some (.dat (iN c)), some (.dat (.tuple (.str hh :: ps))), x4, x5]) (S := S) (e := .callK 64 [] [0, 1] [] [(.var 5), (.var 1)] []) (c := prtC 5) (i := 5) (own := [5]) (Q := fun r => ∃ c : Nat, r = iN c ∧ c < 2 ^ F)
            (tail_it (i := 3) rfl) (by omega) (fun p hp => by
              rcases hpp p hp with hts | hb
              · exact .inl (prt_ts hts rfl)
              · obtain ⟨c2, e4, hc2⟩ := ih j hj n p S hb
                rw [show n + j + 1 = n + k by omega] at e4
                exact .inr ⟨prt_bdy (by omega) hb rfl, _, e_call2 (v_ok rfl) (v_ok rfl) e4, c2, rfl, hc2⟩)
          obtain ⟨sm, es, hsm⟩ := sum_ok hrs
          have hf6 : sm < 2 ^ (F + 2) := by
            have e4 : 2 ^ (F + 2) = 4 * 2 ^ F := by rw [Nat.pow_add]; omega
            have h3 : rs.length * 2 ^ F ≤ 3 * 2 ^ F := Nat.mul_le_mul_right _ (by omega)
            have hp := Nat.two_pow_pos F
            omega
          obtain ⟨m1, m2⟩ := step t c sm (by omega) hc hf6
          exact ⟨_, s_nx (if_f c1 (s_nx (if_t ti (s_nx (a_nx e5 rfl) (s_nx (a_nx (bin_ok (v_ok rfl) (blt1_ok (v_ok rfl) es) m1) rfl) (s_nil _ _ _ _)))) (s_nil _ _ _ _))) (s_nil _ _ _ _), _, _, _, _, rfl, m2⟩)
    refine ⟨c, run_rt (F := F__law_rows_most) (by rfl) (by rfl) (by decide) (by rfl) (by rfl) (by rfl) (s_nx (a_nx (e_con _ _ _ _ _) (by rfl)) (s_nx (f_nx (val_ok (v_ok rfl) (items_t _)) e2) (s_rt (r_rt (v_ok rfl))))), ?_⟩
    rw [List.length_map, Nat.zero_add] at hc
    refine Nat.lt_of_lt_of_le hc (Nat.pow_le_pow_right (by omega) (Nat.le_trans (Nat.add_le_add_right (Nat.mul_le_mul_right _ hl) 1) hEX))
  intro k
  induction k with
  | zero => exact fun n b S hk h => aux 0 2 hk (by omega) (by omega) (by decide) (fun j hj => absurd hj (by omega)) n b S h
  | succ k ih =>
    intro n b S hk h
    refine aux (k + 1) (EX k) hk ?_ ?_ (Nat.le_refl _) (fun j hj n1 b1 S1 h1 => ?_) n b S h
    · have := exb2 k (by omega)
      omega
    · have := EX_ge k
      omega
    · obtain rfl : k = j := by omega
      exact ih n1 b1 S1 (by omega) h1
end Dw

set_option Elab.async false
set_option linter.all false
set_option maxRecDepth 100000
set_option maxHeartbeats 4000000
namespace Dw
open PySem
theorem addS_ok {C : Nat → List Val → Sto → R Val} {G : List PyData} {ρ : Rho} {S S1 S2 : Sto} {a b : Ex} {x y : Str} (h : evE C G a ρ S = .ok (.dat (.str x)) S1) (h' : evE C G b ρ S1 = .ok (.dat (.str y)) S2) (hl : x.length + y.length ≤ 1000000) : evE C G (.bin .add a b) ρ S = .ok (.dat (.str (x ++ y))) S2 :=
  bin_ok h h' (b_addS _ _ (line_big (by omega)))
theorem cat_ok {C : Nat → List Val → Sto → R Val} {G : List PyData} {ρ : Rho} {S S1 S2 : Sto} {a b : Ex} {l m : List PyData} (h : evE C G a ρ S = .ok (.dat (.list l)) S1) (h' : evE C G b ρ S1 = .ok (.dat (.list m)) S2) (hl : l.length + m.length ≤ 1000000) : evE C G (.cat a b) ρ S = .ok (.cell S2.length) (S2 ++ [l ++ m]) := by
  rw [e_cat, h, bind_ok, h', bind_ok]
  show (if l.length + m.length ≤ LINE then R.ok (Val.cell S2.length) (S2 ++ [l ++ m]) else .bad) = _
  rw [if_pos (line_big (by omega))]
theorem binC_ok {C : Nat → List Val → Sto → R Val} {G : List PyData} {ρ : Rho} {S : Sto} {b : Ex} {i c : Nat} {l m : List PyData} (h : ρ[i]? = some (some (.cell c))) (hc : S[c]? = some l) (h' : evE C G b ρ S = .ok (.dat (.list m)) S) (hl : l.length + m.length ≤ 1000000) : evE C G (.bin .add (.var i) b) ρ S = .ok (.dat (.list (l ++ m))) S := by
  rw [e_bin, v_ok h, bind_ok, h', bind_ok]
  have e1 : derefB S (.cell c) = some (.list l) := by
    show (S[c]?).map PyData.list = _
    rw [hc]
    rfl
  unfold binR
  rw [e1]
  show give ((binD .add (.list l) (.list m)).map Val.dat) S = _
  rw [b_addL _ _ (line_big (by omega))]
  rfl
theorem addL_ok {C : Nat → List Val → Sto → R Val} {G : List PyData} {ρ : Rho} {S S1 S2 : Sto} {a b : Ex} {x y : List PyData} (h : evE C G a ρ S = .ok (.dat (.list x)) S1) (h' : evE C G b ρ S1 = .ok (.dat (.list y)) S2) (hl : x.length + y.length ≤ 1000000) : evE C G (.bin .add a b) ρ S = .ok (.dat (.list (x ++ y))) S2 :=
  bin_ok h h' (b_addL _ _ (line_big (by omega)))
theorem addT_ok {C : Nat → List Val → Sto → R Val} {G : List PyData} {ρ : Rho} {S S1 S2 : Sto} {a b : Ex} {x y : List PyData} (h : evE C G a ρ S = .ok (.dat (.tuple x)) S1) (h' : evE C G b ρ S1 = .ok (.dat (.tuple y)) S2) (hl : x.length + y.length ≤ 1000000) : evE C G (.bin .add a b) ρ S = .ok (.dat (.tuple (x ++ y))) S2 :=
  bin_ok h h' (b_addT _ _ (line_big (by omega)))
end Dw

set_option Elab.async false
set_option linter.all false
set_option maxRecDepth 100000
set_option maxHeartbeats 2000000
/-! Tasks that are drawn. -/
namespace Dw
open PySem
theorem cp_run {C : Nat → List Val → Sto → R Val} {G : List PyData} {ρ : Rho} {S S1 S2 : Sto} {e : Ex} {tg : Tg} {it : It} {ifs : List Ex} {own : List Nat} {vs : List Val} {ds : List PyData} (hi : evI C G it ρ S = .ok vs S1) (hl : vs.length ≤ 16777216)
    (hc : compL (turnF tg own (evIf C G ifs) (evE C G e) ρ) vs S1 = .ok (ds.map .dat) S2) : evE C G (.cp e tg it ifs own) ρ S = .ok (.dat (.list ds)) S2 := by
  rw [e_cpF]
  unfold cpF
  rw [hi, bind_ok, if_pos (show vs.length ≤ LINE from line_big hl), hc, bind_ok, lstR_dat]
theorem turn_some {t : Tg} {own : List Nat} {ff : Rho → Sto → R Bool} {fe : Rho → Sto → R Val} {ρ ρ' : Rho} {v x : Val} {S S1 S2 : Sto} (ht : setTg t v (wipeE ρ own) = some ρ') (hf : ff ρ' S = .ok true S1) (he : fe ρ' S1 = .ok x S2) : turnF t own ff fe ρ v S = .ok (some x) S2 := by
  unfold turnF
  rw [ht]
  simp only [hf, bind_ok, if_true, he, calm_ok']
theorem compL_lst {α β : Type} {f : Val → Sto → R (Option Val)} {I : Nat → Sto → Prop} {dv : α → Val} {de : β → PyData} {key : α → β → Prop} : ∀ (xs : List α) (B : Nat) (S : Sto), I B S → (∀ x ∈ xs, ∀ B' S, B' ≤ B + xs.length → I B' S → ∃ y S', f (dv x) S = .ok (some (.dat (de y))) S' ∧ key x y ∧ I (B' + 1) S') →
    ∃ (ys : List β) (S' : Sto), compL f (xs.map dv) S = .ok ((ys.map de).map .dat) S' ∧ Paired key xs ys ∧ I (B + xs.length) S'
  | [], B, S, h, _ => ⟨[], S, rfl, .nil, h⟩
  | x :: xs, B, S, h, hf => by
    obtain ⟨y, S1, e1, q1, i1⟩ := hf x List.mem_cons_self B S (by omega) h
    obtain ⟨ys, S2, e2, q2, i2⟩ := compL_lst xs (B + 1) S1 i1 fun w hw B' S hB hI => hf w (List.mem_cons_of_mem _ hw) B' S (by rw [List.length_cons]; omega) hI
    refine ⟨y :: ys, S2, ?_, .cons q1 q2, by rw [List.length_cons, show B + (xs.length + 1) = B + 1 + xs.length by omega]; exact i2⟩
    rw [List.map_cons]
    unfold compL
    rw [e1, bind_ok, e2, bind_ok]
    rfl
theorem pair_map {α β γ : Type} {key : α → β → Prop} {g : β → γ} {h : α → γ} {xs : List α} {ys : List β} (p : Paired key xs ys) (e : ∀ x y, key x y → g y = h x) : ys.map g = xs.map h := by
  induction p with
  | nil => rfl
  | cons a _ ih => rw [List.map_cons, List.map_cons, e _ _ a, ih]
theorem pair_all {α β : Type} {key : α → β → Prop} {Q : β → Prop} {xs : List α} {ys : List β} (p : Paired key xs ys) (e : ∀ x ∈ xs, ∀ y, key x y → Q y) : ∀ y ∈ ys, Q y := by
  induction p with
  | nil => intro y hy; cases hy
  | cons a _ ih =>
    intro y hy
    rcases List.mem_cons.mp hy with rfl | hy
    · exact e _ List.mem_cons_self _ a
    · exact ih (fun x hx => e x (List.mem_cons_of_mem _ hx)) y hy
theorem pair_len {α β : Type} {key : α → β → Prop} {xs : List α} {ys : List β} (p : Paired key xs ys) : ys.length = xs.length := by
  induction p with
  | nil => rfl
  | cons _ _ ih => rw [List.length_cons, List.length_cons, ih]
abbrev abL : List Str := [Str.ofString "a", Str.ofString "b"]
def abS (r : Nat) : Str := ⟨(cutD (Str.ofString "ab").cps.toList none (some (r : Int))).toArray⟩
theorem abS_items : ∀ r, r < 3 → (abS r).cps.toList.map (fun c => (⟨#[c]⟩ : Str)) = abL.take r := by decide +kernel
theorem ab_it {C : Nat → List Val → Sto → R Val} {G : List PyData} {ρ : Rho} {S S1 : Sto} {e : Ex} {r : Nat} (hr : r < 3) (h : evE C G e ρ S = .ok (.dat (iN r)) S1) : evI C G (.val (.sl (.con (sS "ab")) none (some e))) ρ S = .ok ((abL.take r).map fun s => .dat (.str s)) S1 := by
  refine val_ok (sl_ok (z := .str (abS r)) (e_con _ _ _ _ _) on_ok (h := some (r : Int)) (S3 := S1) ?_ ?_) ?_
  · rw [o_some, h, bind_ok, toI_ok, bind_ok]
  · show (if (Str.ofString "ab").length ≤ LINE then some (PyData.str (abS r)) else none) = _
    rw [if_pos (line_big (by decide +kernel))]
  · rw [items_s, ← abS_items r hr, List.map_map]
    rfl
theorem kv_wd : ∀ s ∈ abL, Wd (Str.ofString "k" ++ s) ∧ Wd (Str.ofString "v" ++ s) := fun s hs => by
  rcases List.mem_cons.mp hs with rfl | hs
  · exact ⟨wd_of (by decide +kernel), wd_of (by decide +kernel)⟩
  · rw [List.mem_singleton] at hs
    subst hs
    exact ⟨wd_of (by decide +kernel), wd_of (by decide +kernel)⟩
def keyL (r r2 : Nat) : List Str := (abL.take r).map (Str.ofString "k" ++ ·) ++ (abL.take r2).map (Str.ofString "v" ++ ·)
theorem keyL_ok : ∀ r, r < 3 → ∀ r2, r2 < 3 → nodupS (keyL r r2) = true ∧ PyProof.Rows.sortedS (keyL r r2) = true ∧ (keyL r r2).length ≤ 4 := by decide +kernel
theorem pairsD_map : ∀ kvs : List (Str × PyData), pairsD (kvs.map fun p => .tuple [.str p.1, p.2]) = some kvs
  | [] => rfl
  | (k, d) :: r => by
    show (pairsD (r.map fun p => .tuple [.str p.1, p.2])).map ((k, d) :: ·) = _
    rw [pairsD_map r]
    rfl
theorem dic_ok {C : Nat → List Val → Sto → R Val} {G : List PyData} {ρ : Rho} {S S1 : Sto} {e : Ex} {kvs : List (Str × PyData)} (h : evE C G e ρ S = .ok (.dat (.list (kvs.map fun p => .tuple [.str p.1, p.2]))) S1) (hn : nodupS (kvs.map (·.1)) = true) : evE C G (.dic e) ρ S = .ok (.dct kvs) S1 := by
  rw [e_dic, h, bind_ok]
  unfold dicR
  rw [deref_dat]
  simp only [pairsD_map]
  rw [if_pos hn]
def dcG : PyData → PyData
  | .tuple (a :: b :: c :: _) => .tuple [a, .tuple [b, c]]
  | _ => .none
theorem cut_1 (a b c : PyData) (r : List PyData) : slD (.tuple (a :: b :: c :: r)) none (some 1) = some (.tuple [a]) := by
  show some (PyData.tuple (cutD (a :: b :: c :: r) none (some 1))) = _
  have : cutD (a :: b :: c :: r) none (some 1) = [a] := by
    unfold cutD sIx
    simp
  rw [this]
theorem cut_13 (a b c : PyData) (r : List PyData) : slD (.tuple (a :: b :: c :: r)) (some 1) (some 3) = some (.tuple [b, c]) := by
  show some (PyData.tuple (cutD (a :: b :: c :: r) (some 1) (some 3))) = _
  have : cutD (a :: b :: c :: r) (some 1) (some 3) = [b, c] := by
    unfold cutD sIx
    simp
  rw [this]
abbrev deK (y : Str × Nat × Nat) : PyData := .tuple [.str y.1, iN y.2.1, iN y.2.2, iN y.2.1]
abbrev deF (y : Str × Nat) : PyData := .tuple [.str y.1, iN 0, iN y.2]
def kvL (kl : List (Str × Nat × Nat)) (fl : List (Str × Nat)) : List (Str × PyData) := kl.map (fun p => (p.1, .tuple [iN p.2.1, iN p.2.2])) ++ fl.map fun p => (p.1, .tuple [iN 0, iN p.2])
theorem kvL_dc (kl : List (Str × Nat × Nat)) (fl : List (Str × Nat)) : (kl.map deK ++ fl.map deF).map dcG = (kvL kl fl).map fun p => .tuple [.str p.1, p.2] := by
  unfold kvL
  rw [List.map_append, List.map_append, List.map_map, List.map_map, List.map_map, List.map_map]
  rfl
abbrev drR (k : Nat) (name : Str) (x2 x3 x4 x5 x6 x7 x8 : Option Val) : Rho := [some (.cell k), some (.dat (.str name)), x2, x3, x4, x5, x6, x7, x8, none, none, none]
structure Dr2 (S S' : Sto) (k B : Nat) : Prop where
  wl : Wl S' k B
  up : Upd S S' k
section
variable (n : Nat) {S : Sto} {k B : Nat} {name : Str}
theorem dr_keeps (w : Wl S k B) (hB : B < 700000) : ∃ (r : Nat) (kl : List (Str × Nat × Nat)) (S' : Sto), r < 3 ∧ kl.map (·.1) = (abL.take r).map (Str.ofString "k" ++ ·) ∧ (∀ p ∈ kl, p.2.1 ≤ p.2.2 ∧ p.2.2 ≤ 5) ∧ Wl S' k (B + 5) ∧ Upd S S' k ∧
    ∃ kd S1, evE (run TT GL (n + 1)) GL (.cp (.tup [(.bin .add (.con (sS "k")) (.var 9)), (.callK 56 [] [0, 1] [] [(.var 0), (.con (.int 2))] [])]) (.name 9) (.val (.sl (.con (sS "ab")) none (some (.callK 56 [] [0, 1] [] [(.var 0), (.con (.int 3))] [])))) [] [9]) (drR k name none none none none none none none) S = .ok (.dat (.list kd)) S1 ∧
      evE (run TT GL (n + 1)) GL (.cp (.tup [(.var 10), (.var 11), (.bin .add (.var 11) (.callK 56 [] [0, 1] [] [(.var 0), (.con (.int 3))] [])), (.var 11)]) (.names [10, 11]) (.val (.var 2)) [] [10, 11]) (drR k name (some (.dat (.list kd))) none none none none none none) S1 = .ok (.dat (.list (kl.map deK))) S' := by
  obtain ⟨r, S0, e0, hr, w0, u0⟩ := d_ok (n := n) (ρ := drR k name none none none none none none none) (S0 := S) (e := .con (.int 3)) (m := 3) rfl (e_con _ _ _ _ _) w (by omega) (by omega) (by omega) rfl
  have tl : (abL.take r).length ≤ 2 := by rw [List.length_take]; simp only [List.length_cons, List.length_nil]; omega
  obtain ⟨ys, S1, e1, p1, w1, u1⟩ := compL_lst (f := turnF (.name 9) [9] (evIf (run TT GL (n + 1)) GL []) (evE (run TT GL (n + 1)) GL (.tup [(.bin .add (.con (sS "k")) (.var 9)), (.callK 56 [] [0, 1] [] [(.var 0), (.con (.int 2))] [])])) (drR k name none none none none none none none))
    (I := fun B S => Wl S k B ∧ Upd S0 S k) (dv := fun s : Str => Val.dat (.str s)) (de := fun y : Str × Nat => .tuple [.str y.1, iN y.2]) (key := fun x y => y.1 = Str.ofString "k" ++ x ∧ y.2 < 2) (abL.take r) (B + 1) S0 ⟨w0, Upd.refl _ _⟩ (fun x hx B' S hB' ⟨hw, hu⟩ => by
      have hxl : x.length ≤ 8 := by
        have := List.mem_of_mem_take hx
        rcases List.mem_cons.mp this with rfl | this
        · decide +kernel
        · rw [List.mem_singleton] at this
          subst this
          decide +kernel
      obtain ⟨q, S', e, hq, w', u'⟩ := r_draw n hw (m := 2) (by omega) (by omega) (by omega)
      refine ⟨(Str.ofString "k" ++ x, q), S', ?_, ⟨rfl, hq⟩, w', hu.trans u'⟩
      exact turn_some (ρ' := [some (.cell k), some (.dat (.str name)), none, none, none, none, none, none, none, some (.dat (.str x)), none, none]) rfl (if_nil _ _ _ _) (tup2_ok (addS_ok (e_con _ _ _ _ _) (v_ok rfl) (by rw [show (Str.ofString "k").length = 1 from by decide +kernel]; omega)) (e_call2 (v_ok rfl) (e_con _ _ _ _ _) e)))
  have hys : ys.length ≤ 2 := by rw [pair_len p1]; exact tl
  have hn := pair_map (g := fun y : Str × Nat => y.1) (h := fun s => Str.ofString "k" ++ s) p1 fun x y h => h.1
  have h2 := pair_all (Q := fun y : Str × Nat => y.2 < 2) p1 fun x _ y h => h.2
  obtain ⟨zs, S2, e2, p2, w2, u2⟩ := compL_lst (f := turnF (.names [10, 11]) [10, 11] (evIf (run TT GL (n + 1)) GL []) (evE (run TT GL (n + 1)) GL (.tup [(.var 10), (.var 11), (.bin .add (.var 11) (.callK 56 [] [0, 1] [] [(.var 0), (.con (.int 3))] [])), (.var 11)])) (drR k name (some (.dat (.list (ys.map fun y : Str × Nat => .tuple [.str y.1, iN y.2])))) none none none none none none))
    (I := fun B S => Wl S k B ∧ Upd S1 S k) (dv := fun y : Str × Nat => Val.dat (.tuple [.str y.1, iN y.2])) (de := deK) (key := fun x y => y.1 = x.1 ∧ y.2.1 = x.2 ∧ y.2.1 ≤ y.2.2 ∧ y.2.2 < x.2 + 3) ys (B + 1 + (abL.take r).length) S1 ⟨w1, Upd.refl _ _⟩ (fun x hx B' S hB' ⟨hw, hu⟩ => by
      obtain ⟨q, S', e, hq, w', u'⟩ := r_draw n hw (m := 3) (by omega) (by omega) (by omega)
      refine ⟨(x.1, x.2, x.2 + q), S', ?_, ⟨rfl, rfl, Nat.le_add_right _ _, Nat.add_lt_add_left hq _⟩, w', hu.trans u'⟩
      exact turn_some (ρ' := [some (.cell k), some (.dat (.str name)), some (.dat (.list (ys.map fun y : Str × Nat => .tuple [.str y.1, iN y.2]))), none, none, none, none, none, none, none, some (.dat (.str x.1)), some (.dat (iN x.2))]) rfl (if_nil _ _ _ _) (tup4_ok (v_ok rfl) (v_ok rfl) (bin_ok (v_ok rfl) (e_call2 (v_ok rfl) (e_con _ _ _ _ _) e) (add_nat _ _)) (v_ok rfl)))
  have hn2 := pair_map (g := fun y : Str × Nat × Nat => y.1) (h := fun y : Str × Nat => y.1) p2 fun x y h => h.1
  have h3 := pair_all (Q := fun y : Str × Nat × Nat => y.2.1 ≤ y.2.2 ∧ y.2.2 ≤ 5) p2 fun x hx y h => ⟨h.2.2.1, by have := h2 x hx; omega⟩
  refine ⟨r, zs, S2, hr, hn2.trans hn, h3, w2.mono (by omega), (u0.trans u1).trans u2, _, S1, cp_run (ab_it hr e0) (by rw [List.length_map]; omega) e1, cp_run (vs := ys.map fun y : Str × Nat => Val.dat (.tuple [.str y.1, iN y.2])) (val_ok (v_ok (i := 2) rfl) (by rw [items_l, List.map_map]; rfl)) (by rw [List.length_map]; omega) e2⟩
theorem dr_fresh (w : Wl S k B) (hB : B < 700000) (x2 : Option Val) : ∃ (r : Nat) (fl : List (Str × Nat)) (S' : Sto), r < 3 ∧ fl.map (·.1) = (abL.take r).map (Str.ofString "v" ++ ·) ∧ (∀ p ∈ fl, p.2 < 3) ∧ Wl S' k (B + 3) ∧ Upd S S' k ∧
    evE (run TT GL (n + 1)) GL (.cp (.tup [(.bin .add (.con (sS "v")) (.var 9)), (.con (.int 0)), (.callK 56 [] [0, 1] [] [(.var 0), (.con (.int 3))] [])]) (.name 9) (.val (.sl (.con (sS "ab")) none (some (.callK 56 [] [0, 1] [] [(.var 0), (.con (.int 3))] [])))) [] [9]) (drR k name x2 none none none none none none) S = .ok (.dat (.list (fl.map deF))) S' := by
  obtain ⟨r, S0, e0, hr, w0, u0⟩ := d_ok (n := n) (ρ := drR k name x2 none none none none none none) (S0 := S) (e := .con (.int 3)) (m := 3) rfl (e_con _ _ _ _ _) w (by omega) (by omega) (by omega) rfl
  have tl : (abL.take r).length ≤ 2 := by rw [List.length_take]; simp only [List.length_cons, List.length_nil]; omega
  obtain ⟨ys, S1, e1, p1, w1, u1⟩ := compL_lst (f := turnF (.name 9) [9] (evIf (run TT GL (n + 1)) GL []) (evE (run TT GL (n + 1)) GL (.tup [(.bin .add (.con (sS "v")) (.var 9)), (.con (.int 0)), (.callK 56 [] [0, 1] [] [(.var 0), (.con (.int 3))] [])])) (drR k name x2 none none none none none none))
    (I := fun B S => Wl S k B ∧ Upd S0 S k) (dv := fun s : Str => Val.dat (.str s)) (de := deF) (key := fun x y => y.1 = Str.ofString "v" ++ x ∧ y.2 < 3) (abL.take r) (B + 1) S0 ⟨w0, Upd.refl _ _⟩ (fun x hx B' S hB' ⟨hw, hu⟩ => by
      have hxl : x.length ≤ 8 := by
        have := List.mem_of_mem_take hx
        rcases List.mem_cons.mp this with rfl | this
        · decide +kernel
        · rw [List.mem_singleton] at this
          subst this
          decide +kernel
      obtain ⟨q, S', e, hq, w', u'⟩ := r_draw n hw (m := 3) (by omega) (by omega) (by omega)
      refine ⟨(Str.ofString "v" ++ x, q), S', ?_, ⟨rfl, hq⟩, w', hu.trans u'⟩
      exact turn_some (ρ' := [some (.cell k), some (.dat (.str name)), x2, none, none, none, none, none, none, some (.dat (.str x)), none, none]) rfl (if_nil _ _ _ _) (tup3_ok (addS_ok (e_con _ _ _ _ _) (v_ok rfl) (by rw [show (Str.ofString "v").length = 1 from by decide +kernel]; omega)) (e_con _ _ _ _ _) (e_call2 (v_ok rfl) (e_con _ _ _ _ _) e)))
  exact ⟨r, ys, S1, hr, pair_map (g := fun y : Str × Nat => y.1) (h := fun s => Str.ofString "v" ++ s) p1 fun x y h => h.1, pair_all (Q := fun y : Str × Nat => y.2 < 3) p1 fun x _ y h => h.2, w1.mono (by omega), u0.trans u1, cp_run (ab_it hr e0) (by rw [List.length_map]; omega) e1⟩
theorem kvL_spn {r r2 : Nat} {kl : List (Str × Nat × Nat)} {fl : List (Str × Nat)} (hr : r < 3) (hr2 : r2 < 3) (hk : kl.map (·.1) = (abL.take r).map (Str.ofString "k" ++ ·)) (hf : fl.map (·.1) = (abL.take r2).map (Str.ofString "v" ++ ·)) (bk : ∀ p ∈ kl, p.2.1 ≤ p.2.2 ∧ p.2.2 ≤ 5) (bf : ∀ p ∈ fl, p.2 < 3) :
    Spn (kvL kl fl) ∧ nodupS ((kvL kl fl).map (·.1)) = true ∧ ∀ s ∈ fl.map (·.1), s ∈ (kvL kl fl).map (·.1) := by
  have ek : (kvL kl fl).map (·.1) = keyL r r2 := by
    unfold kvL keyL
    rw [List.map_append, List.map_map, List.map_map, ← hk, ← hf]
    rfl
  obtain ⟨h1, h2, h3⟩ := keyL_ok r hr r2 hr2
  refine ⟨⟨?_, by rw [ek]; exact h2, fun p hp => ?_⟩, by rw [ek]; exact h1, fun s hs => ?_⟩
  · have := congrArg List.length ek
    rw [List.length_map] at this
    omega
  · have hw : Wd p.1 := by
      have hm : p.1 ∈ keyL r r2 := by rw [← ek]; exact List.mem_map_of_mem hp
      rcases List.mem_append.mp hm with z | z
      · obtain ⟨s, hs, e⟩ := List.mem_map.mp z
        rw [← e]
        exact (kv_wd s (List.mem_of_mem_take hs)).1
      · obtain ⟨s, hs, e⟩ := List.mem_map.mp z
        rw [← e]
        exact (kv_wd s (List.mem_of_mem_take hs)).2
    refine ⟨hw, ?_⟩
    rcases List.mem_append.mp hp with z | z
    · obtain ⟨q, hq, rfl⟩ := List.mem_map.mp z
      exact ⟨_, _, rfl, (bk q hq).1, (bk q hq).2⟩
    · obtain ⟨q, hq, rfl⟩ := List.mem_map.mp z
      have := bf q hq
      exact ⟨0, q.2, rfl, by omega, by omega⟩
  · unfold kvL
    rw [List.map_append, List.map_map, List.map_map]
    exact List.mem_append_right _ hs
end
end Dw

set_option Elab.async false
set_option linter.all false
set_option maxRecDepth 100000
set_option maxHeartbeats 2000000
/-! A whole task that is drawn. -/
namespace Dw
open PySem
theorem shp_lst {m : Nat} {l : List PyData} (h : ∀ d ∈ l, Shp m d) : Shp (m + 1) (.list l) := by
  obtain ⟨a, b⟩ := shp_all h
  exact ⟨by simpa [PyData.canLay0] using a, by simp only [PyData.depth]; omega⟩
theorem tup7_ok {C : Nat → List Val → Sto → R Val} {G : List PyData} {ρ : Rho} {S : Sto} {a b c d e f g : Ex} {x y z u t s r : PyData} (h1 : evE C G a ρ S = .ok (.dat x) S) (h2 : evE C G b ρ S = .ok (.dat y) S) (h3 : evE C G c ρ S = .ok (.dat z) S) (h4 : evE C G d ρ S = .ok (.dat u) S) (h5 : evE C G e ρ S = .ok (.dat t) S) (h6 : evE C G f ρ S = .ok (.dat s) S) (h7 : evE C G g ρ S = .ok (.dat r) S) :
    evE C G (.tup [a, b, c, d, e, f, g]) ρ S = .ok (.dat (.tuple [x, y, z, u, t, s, r])) S := by
  rw [e_tup, l_cons, h1, bind_ok, l_cons, h2, bind_ok, l_cons, h3, bind_ok, l_cons, h4, bind_ok, l_cons, h5, bind_ok, l_cons, h6, bind_ok, l_cons, h7, bind_ok, l_nil, bind_ok, bind_ok, bind_ok, bind_ok, bind_ok, bind_ok, bind_ok, bind_ok, tupR_7]
def fstD : PyData → PyData
  | .tuple (x :: _) => x
  | _ => .none
/-- a condition that ends with a draw -/
theorem and_draw (n : Nat) {S : Sto} {k B m : Nat} {ρ : Rho} {c : Ex} {p : Bool} (hv : ρ[0]? = some (some (.cell k))) (hc : evE (run TT GL (n + 1)) GL c ρ S = .ok (.dat (.bool p)) S) (w : Wl S k B) (hB : B < 1000000) (m1 : 1 ≤ m) (m2 : m ≤ 1000) :
    ∃ b S', evAnd (run TT GL (n + 1)) GL [c, .cmp .eq (.callK 56 [] [0, 1] [] [(.var 0), (.con (iN m))] []) (.con (.int 0))] ρ S = .ok (.dat (.bool b)) S' ∧ (b = true → p = true) ∧ Wl S' k (B + 1) ∧ Upd S S' k := by
  cases p with
  | false => exact ⟨false, S, and2_f hc, fun h => (by cases h), w.mono (by omega), Upd.refl _ _⟩
  | true =>
    obtain ⟨r, S', e, hr, w', u'⟩ := d_ok (n := n) (ρ := ρ) (S0 := S) (e := .con (iN m)) (m := m) hv (e_con _ _ _ _ _) w (by omega) m1 (by omega) rfl
    exact ⟨decide (r = 0), S', and2_t hc ((e_and1 _ _ _ _ _).trans (cmp_ok e (e_con _ _ _ _ _) (eq_nat r 0))), fun _ => rfl, w', u'⟩
theorem cntL_take : ∀ (l : List PyData) (k : Nat), cntL (l.take k) ≤ cntL l
  | [], k => by rw [List.take_nil]; exact Nat.le_refl _
  | d :: r, 0 => by rw [List.take_zero]; simp [cntL]
  | d :: r, k + 1 => by
    rw [List.take_succ_cons, cntL, cntL]
    have := cntL_take r k
    omega
theorem cut_m1 (l : List PyData) : ∃ l2, slD (.tuple l) none (some (-1)) = some (.tuple l2) ∧ l2.length = l.length - 1 ∧ cnt (.tuple l2) ≤ cnt (.tuple l) ∧ ∀ d ∈ l2, d ∈ l := by
  have e : cutD l none (some (-1)) = l.take (l.length - 1) := by
    unfold cutD
    have e0 : sIx l.length 0 none = 0 := rfl
    have e1 : sIx l.length l.length (some (-1)) = l.length - 1 := by
      show (if (0 : Int) ≤ -1 then min (-1 : Int).toNat l.length else ((-1 : Int) + (l.length : Int)).toNat) = _
      rw [if_neg (by decide)]
      omega
    rw [e0, e1, List.drop_zero, Nat.sub_zero]
  refine ⟨cutD l none (some (-1)), rfl, ?_, ?_, fun d hd => ?_⟩
  · rw [e, List.length_take]
    omega
  · rw [e, cnt, cnt]
    have := cntL_take l (l.length - 1)
    rw [List.length_take]
    omega
  · rw [e] at hd
    exact List.mem_of_mem_take hd
section
variable (n : Nat) {S : Sto} {k B : Nat} {name : Str} {kl : List (Str × Nat × Nat)} {fl : List (Str × Nat)}
abbrev drC : Ex := .or [(.cmp .gt (.callK 63 [] [0] [] [(.var 5)] []) (.con (.int 16))), (.cmp .gt (.callK 64 [] [0, 1] [] [(.var 5), (.var 4)] []) (.con (.int 12)))]
abbrev drL : List Sx := [.asg (.name 5) (.ife drC (.sl (.var 5) none (some (.neg (.con (.int 1))))) (.var 5))]
theorem dr_loop (hk : Spn (kvL kl fl)) (hN : ∀ s ∈ fl.map (·.1), s ∈ (kvL kl fl).map (·.1)) {bl : List PyData} (h1 : bl.length ≤ 3) (h2 : ∀ d ∈ bl, Stm (fl.map (·.1)) ((kvL kl fl).map (·.1)) 4 d) (x2 x3 : Option Val) :
    ∃ bl2 y6, loopF (.name 6) (evSs (run TT GL (n + 7)) GL drL) ((List.range 3).map fun k => Val.dat (iN k)) (drR k name x2 x3 (some (.dct (kvL kl fl))) (some (.dat (.tuple bl))) none none none) S = .nx (drR k name x2 x3 (some (.dct (kvL kl fl))) (some (.dat (.tuple bl2))) y6 none none) S ∧ bl2.length ≤ 3 ∧ (∀ d ∈ bl2, Stm (fl.map (·.1)) ((kvL kl fl).map (·.1)) 4 d) ∧ cnt (.tuple bl2) ≤ 16 := by
  obtain ⟨ρ2, e3, bl2, y6, rfl, h3, h4, h5⟩ := loop_ix (i := 6) (body := evSs (run TT GL (n + 7)) GL drL) (S := S) (I := fun t ρ => ∃ bl x6, ρ = drR k name x2 x3 (some (.dct (kvL kl fl))) (some (.dat (.tuple bl))) x6 none none ∧ bl.length ≤ 3 ∧ (∀ d ∈ bl, Stm (fl.map (·.1)) ((kvL kl fl).map (·.1)) 4 d) ∧ (bl.length ≤ 3 - t ∨ cnt (.tuple bl) ≤ 16))
    ((List.range 3).map fun k => Val.dat (iN k)) 0 (drR k name x2 x3 (some (.dct (kvL kl fl))) (some (.dat (.tuple bl))) none none none) ⟨bl, none, rfl, h1, h2, .inl h1⟩ (fun t v ρ ht hv ⟨bl, x6, e, h1, h2, h0⟩ => by
      subst e
      have hb : Bdy (Stm (fl.map (·.1)) ((kvL kl fl).map (·.1)) 4) (.tuple bl) := ⟨bl, rfl, h1, h2⟩
      obtain ⟨c, hcc, e1⟩ : ∃ c : Nat, c = cnt (.tuple bl) ∧ _ := ⟨_, rfl, r_many (N := fl.map (·.1)) 4 (n + 2) (.tuple bl) S (by omega) hb⟩
      rw [← hcc] at e1
      obtain ⟨c2, e2, _⟩ := r_most hk hN 4 (n + 2) (.tuple bl) S (by omega) hb
      have ec : evE (run TT GL (n + 7)) GL drC (drR k name x2 x3 (some (.dct (kvL kl fl))) (some (.dat (.tuple bl))) (some v) none none) S = .ok (.dat (.bool (decide (16 < c) || decide (12 < c2)))) S :=
        or_ok (or2_b (cmp_ok (e_call1 (v_ok rfl) e1) (e_con _ _ _ _ _) (gt_nat c 16)) fun _ => or1_b (cmp_ok (e_call2 (v_ok rfl) (v_ok rfl) e2) (e_con _ _ _ _ _) (gt_nat c2 12)))
      cases hb2 : (decide (16 < c) || decide (12 < c2)) with
      | true =>
        rw [hb2] at ec
        obtain ⟨l2, e4, h5, h7, h6⟩ := cut_m1 bl
        have em : evO (run TT GL (n + 7)) GL (some (.neg (.con (.int 1)))) (drR k name x2 x3 (some (.dct (kvL kl fl))) (some (.dat (.tuple bl))) (some v) none none) S = .ok (some (-1)) S := by
          rw [o_some, e_neg, e_con, bind_ok]
          rfl
        refine ⟨_, s_nx (a_nx (ife_t ec (sl_ok (v_ok rfl) on_ok em e4)) rfl) (s_nil _ _ _ _), l2, some v, rfl, by omega, fun d hd => h2 d (h6 d hd), ?_⟩
        rcases h0 with h0 | h0
        · refine .inl ?_
          omega
        · exact .inr (by omega)
      | false =>
        rw [hb2] at ec
        exact ⟨_, s_nx (a_nx (ife_f ec (v_ok rfl)) rfl) (s_nil _ _ _ _), bl, some v, rfl, h1, h2, .inr (by
          rw [Bool.or_eq_false_iff, decide_eq_false_iff_not] at hb2
          omega)⟩)
  refine ⟨bl2, y6, e3, h3, h4, ?_⟩
  rcases h5 with h5 | h5
  · rw [List.length_map, List.length_range] at h5
    have : bl2 = [] := List.length_eq_zero_iff.mp (by omega)
    rw [this]
    decide
  · exact h5
theorem dr_body (hk : Spn (kvL kl fl)) (hN : ∀ s ∈ fl.map (·.1), s ∈ (kvL kl fl).map (·.1)) (hfl : fl.length ≤ 2) (w : Wl S k B) (hB : B < 700000) {kd : PyData} :
    ∃ bl S', evE (run TT GL (n + 7)) GL (.ife (.cmp .gt (.callK 56 [] [0, 1] [] [(.var 0), (.con (.int 9))] []) (.con (.int 0))) (.callK 62 [] [0, 1, 2, 3, 4, 5] [] [(.var 0), (.var 2), (.cp (.idx (.var 10) (.con (.int 0))) (.name 10) (.val (.var 3)) [] [10]), (.var 4), (.con (.int 2)), (.con (.bool false))] []) (.tup [])) (drR k name (some (.dat kd)) (some (.dat (.list (fl.map deF)))) (some (.dct (kvL kl fl))) none none none none) S = .ok (.dat (.tuple bl)) S' ∧
      bl.length ≤ 3 ∧ (∀ d ∈ bl, Stm (fl.map (·.1)) ((kvL kl fl).map (·.1)) 4 d) ∧ Wl S' k (B + 10001) ∧ Upd S S' k := by
  obtain ⟨r, S1, e1, hr, w1, u1⟩ := d_ok (n := n + 6) (ρ := drR k name (some (.dat kd)) (some (.dat (.list (fl.map deF)))) (some (.dct (kvL kl fl))) none none none none) (S0 := S) (e := .con (.int 9)) (m := 9) rfl (e_con _ _ _ _ _) w (by omega) (by omega) (by omega) rfl
  have ec := cmp_ok (op := .gt) (b := .con (.int 0)) e1 (e_con _ _ _ _ _) (gt_nat r 0)
  by_cases h0 : 0 < r
  · rw [decide_eq_true h0] at ec
    have ef : evE (run TT GL (n + 7)) GL (.cp (.idx (.var 10) (.con (.int 0))) (.name 10) (.val (.var 3)) [] [10]) (drR k name (some (.dat kd)) (some (.dat (.list (fl.map deF)))) (some (.dct (kvL kl fl))) none none none none) S1 = .ok (.dat (.list ((fl.map deF).map fstD))) S1 :=
      cp_map (val_ok (v_ok rfl) (items_l _)) (by rw [List.length_map]; omega) fun d hd => by
        obtain ⟨p, _, rfl⟩ := List.mem_map.mp hd
        exact idx_ok (z := .str p.1) (v_ok rfl) (e_con _ _ _ _ _) rfl
    have em : (fl.map deF).map fstD = (fl.map (·.1)).map .str := by rw [List.map_map, List.map_map]; rfl
    rw [em] at ef
    obtain ⟨d, S2, e2, ⟨bl, rfl, _, h1, h2⟩, w2, u2⟩ := body_all n hk hN (by rw [List.length_map]; omega) kd S1 k (B + 1) w1 (by omega)
    exact ⟨bl, S2, ife_t ec (e_call6 (v_ok rfl) (v_ok rfl) ef (v_ok rfl) (e_con _ _ _ _ _) (e_con _ _ _ _ _) e2), h1, h2, w2.mono (by omega), u1.trans u2⟩
  · rw [decide_eq_false h0] at ec
    exact ⟨[], S1, ife_f ec tup0_ok, by simp, by simp, w1.mono (by omega), u1⟩
set_option maxHeartbeats 8000000 in
/-- a task that is drawn -/
structure TaskK (name : Str) (kl : List (Str × Nat × Nat)) (fl : List (Str × Nat)) (du : PyData) (bl : List PyData) (ag : PyData) : Prop where
  nk : ∃ r, r < 3 ∧ kl.map (·.1) = (abL.take r).map (Str.ofString "k" ++ ·)
  nf : ∃ r, r < 3 ∧ fl.map (·.1) = (abL.take r).map (Str.ofString "v" ++ ·)
  bk : ∀ p ∈ kl, p.2.1 ≤ p.2.2 ∧ p.2.2 ≤ 5
  bf : ∀ p ∈ fl, p.2 < 3
  due : Sd (kl.map (·.1)) du
  len : bl.length ≤ 3
  stm : ∀ d ∈ bl, Stm (fl.map (·.1)) ((kvL kl fl).map (·.1)) 4 d
  cnt : cnt (.tuple bl) ≤ 16
  again : Ag (kl.map (·.1)) ag
abbrev taskD (name : Str) (kl : List (Str × Nat × Nat)) (fl : List (Str × Nat)) (du : PyData) (bl : List PyData) (ag : PyData) : PyData := .tuple [sS "task", .str name, .tuple (kl.map deK), .tuple (fl.map deF), du, .tuple bl, ag]
theorem r_drawn (hn : Wd name) (w : Wl S k B) (hB : B < 600000) : ∃ kl fl du bl ag S', run TT GL (n + 8) 65 [.cell k, .dat (.str name)] S = .ok (.dat (taskD name kl fl du bl ag)) S' ∧ TaskK name kl fl du bl ag ∧ Wl S' k (B + 10020) ∧ Upd S S' k := by
  obtain ⟨r, kl, S1, hr, nk, bk, w1, u1, kd, S0, ek1, ek2⟩ := dr_keeps (n + 6) (name := name) w (by omega)
  obtain ⟨r2, fl, S2, hr2, nf, bf, w2, u2, ef⟩ := dr_fresh (n + 6) (name := name) w1 (by omega) (some (.dat (.list (kl.map deK))))
  obtain ⟨hk, hnd, hN⟩ := kvL_spn hr hr2 nk nf bk bf
  have lk : kl.length ≤ 2 := by
    have := congrArg List.length nk
    rw [List.length_map, List.length_map, List.length_take] at this
    simp only [List.length_cons, List.length_nil] at this
    omega
  have lf : fl.length ≤ 2 := by
    have := congrArg List.length nf
    rw [List.length_map, List.length_map, List.length_take] at this
    simp only [List.length_cons, List.length_nil] at this
    omega
  have wk : ∀ p ∈ kl, Wd p.1 := fun p hp => by
    have hm : p.1 ∈ kl.map (·.1) := List.mem_map_of_mem hp
    rw [nk] at hm
    obtain ⟨s, hs, e⟩ := List.mem_map.mp hm
    rw [← e]
    exact (kv_wd s (List.mem_of_mem_take hs)).1
  have wf : ∀ p ∈ fl, Wd p.1 := fun p hp => by
    have hm : p.1 ∈ fl.map (·.1) := List.mem_map_of_mem hp
    rw [nf] at hm
    obtain ⟨s, hs, e⟩ := List.mem_map.mp hm
    rw [← e]
    exact (kv_wd s (List.mem_of_mem_take hs)).2
  have ed : evE (run TT GL (n + 7)) GL (.dic (.cp (.bin .add (.sl (.var 10) none (some (.con (.int 1)))) (.tup [(.sl (.var 10) (some (.con (.int 1))) (some (.con (.int 3))))])) (.name 10) (.val (.bin .add (.var 2) (.var 3))) [] [10])) (drR k name (some (.dat (.list (kl.map deK)))) (some (.dat (.list (fl.map deF)))) none none none none none) S2 = .ok (.dct (kvL kl fl)) S2 := by
    refine dic_ok ?_ hnd
    rw [← kvL_dc]
    refine cp_map (val_ok (addL_ok (v_ok rfl) (v_ok rfl) (by rw [List.length_map, List.length_map]; omega)) (items_l _)) (by rw [List.length_append, List.length_map, List.length_map]; omega) fun d hd => ?_
    rcases List.mem_append.mp hd with z | z
    · obtain ⟨p, _, rfl⟩ := List.mem_map.mp z
      exact addT_ok (x := [.str p.1]) (y := [.tuple [iN p.2.1, iN p.2.2]]) (sl_ok (v_ok rfl) on_ok (oc_ok 1) (cut_1 _ _ _ _)) (tup1_ok (sl_ok (v_ok rfl) (oc_ok 1) (oc_ok 3) (cut_13 _ _ _ _))) (by simp)
    · obtain ⟨p, _, rfl⟩ := List.mem_map.mp z
      exact addT_ok (x := [.str p.1]) (y := [.tuple [iN 0, iN p.2]]) (sl_ok (v_ok rfl) on_ok (oc_ok 1) (cut_1 _ _ _ _)) (tup1_ok (sl_ok (v_ok rfl) (oc_ok 1) (oc_ok 3) (cut_13 _ _ _ _))) (by simp)
  obtain ⟨bl0, S3, eb, hb1, hb2, w3, u3⟩ := dr_body n (name := name) hk hN lf w2 (by omega) (kd := .list (kl.map deK))
  have hi : evI (run TT GL (n + 7)) GL (.rng1 (.con (.int 3))) (drR k name (some (.dat (.list (kl.map deK)))) (some (.dat (.list (fl.map deF)))) (some (.dct (kvL kl fl))) (some (.dat (.tuple bl0))) none none none) S3 = .ok ((List.range 3).map fun k => Val.dat (iN k)) S3 := rng1_nat (p := 3) (by omega) (e_con _ _ _ _ _)
  obtain ⟨bl, y6, el, hl1, hl2, hl3⟩ := dr_loop n (k := k) (name := name) (S := S3) hk hN hb1 hb2 (some (.dat (.list (kl.map deK)))) (some (.dat (.list (fl.map deF))))
  -- due
  obtain ⟨q, S4, e7, hq, w4, u4⟩ := d_ok (n := n + 6) (ρ := drR k name (some (.dat (.list (kl.map deK)))) (some (.dat (.list (fl.map deF)))) (some (.dct (kvL kl fl))) (some (.dat (.tuple bl))) y6 none none) (S0 := S3) (e := .con (.int 7)) (m := 7) rfl (e_con _ _ _ _ _) w3 (by omega) (by omega) (by omega) rfl
  have e7b : evE (run TT GL (n + 7)) GL (.tup [(.con (sS "number")), (.bin .add (.con (.int 6)) (.callK 56 [] [0, 1] [] [(.var 0), (.con (.int 7))] []))]) (drR k name (some (.dat (.list (kl.map deK)))) (some (.dat (.list (fl.map deF)))) (some (.dct (kvL kl fl))) (some (.dat (.tuple bl))) y6 none none) S3 = .ok (.dat (num (6 + q))) S4 := tup2_ok (e_con _ _ _ _ _) (bin_ok (e_con _ _ _ _ _) e7 (add_nat 6 q))
  have shk : SeqAt.shaped (.list (kl.map deK)) = true := (shp_lst (m := 1) fun d hd => by
    obtain ⟨p, hp, rfl⟩ := List.mem_map.mp hd
    exact shp_tup (all4 (shp_str (wk p hp).asc) (shp_int _) (shp_int _) (shp_int _))).ok (by omega)
  have nek : ∀ (x7 x8 : Option Val) (S : Sto), evE (run TT GL (n + 7)) GL (.cmp .ne (.var 2) (.lst [])) (drR k name (some (.dat (.list (kl.map deK)))) (some (.dat (.list (fl.map deF)))) (some (.dct (kvL kl fl))) (some (.dat (.tuple bl))) y6 x7 x8) S = .ok (.dat (.bool (!kl.isEmpty))) S := fun x7 x8 S => by
    have := ne_nil shk
    rw [map_empty] at this
    exact cmp_ok (v_ok rfl) lst0_ok this
  obtain ⟨b5, S5, e8, hb5, w5, u5⟩ := and_draw (n + 6) (m := 3) (ρ := drR k name (some (.dat (.list (kl.map deK)))) (some (.dat (.list (fl.map deF)))) (some (.dct (kvL kl fl))) (some (.dat (.tuple bl))) y6 (some (.dat (num (6 + q)))) none) rfl (nek _ _ S4) w4 (by omega) (by omega) (by omega)
  have lnum : Lf (kl.map (·.1)) (num (6 + q)) := .inl ⟨6 + q, by omega, rfl⟩
  have k0 : ∀ (x7 x8 : Option Val) (S : Sto), kl.isEmpty = false → ∃ p, p ∈ kl ∧ evE (run TT GL (n + 7)) GL (.idx (.var 2) (.con (.int 0))) (drR k name (some (.dat (.list (kl.map deK)))) (some (.dat (.list (fl.map deF)))) (some (.dct (kvL kl fl))) (some (.dat (.tuple bl))) y6 x7 x8) S = .ok (.dat (deK p)) S := fun x7 x8 S he => by
    match kl, he with
    | p :: kr, _ => exact ⟨p, List.mem_cons_self, idx_ok (z := deK p) (v_ok rfl) (e_con _ _ _ _ _) rfl⟩
  have st7 : ∃ du, evS (run TT GL (n + 7)) GL (.ife (.and [(.cmp .ne (.var 2) (.lst [])), (.cmp .eq (.callK 56 [] [0, 1] [] [(.var 0), (.con (.int 3))] []) (.con (.int 0)))]) [.asg (.name 7) (.tup [(.con (sS "+")), (.var 7), (.tup [(.con (sS "name")), (.idx (.idx (.var 2) (.con (.int 0))) (.con (.int 0)))])])] [])
      (drR k name (some (.dat (.list (kl.map deK)))) (some (.dat (.list (fl.map deF)))) (some (.dct (kvL kl fl))) (some (.dat (.tuple bl))) y6 (some (.dat (num (6 + q)))) none) S4 = .nx (drR k name (some (.dat (.list (kl.map deK)))) (some (.dat (.list (fl.map deF)))) (some (.dct (kvL kl fl))) (some (.dat (.tuple bl))) y6 (some (.dat du)) none) S5 ∧ Sd (kl.map (·.1)) du := by
    cases b5 with
    | false => exact ⟨_, if_f (and_ok e8) (s_nil _ _ _ _), .inl lnum⟩
    | true =>
      have := hb5 rfl
      simp only [Bool.not_eq_true'] at this
      obtain ⟨p, hp, ep⟩ := k0 (some (.dat (num (6 + q)))) none S5 this
      exact ⟨.tuple [sS "+", num (6 + q), nam p.1], if_t (and_ok e8) (s_nx (a_nx (tup3_ok (e_con _ _ _ _ _) (v_ok rfl) (tup2_ok (e_con _ _ _ _ _) (idx_ok (z := .str p.1) ep (e_con _ _ _ _ _) rfl))) rfl) (s_nil _ _ _ _)), .inr ⟨_, _, _, .inl rfl, lnum, .inr ⟨p.1, List.mem_map_of_mem hp, wk p hp, rfl⟩, rfl⟩⟩
  obtain ⟨du, e9, hdu⟩ := st7
  -- again
  obtain ⟨ag0, S6, e10, m10, w6, u6⟩ := r_of (n + 5) (l := [num 24, num 24, num 16, num 12]) w5 (by omega) (by simp) (by simp)
  have lag : Lf (kl.map (·.1)) ag0 := all4 (P := Lf (kl.map (·.1))) (.inl ⟨24, by omega, rfl⟩) (.inl ⟨24, by omega, rfl⟩) (.inl ⟨16, by omega, rfl⟩) (.inl ⟨12, by omega, rfl⟩) ag0 m10
  have e10b : evE (run TT GL (n + 7)) GL (.callK 57 [] [0, 1] [] [(.var 0), (.lst [(.tup [(.con (sS "number")), (.con (.int 24))]), (.tup [(.con (sS "number")), (.con (.int 24))]), (.tup [(.con (sS "number")), (.con (.int 16))]), (.tup [(.con (sS "number")), (.con (.int 12))])])] []) (drR k name (some (.dat (.list (kl.map deK)))) (some (.dat (.list (fl.map deF)))) (some (.dct (kvL kl fl))) (some (.dat (.tuple bl))) y6 (some (.dat du)) none) S5 = .ok (.dat ag0) S6 :=
    e_call2 (v_ok rfl) (lst4_ok (tup2_ok (e_con _ _ _ _ _) (e_con _ _ _ _ _)) (tup2_ok (e_con _ _ _ _ _) (e_con _ _ _ _ _)) (tup2_ok (e_con _ _ _ _ _) (e_con _ _ _ _ _)) (tup2_ok (e_con _ _ _ _ _) (e_con _ _ _ _ _))) e10
  have st8 : ∃ ag S7, evS (run TT GL (n + 7)) GL (.ife (.and [(.cmp .ne (.var 2) (.lst [])), (.cmp .lt (.idx (.idx (.var 2) (.con (.int 0))) (.con (.int 2))) (.con (.int 2))), (.cmp .eq (.callK 56 [] [0, 1] [] [(.var 0), (.con (.int 2))] []) (.con (.int 0)))])
      [.asg (.name 8) (.tup [(.con (sS "+")), (.tup [(.con (sS "number")), (.con (.int 12))]), (.tup [(.con (sS "*")), (.tup [(.con (sS "number")), (.con (.int 12))]), (.tup [(.con (sS "name")), (.idx (.idx (.var 2) (.con (.int 0))) (.con (.int 0)))])])])] [])
      (drR k name (some (.dat (.list (kl.map deK)))) (some (.dat (.list (fl.map deF)))) (some (.dct (kvL kl fl))) (some (.dat (.tuple bl))) y6 (some (.dat du)) (some (.dat ag0))) S6 = .nx (drR k name (some (.dat (.list (kl.map deK)))) (some (.dat (.list (fl.map deF)))) (some (.dct (kvL kl fl))) (some (.dat (.tuple bl))) y6 (some (.dat du)) (some (.dat ag))) S7 ∧ Ag (kl.map (·.1)) ag ∧ Wl S7 k (B + 10020) ∧ Upd S6 S7 k := by
    cases he : kl.isEmpty with
    | true =>
      have := nek (some (.dat du)) (some (.dat ag0)) S6
      rw [he] at this
      exact ⟨ag0, S6, if_f (and_ok (and2_f this)) (s_nil _ _ _ _), .inl lag, w6.mono (by omega), Upd.refl _ _⟩
    | false =>
      have ne := nek (some (.dat du)) (some (.dat ag0)) S6
      rw [he] at ne
      obtain ⟨p, hp, ep⟩ := k0 (some (.dat du)) (some (.dat ag0)) S6 he
      have c2 : evE (run TT GL (n + 7)) GL (.cmp .lt (.idx (.idx (.var 2) (.con (.int 0))) (.con (.int 2))) (.con (.int 2))) (drR k name (some (.dat (.list (kl.map deK)))) (some (.dat (.list (fl.map deF)))) (some (.dct (kvL kl fl))) (some (.dat (.tuple bl))) y6 (some (.dat du)) (some (.dat ag0))) S6 = .ok (.dat (.bool (decide (p.2.2 < 2)))) S6 := cmp_ok (idx_ok (z := iN p.2.2) ep (e_con _ _ _ _ _) rfl) (e_con _ _ _ _ _) (lt_nat _ 2)
      obtain ⟨b7, S7, e11, hb7, w7, u7⟩ := and_draw (n + 6) (m := 2) (ρ := drR k name (some (.dat (.list (kl.map deK)))) (some (.dat (.list (fl.map deF)))) (some (.dct (kvL kl fl))) (some (.dat (.tuple bl))) y6 (some (.dat du)) (some (.dat ag0))) rfl c2 w6 (by omega) (by omega) (by omega)
      have e12 := and_ok (and2_t ne e11)
      cases b7 with
      | false => exact ⟨ag0, S7, if_f e12 (s_nil _ _ _ _), .inl lag, w7.mono (by omega), u7⟩
      | true =>
        obtain ⟨p2, hp2, ep2⟩ := k0 (some (.dat du)) (some (.dat ag0)) S7 he
        exact ⟨.tuple [sS "+", num 12, .tuple [sS "*", num 12, nam p2.1]], S7, if_t e12 (s_nx (a_nx (tup3_ok (e_con _ _ _ _ _) (tup2_ok (e_con _ _ _ _ _) (e_con _ _ _ _ _)) (tup3_ok (e_con _ _ _ _ _) (tup2_ok (e_con _ _ _ _ _) (e_con _ _ _ _ _)) (tup2_ok (e_con _ _ _ _ _) (idx_ok (z := .str p2.1) ep2 (e_con _ _ _ _ _) rfl)))) rfl) (s_nil _ _ _ _)),
          .inr ⟨_, _, _, .inl ⟨12, by omega, rfl⟩, .inl ⟨12, by omega, rfl⟩, .inr ⟨p2.1, List.mem_map_of_mem hp2, wk p2 hp2, rfl⟩, rfl⟩, w7.mono (by omega), u7⟩
  obtain ⟨ag, S7, e13, hag, w7, u7⟩ := st8
  have u := (((((u1.trans u2).trans u3).trans u4).trans u5).trans u6).trans u7
  have e14 : evE (run TT GL (n + 7)) GL (.tup [(.con (sS "task")), (.var 1), (.blt .tup1 [(.var 2)]), (.blt .tup1 [(.var 3)]), (.var 7), (.var 5), (.var 8)]) (drR k name (some (.dat (.list (kl.map deK)))) (some (.dat (.list (fl.map deF)))) (some (.dct (kvL kl fl))) (some (.dat (.tuple bl))) y6 (some (.dat du)) (some (.dat ag))) S7 = .ok (.dat (.tuple [sS "task", .str name, .tuple (kl.map deK), .tuple (fl.map deF), du, .tuple bl, ag])) S7 :=
    tup7_ok (e_con _ _ _ _ _) (v_ok rfl) (blt1_ok (v_ok rfl) (bl_tupL _)) (blt1_ok (v_ok rfl) (bl_tupL _)) (v_ok rfl) (v_ok rfl) (v_ok rfl)
  refine ⟨kl, fl, du, bl, ag, S7, run_rtS (F := F__law_drawn) (by rfl) (by rfl) (by decide) (by rfl) (by rfl) (by rfl) (s_nx (a_nx ek1 (by rfl)) (s_nx (a_nx ek2 (by rfl)) (s_nx (a_nx ef (by rfl)) (s_nx (a_nx ed (by rfl)) (s_nx (a_nx eb (by rfl)) (s_nx (f_nx hi el) (s_nx (a_nx e7b (by rfl)) (s_nx e9 (s_nx (a_nx e10b (by rfl)) (s_nx e13 (s_rt (r_rt e14)))))))))))) u.len, ?_, w7, u⟩
  exact ⟨⟨r, hr, nk⟩, ⟨r2, hr2, nf⟩, bk, bf, hdu, hl1, hl2, hl3, hag⟩
end
end Dw

set_option Elab.async false
set_option linter.all false
set_option maxRecDepth 100000
set_option maxHeartbeats 1000000
/-! Data that trees are judged among; the first predicates, at any such data. -/
namespace Dw
open PySem
def okA : PyData → Bool
  | .int i => decide (0 ≤ i) && decide (i < 1000000000000)
  | .bool _ => true
  | .none => true
  | .str x => decide (x.length ≤ 1000) && ascB x
  | _ => false
def okB : Nat → PyData → Bool
  | 0, d => okA d
  | m + 1, d => match d with
    | .tuple l => decide (l.length ≤ 1000) && l.all (okB m)
    | .list l => decide (l.length ≤ 1000) && l.all (okB m)
    | d => okA d
theorem okB_atom {d : PyData} (h : okA d = true) : ∀ m, okB m d = true
  | 0 => h
  | m + 1 => by cases d <;> first | exact h | cases h
theorem okB_tup {m : Nat} {l : List PyData} (h : okB m (.tuple l) = true) : ∃ k, m = k + 1 ∧ l.length ≤ 1000 ∧ ∀ x ∈ l, okB k x = true := by
  cases m with
  | zero => cases h
  | succ k =>
    have h : (decide (l.length ≤ 1000) && l.all (okB k)) = true := h
    rw [Bool.and_eq_true, decide_eq_true_eq, List.all_eq_true] at h
    exact ⟨k, rfl, h⟩
theorem ok_tup {m : Nat} {l : List PyData} (h1 : l.length ≤ 1000) (h : ∀ x ∈ l, okB m x = true) : okB (m + 1) (.tuple l) = true := by
  show (decide (l.length ≤ 1000) && l.all (okB m)) = true
  rw [Bool.and_eq_true, decide_eq_true_eq, List.all_eq_true]
  exact ⟨h1, h⟩
theorem okB_lst {m : Nat} {l : List PyData} (h : okB m (.list l) = true) : ∃ k, m = k + 1 ∧ l.length ≤ 1000 ∧ ∀ x ∈ l, okB k x = true := by
  cases m with
  | zero => cases h
  | succ k =>
    have h : (decide (l.length ≤ 1000) && l.all (okB k)) = true := h
    rw [Bool.and_eq_true, decide_eq_true_eq, List.all_eq_true] at h
    exact ⟨k, rfl, h⟩
theorem ok_lst {m : Nat} {l : List PyData} (h1 : l.length ≤ 1000) (h : ∀ x ∈ l, okB m x = true) : okB (m + 1) (.list l) = true := by
  show (decide (l.length ≤ 1000) && l.all (okB m)) = true
  rw [Bool.and_eq_true, decide_eq_true_eq, List.all_eq_true]
  exact ⟨h1, h⟩
theorem okB_up : ∀ {m : Nat} {d : PyData}, okB m d = true → okB (m + 1) d = true
  | m, d, h => by
    cases d with
    | tuple l =>
      obtain ⟨k, rfl, h1, h2⟩ := okB_tup h
      exact ok_tup h1 fun x hx => okB_up (h2 x hx)
    | list l =>
      obtain ⟨k, rfl, h1, h2⟩ := okB_lst h
      exact ok_lst h1 fun x hx => okB_up (h2 x hx)
    | _ => cases m <;> exact h
theorem okB_le {m k : Nat} {d : PyData} (h : okB m d = true) (hk : m ≤ k) : okB k d = true := by
  induction hk with
  | refl => exact h
  | step _ ih => exact okB_up ih
theorem ok_str {x : Str} {m : Nat} (h1 : x.length ≤ 1000) (h : Asc x) : okB m (.str x) = true := by
  refine okB_atom ?_ m
  show (decide (x.length ≤ 1000) && ascB x) = true
  rw [Bool.and_eq_true, decide_eq_true_eq]
  refine ⟨h1, ?_⟩
  unfold ascB
  rw [List.all_eq_true]
  exact fun c hc => decide_eq_true (h c hc)
theorem ok_int {n m : Nat} (h : n < 1000000000000) : okB m (iN n) = true := by
  refine okB_atom ?_ m
  show (decide ((0 : Int) ≤ (n : Int)) && decide ((n : Int) < 1000000000000)) = true
  rw [Bool.and_eq_true, decide_eq_true_eq, decide_eq_true_eq]
  omega
theorem str_ok {x : Str} {m : Nat} (h : okB m (.str x) = true) : x.length ≤ 1000 ∧ Asc x := by
  have h : (decide (x.length ≤ 1000) && ascB x) = true := by cases m <;> exact h
  rw [Bool.and_eq_true, decide_eq_true_eq] at h
  exact ⟨h.1, asc_of h.2⟩
theorem pair_self {k : Nat} {l : List PyData} (h : ∀ d ∈ l, Nice d.weight k d) : Paired (fun d m => Nice m k d) l (l.map PyData.weight) := by
  have := paired_map (P := fun d m => Nice m k d) (f := id) (g := PyData.weight) (l := l) h
  rwa [List.map_id] at this
theorem okB_nice : ∀ {m : Nat} {d : PyData}, okB m d = true → Nice d.weight m d
  | m, d, h => by
    cases d with
    | tuple l =>
      obtain ⟨k, rfl, h1, h2⟩ := okB_tup h
      have := nice_tup (pair_self fun x hx => okB_nice (h2 x hx))
      exact ⟨this.lay, this.dp, Nat.le_refl _, this.sh, this.sw⟩
    | list l =>
      obtain ⟨k, rfl, h1, h2⟩ := okB_lst h
      have := nice_lst (pair_self fun x hx => okB_nice (h2 x hx))
      exact ⟨this.lay, this.dp, Nat.le_refl _, this.sh, this.sw⟩
    | str x =>
      have := (nice_str (str_ok h).2).mono (Nat.le_refl _) (Nat.zero_le m)
      exact ⟨this.lay, this.dp, Nat.le_refl _, this.sh, this.sw⟩
    | int i =>
      have h : (decide (0 ≤ i) && decide (i < 1000000000000)) = true := by cases m <;> exact h
      rw [Bool.and_eq_true, decide_eq_true_eq, decide_eq_true_eq] at h
      obtain ⟨n, rfl⟩ := Int.eq_ofNat_of_zero_le h.1
      have := (nice_int (n := n) (by omega)).mono (Nat.le_refl _) (Nat.zero_le m)
      exact ⟨this.lay, this.dp, Nat.le_refl _, this.sh, this.sw⟩
    | bool b =>
      have := (nice_bool b).mono (Nat.le_refl _) (Nat.zero_le m)
      exact ⟨this.lay, this.dp, Nat.le_refl _, this.sh, this.sw⟩
    | none =>
      have := nice_none.mono (Nat.le_refl _) (Nat.zero_le m)
      exact ⟨this.lay, this.dp, Nat.le_refl _, this.sh, this.sw⟩
    | _ => cases m <;> cases h
theorem okB_shaped {m : Nat} {d : PyData} (h : okB m d = true) (hm : m ≤ 50) : SeqAt.shaped d = true := (okB_nice h).shape hm
/-! ### parts of a tuple -/
def its : PyData → List PyData
  | .tuple l => l
  | _ => []
def ix (d : PyData) (i : Nat) : PyData := (its d)[i]?.getD .none
def tupOf (d : PyData) (m : Nat) : Bool := isT d .tuple && decide ((its d).length = m)
def tupTo (d : PyData) (m : Nat) : Bool := isT d .tuple && decide ((its d).length ≤ m)
def isS : PyData → Str → Bool
  | .str z, s => decide (z = s)
  | _, _ => false
def inStr (ms : List Str) : PyData → Bool
  | .str a => ms.any fun z => decide (z = a)
  | _ => false
def markB (d : PyData) (s : Str) (m : Nat) : Bool := tupOf d m && (isT (ix d 0) .str && isS (ix d 0) s)
def numIn (d : PyData) (lo hi : Int) : Bool := match d with
  | .int i => !decide (i < lo) && decide (i ≤ hi)
  | _ => false
def nmB : PyData → Bool
  | .str v => nameB v
  | _ => false
theorem isT_tup {d : PyData} (h : isT d .tuple = true) : d = .tuple (its d) := by
  cases d <;> first | rfl | cases h
theorem tupOf_eq {d : PyData} {m : Nat} (h : tupOf d m = true) : d = .tuple (its d) ∧ (its d).length = m := by
  unfold tupOf at h
  rw [Bool.and_eq_true, decide_eq_true_eq] at h
  exact ⟨isT_tup h.1, h.2⟩
theorem ix_mem {d : PyData} {i : Nat} (h : i < (its d).length) : ix d i ∈ its d := by
  unfold ix
  rw [List.getElem?_eq_getElem h]
  exact List.getElem_mem h
theorem ix_tup {l : List PyData} {i : Nat} (h : i < l.length) : idxD (.tuple l) (.int (i : Int)) = some (ix (.tuple l) i) := by
  rw [ix_t, nth_nat]
  show l[i]? = some (l[i]?.getD .none)
  rw [List.getElem?_eq_getElem h]
  rfl
theorem ix_at {d : PyData} {i m : Nat} (h : tupOf d m = true) (hi : i < m) : idxD d (.int (i : Int)) = some (ix d i) := by
  obtain ⟨e, hl⟩ := tupOf_eq h
  have := ix_tup (l := its d) (i := i) (by omega)
  rwa [← e] at this
theorem okB_its {m : Nat} {d : PyData} (h : okB m d = true) : (its d).length ≤ 1000 ∧ ∀ x ∈ its d, okB m x = true := by
  cases d with
  | tuple l =>
    obtain ⟨k, rfl, h1, h2⟩ := okB_tup h
    exact ⟨h1, fun x hx => okB_up (h2 x hx)⟩
  | _ => exact ⟨Nat.zero_le _, fun x hx => nomatch hx⟩
theorem okB_its' {m : Nat} {d : PyData} (h : okB (m + 1) d = true) : ∀ x ∈ its d, okB m x = true := by
  cases d with
  | tuple l =>
    obtain ⟨k, e, h1, h2⟩ := okB_tup h
    cases e
    exact h2
  | _ => exact fun x hx => nomatch hx
theorem okB_ix {m i k : Nat} {d : PyData} (h : okB m d = true) (ht : tupOf d k = true) (hi : i < k) : okB m (ix d i) = true :=
  (okB_its h).2 _ (ix_mem (by have := (tupOf_eq ht).2; omega))
theorem okB_ix' {m i k : Nat} {d : PyData} (h : okB m d = true) (ht : tupOf d k = true) (hi : i < k) : ∃ m', m = m' + 1 ∧ okB m' (ix d i) = true := by
  obtain ⟨e, hl⟩ := tupOf_eq ht
  rw [e] at h
  obtain ⟨k', rfl, h1, h2⟩ := okB_tup h
  exact ⟨k', rfl, h2 _ (ix_mem (by omega))⟩
theorem mark_tup {d : PyData} {s : Str} {m : Nat} (h : markB d s m = true) : tupOf d m = true := by
  unfold markB at h
  rw [Bool.and_eq_true] at h
  exact h.1
theorem isT_str {d : PyData} (h : isT d .str = true) : ∃ z, d = .str z := by
  cases d <;> first | exact ⟨_, rfl⟩ | cases h
theorem mark_at {d : PyData} {s : Str} {m : Nat} (h : markB d s m = true) : ix d 0 = .str s := by
  unfold markB at h
  rw [Bool.and_eq_true, Bool.and_eq_true] at h
  obtain ⟨z, e⟩ := isT_str h.2.1
  have h := h.2.2
  rw [e] at h ⊢
  rw [of_decide_eq_true h]
theorem inStr_eq (ms : List Str) (a : Str) : ((ms.map PyData.str).any fun z => PyData.eqv z (.str a)) = inStr ms (.str a) := by
  show _ = ms.any fun z => decide (z = a)
  rw [List.any_map]
  have : ((fun z => PyData.eqv z (.str a)) ∘ PyData.str) = fun z => decide (z = a) := funext fun z => eqv_str z a
  rw [this]
section
variable {C : Nat → List Val → Sto → R Val} {ρ : Rho} {S S1 S2 S3 S4 : Sto} {a b c : Ex} {v w x y : Val} {f : Nat}
theorem g_ok {g : Nat} {d : PyData} (h : GL[g]? = some d) : evE C GL (.glob g) ρ S = .ok (.dat d) S := by
  rw [e_glob, h]
  rfl
theorem ixv {d : PyData} {j m : Nat} (i : Nat) (hv : ρ[j]? = some (some (.dat d))) (h : tupOf d m = true) (hi : i < m) : evE C GL (.idx (.var j) (.con (.int (i : Int)))) ρ S = .ok (.dat (ix d i)) S :=
  idx_ok (v_ok hv) (e_con _ _ _ _ _) (ix_at h hi)
theorem notN_dat {d : PyData} (h : evE C GL a ρ S = .ok (.dat d) S1) : evE C GL (.notN a) ρ S = .ok (.dat (.bool (!isNone (.dat d)))) S1 := by
  rw [e_notN, h, bind_ok]
theorem isN_dat {d : PyData} (h : evE C GL a ρ S = .ok (.dat d) S1) : evE C GL (.isN a) ρ S = .ok (.dat (.bool (isNone (.dat d)))) S1 := by
  rw [e_isN, h, bind_ok]
/-- if c: return a, and then the rest -/
theorem rif_t {c a : Ex} {r : List Sx} {v : Val} (h : evE C GL c ρ S = .ok (.dat (.bool true)) S) (h2 : evE C GL a ρ S = .ok v S1) : evSs C GL (.ife c [.ret a] [] :: r) ρ S = .rt v S1 :=
  s_rt (if_t h (s_rt (r_rt h2)))
theorem rif_f {c a : Ex} {r : List Sx} {q : SR} (h : evE C GL c ρ S = .ok (.dat (.bool false)) S) (h2 : evSs C GL r ρ S = q) : evSs C GL (.ife c [.ret a] [] :: r) ρ S = q :=
  s_nx (if_f h (s_nil _ _ _ _)) h2
theorem rif_b {c a : Ex} {r : List Sx} {p q t : Bool} (h : evE C GL c ρ S = .ok (.dat (.bool p)) S) (h1 : p = true → evE C GL a ρ S = .ok (.dat (.bool q)) S) (h2 : p = false → evSs C GL r ρ S = .rt (.dat (.bool t)) S) : evSs C GL (.ife c [.ret a] [] :: r) ρ S = .rt (.dat (.bool (if p = true then q else t))) S := by
  cases p with
  | true => exact rif_t h (h1 rfl)
  | false => exact rif_f h (h2 rfl)
theorem rtx {a : Ex} {v : Val} (h : evE C GL a ρ S = .ok v S1) : evSs C GL [.ret a] ρ S = .rt v S1 := s_rt (r_rt h)
theorem len_tup {d : PyData} {j : Nat} (hv : ρ[j]? = some (some (.dat d))) (h : isT d .tuple = true) : evE C GL (.blt .len [.var j]) ρ S = .ok (.dat (iN (its d).length)) S := by
  refine blt1_ok (v_ok hv) ?_
  cases d <;> first | rfl | cases h
end
section
variable (n : Nat) (S : Sto)
def wholeB (d : PyData) : Bool := isT d .int && !isT d .bool
theorem r_whole (d : PyData) : run TT GL (n + 1) 0 [.dat d] S = .ok (.dat (.bool (wholeB d))) S :=
  run_rt (F := F_is_whole) (by rfl) (by rfl) (by decide) (by rfl) (by rfl) (by rfl) (rtx (and_ok (and2_b (isi_ok (v_ok rfl)) fun _ => and1_b (not_ok (isi_ok (v_ok rfl))))))
theorem r_number (d : PyData) (lo hi : Int) : run TT GL (n + 2) 1 [.dat d, .dat (.int lo), .dat (.int hi)] S = .ok (.dat (.bool (numIn d lo hi))) S := by
  have e0 := not_ok (e_call1 (f := 0) (v_ok (i := 0) (ρ := [some (.dat d), some (.dat (.int lo)), some (.dat (.int hi))]) (C := run TT GL (n + 1)) (G := GL) rfl) (r_whole n S d))
  cases hw : wholeB d with
  | false =>
    rw [hw] at e0
    have : numIn d lo hi = false := by
      cases d <;> first | rfl | cases hw
    rw [this]
    exact run_rt (F := F_is_number) (by rfl) (by rfl) (by decide) (by rfl) (by rfl) (by rfl) (rif_t (or_ok (or2_t e0)) (e_con _ _ _ _ _))
  | true =>
    rw [hw] at e0
    have : ∃ i, d = .int i := by
      cases d <;> first | exact ⟨_, rfl⟩ | cases hw
    obtain ⟨i, rfl⟩ := this
    have e1 : evE (run TT GL (n + 1)) GL (.and [(.notN (.var 1)), (.cmp .lt (.var 0) (.var 1))]) [some (.dat (.int i)), some (.dat (.int lo)), some (.dat (.int hi))] S = .ok (.dat (.bool (decide (i < lo)))) S :=
      and_ok (and2_t (notN_dat (d := .int lo) (v_ok rfl)) (and1_b (cmp_ok (v_ok rfl) (v_ok rfl) (c_lt _ _))))
    have e2 : evE (run TT GL (n + 1)) GL (.or [(.isN (.var 2)), (.cmp .le (.var 0) (.var 2))]) [some (.dat (.int i)), some (.dat (.int lo)), some (.dat (.int hi))] S = .ok (.dat (.bool (decide (i ≤ hi)))) S :=
      or_ok (or2_f (isN_dat (d := .int hi) (v_ok rfl)) (or1_b (cmp_ok (v_ok rfl) (v_ok rfl) (c_le _ _))))
    have := rif_b (a := .con (.bool false)) (or_ok (or2_f e0 (or1_b e1))) (fun _ => e_con _ _ _ _ _) (fun _ => rtx e2)
    rw [show numIn (.int i) lo hi = (if decide (i < lo) = true then false else decide (i ≤ hi)) by
      show (!decide (i < lo) && decide (i ≤ hi)) = _
      cases decide (i < lo) <;> rfl]
    exact run_rt (F := F_is_number) (by rfl) (by rfl) (by decide) (by rfl) (by rfl) (by rfl) this
theorem r_tupof (d : PyData) (m : Nat) : run TT GL (n + 1) 4 [.dat d, .dat (iN m)] S = .ok (.dat (.bool (tupOf d m))) S :=
  run_rt (F := F_is_tuple_of) (by rfl) (by rfl) (by decide) (by rfl) (by rfl) (by rfl) (rtx (and_ok (and2_b (isi_ok (v_ok rfl)) fun h => and1_b (cmp_ok (len_tup rfl h) (v_ok rfl) (eq_nat _ _)))))
theorem r_tupto (d : PyData) (m : Nat) : run TT GL (n + 1) 5 [.dat d, .dat (iN m)] S = .ok (.dat (.bool (tupTo d m))) S :=
  run_rt (F := F_is_tuple_up_to) (by rfl) (by rfl) (by decide) (by rfl) (by rfl) (by rfl) (rtx (and_ok (and2_b (isi_ok (v_ok rfl)) fun h => and1_b (cmp_ok (len_tup rfl h) (v_ok rfl) (le_nat _ _)))))
theorem r_marked (d : PyData) (s : Str) {m : Nat} (hm : 1 ≤ m) : run TT GL (n + 2) 8 [.dat d, .dat (.str s), .dat (iN m)] S = .ok (.dat (.bool (markB d s m))) S :=
  run_rt (F := F_is_marked) (by rfl) (by rfl) (by decide) (by rfl) (by rfl) (by rfl) (rtx (and_ok (and2_b (e_call2 (v_ok rfl) (v_ok rfl) (r_tupof n S d m)) fun h => and2_b (e_call1 (ixv 0 rfl h hm) (r_isstr n S _)) fun h2 => and1_b (cmp_ok (ixv 0 rfl h hm) (v_ok rfl) (by
    obtain ⟨z, e⟩ := isT_str h2
    rw [e, c_eqS]
    rfl)))))
theorem r_name {m : Nat} {d : PyData} (h : okB m d = true) : run TT GL (n + 2) 7 [.dat d] S = .ok (.dat (.bool (nmB d))) S := by
  cases d with
  | str v => exact r_name_str n S (str_ok h).1 (str_ok h).2
  | _ => exact r_name_oth n S rfl
end
end Dw

set_option Elab.async false
set_option linter.all false
set_option maxRecDepth 100000
set_option maxHeartbeats 1000000
/-! Expressions and tests, judged. -/
namespace Dw
open PySem
abbrev oS (x : String) : Str := Str.ofString x
abbrev mk3 : List Str := [oS "+", oS "-", oS "*"]
abbrev mk2 : List Str := [oS "=", oS "<"]
abbrev mkL : List Str := [oS "number", oS "name"]
def anyB (f : PyData → Bool) (d : PyData) (ms : List Str) : Bool := tupOf d 3 && (isT (ix d 0) .str && (inStr ms (ix d 0) && (f (ix d 1) && f (ix d 2))))
def partB : Nat → PyData → Bool
  | 0, _ => false
  | m + 1, d => if markB d (oS "number") 2 = true then numIn (ix d 1) 0 99 else if markB d (oS "name") 2 = true then nmB (ix d 1) else anyB (partB m) d mk3
def lvs : Nat → PyData → Nat
  | 0, _ => 0
  | m + 1, d => if inStr mkL (ix d 0) = true then 1 else lvs m (ix d 1) + lvs m (ix d 2)
def nms : Nat → PyData → List PyData
  | 0, _ => []
  | m + 1, d => if isS (ix d 0) (oS "name") = true then [ix d 1] else if isS (ix d 0) (oS "number") = true then [] else nms m (ix d 1) ++ nms m (ix d 2)
def exprB (m : Nat) (d : PyData) : Bool := partB m d && decide (lvs m d ≤ 15)
def testB (m : Nat) (d : PyData) : Bool := anyB (partB m) d mk2 && (decide (lvs m (ix d 1) ≤ 15) && decide (lvs m (ix d 2) ≤ 15))
theorem strs_shp {ms : List Str} (h : ∀ w ∈ ms, Asc w ∧ w.length ≤ 8) : SeqAt.shaped (.tuple (ms.map .str)) = true := shaped_tup (nice_strs h) (by omega)
theorem nin_ok {m : Nat} {d : PyData} {ms : List Str} (h : okB m d = true) (hs : isT d .str = true) (hm : ∀ w ∈ ms, Asc w ∧ w.length ≤ 8) : cmpD .nin d (.tuple (ms.map .str)) = some (!inStr ms d) := by
  obtain ⟨z, rfl⟩ := isT_str hs
  rw [nin_tup (str_ok h).2 (strs_shp hm), inStr_eq]
theorem inn_ok {m : Nat} {d : PyData} {ms : List Str} (h : okB m d = true) (hs : isT d .str = true) (hm : ∀ w ∈ ms, Asc w ∧ w.length ≤ 8) : cmpD .inn d (.tuple (ms.map .str)) = some (inStr ms d) := by
  obtain ⟨z, rfl⟩ := isT_str hs
  rw [in_tup (str_ok h).2 (strs_shp hm), inStr_eq]
theorem mk3_ok : ∀ w ∈ mk3, Asc w ∧ w.length ≤ 8 := by decide +kernel
theorem mk2_ok : ∀ w ∈ mk2, Asc w ∧ w.length ≤ 8 := by decide +kernel
theorem mkL_ok : ∀ w ∈ mkL, Asc w ∧ w.length ≤ 8 := by decide +kernel
theorem rif_not3 {C : Nat → List Val → Sto → R Val} {ρ : Rho} {S : Sto} {a b c e : Ex} {p q r : Bool} {x : Bool} (h1 : evE C GL a ρ S = .ok (.dat (.bool p)) S) (h2 : p = true → evE C GL b ρ S = .ok (.dat (.bool q)) S) (h3 : p = true → q = true → evE C GL c ρ S = .ok (.dat (.bool (!r))) S)
    (h4 : p = true → q = true → r = true → evE C GL e ρ S = .ok (.dat (.bool x)) S) : evSs C GL [.ife (.or [.not a, .not b, c]) [.ret (.con (.bool false))] [], .ret e] ρ S = .rt (.dat (.bool (p && (q && (r && x))))) S := by
  cases p with
  | false => exact rif_t (or_ok (or2_t (not_ok h1))) (e_con _ _ _ _ _)
  | true =>
    cases q with
    | false => exact rif_t (or_ok (or2_f (not_ok h1) (or2_t (not_ok (h2 rfl))))) (e_con _ _ _ _ _)
    | true =>
      cases r with
      | false => exact rif_t (or_ok (or2_f (not_ok h1) (or2_f (not_ok (h2 rfl)) (or1_b (h3 rfl rfl))))) (e_con _ _ _ _ _)
      | true => exact rif_f (or_ok (or2_f (not_ok h1) (or2_f (not_ok (h2 rfl)) (or1_b (h3 rfl rfl))))) (rtx (h4 rfl rfl rfl))
section
variable (S : Sto)
theorem r_any {n m : Nat} {d : PyData} {ms : List Str} {f : PyData → Bool} (hd : okB m d = true) (hm : ∀ w ∈ ms, Asc w ∧ w.length ≤ 8) (hf : tupOf d 3 = true → ∀ i, i < 3 → run TT GL (n + 1) 10 [.dat (ix d i)] S = .ok (.dat (.bool (f (ix d i)))) S) :
    run TT GL (n + 2) 9 [.dat d, .dat (.tuple (ms.map .str))] S = .ok (.dat (.bool (anyB f d ms))) S :=
  run_rt (F := F_is_any_sum) (by rfl) (by rfl) (by decide) (by rfl) (by rfl) (by rfl) (rif_not3 (e_call2 (v_ok rfl) (e_con _ _ _ _ _) (r_tupof n S d 3)) (fun h => e_call1 (ixv 0 rfl h (by omega)) (r_isstr n S _)) (fun h h2 => cmp_ok (ixv 0 rfl h (by omega)) (v_ok rfl) (nin_ok (okB_ix hd h (by omega)) h2 hm))
    fun h _ _ => and_ok (and2_b (e_call1 (ixv 1 rfl h (by omega)) (hf h 1 (by omega))) fun _ => and1_b (e_call1 (ixv 2 rfl h (by omega)) (hf h 2 (by omega)))))
theorem r_part : ∀ (m n : Nat) (d : PyData), okB m d = true → 2 * m + 6 ≤ n → run TT GL n 10 [.dat d] S = .ok (.dat (.bool (partB (m + 1) d))) S
  | m, n, d, hd, hn => by
    obtain ⟨k, rfl⟩ : ∃ k, n = k + 4 := ⟨n - 4, by omega⟩
    have h1 : evE (run TT GL (k + 3)) GL (.callK 8 [] [0, 1, 2] [] [(.var 0), (.con (.str (oS "number"))), (.con (.int 2))] []) [some (.dat d)] S = .ok (.dat (.bool (markB d (oS "number") 2))) S := e_call3 (v_ok rfl) (e_con _ _ _ _ _) (e_con _ _ _ _ _) (r_marked (k + 1) S d (oS "number") (m := 2) (by omega))
    have h2 : evE (run TT GL (k + 3)) GL (.callK 8 [] [0, 1, 2] [] [(.var 0), (.con (.str (oS "name"))), (.con (.int 2))] []) [some (.dat d)] S = .ok (.dat (.bool (markB d (oS "name") 2))) S := e_call3 (v_ok rfl) (e_con _ _ _ _ _) (e_con _ _ _ _ _) (r_marked (k + 1) S d (oS "name") (m := 2) (by omega))
    have h3 : evE (run TT GL (k + 3)) GL (.callK 9 [] [0, 1] [] [(.var 0), (.dsp true [(.glob 4), (.glob 5)] [true, false])] []) [some (.dat d)] S = .ok (.dat (.bool (anyB (partB m) d mk3))) S :=
      e_call2 (v_ok rfl) (show evE _ GL (.dsp true [(.glob 4), (.glob 5)] [true, false]) _ S = .ok (.dat (.tuple (mk3.map .str))) S from rfl) (r_any (n := k + 1) S hd mk3_ok fun ht i hi => by
        obtain ⟨m', rfl, hx⟩ := okB_ix' hd ht hi
        exact r_part m' (k + 2) _ hx (by omega))
    exact run_rt (F := F_is_part) (by rfl) (by rfl) (by decide) (by rfl) (by rfl) (by rfl) (rif_b h1 (fun h => e_call3 (ixv 1 rfl (mark_tup h) (by omega)) (e_con _ _ _ _ _) (g_ok (by rfl)) (r_number (k + 1) S _ 0 99)) fun _ => rif_b h2 (fun h => e_call1 (ixv 1 rfl (mark_tup h) (by omega)) (r_name (k + 1) S (okB_ix hd (mark_tup h) (by omega)))) fun _ => rtx h3)
/-- a part is a leaf or a sum of two -/
theorem part_view {m : Nat} {d : PyData} (h : partB (m + 1) d = true) : isT (ix d 0) .str = true ∧ ((tupOf d 2 = true ∧ inStr mkL (ix d 0) = true ∧ (ix d 0 = .str (oS "number") ∨ ix d 0 = .str (oS "name"))) ∨ (tupOf d 3 = true ∧ inStr mkL (ix d 0) = false ∧ isS (ix d 0) (oS "number") = false ∧ isS (ix d 0) (oS "name") = false ∧ partB m (ix d 1) = true ∧ partB m (ix d 2) = true)) := by
  unfold partB at h
  by_cases h1 : markB d (oS "number") 2 = true
  · have := mark_at h1
    rw [this]
    exact ⟨rfl, .inl ⟨mark_tup h1, by decide +kernel, .inl rfl⟩⟩
  · rw [if_neg h1] at h
    by_cases h2 : markB d (oS "name") 2 = true
    · have := mark_at h2
      rw [this]
      exact ⟨rfl, .inl ⟨mark_tup h2, by decide +kernel, .inr rfl⟩⟩
    · rw [if_neg h2] at h
      unfold anyB at h
      rw [Bool.and_eq_true, Bool.and_eq_true, Bool.and_eq_true, Bool.and_eq_true] at h
      obtain ⟨a, b, c, e, g⟩ := h
      refine ⟨b, .inr ⟨a, ?_, ?_, ?_, e, g⟩⟩
      all_goals
        obtain ⟨z, hz⟩ := isT_str b
        rw [hz] at c ⊢
        have c : (mk3.any fun y => decide (y = z)) = true := c
        simp only [List.any_cons, List.any_nil, Bool.or_eq_true, decide_eq_true_eq, Bool.or_false] at c
        rcases c with rfl | rfl | rfl <;> decide +kernel
theorem r_leaves : ∀ (m n : Nat) (d : PyData), okB m d = true → partB (m + 1) d = true → m + 1 ≤ n → run TT GL n 11 [.dat d] S = .ok (.dat (iN (lvs (m + 1) d))) S
  | m, n, d, hd, hp, hn => by
    obtain ⟨k, rfl⟩ : ∃ k, n = k + 1 := ⟨n - 1, by omega⟩
    obtain ⟨hs, hv⟩ := part_view hp
    have ht : ∃ j, tupOf d (j + 2) = true := by
      rcases hv with ⟨h, _⟩ | ⟨h, _⟩
      · exact ⟨0, h⟩
      · exact ⟨1, h⟩
    obtain ⟨j, ht⟩ := ht
    have h0 : evE (run TT GL k) GL (.cmp .inn (.idx (.var 0) (.con (.int 0))) (.tup [(.con (.str (oS "number"))), (.con (.str (oS "name")))])) [some (.dat d)] S = .ok (.dat (.bool (inStr mkL (ix d 0)))) S :=
      cmp_ok (ixv 0 rfl ht (by omega)) (tup2_ok (e_con _ _ _ _ _) (e_con _ _ _ _ _)) (inn_ok (ms := mkL) (okB_ix hd ht (by omega)) hs mkL_ok)
    rcases hv with ⟨_, hl, _⟩ | ⟨h3, hl, _, _, p1, p2⟩
    · rw [hl] at h0
      unfold lvs
      rw [if_pos hl]
      exact run_rt (F := F_leaves_in) (by rfl) (by rfl) (by decide) (by rfl) (by rfl) (by rfl) (rtx (ife_t h0 (e_con _ _ _ _ _)))
    · rw [hl] at h0
      obtain ⟨m', rfl, o1⟩ := okB_ix' hd h3 (i := 1) (by omega)
      have o2 := okB_its' hd _ (ix_mem (d := d) (i := 2) (by have := (tupOf_eq h3).2; omega))
      unfold lvs
      rw [if_neg (by rw [hl]; decide)]
      exact run_rt (F := F_leaves_in) (by rfl) (by rfl) (by decide) (by rfl) (by rfl) (by rfl) (rtx (ife_f h0 (bin_ok (e_call1 (ixv 1 rfl h3 (by omega)) (r_leaves m' k _ o1 p1 (by omega))) (e_call1 (ixv 2 rfl h3 (by omega)) (r_leaves m' k _ o2 p2 (by omega))) (add_nat _ _))))
theorem nms_len : ∀ (m : Nat) (d : PyData), (nms m d).length ≤ 2 ^ m
  | 0, _ => by simp [nms]
  | m + 1, d => by
    have h1 := nms_len m (ix d 1)
    have h2 := nms_len m (ix d 2)
    have : 1 ≤ 2 ^ m := Nat.one_le_two_pow
    unfold nms
    split
    · simp only [List.length_cons, List.length_nil, Nat.pow_succ]; omega
    · split
      · simp
      · rw [List.length_append, Nat.pow_succ]; omega
theorem r_names : ∀ (m n : Nat) (d : PyData), m ≤ 18 → okB m d = true → partB (m + 1) d = true → m + 1 ≤ n → run TT GL n 14 [.dat d] S = .ok (.dat (.list (nms (m + 1) d))) S
  | m, n, d, hm, hd, hp, hn => by
    obtain ⟨k, rfl⟩ : ∃ k, n = k + 1 := ⟨n - 1, by omega⟩
    obtain ⟨hs, hv⟩ := part_view hp
    have ht : ∃ j, tupOf d (j + 2) = true := by
      rcases hv with ⟨h, _⟩ | ⟨h, _⟩
      · exact ⟨0, h⟩
      · exact ⟨1, h⟩
    obtain ⟨j, ht⟩ := ht
    have eqs : ∀ s : Str, cmpD .eq (ix d 0) (.str s) = some (isS (ix d 0) s) := fun s => by
      obtain ⟨z, hz⟩ := isT_str hs
      rw [hz, c_eqS]
      rfl
    have nes : ∀ s : Str, cmpD .ne (ix d 0) (.str s) = some (!isS (ix d 0) s) := fun s => by
      obtain ⟨z, hz⟩ := isT_str hs
      rw [hz, c_neS]
      rfl
    have h0 : evE (run TT GL k) GL (.cmp .eq (.idx (.var 0) (.con (.int 0))) (.con (.str (oS "name")))) [some (.dat d)] S = .ok (.dat (.bool (isS (ix d 0) (oS "name")))) S :=
      cmp_ok (ixv 0 rfl ht (by omega)) (e_con _ _ _ _ _) (eqs _)
    have h1 : evE (run TT GL k) GL (.cmp .ne (.idx (.var 0) (.con (.int 0))) (.con (.str (oS "number")))) [some (.dat d)] S = .ok (.dat (.bool (!isS (ix d 0) (oS "number")))) S :=
      cmp_ok (ixv 0 rfl ht (by omega)) (e_con _ _ _ _ _) (nes _)
    unfold nms
    cases hN : isS (ix d 0) (oS "name") with
    | true =>
      rw [hN] at h0
      rw [if_pos rfl]
      exact run_rt (F := F_names_of_treework) (by rfl) (by rfl) (by decide) (by rfl) (by rfl) (by rfl) (rif_t h0 (lst1_ok (ixv 1 rfl ht (by omega))))
    | false =>
      rw [hN] at h0
      rw [if_neg (by decide)]
      cases hU : isS (ix d 0) (oS "number") with
      | true =>
        rw [hU] at h1
        rw [if_pos rfl]
        exact run_rt (F := F_names_of_treework) (by rfl) (by rfl) (by decide) (by rfl) (by rfl) (by rfl) (rif_f h0 (rtx (ife_f h1 lst0_ok)))
      | false =>
        rw [hU] at h1
        rw [if_neg (by decide)]
        rcases hv with ⟨_, _, e | e⟩ | ⟨h3, hl, _, _, p1, p2⟩
        · rw [e] at hU
          exact absurd hU (by decide +kernel)
        · rw [e] at hN
          exact absurd hN (by decide +kernel)
        · obtain ⟨m', rfl, o1⟩ := okB_ix' hd h3 (i := 1) (by omega)
          have o2 := okB_its' hd _ (ix_mem (d := d) (i := 2) (by have := (tupOf_eq h3).2; omega))
          have l1 := nms_len (m' + 1) (ix d 1)
          have l2 := nms_len (m' + 1) (ix d 2)
          have l3 : 2 ^ (m' + 1) ≤ 2 ^ 18 := Nat.pow_le_pow_right (by omega) hm
          exact run_rt (F := F_names_of_treework) (by rfl) (by rfl) (by decide) (by rfl) (by rfl) (by rfl) (rif_f h0 (rtx (ife_t h1 (addL_ok (e_call1 (ixv 1 rfl h3 (by omega)) (r_names m' k _ (by omega) o1 p1 (by omega))) (e_call1 (ixv 2 rfl h3 (by omega)) (r_names m' k _ (by omega) o2 p2 (by omega))) (by
            have : (2 : Nat) ^ 18 = 262144 := by decide
            omega)))))
theorem r_expr {m n : Nat} {d : PyData} (hd : okB m d = true) (hn : 2 * m + 7 ≤ n) : run TT GL n 12 [.dat d] S = .ok (.dat (.bool (exprB (m + 1) d))) S := by
  obtain ⟨k, rfl⟩ : ∃ k, n = k + 1 := ⟨n - 1, by omega⟩
  exact run_rt (F := F_is_expression_tree) (by rfl) (by rfl) (by decide) (by rfl) (by rfl) (by rfl) (rtx (and_ok (and2_b (e_call1 (v_ok rfl) (r_part S m k d hd (by omega))) fun h => and1_b (cmp_ok (e_call1 (v_ok rfl) (r_leaves S m k d hd h (by omega))) (g_ok (by rfl)) (le_nat _ 15)))))
theorem any_view {f : PyData → Bool} {d : PyData} {ms : List Str} (h : anyB f d ms = true) : tupOf d 3 = true ∧ isT (ix d 0) .str = true ∧ inStr ms (ix d 0) = true ∧ f (ix d 1) = true ∧ f (ix d 2) = true := by
  unfold anyB at h
  rw [Bool.and_eq_true, Bool.and_eq_true, Bool.and_eq_true, Bool.and_eq_true] at h
  exact h
theorem r_testB {m n : Nat} {d : PyData} (hd : okB m d = true) (hn : 2 * m + 8 ≤ n) : run TT GL n 13 [.dat d] S = .ok (.dat (.bool (testB (m + 1) d))) S := by
  obtain ⟨k, rfl⟩ : ∃ k, n = k + 3 := ⟨n - 3, by omega⟩
  have h0 : evE (run TT GL (k + 2)) GL (.callK 9 [] [0, 1] [] [(.var 0), (.glob 7)] []) [some (.dat d)] S = .ok (.dat (.bool (anyB (partB (m + 1)) d mk2))) S :=
    e_call2 (v_ok rfl) (show evE _ GL (.glob 7) _ S = .ok (.dat (.tuple (mk2.map .str))) S from rfl) (r_any (n := k) S hd mk2_ok fun ht i hi => r_part S m (k + 1) _ (okB_ix hd ht hi) (by omega))
  unfold testB
  cases hb : anyB (partB (m + 1)) d mk2 with
  | false =>
    rw [hb] at h0
    exact run_rt (F := F_is_test_tree) (by rfl) (by rfl) (by decide) (by rfl) (by rfl) (by rfl) (rif_t (not_ok h0) (e_con _ _ _ _ _))
  | true =>
    rw [hb] at h0
    rw [Bool.true_and]
    obtain ⟨ht, _, _, p1, p2⟩ := any_view hb
    exact run_rt (F := F_is_test_tree) (by rfl) (by rfl) (by decide) (by rfl) (by rfl) (by rfl) (rif_f (not_ok h0) (rtx (and_ok (and2_b (cmp_ok (e_call1 (ixv 1 rfl ht (by omega)) (r_leaves S m (k + 2) _ (okB_ix hd ht (by omega)) p1 (by omega))) (g_ok (by rfl)) (le_nat _ 15)) fun _ => and1_b (cmp_ok (e_call1 (ixv 2 rfl ht (by omega)) (r_leaves S m (k + 2) _ (okB_ix hd ht (by omega)) p2 (by omega))) (g_ok (by rfl)) (le_nat _ 15))))))
end
end Dw

set_option Elab.async false
set_option linter.all false
set_option maxRecDepth 100000
set_option maxHeartbeats 1000000
/-! Bodies, statements, ranges, judged. -/
namespace Dw
open PySem
def bodyF (f : PyData → Bool) (d : PyData) : Bool := isT d .tuple && (its d).all f
def fullF (f : PyData → Bool) (d : PyData) : Bool := bodyF f d && !(its d).isEmpty
def brF (t f : PyData → Bool) (d : PyData) : Bool := if markB d (oS "if") 4 = true then t (ix d 1) && (fullF f (ix d 2) && bodyF f (ix d 3)) else markB d (oS "while") 3 && (t (ix d 1) && fullF f (ix d 2))
def stmtB : Nat → Bool → PyData → Bool
  | 0, _, _ => false
  | m + 1, held, d => if markB d (oS "read") 2 = true then nmB (ix d 1) else if markB d (oS "set") 3 = true then nmB (ix d 1) && exprB (m + 1) (ix d 2) else if markB d (oS "work") 2 = true then numIn (ix d 1) 1 9
    else if markB d (oS "hold") 2 = true then !held && fullF (stmtB m true) (ix d 1) else brF (testB (m + 1)) (stmtB m held) d
def leI : PyData → PyData → Bool
  | .int i, .int j => decide (i ≤ j)
  | _, _ => false
def rangedB (m : Nat) (d : PyData) : Bool := tupOf d m && (nmB (ix d 0) && (((its d).drop 1).all (numIn · 0 9) && leI (ix d 1) (ix d 2)))
def keepB (d : PyData) : Bool := rangedB 4 d && (leI (ix d 1) (ix d 3) && leI (ix d 3) (ix d 2))
theorem eqv_tnil (l : List PyData) : PyData.eqv (.tuple l) (.tuple []) = l.isEmpty := by
  cases l <;> simp [PyData.eqv, PyData.eqvAll]
theorem eq_tup0 {m : Nat} {d : PyData} (h : okB m d = true) (hm : m ≤ 50) (ht : isT d .tuple = true) : cmpD .eq d (.tuple []) = some (its d).isEmpty := by
  cases d with
  | tuple l =>
    show eqD (.tuple l) (.tuple []) = _
    have : eqD (.tuple l) (.tuple []) = some (PyData.eqv (.tuple l) (.tuple [])) := if_pos ⟨okB_shaped h hm, by decide +kernel⟩
    rw [this, eqv_tnil]
    rfl
  | _ => cases ht
theorem ne_tup0 {m : Nat} {d : PyData} (h : okB m d = true) (hm : m ≤ 50) (ht : isT d .tuple = true) : cmpD .ne d (.tuple []) = some (!(its d).isEmpty) := by
  show (cmpD .eq d (.tuple [])).map (!·) = _
  rw [eq_tup0 h hm ht]
  rfl
section
variable {C : Nat → List Val → Sto → R Val} {ρ : Rho} {S S1 S2 : Sto} {a b c e : Ex} {i j : Nat} {own : List Nat} {it : It} {ds : List PyData} {f : PyData → Bool}
theorem vi_ok {d : PyData} (hv : ρ[j]? = some (some (.dat d))) (h : isT d .tuple = true) : evI C GL (.val (.var j)) ρ S = .ok ((its d).map .dat) S := by
  refine val_ok (v_ok hv) ?_
  cases d <;> first | rfl | cases h
theorem vx_ok {d : PyData} (ha : evE C GL a ρ S = .ok (.dat d) S) (h : isT d .tuple = true) : evI C GL (.val a) ρ S = .ok ((its d).map .dat) S := by
  refine val_ok ha ?_
  cases d <;> first | rfl | cases h
theorem all_ok (hi : evI C GL it ρ S = .ok (ds.map .dat) S) (hl : ds.length ≤ 1000000) (h : ∀ d ∈ ds, evE C GL e ((wipeE ρ own).set i (some (.dat d))) S = .ok (.dat (.bool (f d))) S) : evE C GL (.blt .all1 [.cp e (.name i) it [] own]) ρ S = .ok (.dat (.bool (ds.all f))) S :=
  blt1_ok (cp_map (g := fun d => .bool (f d)) hi (by omega) h) (by rw [bl_all, allTrue_map]; rfl)
theorem chn_b {op op' : Cop} {x y z : PyData} {p q : Bool} (h1 : evE C GL a ρ S = .ok (.dat x) S) (h2 : evE C GL b ρ S = .ok (.dat y) S) (h3 : evE C GL c ρ S = .ok (.dat z) S) (c1 : cmpD op x y = some p) (c2 : cmpD op' y z = some q) : evE C GL (.chn op op' a b c) ρ S = .ok (.dat (.bool (p && q))) S := by
  rw [e_chn, h1, bind_ok, h2, bind_ok, cmpR_dat, c1, Option.map_some, give_some, bind_ok, toB_ok, bind_ok]
  cases p with
  | true => rw [if_pos rfl, h3, bind_ok, cmpR_dat, c2, Bool.true_and]; rfl
  | false => rw [if_neg (by decide)]; rfl
theorem tup0_ok' : evE C GL (.tup []) ρ S = .ok (.dat (.tuple [])) S := by
  rw [e_tup, l_nil, bind_ok, tupR_0]
end
section
variable (S : Sto)
theorem r_body {n : Nat} {d : PyData} {held : Bool} {f : PyData → Bool} (hl : (its d).length ≤ 1000) (h : ∀ x ∈ its d, run TT GL n 18 [.dat x, .dat (.bool held)] S = .ok (.dat (.bool (f x))) S) :
    run TT GL (n + 1) 15 [.dat d, .dat (.bool held)] S = .ok (.dat (.bool (bodyF f d))) S :=
  run_rt (F := F_is_body) (by rfl) (by rfl) (by decide) (by rfl) (by rfl) (by rfl) (rtx (and_ok (and2_b (isi_ok (v_ok rfl)) fun ht => and1_b (all_ok (vi_ok rfl ht) (by omega) fun x hx => e_call2 (v_ok rfl) (v_ok rfl) (h x hx)))))
theorem bodyF_tup {f : PyData → Bool} {d : PyData} (h : bodyF f d = true) : isT d .tuple = true := by
  unfold bodyF at h
  rw [Bool.and_eq_true] at h
  exact h.1
theorem r_full {n m : Nat} {d : PyData} {held : Bool} {f : PyData → Bool} (hd : okB m d = true) (hm : m ≤ 50) (h : ∀ x ∈ its d, run TT GL n 18 [.dat x, .dat (.bool held)] S = .ok (.dat (.bool (f x))) S) :
    run TT GL (n + 2) 16 [.dat d, .dat (.bool held)] S = .ok (.dat (.bool (fullF f d))) S :=
  run_rt (F := F_is_full_body) (by rfl) (by rfl) (by decide) (by rfl) (by rfl) (by rfl) (rtx (and_ok (and2_b (e_call2 (v_ok rfl) (v_ok rfl) (r_body S (okB_its hd).1 h)) fun hb => and1_b (cmp_ok (v_ok rfl) tup0_ok' (ne_tup0 hd hm (bodyF_tup hb))))))
theorem r_branch {n m : Nat} {d : PyData} {held : Bool} {t f : PyData → Bool} (hd : okB m d = true) (hm : m ≤ 50) (ht : ∀ x ∈ its d, run TT GL (n + 2) 13 [.dat x] S = .ok (.dat (.bool (t x))) S) (h : ∀ k, n ≤ k → ∀ y ∈ its d, ∀ x ∈ its y, run TT GL k 18 [.dat x, .dat (.bool held)] S = .ok (.dat (.bool (f x))) S) :
    run TT GL (n + 3) 17 [.dat d, .dat (.bool held)] S = .ok (.dat (.bool (brF t f d))) S := by
  have h1 : evE (run TT GL (n + 2)) GL (.callK 8 [] [0, 1, 2] [] [(.var 0), (.con (.str (oS "if"))), (.con (.int 4))] []) [some (.dat d), some (.dat (.bool held))] S = .ok (.dat (.bool (markB d (oS "if") 4))) S := e_call3 (v_ok rfl) (e_con _ _ _ _ _) (e_con _ _ _ _ _) (r_marked n S d (oS "if") (m := 4) (by omega))
  have h2 : evE (run TT GL (n + 2)) GL (.callK 8 [] [0, 1, 2] [] [(.var 0), (.con (.str (oS "while"))), (.con (.int 3))] []) [some (.dat d), some (.dat (.bool held))] S = .ok (.dat (.bool (markB d (oS "while") 3))) S := e_call3 (v_ok rfl) (e_con _ _ _ _ _) (e_con _ _ _ _ _) (r_marked n S d (oS "while") (m := 3) (by omega))
  have mem : ∀ {k i : Nat}, tupOf d k = true → i < k → ix d i ∈ its d := fun hk hi => ix_mem (by have := (tupOf_eq hk).2; omega)
  refine run_rt (F := F_is_branch) (by rfl) (by rfl) (by decide) (by rfl) (by rfl) (by rfl) (rif_b h1 (fun q => and_ok ?_) fun _ => rtx (and_ok ?_))
  · have q := mark_tup q
    refine and2_b (e_call1 (ixv 1 rfl q (by omega)) (ht _ (mem q (by omega)))) fun _ => and2_b (e_call2 (ixv 2 rfl q (by omega)) (v_ok rfl) (r_full S (okB_ix hd q (by omega)) hm (h n (Nat.le_refl _) _ (mem q (by omega))))) fun _ => and1_b (e_call2 (ixv 3 rfl q (by omega)) (v_ok rfl) (r_body S (okB_its (okB_ix hd q (by omega))).1 (h (n + 1) (by omega) _ (mem q (by omega)))))
  · refine and2_b h2 fun q => ?_
    have q := mark_tup q
    exact and2_b (e_call1 (ixv 1 rfl q (by omega)) (ht _ (mem q (by omega)))) fun _ => and1_b (e_call2 (ixv 2 rfl q (by omega)) (v_ok rfl) (r_full S (okB_ix hd q (by omega)) hm (h n (Nat.le_refl _) _ (mem q (by omega)))))
theorem r_stmt : ∀ (m n : Nat) (d : PyData) (held : Bool), m ≤ 50 → okB m d = true → 4 * m + 12 ≤ n → run TT GL n 18 [.dat d, .dat (.bool held)] S = .ok (.dat (.bool (stmtB (m + 1) held d))) S
  | m, n, d, held, hm, hd, hn => by
    obtain ⟨k, rfl⟩ : ∃ k, n = k + 4 := ⟨n - 4, by omega⟩
    have mk : ∀ (s : String) (j : Nat), 1 ≤ j → evE (run TT GL (k + 3)) GL (.callK 8 [] [0, 1, 2] [] [(.var 0), (.con (.str (oS s))), (.con (.int (j : Int)))] []) [some (.dat d), some (.dat (.bool held))] S = .ok (.dat (.bool (markB d (oS s) j))) S := fun s j hj => e_call3 (v_ok rfl) (e_con _ _ _ _ _) (e_con _ _ _ _ _) (r_marked (k + 1) S d (oS s) hj)
    have ih : ∀ (held : Bool) (n : Nat), k ≤ n → ∀ y ∈ its d, ∀ x ∈ its y, run TT GL n 18 [.dat x, .dat (.bool held)] S = .ok (.dat (.bool (stmtB m held x))) S := fun held n hn y hy x hx => by
      cases d with
      | tuple l =>
        obtain ⟨m', rfl, _, h2⟩ := okB_tup hd
        exact r_stmt m' n x held (by omega) ((okB_its (h2 y hy)).2 x hx) (by omega)
      | _ => exact nomatch hy
    refine run_rt (F := F_is_statement) (by rfl) (by rfl) (by decide) (by rfl) (by rfl) (by rfl) (rif_b (mk "read" 2 (by omega)) (fun q => ?_) fun _ => rif_b (mk "set" 3 (by omega)) (fun q => and_ok ?_) fun _ => rif_b (mk "work" 2 (by omega)) (fun q => ?_) fun _ => rif_b (mk "hold" 2 (by omega)) (fun q => and_ok ?_) fun _ => rtx ?_)
    · have q := mark_tup q
      exact e_call1 (ixv 1 rfl q (by omega)) (r_name (k + 1) S (okB_ix hd q (by omega)))
    · have q := mark_tup q
      exact and2_b (e_call1 (ixv 1 rfl q (by omega)) (r_name (k + 1) S (okB_ix hd q (by omega)))) fun _ => and1_b (e_call1 (ixv 2 rfl q (by omega)) (r_expr S (okB_ix hd q (by omega)) (by omega)))
    · have q := mark_tup q
      exact e_call3 (ixv 1 rfl q (by omega)) (e_con _ _ _ _ _) (g_ok (by rfl)) (r_number (k + 1) S _ 1 9)
    · have q := mark_tup q
      exact and2_b (not_ok (v_ok rfl)) fun _ => and1_b (e_call2 (ixv 1 rfl q (by omega)) (e_con _ _ _ _ _) (r_full S (okB_ix hd q (by omega)) hm (ih true (k + 1) (by omega) _ (ix_mem (by have := (tupOf_eq q).2; omega)))))
    · exact e_call2 (v_ok rfl) (v_ok rfl) (r_branch S hd hm (fun x hx => r_testB S ((okB_its hd).2 x hx) (by omega)) fun n hn => ih held n (by omega))
theorem cut_1n (l : List PyData) : cutD l (some 1) none = l.drop 1 := by
  unfold cutD
  cases l with
  | nil => rfl
  | cons a r =>
    have e1 : sIx (a :: r).length 0 (some 1) = 1 := by
      unfold sIx
      simp
    have e2 : sIx (a :: r).length (a :: r).length none = r.length + 1 := rfl
    rw [e1, e2]
    simp
theorem num_int {d : PyData} {lo hi : Int} (h : numIn d lo hi = true) : ∃ i, d = .int i := by
  cases d <;> first | exact ⟨_, rfl⟩ | cases h
theorem ix_drop {d : PyData} {i : Nat} (h : i + 1 < (its d).length) : ix d (i + 1) ∈ (its d).drop 1 := by
  unfold ix
  rw [List.getElem?_eq_getElem h]
  refine List.mem_iff_getElem.mpr ⟨i, by rw [List.length_drop]; omega, ?_⟩
  rw [List.getElem_drop]
  show (its d)[1 + i] = (its d)[i + 1]
  congr 1
  omega
theorem rif_not2 {C : Nat → List Val → Sto → R Val} {ρ : Rho} {S : Sto} {a b e : Ex} {p q : Bool} {x : Bool} (h1 : evE C GL a ρ S = .ok (.dat (.bool p)) S) (h2 : p = true → evE C GL b ρ S = .ok (.dat (.bool q)) S)
    (h4 : p = true → q = true → evE C GL e ρ S = .ok (.dat (.bool x)) S) : evSs C GL [.ife (.or [.not a, .not b]) [.ret (.con (.bool false))] [], .ret e] ρ S = .rt (.dat (.bool (p && (q && x)))) S := by
  cases p with
  | false => exact rif_t (or_ok (or2_t (not_ok h1))) (e_con _ _ _ _ _)
  | true =>
    cases q with
    | false => exact rif_t (or_ok (or2_f (not_ok h1) (or1_b (not_ok (h2 rfl))))) (e_con _ _ _ _ _)
    | true => exact rif_f (or_ok (or2_f (not_ok h1) (or1_b (not_ok (h2 rfl))))) (rtx (h4 rfl rfl))
theorem le_ints {a b : PyData} (ha : ∃ i, a = .int i) (hb : ∃ i, b = .int i) : cmpD .le a b = some (leI a b) := by
  obtain ⟨i, rfl⟩ := ha
  obtain ⟨j, rfl⟩ := hb
  rfl
theorem ranged_view {k : Nat} {d : PyData} (h : rangedB k d = true) : tupOf d k = true ∧ nmB (ix d 0) = true ∧ (∀ i, i + 1 < k → numIn (ix d (i + 1)) 0 9 = true) ∧ leI (ix d 1) (ix d 2) = true := by
  unfold rangedB at h
  rw [Bool.and_eq_true, Bool.and_eq_true, Bool.and_eq_true, List.all_eq_true] at h
  obtain ⟨a, b, c, e⟩ := h
  exact ⟨a, b, fun i hi => c _ (ix_drop (by have := (tupOf_eq a).2; omega)), e⟩
theorem r_ranged {n m : Nat} {d : PyData} (k : Nat) (hk : 3 ≤ k) (hd : okB m d = true) : run TT GL (n + 3) 23 [.dat d, .dat (iN k)] S = .ok (.dat (.bool (rangedB k d))) S := by
  refine run_rt (F := F_is_ranged) (by rfl) (by rfl) (by decide) (by rfl) (by rfl) (by rfl) (rif_not2 (e_call2 (v_ok rfl) (v_ok rfl) (r_tupof (n + 1) S d k)) (fun h => e_call1 (ixv 0 rfl h (by omega)) (r_name n S (okB_ix hd h (by omega)))) fun h _ => and_ok (and2_b (all_ok (ds := (its d).drop 1) ?_ ?_ ?_) fun h2 => and1_b (cmp_ok (ixv 1 rfl h (by omega)) (ixv 2 rfl h (by omega)) ?_)))
  · refine vx_ok (d := .tuple ((its d).drop 1)) (sl_ok (v_ok rfl) (oc_ok 1) on_ok ?_) rfl
    rw [(tupOf_eq h).1]
    exact congrArg (fun l => some (PyData.tuple l)) (cut_1n _)
  · have := (okB_its hd).1
    rw [List.length_drop]
    omega
  · exact fun x hx => e_call3 (v_ok rfl) (e_con _ _ _ _ _) (g_ok (by rfl)) (r_number n S x 0 9)
  · rw [List.all_eq_true] at h2
    have hl := (tupOf_eq h).2
    exact le_ints (num_int (h2 _ (ix_drop (i := 0) (by omega)))) (num_int (h2 _ (ix_drop (i := 1) (by omega))))
theorem r_keep {n m : Nat} {d : PyData} (hd : okB m d = true) : run TT GL (n + 4) 24 [.dat d] S = .ok (.dat (.bool (keepB d))) S := by
  refine run_rt (F := F_is_keep) (by rfl) (by rfl) (by decide) (by rfl) (by rfl) (by rfl) (rtx (and_ok (and2_b (e_call2 (v_ok rfl) (e_con _ _ _ _ _) (r_ranged (n := n) S 4 (by omega) hd)) fun h => and1_b ?_)))
  obtain ⟨h, _, hn, _⟩ := ranged_view h
  have i1 := num_int (hn 0 (by omega))
  have i2 := num_int (hn 1 (by omega))
  have i3 := num_int (hn 2 (by omega))
  exact chn_b (ixv 1 rfl h (by omega)) (ixv 3 rfl h (by omega)) (ixv 2 rfl h (by omega)) (le_ints i1 i3) (le_ints i3 i2)
end
end Dw

set_option Elab.async false
set_option linter.all false
set_option maxRecDepth 100000
set_option maxHeartbeats 1000000
/-! Names that are unlike; own names; the places of statements. -/
namespace Dw
open PySem
def numbD : Nat → List PyData → List PyData
  | _, [] => []
  | i, d :: r => .tuple [iN i, d] :: numbD (i + 1) r
theorem numb_eq : ∀ (l : List PyData) (i : Nat), numb i l = (numbD i l).map .dat
  | [], _ => rfl
  | d :: r, i => by
    show Val.dat (.tuple [iN i, d]) :: numb (i + 1) r = _
    rw [numb_eq r]
    rfl
theorem numbD_mem : ∀ {l : List PyData} {i : Nat} {x : PyData}, x ∈ numbD i l → ∃ j, ∃ h : j < l.length, x = .tuple [iN (i + j), l[j]]
  | d :: r, i, x, h => by
    rcases List.mem_cons.mp h with rfl | h
    · exact ⟨0, by simp, rfl⟩
    · obtain ⟨j, hj, e⟩ := numbD_mem h
      exact ⟨j + 1, by simpa using hj, by rw [e, show i + 1 + j = i + (j + 1) by omega]; rfl⟩
theorem numbD_len : ∀ (l : List PyData) (i : Nat), (numbD i l).length = l.length
  | [], _ => rfl
  | d :: r, i => by
    show (numbD (i + 1) r).length + 1 = _
    rw [numbD_len r]
    rfl
def unlG (l : List PyData) (x : PyData) : Bool := match ix x 0 with
  | .int i => !((l.take i.toNat).any fun z => PyData.eqv z (ix x 1))
  | _ => false
def unlB (l : List PyData) : Bool := (numbD 0 l).all (unlG l)
section
variable {C : Nat → List Val → Sto → R Val} {G : List PyData} {ρ : Rho} {S S1 : Sto} {e c : Ex} {i j : Nat} {own : List Nat} {it : It} {ds : List PyData}
/-- a comprehension over pairs -/
theorem cp_map2 {p q g : PyData → PyData} (hi : evI C G it ρ S = .ok (ds.map .dat) S1) (hl : ds.length ≤ 16777216) (hs : ∀ d ∈ ds, d = .tuple [p d, q d])
    (h : ∀ d ∈ ds, evE C G e (((wipeE ρ own).set i (some (.dat (p d)))).set j (some (.dat (q d)))) S1 = .ok (.dat (g d)) S1) : evE C G (.cp e (.names [i, j]) it [] own) ρ S = .ok (.dat (.list (ds.map g))) S1 := by
  rw [e_cpF]
  unfold cpF
  rw [hi, bind_ok, if_pos (show (ds.map Val.dat).length ≤ LINE from line_big (by rw [List.length_map]; exact hl)), compL_dat (g := fun v => match v with
    | .dat d => g d
    | _ => .none)]
  · rw [bind_ok, lstR_dat, List.map_map]
    rfl
  · intro v hv
    obtain ⟨d, hd, rfl⟩ := List.mem_map.mp hv
    have h := h d hd
    unfold turnF
    rw [hs d hd] at h ⊢
    rw [setTg_names2]
    simp only
    rw [if_nil, bind_ok, if_pos rfl]
    rw [← hs d hd] at h ⊢
    rw [h, bind_ok, calm_ok']
theorem cp_filt2 {t : PyData → Bool} {p q g : PyData → PyData} (hi : evI C G it ρ S = .ok (ds.map .dat) S1) (hl : ds.length ≤ 16777216) (hs : ∀ d ∈ ds, d = .tuple [p d, q d])
    (hp : ∀ d ∈ ds, evE C G c (((wipeE ρ own).set i (some (.dat (p d)))).set j (some (.dat (q d)))) S1 = .ok (.dat (.bool (t d))) S1)
    (h : ∀ d ∈ ds, t d = true → evE C G e (((wipeE ρ own).set i (some (.dat (p d)))).set j (some (.dat (q d)))) S1 = .ok (.dat (g d)) S1) : evE C G (.cp e (.names [i, j]) it [c] own) ρ S = .ok (.dat (.list ((ds.filter t).map g))) S1 := by
  rw [e_cpF]
  unfold cpF
  rw [hi, bind_ok, if_pos (show (ds.map Val.dat).length ≤ LINE from line_big (by rw [List.length_map]; exact hl)), compL_opt (g := fun v => match v with
    | .dat d => if t d = true then some (g d) else none
    | _ => none)]
  · rw [bind_ok, lstR_dat, List.filterMap_map]
    have : ∀ ds : List PyData, List.filterMap ((fun v => match v with
      | Val.dat d => if t d = true then some (g d) else none
      | _ => none) ∘ Val.dat) ds = (ds.filter t).map g := by
      intro ds
      induction ds with
      | nil => rfl
      | cons d ds ih =>
        rw [List.filterMap_cons, List.filter_cons]
        simp only [Function.comp] at ih ⊢
        cases t d with
        | true => simp only [if_true, List.map_cons]; rw [ih]
        | false => simp only [Bool.false_eq_true, if_false]; exact ih
    rw [this]
  · intro v hv
    obtain ⟨d, hd, rfl⟩ := List.mem_map.mp hv
    have h := h d hd
    have hp := hp d hd
    unfold turnF
    have e0 : setTg (.names [i, j]) (.dat d) (wipeE ρ own) = some (((wipeE ρ own).set i (some (.dat (p d)))).set j (some (.dat (q d)))) := by
      have := setTg_names2 i j (p d) (q d) (wipeE ρ own)
      rwa [← hs d hd] at this
    rw [e0]
    simp only
    rw [if_one, hp, bind_ok, toB_ok, bind_ok]
    by_cases u : t d = true
    · rw [if_pos u, if_pos u, h u, bind_ok, calm_ok']
      rfl
    · rw [if_neg u, if_neg u, calm_ok']
      rfl
end
section
variable (S : Sto)
theorem cut_0i (l : List PyData) (i : Nat) : cutD l none (some (i : Int)) = l.take i := by
  unfold cutD
  have e1 : sIx l.length 0 none = 0 := rfl
  have e2 : sIx l.length l.length (some (i : Int)) = min i l.length := by
    show (if (0 : Int) ≤ (i : Int) then min (i : Int).toNat l.length else ((i : Int) + (l.length : Int)).toNat) = _
    rw [if_pos (by omega), Int.toNat_natCast]
  rw [e1, e2, List.drop_zero, Nat.sub_zero]
  rw [← List.take_eq_take_min]
theorem r_unlike {n m : Nat} {l : List PyData} (hd : okB m (.list l) = true) (hm : m ≤ 50) (hs : ∀ x ∈ l, isT x .str = true) : run TT GL (n + 1) 6 [.dat (.list l)] S = .ok (.dat (.bool (unlB l))) S := by
  obtain ⟨k, rfl, hl, ho⟩ := okB_lst hd
  refine run_rt (F := F_are_unlike) (by rfl) (by rfl) (by decide) (by rfl) (by rfl) (by rfl) (rtx (blt1_ok (cp_map2 (ds := numbD 0 l) (p := fun d => ix d 0) (q := fun d => ix d 1) (g := fun d => .bool (unlG l d)) ?_ ?_ ?_ ?_) (by rw [bl_all, allTrue_map]; rfl)))
  · rw [i_enu, v_ok (v := .dat (.list l)) rfl, bind_ok]
    show give (some (numb 0 l)) S = _
    rw [numb_eq, give_some]
  · rw [numbD_len]
    omega
  · intro d hd
    obtain ⟨j, hj, rfl⟩ := numbD_mem hd
    rfl
  · intro d hd
    obtain ⟨j, hj, rfl⟩ := numbD_mem hd
    rw [Nat.zero_add]
    have ht : ∀ x ∈ l.take j, okB k x = true := fun x hx => ho x (List.mem_of_mem_take hx)
    have hx := hs l[j] (List.getElem_mem hj)
    have hox := ho l[j] (List.getElem_mem hj)
    refine cmp_ok (v_ok rfl) (sl_ok (z := .list (l.take j)) (v_ok rfl) on_ok (h := some (j : Int)) (S3 := S) ?_ ?_) ?_
    · rw [o_some, v_ok (v := .dat (iN j)) rfl, bind_ok, toI_ok, bind_ok]
    · exact congrArg (fun l => some (PyData.list l)) (cut_0i l j)
    · show cmpD .nin l[j] (.list (l.take j)) = some (!((l.take ((j : Int)).toNat).any fun z => PyData.eqv z l[j]))
      obtain ⟨z, hz⟩ := isT_str hx
      rw [hz] at hox ⊢
      rw [nin_lst (str_ok hox).2 (okB_shaped (m := k + 1) (ok_lst (by rw [List.length_take]; omega) ht) hm), Int.toNat_natCast]
def ownN (d : PyData) : List PyData := (its (ix d 2)).map (fun x => ix x 0) ++ (its (ix d 3)).map fun x => ix x 0
theorem r_own {n m : Nat} {d : PyData} (hd : okB m d = true) (ht : tupOf d 7 = true) (h2 : isT (ix d 2) .tuple = true) (h3 : isT (ix d 3) .tuple = true) (k2 : ∀ x ∈ its (ix d 2), tupOf x 4 = true) (k3 : ∀ x ∈ its (ix d 3), tupOf x 3 = true) :
    run TT GL (n + 1) 25 [.dat d] S = .ok (.dat (.list (ownN d))) S := by
  have l2 := (okB_its (okB_ix hd ht (i := 2) (by omega))).1
  have l3 := (okB_its (okB_ix hd ht (i := 3) (by omega))).1
  exact run_rt (F := F_own_names) (by rfl) (by rfl) (by decide) (by rfl) (by rfl) (by rfl) (rtx (addL_ok (cp_map (vx_ok (ixv 2 rfl ht (by omega)) h2) (by omega) fun x hx => ixv 0 rfl (k2 x hx) (by omega)) (cp_map (vx_ok (ixv 3 rfl ht (by omega)) h3) (by omega) fun x hx => ixv 0 rfl (k3 x hx) (by omega)) (by rw [List.length_map, List.length_map]; omega)))
end
end Dw

set_option Elab.async false
set_option linter.all false
set_option maxRecDepth 100000
set_option maxHeartbeats 1000000
/-! The places of statements. -/
namespace Dw
open PySem
abbrev bodD : List PyData := [.tuple [sS "hold", .int 1], .tuple [sS "if", .int 2], .tuple [sS "if", .int 3], .tuple [sS "while", .int 2], .tuple [sS "either", .int 1], .tuple [sS "either", .int 2]]
def bodB (w i : PyData) : Bool := bodD.any fun z => PyData.eqv z (.tuple [w, i])
def inrD (d : PyData) : List PyData := (numbD 0 (its d)).filter fun x => bodB (ix d 0) (ix x 0)
theorem inr_form {d q : PyData} (h : q ∈ inrD d) : ∃ j, j < (its d).length ∧ q = .tuple [iN j, ix d j] := by
  obtain ⟨j, hj, e⟩ := numbD_mem (List.mem_filter.mp h).1
  refine ⟨j, hj, ?_⟩
  rw [e, Nat.zero_add]
  unfold ix
  rw [List.getElem?_eq_getElem hj]
  rfl
theorem tup_len {d : PyData} (h : isT d .tuple = true) : tupOf d (its d).length = true := by
  unfold tupOf
  rw [h]
  simp
section
variable (S : Sto)
theorem r_bodied {n m j : Nat} {w : Str} (hw : okB m (.str w) = true) (hj : j < 1000000000) : run TT GL (n + 1) 20 [.dat (.str w), .dat (iN j)] S = .ok (.dat (.bool (bodB (.str w) (iN j)))) S := by
  refine run_rt (F := F_is_bodied) (by rfl) (by rfl) (by decide) (by rfl) (by rfl) (by rfl) (rtx (cmp_ok (tup2_ok (v_ok rfl) (v_ok rfl)) (show evE _ GL (.tup [(.tup [(.con (.str (Str.ofString "hold"))), (.con (.int 1))]), (.tup [(.con (.str (Str.ofString "if"))), (.con (.int 2))]), (.tup [(.con (.str (Str.ofString "if"))), (.con (.int 3))]), (.tup [(.con (.str (Str.ofString "while"))), (.con (.int 2))]), (.tup [(.con (.str (Str.ofString "either"))), (.con (.int 1))]), (.tup [(.con (.str (Str.ofString "either"))), (.con (.int 2))])]) _ S = .ok (.dat (.tuple bodD)) S from rfl) ?_))
  have sh : SeqAt.shaped (.tuple [.str w, iN j]) = true := okB_shaped (m := 1) (ok_tup (m := 0) (by simp) (all2 (ok_str (str_ok hw).1 (str_ok hw).2) (ok_int (by omega)))) (by omega)
  exact if_pos ⟨sh, by decide +kernel⟩
theorem r_inner {n m : Nat} {d : PyData} {w : Str} (hd : okB m d = true) (ht : isT d .tuple = true) (h0 : 0 < (its d).length) (hw : ix d 0 = .str w) : run TT GL (n + 2) 19 [.dat d] S = .ok (.dat (.list (inrD d))) S := by
  have hl := (okB_its hd).1
  have tl := tup_len ht
  have := cp_filt2 (C := run TT GL (n + 1)) (G := GL) (ρ := [some (.dat d), none, none]) (S := S) (S1 := S) (e := .tup [(.var 1), (.var 2)]) (c := .callK 20 [] [0, 1] [] [(.idx (.var 0) (.con (.int 0))), (.var 1)] []) (i := 1) (j := 2) (own := [1, 2]) (it := .enu (.var 0))
    (ds := numbD 0 (its d)) (t := fun x => bodB (ix d 0) (ix x 0)) (p := fun x => ix x 0) (q := fun x => ix x 1) (g := fun x => x) (by
      rw [i_enu, v_ok (v := .dat d) rfl, bind_ok]
      have : itemsE S (.dat d) = some ((numbD 0 (its d)).map .dat) := by
        rw [← numb_eq]
        cases d <;> first | rfl | cases ht
      rw [this, give_some]) (by rw [numbD_len]; omega) (fun x hx => by
      obtain ⟨j, hj, rfl⟩ := numbD_mem hx
      rfl) (fun x hx => by
      obtain ⟨j, hj, rfl⟩ := numbD_mem hx
      rw [hw]
      have hi := ix_at tl h0
      rw [hw] at hi
      refine e_call2 (idx_ok (v_ok rfl) (e_con _ _ _ _ _) hi) (v_ok rfl) ?_
      have ho := okB_ix hd tl h0
      rw [hw] at ho
      exact r_bodied S ho (by omega)) (fun x hx _ => by
      obtain ⟨j, hj, rfl⟩ := numbD_mem hx
      exact tup2_ok (v_ok rfl) (v_ok rfl))
  rw [List.map_id'] at this
  exact run_rt (F := F_inner_bodies) (by rfl) (by rfl) (by decide) (by rfl) (by rfl) (by rfl) (rtx this)
end
def PlB : Nat → PyData → Prop
  | 0, _ => False
  | m + 1, b => isT b .tuple = true ∧ ∀ st ∈ its b, isT st .tuple = true ∧ 0 < (its st).length ∧ (∃ w, ix st 0 = .str w) ∧ ∀ q ∈ inrD st, PlB m (ix q 1)
abbrev plG (f : PyData → List PyData) (i : Nat) (q : PyData) : List PyData := (f (ix q 1)).map fun p => .tuple [.tuple (iN i :: ix q 0 :: its (ix p 0)), ix p 1]
def plcS (f : PyData → List PyData) (i : Nat) (st : PyData) : List PyData := .tuple [.tuple [iN i], st] :: ((inrD st).map (plG f i)).flatten
def plcL (f : PyData → List PyData) : Nat → List PyData → List PyData
  | _, [] => []
  | i, st :: r => plcS f i st ++ plcL f (i + 1) r
def plc : Nat → PyData → List PyData
  | 0, _ => []
  | m + 1, b => plcL (plc m) 0 (its b)
theorem plcL_mem {f : PyData → List PyData} : ∀ {l : List PyData} {i : Nat} {p : PyData}, p ∈ plcL f i l → ∃ j st, st ∈ l ∧ p ∈ plcS f j st
  | st :: r, i, p, h => by
    unfold plcL at h
    rcases List.mem_append.mp h with h | h
    · exact ⟨i, st, List.mem_cons_self, h⟩
    · obtain ⟨j, s, a, b⟩ := plcL_mem h
      exact ⟨j, s, List.mem_cons_of_mem _ a, b⟩
theorem plc_form : ∀ {m : Nat} {b p : PyData}, p ∈ plc m b → ∃ l st, p = .tuple [.tuple l, st] ∧ l.length ≤ 2 * m
  | m + 1, b, p, h => by
    unfold plc at h
    obtain ⟨j, st, _, h⟩ := plcL_mem h
    unfold plcS at h
    rcases List.mem_cons.mp h with rfl | h
    · exact ⟨_, _, rfl, by show 1 ≤ _; omega⟩
    · obtain ⟨x, hx, hp⟩ := List.mem_flatten.mp h
      obtain ⟨q, _, rfl⟩ := List.mem_map.mp hx
      obtain ⟨p', hp', rfl⟩ := List.mem_map.mp hp
      obtain ⟨l, st', rfl, hl⟩ := plc_form hp'
      exact ⟨_, _, rfl, by show l.length + 1 + 1 ≤ _; omega⟩
theorem plcL_le {f : PyData → List PyData} {st : PyData} : ∀ {l : List PyData} {i : Nat}, st ∈ l → ∃ j, (plcS f j st).length ≤ (plcL f i l).length
  | a :: r, i, h => by
    unfold plcL
    rw [List.length_append]
    rcases List.mem_cons.mp h with rfl | h
    · exact ⟨i, by omega⟩
    · obtain ⟨j, hj⟩ := plcL_le (f := f) (i := i + 1) h
      exact ⟨j, by omega⟩
theorem flat_le {x : List PyData} : ∀ {l : List (List PyData)}, x ∈ l → x.length ≤ l.flatten.length
  | a :: r, h => by
    rw [List.flatten_cons, List.length_append]
    rcases List.mem_cons.mp h with rfl | h
    · omega
    · have := flat_le h
      omega
theorem plc_part {m : Nat} {b st q : PyData} (hs : st ∈ its b) (hq : q ∈ inrD st) : (plc m (ix q 1)).length ≤ (plc (m + 1) b).length := by
  obtain ⟨j, hj⟩ := plcL_le (f := plc m) (i := 0) hs
  have : (plG (plc m) j q).length ≤ _ := flat_le (List.mem_map_of_mem hq)
  rw [List.length_map] at this
  show _ ≤ (plcL (plc m) 0 (its b)).length
  unfold plcS at hj
  rw [List.length_cons] at hj
  omega
/-- the list that is found, at its place -/
structure Fnd (S0 : Sto) (c : Nat) (S1 : Sto) (acc : List PyData) : Prop where
  at_ : S1[c]? = some acc
  le : S0.length ≤ c
  pre : S1.take S0.length = S0
theorem Fnd.lt {S0 S1 : Sto} {c : Nat} {acc : List PyData} (h : Fnd S0 c S1 acc) : c < S1.length := (List.getElem?_eq_some_iff.mp h.at_).1
theorem Fnd.start (S0 : Sto) : Fnd S0 S0.length (S0 ++ [[]]) [] := ⟨by simp, Nat.le_refl _, by simp⟩
theorem Fnd.app {S0 S1 : Sto} {c : Nat} {acc acc2 : List PyData} (h : Fnd S0 c S1 acc) : Fnd S0 c (S1.set c acc2) acc2 :=
  ⟨set_same h.at_, h.le, by rw [List.take_set_of_le h.le]; exact h.pre⟩
theorem Fnd.cat {S0 S1 : Sto} {c : Nat} {acc acc2 : List PyData} (h : Fnd S0 c S1 acc) : Fnd S0 S1.length (S1 ++ [acc2]) acc2 := by
  have := h.lt
  have h1 := h.le
  exact ⟨by simp, by omega, by rw [List.take_append_of_le_length (by omega)]; exact h.pre⟩
theorem plains_map (l : List PyData) : plains (l.map .dat) = some l := by
  induction l with
  | nil => rfl
  | cons d l ih => simp [plains, ih]
section
variable {C : Nat → List Val → Sto → R Val} {ρ : Rho} {S S1 S2 : Sto} {a b c : Ex} {x y : PyData} {l : List PyData}
theorem d_nil (st : List Bool) : evD C GL [] st ρ S = .ok [] S := id rfl
theorem d_cons (e : Ex) (es : List Ex) (st : List Bool) : evD C GL (e :: es) st ρ S = (evE C GL e ρ S).bind fun v S => (splD (st.headD false) v S).bind fun us S => (evD C GL es st.tail ρ S).bind fun vs S => .ok (us ++ vs) S := id rfl
theorem e_dsp (tp : Bool) (es : List Ex) (st : List Bool) : evE C GL (.dsp tp es st) ρ S = (evD C GL es st ρ S).bind (dspR tp) := id rfl
theorem spl_f (v : Val) : splD false v S = .ok [v] S := id rfl
theorem spl_t : splD true (.dat (.tuple l)) S = .ok (l.map .dat) S := id rfl
theorem spl_l : splD true (.dat (.list l)) S = .ok (l.map .dat) S := id rfl
theorem dspR_ok {tp : Bool} {vs : List Val} (h : plains vs = some l) (hl : vs.length ≤ 1000000) : dspR tp vs S = .ok (.dat (mkD tp l)) S := by
  unfold dspR
  rw [if_pos (line_big (by omega)), h]
  rfl
theorem dsp_fft (h1 : evE C GL a ρ S = .ok (.dat x) S) (h2 : evE C GL b ρ S = .ok (.dat y) S) (h3 : evE C GL c ρ S = .ok (.dat (.tuple l)) S) (hl : l.length ≤ 100000) : evE C GL (.dsp true [a, b, c] [false, false, true]) ρ S = .ok (.dat (.tuple (x :: y :: l))) S := by
  rw [e_dsp, d_cons, h1, bind_ok]
  show ((splD false (.dat x) S).bind _).bind _ = _
  rw [spl_f, bind_ok, d_cons, h2, bind_ok]
  show (((splD false (.dat y) S).bind _).bind _).bind _ = _
  rw [spl_f, bind_ok, d_cons, h3, bind_ok]
  show ((((splD true (.dat (.tuple l)) S).bind _).bind _).bind _).bind _ = _
  rw [spl_t, bind_ok, d_nil, bind_ok, bind_ok, bind_ok, bind_ok]
  refine dspR_ok (tp := true) ?_ ?_
  · rw [List.append_nil]
    exact plains_map (x :: y :: l)
  · simp
    omega
theorem dsp_ft (h1 : evE C GL a ρ S = .ok (.dat x) S) (h2 : evE C GL b ρ S = .ok (.dat (.list l)) S) (hl : l.length ≤ 500000) : evE C GL (.dsp false [a, b] [false, true]) ρ S = .ok (.dat (.list (x :: l))) S := by
  rw [e_dsp, d_cons, h1, bind_ok]
  show ((splD false (.dat x) S).bind _).bind _ = _
  rw [spl_f, bind_ok, d_cons, h2, bind_ok]
  show (((splD true (.dat (.list l)) S).bind _).bind _).bind _ = _
  rw [spl_l, bind_ok, d_nil, bind_ok, bind_ok, bind_ok]
  refine dspR_ok (tp := false) ?_ ?_
  · rw [List.append_nil]
    exact plains_map (x :: l)
  · simp
    omega
theorem cat_new {v k : Nat} {acc m : List PyData} (hv : ρ[v]? = some (some (.cell k))) (hk : S[k]? = some acc) (h : evE C GL b ρ S = .ok (.dat (.list m)) S) (hl : acc.length + m.length ≤ 1000000) : evE C GL (.cat (.var v) b) ρ S = .ok (.cell S.length) (S ++ [acc ++ m]) := by
  rw [e_cat, v_ok hv, bind_ok, h, bind_ok]
  unfold catR
  have e1 : derefB S (.cell k) = some (.list acc) := by
    show (S[k]?).map PyData.list = _
    rw [hk]
    rfl
  rw [e1]
  exact if_pos (line_big (by omega))
theorem loop_pair {i j : Nat} {body : Rho → Sto → SR} {x y : PyData} {vs : List Val} {ρ ρ1 : Rho} {q : SR} (h : body ((ρ.set i (some (.dat x))).set j (some (.dat y))) S = .nx ρ1 S1) (h2 : loopF (.names [i, j]) body vs ρ1 S1 = q) : loopF (.names [i, j]) body (.dat (.tuple [x, y]) :: vs) ρ S = q := by
  unfold loopF
  rw [setTg_names2]
  simp only [h]
  exact h2
end
abbrev plI : List Sx := [.asg (.name 1) (.cat (.var 1) (.cp (.tup [(.dsp true [(.var 2), (.var 4), (.var 6)] [false, false, true]), (.var 7)]) (.names [6, 7]) (.val (.callK 21 [] [0] [] [(.var 5)] [])) [] [6, 7]))]
abbrev plR (d : PyData) (c : Nat) (x2 x3 x4 x5 : Option Val) : Rho := [some (.dat d), some (.cell c), x2, x3, x4, x5, none, none]
section
variable {C : Nat → List Val → Sto → R Val}
theorem pl_inner {S0 : Sto} {d st : PyData} {i M : Nat} (f : PyData → List PyData) (hM : M ≤ 100) : ∀ (qs : List PyData) (c : Nat) (acc : List PyData) (S1 : Sto) (x4 x5 : Option Val), Fnd S0 c S1 acc → (∀ q ∈ qs, q = .tuple [ix q 0, ix q 1] ∧ (∀ S, C 21 [.dat (ix q 1)] S = .ok (.dat (.list (f (ix q 1)))) S) ∧ ∀ p ∈ f (ix q 1), ∃ l st, p = .tuple [.tuple l, st] ∧ l.length ≤ 2 * M) →
    acc.length + ((qs.map (plG f i)).flatten).length ≤ 100000 → ∃ c' S2 y4 y5, loopF (.names [4, 5]) (evSs C GL plI) (qs.map .dat) (plR d c (some (.dat (iN i))) (some (.dat st)) x4 x5) S1 = .nx (plR d c' (some (.dat (iN i))) (some (.dat st)) y4 y5) S2 ∧ Fnd S0 c' S2 (acc ++ (qs.map (plG f i)).flatten)
  | [], c, acc, S1, x4, x5, hF, _, _ => ⟨c, S1, x4, x5, rfl, by rw [List.map_nil, List.flatten_nil, List.append_nil]; exact hF⟩
  | q :: qs, c, acc, S1, x4, x5, hF, hq, hl => by
    rw [List.map_cons, List.flatten_cons, List.length_append] at hl
    obtain ⟨e, hc, hp⟩ := hq q List.mem_cons_self
    have lG : (plG f i q).length = (f (ix q 1)).length := List.length_map ..
    have e1 : evE C GL (.cp (.tup [(.dsp true [(.var 2), (.var 4), (.var 6)] [false, false, true]), (.var 7)]) (.names [6, 7]) (.val (.callK 21 [] [0] [] [(.var 5)] [])) [] [6, 7]) (plR d c (some (.dat (iN i))) (some (.dat st)) (some (.dat (ix q 0))) (some (.dat (ix q 1)))) S1 = .ok (.dat (.list (plG f i q))) S1 :=
      cp_map2 (p := fun p => ix p 0) (q := fun p => ix p 1) (g := fun p => .tuple [.tuple (iN i :: ix q 0 :: its (ix p 0)), ix p 1]) (val_ok (e_call1 (v_ok rfl) (hc S1)) (items_l _)) (by omega) (fun p hm => by
        obtain ⟨l, s, rfl, _⟩ := hp p hm
        rfl) fun p hm => by
        obtain ⟨l, s, rfl, hl⟩ := hp p hm
        exact tup2_ok (dsp_fft (v_ok rfl) (v_ok rfl) (v_ok (v := .dat (.tuple l)) rfl) (show l.length ≤ 100000 by omega)) (v_ok rfl)
    have e2 := cat_new (v := 1) (ρ := plR d c (some (.dat (iN i))) (some (.dat st)) (some (.dat (ix q 0))) (some (.dat (ix q 1)))) rfl hF.at_ e1 (by omega)
    have F2 : Fnd S0 S1.length (S1 ++ [acc ++ plG f i q]) (acc ++ plG f i q) := hF.cat
    obtain ⟨c', S2, y4, y5, e3, F3⟩ := pl_inner (d := d) (st := st) (i := i) f hM qs S1.length _ _ (some (.dat (ix q 0))) (some (.dat (ix q 1))) F2 (fun q' h => hq q' (List.mem_cons_of_mem _ h)) (by rw [List.length_append]; omega)
    refine ⟨c', S2, y4, y5, ?_, by rw [List.map_cons, List.flatten_cons, ← List.append_assoc]; exact F3⟩
    rw [List.map_cons]
    have : (Val.dat q :: qs.map Val.dat) = (Val.dat (.tuple [ix q 0, ix q 1]) :: qs.map Val.dat) := by rw [← e]
    rw [this]
    exact loop_pair (s_nx (a_nx e2 (by rfl)) (s_nil _ _ _ _)) e3
abbrev plO : List Sx := [.exp (.mth .append (.var 1) [(.tup [(.tup [(.var 2)]), (.var 3)])]), .fr (.names [4, 5]) (.val (.callK 19 [] [0] [] [(.var 3)] [])) plI]
theorem pl_outer {S0 : Sto} {d : PyData} {M : Nat} (f : PyData → List PyData) (hM : M ≤ 100) : ∀ (sts : List PyData) (i c : Nat) (acc : List PyData) (S1 : Sto) (x2 x3 x4 x5 : Option Val), Fnd S0 c S1 acc → (∀ st ∈ sts, (∀ S, C 19 [.dat st] S = .ok (.dat (.list (inrD st))) S) ∧ ∀ q ∈ inrD st, (∀ S, C 21 [.dat (ix q 1)] S = .ok (.dat (.list (f (ix q 1)))) S) ∧ ∀ p ∈ f (ix q 1), ∃ l st, p = .tuple [.tuple l, st] ∧ l.length ≤ 2 * M) →
    acc.length + (plcL f i sts).length ≤ 100000 → ∃ c' S2 y2 y3 y4 y5, loopF (.names [2, 3]) (evSs C GL plO) ((numbD i sts).map .dat) (plR d c x2 x3 x4 x5) S1 = .nx (plR d c' y2 y3 y4 y5) S2 ∧ Fnd S0 c' S2 (acc ++ plcL f i sts)
  | [], i, c, acc, S1, x2, x3, x4, x5, hF, _, _ => ⟨c, S1, x2, x3, x4, x5, rfl, by unfold plcL; rw [List.append_nil]; exact hF⟩
  | st :: sts, i, c, acc, S1, x2, x3, x4, x5, hF, hs, hl => by
    have el : (plcL f i (st :: sts)).length = 1 + ((inrD st).map (plG f i)).flatten.length + (plcL f (i + 1) sts).length := by
      rw [plcL, List.length_append, plcS, List.length_cons]
      omega
    rw [el] at hl
    obtain ⟨h19, hq⟩ := hs st List.mem_cons_self
    have e1 := app_nx (C := C) (G := GL) (ρ := plR d c (some (.dat (iN i))) (some (.dat st)) x4 x5) (o := .var 1) (e := .tup [(.tup [(.var 2)]), (.var 3)]) (S := S1) (S1 := S1) (v_ok rfl) (tup2_ok (tup1_ok (v_ok rfl)) (v_ok rfl)) hF.at_ (by omega)
    have F1 : Fnd S0 c (S1.set c (acc ++ [.tuple [.tuple [iN i], st]])) (acc ++ [.tuple [.tuple [iN i], st]]) := hF.app
    obtain ⟨c2, S2, y4, y5, e2, F2⟩ := pl_inner (C := C) (d := d) (st := st) (i := i) f hM (inrD st) c _ _ x4 x5 F1 (fun q hm => by
      obtain ⟨j, _, e⟩ := inr_form hm
      refine ⟨by rw [e]; rfl, hq q hm⟩) (by rw [List.length_append, List.length_cons, List.length_nil]; omega)
    obtain ⟨c3, S3, z2, z3, z4, z5, e3, F3⟩ := pl_outer (d := d) f hM sts (i + 1) c2 _ S2 (some (.dat (iN i))) (some (.dat st)) y4 y5 F2 (fun s h => hs s (List.mem_cons_of_mem _ h)) (by rw [List.length_append, List.length_append, List.length_cons, List.length_nil]; omega)
    refine ⟨c3, S3, z2, z3, z4, z5, ?_, ?_⟩
    · show loopF (.names [2, 3]) (evSs C GL plO) (.dat (.tuple [iN i, st]) :: (numbD (i + 1) sts).map .dat) _ S1 = _
      exact loop_pair (s_nx e1 (s_nx (f_nx (val_ok (e_call1 (v_ok rfl) (h19 _)) (items_l _)) e2) (s_nil _ _ _ _))) e3
    · have : acc ++ plcL f i (st :: sts) = acc ++ [.tuple [.tuple [iN i], st]] ++ ((inrD st).map (plG f i)).flatten ++ plcL f (i + 1) sts := by
        rw [plcL, plcS]
        simp
      rw [this]
      exact F3
end
theorem r_placed : ∀ (m n M : Nat) (b : PyData) (S : Sto), m ≤ 100 → PlB m b → okB M b = true → (plc m b).length ≤ 100000 → m + 2 ≤ n → run TT GL n 21 [.dat b] S = .ok (.dat (.list (plc m b))) S
  | m + 1, n, M, b, S, hm, ⟨ht, hs⟩, ho, hl, hn => by
    obtain ⟨k, rfl⟩ : ∃ k, n = k + 3 := ⟨n - 3, by omega⟩
    have hb := okB_its ho
    obtain ⟨c, S2, y2, y3, y4, y5, e, F⟩ := pl_outer (C := run TT GL (k + 2)) (d := b) (M := m) (plc m) (by omega) (its b) 0 S.length [] (S ++ [[]]) none none none none (Fnd.start S) (fun st hst => by
      obtain ⟨h1, h2, ⟨w, hw⟩, h4⟩ := hs st hst
      refine ⟨fun S => r_inner S (hb.2 st hst) h1 h2 hw, fun q hq => ⟨fun S => ?_, fun p hp => plc_form hp⟩⟩
      obtain ⟨j, hj, e⟩ := inr_form hq
      refine r_placed m (k + 2) M _ S (by omega) (h4 q hq) ?_ (Nat.le_trans (plc_part hst hq) hl) (by omega)
      rw [e]
      exact okB_ix (i := j) (hb.2 st hst) (tup_len h1) hj) (by rw [List.length_nil, Nat.zero_add]; exact hl)
    have e0 : evE (run TT GL (k + 2)) GL (.new []) [some (.dat b), none, none, none, none, none, none, none] S = .ok (.cell S.length) (S ++ [[]]) := by
      rw [e_new, l_nil, bind_ok, newR_0]
    have hi : evI (run TT GL (k + 2)) GL (.enu (.var 0)) (plR b S.length none none none none) (S ++ [[]]) = .ok ((numbD 0 (its b)).map .dat) (S ++ [[]]) := by
      rw [i_enu, v_ok (v := .dat b) rfl, bind_ok]
      have : itemsE (S ++ [[]]) (.dat b) = some ((numbD 0 (its b)).map .dat) := by
        rw [← numb_eq]
        cases b <;> first | rfl | cases ht
      rw [this, give_some]
    have er : evSs (run TT GL (k + 2)) GL F_placed_in.body [some (.dat b), none, none, none, none, none, none, none] S = .rt (.cell c) S2 :=
      s_nx (a_nx e0 (by rfl)) (s_nx (f_nx hi e) (rtx (v_ok rfl)))
    rw [run_eq (F := F_placed_in) (by rfl) (by rfl) (by decide)]
    show handBack false S.length (evSs (run TT GL (k + 2)) GL F_placed_in.body [some (.dat b), none, none, none, none, none, none, none] S) = _
    rw [er]
    show (if S.length ≤ c then match S2[c]? with
      | some l => R.ok (Val.dat (.list l)) (S2.take S.length)
      | none => .bad else .bad) = _
    rw [if_pos F.le, F.at_, F.pre, List.nil_append]
    rfl
end Dw

set_option Elab.async false
set_option linter.all false
set_option maxRecDepth 100000
set_option maxHeartbeats 1000000
/-! Fuels do not matter; what statements tell; the statements within bodies. -/
namespace Dw
open PySem
theorem ok_inj {b c : Bool} {S : Sto} (h : (R.ok (Val.dat (.bool b)) S : R Val) = .ok (.dat (.bool c)) S) : b = c := by
  injection h with h
  injection h with h
  injection h
theorem part_fuel {j k : Nat} {d : PyData} (h : okB j d = true) (hk : j ≤ k) : partB (j + 1) d = partB (k + 1) d :=
  ok_inj ((r_part [] j (2 * k + 6) d h (by omega)).symm.trans (r_part [] k (2 * k + 6) d (okB_le h hk) (by omega)))
theorem expr_fuel {j k : Nat} {d : PyData} (h : okB j d = true) (hk : j ≤ k) : exprB (j + 1) d = exprB (k + 1) d :=
  ok_inj ((r_expr [] h (n := 2 * k + 7) (by omega)).symm.trans (r_expr [] (okB_le h hk) (n := 2 * k + 7) (by omega)))
theorem test_fuel {j k : Nat} {d : PyData} (h : okB j d = true) (hk : j ≤ k) : testB (j + 1) d = testB (k + 1) d :=
  ok_inj ((r_testB [] h (n := 2 * k + 8) (by omega)).symm.trans (r_testB [] (okB_le h hk) (n := 2 * k + 8) (by omega)))
theorem stmt_fuel {j k : Nat} {d : PyData} {held : Bool} (h : okB j d = true) (hk : j ≤ k) (hk2 : k ≤ 50) : stmtB (j + 1) held d = stmtB (k + 1) held d :=
  ok_inj ((r_stmt [] j (4 * k + 12) d held (by omega) h (by omega)).symm.trans (r_stmt [] k (4 * k + 12) d held hk2 (okB_le h hk) (by omega)))
theorem okB_none (m : Nat) : okB m .none = true := okB_atom rfl m
theorem okB_ixa {m : Nat} {d : PyData} (h : okB m d = true) (i : Nat) : okB m (ix d i) = true := by
  by_cases hi : i < (its d).length
  · exact (okB_its h).2 _ (ix_mem hi)
  · unfold ix
    rw [List.getElem?_eq_none (by omega)]
    exact okB_none m
theorem nms_ok {k : Nat} : ∀ {m : Nat} {d : PyData}, okB k d = true → ∀ x ∈ nms m d, okB k x = true
  | 0, d, _, x, hx => nomatch hx
  | m + 1, d, h, x, hx => by
    unfold nms at hx
    split at hx
    · rw [List.mem_singleton.mp hx]
      exact okB_ixa h 1
    · split at hx
      · exact nomatch hx
      · rcases List.mem_append.mp hx with hx | hx
        · exact nms_ok (okB_ixa h 1) x hx
        · exact nms_ok (okB_ixa h 2) x hx
theorem name_leaf {d : PyData} (h : isS d (oS "name") = true) : inStr mkL d = true := by
  cases d with
  | str z =>
    have h : z = oS "name" := of_decide_eq_true h
    rw [h]
    decide +kernel
  | _ => cases h
theorem nms_le : ∀ (m : Nat) (d : PyData), (nms m d).length ≤ lvs m d
  | 0, _ => by simp [nms]
  | m + 1, d => by
    have h1 := nms_le m (ix d 1)
    have h2 := nms_le m (ix d 2)
    unfold nms lvs
    by_cases hn : isS (ix d 0) (oS "name") = true
    · rw [if_pos hn, if_pos (name_leaf hn)]
      simp
    · rw [if_neg hn]
      by_cases hu : isS (ix d 0) (oS "number") = true
      · rw [if_pos hu]
        simp
      · rw [if_neg hu, if_neg, List.length_append]
        · omega
        · intro q
          cases hx : ix d 0 with
          | str z =>
            rw [hx] at hn hu q
            have q : (mkL.any fun y => decide (y = z)) = true := q
            simp only [List.any_cons, List.any_nil, Bool.or_eq_true, decide_eq_true_eq, Bool.or_false] at q
            rcases q with rfl | rfl
            · exact hu (by decide +kernel)
            · exact hn (by decide +kernel)
          | _ => rw [hx] at q; cases q
/-- what a statement is -/
inductive StV (m : Nat) (held : Bool) (d : PyData) : Prop where
  | read (h : markB d (oS "read") 2 = true) (a : nmB (ix d 1) = true)
  | set (h : markB d (oS "set") 3 = true) (a : nmB (ix d 1) = true) (b : exprB (m + 1) (ix d 2) = true)
  | work (h : markB d (oS "work") 2 = true) (a : numIn (ix d 1) 1 9 = true)
  | hold (h : markB d (oS "hold") 2 = true) (a : held = false) (b : fullF (stmtB m true) (ix d 1) = true)
  | ifs (h : markB d (oS "if") 4 = true) (a : testB (m + 1) (ix d 1) = true) (b : fullF (stmtB m held) (ix d 2) = true) (c : bodyF (stmtB m held) (ix d 3) = true)
  | whl (h : markB d (oS "while") 3 = true) (a : testB (m + 1) (ix d 1) = true) (b : fullF (stmtB m held) (ix d 2) = true)
theorem stmt_v {m : Nat} {held : Bool} {d : PyData} (h : stmtB (m + 1) held d = true) : StV m held d := by
  unfold stmtB at h
  by_cases h1 : markB d (oS "read") 2 = true
  · rw [if_pos h1] at h
    exact .read h1 h
  · rw [if_neg h1] at h
    by_cases h2 : markB d (oS "set") 3 = true
    · rw [if_pos h2, Bool.and_eq_true] at h
      exact .set h2 h.1 h.2
    · rw [if_neg h2] at h
      by_cases h3 : markB d (oS "work") 2 = true
      · rw [if_pos h3] at h
        exact .work h3 h
      · rw [if_neg h3] at h
        by_cases h4 : markB d (oS "hold") 2 = true
        · rw [if_pos h4, Bool.and_eq_true] at h
          exact .hold h4 (by simpa using h.1) h.2
        · rw [if_neg h4] at h
          unfold brF at h
          by_cases h5 : markB d (oS "if") 4 = true
          · rw [if_pos h5, Bool.and_eq_true, Bool.and_eq_true] at h
            exact .ifs h5 h.1 h.2.1 h.2.2
          · rw [if_neg h5, Bool.and_eq_true, Bool.and_eq_true] at h
            exact .whl h.1 h.2.1 h.2.2
theorem full_body {f : PyData → Bool} {d : PyData} (h : fullF f d = true) : bodyF f d = true := by
  unfold fullF at h
  rw [Bool.and_eq_true] at h
  exact h.1
theorem body_all' {f : PyData → Bool} {d : PyData} (h : bodyF f d = true) : isT d .tuple = true ∧ ∀ x ∈ its d, f x = true := by
  unfold bodyF at h
  rw [Bool.and_eq_true, List.all_eq_true] at h
  exact h
theorem inr_in {d q : PyData} (h : q ∈ inrD d) : ∃ j, j < (its d).length ∧ q = .tuple [iN j, ix d j] ∧ bodB (ix d 0) (iN j) = true := by
  obtain ⟨j, hj, e⟩ := inr_form h
  refine ⟨j, hj, e, ?_⟩
  have := (List.mem_filter.mp h).2
  rw [e] at this
  exact this
theorem bod_no {w : Str} {j : Nat} (k : Nat) (hj : j < k) (h : bodB (.str w) (iN j) = true) (hb : ∀ j, j < k → bodB (.str w) (iN j) = false) : False := by
  rw [hb j hj] at h
  cases h
theorem stv_inr {m : Nat} {held : Bool} {d q : PyData} (v : StV m held d) (hq : q ∈ inrD d) : ∃ held', bodyF (stmtB m held') (ix q 1) = true := by
  obtain ⟨j, hj, rfl, hb⟩ := inr_in hq
  cases v with
  | read h a =>
    rw [mark_at h] at hb
    rw [(tupOf_eq (mark_tup h)).2] at hj
    exact (bod_no 2 hj hb (by decide +kernel)).elim
  | set h a b =>
    rw [mark_at h] at hb
    rw [(tupOf_eq (mark_tup h)).2] at hj
    exact (bod_no 3 hj hb (by decide +kernel)).elim
  | work h a =>
    rw [mark_at h] at hb
    rw [(tupOf_eq (mark_tup h)).2] at hj
    exact (bod_no 2 hj hb (by decide +kernel)).elim
  | hold h a b =>
    rw [mark_at h] at hb
    rw [(tupOf_eq (mark_tup h)).2] at hj
    match j, hj, hb with
    | 0, _, hb => exact absurd hb (by decide +kernel)
    | 1, _, _ => exact ⟨_, full_body b⟩
  | ifs h a b c =>
    rw [mark_at h] at hb
    rw [(tupOf_eq (mark_tup h)).2] at hj
    match j, hj, hb with
    | 0, _, hb => exact absurd hb (by decide +kernel)
    | 1, _, hb => exact absurd hb (by decide +kernel)
    | 2, _, _ => exact ⟨_, full_body b⟩
    | 3, _, _ => exact ⟨_, c⟩
  | whl h a b =>
    rw [mark_at h] at hb
    rw [(tupOf_eq (mark_tup h)).2] at hj
    match j, hj, hb with
    | 0, _, hb => exact absurd hb (by decide +kernel)
    | 1, _, hb => exact absurd hb (by decide +kernel)
    | 2, _, _ => exact ⟨_, full_body b⟩
theorem stv_mark {m : Nat} {held : Bool} {d : PyData} (v : StV m held d) : ∃ s k, 2 ≤ k ∧ markB d s k = true := by
  cases v with
  | read h a => exact ⟨_, _, by omega, h⟩
  | set h a b => exact ⟨_, _, by omega, h⟩
  | work h a => exact ⟨_, _, by omega, h⟩
  | hold h a b => exact ⟨_, _, by omega, h⟩
  | ifs h a b c => exact ⟨_, _, by omega, h⟩
  | whl h a b => exact ⟨_, _, by omega, h⟩
/-- what stands in a body that is one -/
theorem body_pl : ∀ (m : Nat) (held : Bool) (b : PyData), m ≤ 50 → okB m b = true → bodyF (stmtB (m + 1) held) b = true → PlB (m + 1) b ∧ ∀ p ∈ plc (m + 1) b, ∃ held', okB m (ix p 1) = true ∧ stmtB (m + 1) held' (ix p 1) = true
  | m, held, b, hm50, ho, hb => by
    obtain ⟨ht, hs⟩ := body_all' hb
    have hob := okB_its ho
    -- what holds of the parts of a statement
    have inn : ∀ st ∈ its b, ∀ q ∈ inrD st, PlB m (ix q 1) ∧ ∀ p ∈ plc m (ix q 1), ∃ held', okB m (ix p 1) = true ∧ stmtB (m + 1) held' (ix p 1) = true := fun st hst q hq => by
      have hv := stmt_v (hs st hst)
      obtain ⟨held', hq'⟩ := stv_inr hv hq
      obtain ⟨j, hj, e⟩ := inr_form hq
      obtain ⟨s, k, hk, hm⟩ := stv_mark hv
      have hlk := (tupOf_eq (mark_tup hm)).2
      obtain ⟨m', rfl, ho'⟩ := okB_ix' (hob.2 st hst) (mark_tup hm) (i := j) (by omega)
      rw [e] at hq' ⊢
      have hq' : bodyF (stmtB (m' + 1) held') (ix st j) = true := hq'
      obtain ⟨p1, p2⟩ := body_pl m' held' (ix st j) (by omega) ho' hq'
      refine ⟨p1, fun p hp => ?_⟩
      obtain ⟨h2, o2, s2⟩ := p2 p hp
      exact ⟨h2, okB_up o2, (stmt_fuel o2 (by omega) (by omega)).symm.trans s2⟩
    refine ⟨⟨ht, fun st hst => ?_⟩, fun p hp => ?_⟩
    · obtain ⟨s, k, hk, hm⟩ := stv_mark (stmt_v (hs st hst))
      obtain ⟨e, hl⟩ := tupOf_eq (mark_tup hm)
      exact ⟨by rw [e]; rfl, by omega, ⟨_, mark_at hm⟩, fun q hq => (inn st hst q hq).1⟩
    · obtain ⟨j, st, hst, hp⟩ := plcL_mem (show p ∈ plcL (plc m) 0 (its b) from hp)
      unfold plcS at hp
      rcases List.mem_cons.mp hp with rfl | hp
      · exact ⟨held, hob.2 st hst, hs st hst⟩
      · obtain ⟨x, hx, hp⟩ := List.mem_flatten.mp hp
        obtain ⟨q, hq, rfl⟩ := List.mem_map.mp hx
        obtain ⟨p', hp', rfl⟩ := List.mem_map.mp hp
        exact (inn st hst q hq).2 p' hp'
/-! ### names told -/
theorem mk2_no {z : Str} (h : inStr mk2 (.str z) = true) : isS (.str z) (oS "name") = false ∧ isS (.str z) (oS "number") = false := by
  have q : (mk2.any fun y => decide (y = z)) = true := h
  simp only [List.any_cons, List.any_nil, Bool.or_eq_true, decide_eq_true_eq, Bool.or_false] at q
  rcases q with rfl | rfl <;> decide +kernel
theorem isS_str {d : PyData} {s : Str} (h : isS d s = true) : d = .str s := by
  cases d with
  | str z => rw [of_decide_eq_true h]
  | _ => cases h
section
variable (S : Sto)
theorem cmp_isS {d : PyData} (h : isT d .str = true) (s : Str) : cmpD .eq d (.str s) = some (isS d s) ∧ cmpD .ne d (.str s) = some (!isS d s) := by
  obtain ⟨z, rfl⟩ := isT_str h
  exact ⟨rfl, rfl⟩
theorem r_names_t {m n : Nat} {d : PyData} (hm : m ≤ 17) (hd : okB m d = true) (h : anyB (partB (m + 1)) d mk2 = true) (hn : m + 3 ≤ n) : run TT GL n 14 [.dat d] S = .ok (.dat (.list (nms (m + 2) d))) S := by
  obtain ⟨k, rfl⟩ : ∃ k, n = k + 1 := ⟨n - 1, by omega⟩
  obtain ⟨ht, hs, hi, p1, p2⟩ := any_view h
  obtain ⟨m', rfl, o1⟩ := okB_ix' hd ht (i := 1) (by omega)
  have o2 := okB_its' hd _ (ix_mem (d := d) (i := 2) (by have := (tupOf_eq ht).2; omega))
  have hno : isS (ix d 0) (oS "name") = false ∧ isS (ix d 0) (oS "number") = false := by
    obtain ⟨z, hz⟩ := isT_str hs
    rw [hz] at hi ⊢
    exact mk2_no hi
  have e0 := cmp_ok (a := .idx (.var 0) (.con (.int 0))) (C := run TT GL k) (G := GL) (ρ := [some (.dat d)]) (S := S) (ixv 0 rfl ht (by omega)) (e_con _ _ _ _ _) (cmp_isS hs (oS "name")).1
  have e1 := cmp_ok (a := .idx (.var 0) (.con (.int 0))) (C := run TT GL k) (G := GL) (ρ := [some (.dat d)]) (S := S) (ixv 0 rfl ht (by omega)) (e_con _ _ _ _ _) (cmp_isS hs (oS "number")).2
  rw [hno.1] at e0
  rw [hno.2] at e1
  have en : nms (m' + 1 + 2) d = nms (m' + 2) (ix d 1) ++ nms (m' + 2) (ix d 2) := by
    show nms (m' + 2 + 1) d = _
    rw [nms, if_neg (by rw [hno.1]; decide), if_neg (by rw [hno.2]; decide)]
  rw [en]
  have l1 := nms_len (m' + 2) (ix d 1)
  have l2 := nms_len (m' + 2) (ix d 2)
  have l3 : 2 ^ (m' + 2) ≤ 2 ^ 18 := Nat.pow_le_pow_right (by omega) (by omega)
  have l4 : (2 : Nat) ^ 18 = 262144 := by decide
  exact run_rt (F := F_names_of_treework) (by rfl) (by rfl) (by decide) (by rfl) (by rfl) (by rfl) (rif_f e0 (rtx (ife_t e1 (addL_ok (e_call1 (ixv 1 rfl ht (by omega)) (r_names S (m' + 1) k _ (by omega) (okB_up o1) p1 (by omega))) (e_call1 (ixv 2 rfl ht (by omega)) (r_names S (m' + 1) k _ (by omega) (okB_up o2) p2 (by omega))) (by omega)))))
def toldN (m : Nat) (st : PyData) : List PyData := if isS (ix st 0) (oS "read") = true then [ix st 1] else if isS (ix st 0) (oS "set") = true then ix st 1 :: nms (m + 1) (ix st 2) else if inStr [oS "if", oS "while"] (ix st 0) = true then nms (m + 2) (ix st 1) else []
theorem iw_ok : ∀ w ∈ [oS "if", oS "while"], Asc w ∧ w.length ≤ 8 := by decide +kernel
theorem expr_part {m : Nat} {d : PyData} (h : exprB m d = true) : partB m d = true ∧ lvs m d ≤ 15 := by
  unfold exprB at h
  rw [Bool.and_eq_true, decide_eq_true_eq] at h
  exact h
theorem test_parts {m : Nat} {d : PyData} (h : testB m d = true) : anyB (partB m) d mk2 = true ∧ lvs m (ix d 1) ≤ 15 ∧ lvs m (ix d 2) ≤ 15 := by
  unfold testB at h
  rw [Bool.and_eq_true, Bool.and_eq_true, decide_eq_true_eq, decide_eq_true_eq] at h
  exact h
theorem r_told {m n : Nat} {st : PyData} {held : Bool} (hm : m ≤ 17) (hd : okB m st = true) (h : stmtB (m + 1) held st = true) (hn : m + 5 ≤ n) : run TT GL n 22 [.dat st] S = .ok (.dat (.list (toldN m st))) S := by
  obtain ⟨k, rfl⟩ : ∃ k, n = k + 1 := ⟨n - 1, by omega⟩
  have hv := stmt_v h
  obtain ⟨s, j, hj, hmk⟩ := stv_mark hv
  have ht := mark_tup hmk
  have hs := mark_at hmk
  have hss : isT (ix st 0) .str = true := by rw [hs]; rfl
  have e1 := cmp_ok (a := .idx (.var 0) (.con (.int 0))) (C := run TT GL k) (G := GL) (ρ := [some (.dat st)]) (S := S) (ixv 0 rfl ht (by omega)) (e_con _ _ _ _ _) (cmp_isS hss (oS "read")).1
  have e2 := cmp_ok (a := .idx (.var 0) (.con (.int 0))) (C := run TT GL k) (G := GL) (ρ := [some (.dat st)]) (S := S) (ixv 0 rfl ht (by omega)) (e_con _ _ _ _ _) (cmp_isS hss (oS "set")).1
  have e3 := cmp_ok (a := .idx (.var 0) (.con (.int 0))) (C := run TT GL k) (G := GL) (ρ := [some (.dat st)]) (S := S) (b := .tup [(.con (.str (oS "if"))), (.con (.str (oS "while")))]) (ixv 0 rfl ht (by omega)) (tup2_ok (e_con _ _ _ _ _) (e_con _ _ _ _ _)) (inn_ok (ms := [oS "if", oS "while"]) (okB_ix hd ht (by omega)) hss iw_ok)
  have fin : ∀ {q : PyData}, evSs (run TT GL k) GL F_names_told.body [some (.dat st)] S = .rt (.dat q) S → run TT GL (k + 1) 22 [.dat st] S = .ok (.dat q) S := fun h => run_rt (F := F_names_told) (by rfl) (by rfl) (by decide) (by rfl) (by rfl) (by rfl) h
  unfold toldN
  cases hv with
  | read h a =>
    rw [mark_at h] at e1 ⊢
    rw [if_pos (by decide +kernel)]
    exact fin (rif_t e1 (lst1_ok (ixv 1 rfl ht (by omega))))
  | set h a b =>
    rw [mark_at h] at e1 e2 ⊢
    have hq := mark_tup h
    rw [if_neg (by decide +kernel), if_pos (by decide +kernel)]
    have := nms_le (m + 1) (ix st 2)
    have := (expr_part b).2
    exact fin (rif_f e1 (rif_t e2 (dsp_ft (ixv 1 rfl hq (by omega)) (e_call1 (ixv 2 rfl hq (by omega)) (r_names S m k _ (by omega) (okB_ix hd hq (by omega)) (expr_part b).1 (by omega))) (by omega))))
  | work h a =>
    rw [mark_at h] at e1 e2 e3 ⊢
    rw [if_neg (by decide +kernel), if_neg (by decide +kernel), if_neg (by decide +kernel)]
    exact fin (rif_f e1 (rif_f e2 (rtx (ife_f e3 lst0_ok))))
  | hold h a b =>
    rw [mark_at h] at e1 e2 e3 ⊢
    rw [if_neg (by decide +kernel), if_neg (by decide +kernel), if_neg (by decide +kernel)]
    exact fin (rif_f e1 (rif_f e2 (rtx (ife_f e3 lst0_ok))))
  | ifs h a b c =>
    rw [mark_at h] at e1 e2 e3 ⊢
    rw [if_neg (by decide +kernel), if_neg (by decide +kernel), if_pos (by decide +kernel)]
    exact fin (rif_f e1 (rif_f e2 (rtx (ife_t e3 (e_call1 (ixv 1 rfl ht (by omega)) (r_names_t S hm (okB_ix hd ht (by omega)) (test_parts a).1 (by omega)))))))
  | whl h a b =>
    rw [mark_at h] at e1 e2 e3 ⊢
    rw [if_neg (by decide +kernel), if_neg (by decide +kernel), if_pos (by decide +kernel)]
    exact fin (rif_f e1 (rif_f e2 (rtx (ife_t e3 (e_call1 (ixv 1 rfl ht (by omega)) (r_names_t S hm (okB_ix hd ht (by omega)) (test_parts a).1 (by omega)))))))
theorem told_len {m : Nat} {st : PyData} {held : Bool} (h : stmtB (m + 1) held st = true) : (toldN m st).length ≤ 31 := by
  have hv := stmt_v h
  have sum : ∀ {d : PyData}, testB (m + 1) d = true → (nms (m + 2) d).length ≤ 30 := fun {d} ht => by
    obtain ⟨a, b, c⟩ := test_parts ht
    obtain ⟨_, hs, hi, _, _⟩ := any_view a
    obtain ⟨z, hz⟩ := isT_str hs
    rw [hz] at hi
    have hno := mk2_no hi
    rw [← hz] at hno
    rw [nms, if_neg (by rw [hno.1]; decide), if_neg (by rw [hno.2]; decide), List.length_append]
    have := nms_le (m + 1) (ix d 1)
    have := nms_le (m + 1) (ix d 2)
    omega
  unfold toldN
  cases hv with
  | read h a =>
    rw [mark_at h, if_pos (by decide +kernel)]
    simp
  | set h a b =>
    rw [mark_at h, if_neg (by decide +kernel), if_pos (by decide +kernel)]
    have := nms_le (m + 1) (ix st 2)
    have := (expr_part b).2
    rw [List.length_cons]
    omega
  | work h a =>
    rw [mark_at h, if_neg (by decide +kernel), if_neg (by decide +kernel), if_neg (by decide +kernel)]
    simp
  | hold h a b =>
    rw [mark_at h, if_neg (by decide +kernel), if_neg (by decide +kernel), if_neg (by decide +kernel)]
    simp
  | ifs h a b c =>
    rw [mark_at h, if_neg (by decide +kernel), if_neg (by decide +kernel), if_pos (by decide +kernel)]
    have := sum a
    omega
  | whl h a b =>
    rw [mark_at h, if_neg (by decide +kernel), if_neg (by decide +kernel), if_pos (by decide +kernel)]
    have := sum a
    omega
theorem told_ok {k m : Nat} {st : PyData} (h : okB k st = true) : ∀ x ∈ toldN m st, okB k x = true := by
  unfold toldN
  split
  · exact fun x hx => by rw [List.mem_singleton.mp hx]; exact okB_ixa h 1
  · split
    · intro x hx
      rcases List.mem_cons.mp hx with rfl | hx
      · exact okB_ixa h 1
      · exact nms_ok (okB_ixa h 2) x hx
    · split
      · exact nms_ok (okB_ixa h 1)
      · exact fun x hx => nomatch hx
end
end Dw

set_option Elab.async false
set_option linter.all false
set_option maxRecDepth 100000
set_option maxHeartbeats 1000000
/-! Tasks judged. -/
namespace Dw
open PySem
def inL (l : List PyData) (x : PyData) : Bool := l.any fun z => PyData.eqv z x
theorem in_lst {m : Nat} {x : PyData} {l : List PyData} (hx : okB m x = true) (hl : okB m (.list l) = true) (hm : m ≤ 50) : cmpD .inn x (.list l) = some (inL l x) := by
  have e : inD x (.list l) = if SeqAt.shaped x = true ∧ SeqAt.shaped (.list l) = true then some (l.any fun z => PyData.eqv z x) else none := by cases x <;> rfl
  show inD x (.list l) = _
  rw [e, if_pos ⟨okB_shaped hx hm, okB_shaped hl hm⟩]
  rfl
def toldA (m : Nat) (t : PyData) : List PyData := nms (m + 1) (ix t 6) ++ ((plc (m + 1) (ix t 5)).map fun p => toldN m (ix p 1)).flatten
def declB (m : Nat) (t : PyData) : Bool := if (!unlB (ownN t) || decide (20 < (plc (m + 1) (ix t 5)).length)) = true then false else (toldA m t).all (inL (ownN t)) && (nms (m + 1) (ix t 4)).all (inL ((ownN t).take (its (ix t 2)).length))
structure TPre (m : Nat) (t : PyData) : Prop where
  ht : tupOf t 7 = true
  h2 : isT (ix t 2) .tuple = true
  k2 : ∀ x ∈ its (ix t 2), keepB x = true
  h3 : isT (ix t 3) .tuple = true
  k3 : ∀ x ∈ its (ix t 3), rangedB 3 x = true
  e4 : exprB (m + 1) (ix t 4) = true
  b5 : bodyF (stmtB (m + 1) false) (ix t 5) = true
  e6 : exprB (m + 1) (ix t 6) = true
  len : (plc (m + 1) (ix t 5)).length ≤ 1000
theorem keep_ranged {x : PyData} (h : keepB x = true) : rangedB 4 x = true := by
  unfold keepB at h
  rw [Bool.and_eq_true] at h
  exact h.1
theorem nmB_str {d : PyData} (h : nmB d = true) : isT d .str = true := by
  cases d <;> first | rfl | cases h
section
variable {C : Nat → List Val → Sto → R Val} {S : Sto}
abbrev dcI : List Sx := [.asg (.name 3) (.bin .add (.var 3) (.callK 22 [] [0] [] [(.var 5)] []))]
abbrev dcR (t : PyData) (own kept told : List PyData) (x4 x5 : Option Val) : Rho := [some (.dat t), some (.dat (.list own)), some (.dat (.list kept)), some (.dat (.list told)), x4, x5, none]
theorem dc_loop {m : Nat} {t : PyData} {own kept : List PyData} : ∀ (ps acc : List PyData) (x4 x5 : Option Val), (∀ p ∈ ps, p = .tuple [ix p 0, ix p 1] ∧ C 22 [.dat (ix p 1)] S = .ok (.dat (.list (toldN m (ix p 1)))) S ∧ (toldN m (ix p 1)).length ≤ 31) → acc.length + 31 * ps.length ≤ 900000 →
    ∃ y4 y5, loopF (.names [4, 5]) (evSs C GL dcI) (ps.map .dat) (dcR t own kept acc x4 x5) S = .nx (dcR t own kept (acc ++ (ps.map fun p => toldN m (ix p 1)).flatten) y4 y5) S
  | [], acc, x4, x5, _, _ => ⟨x4, x5, by rw [List.map_nil, List.map_nil, List.flatten_nil, List.append_nil]; rfl⟩
  | p :: ps, acc, x4, x5, hp, hl => by
    rw [List.length_cons] at hl
    obtain ⟨e, hc, h31⟩ := hp p List.mem_cons_self
    have e1 : evE C GL (.bin .add (.var 3) (.callK 22 [] [0] [] [(.var 5)] [])) (dcR t own kept acc (some (.dat (ix p 0))) (some (.dat (ix p 1)))) S = .ok (.dat (.list (acc ++ toldN m (ix p 1)))) S := addL_ok (v_ok rfl) (e_call1 (v_ok rfl) hc) (by omega)
    obtain ⟨y4, y5, e2⟩ := dc_loop (t := t) (own := own) (kept := kept) ps (acc ++ toldN m (ix p 1)) (some (.dat (ix p 0))) (some (.dat (ix p 1))) (fun q h => hp q (List.mem_cons_of_mem _ h)) (by rw [List.length_append]; omega)
    refine ⟨y4, y5, ?_⟩
    have ev : (p :: ps).map Val.dat = Val.dat (.tuple [ix p 0, ix p 1]) :: ps.map Val.dat := by rw [List.map_cons, ← e]
    rw [ev, List.map_cons, List.flatten_cons, ← List.append_assoc]
    exact loop_pair (s_nx (a_nx e1 (by rfl)) (s_nil _ _ _ _)) e2
end
theorem own_ok {m : Nat} {t : PyData} (hd : okB m t = true) : ∀ x ∈ ownN t, okB m x = true := by
  intro x hx
  rcases List.mem_append.mp hx with h | h
  · obtain ⟨y, hy, rfl⟩ := List.mem_map.mp h
    exact okB_ixa ((okB_its (okB_ixa hd 2)).2 y hy) 0
  · obtain ⟨y, hy, rfl⟩ := List.mem_map.mp h
    exact okB_ixa ((okB_its (okB_ixa hd 3)).2 y hy) 0
theorem r_decl {m n : Nat} {t : PyData} (S : Sto) (hm : m ≤ 17) (hd : okB m t = true) (h : TPre m t) (hn : m + 10 ≤ n) (hO : (ownN t).length ≤ 500) : run TT GL n 26 [.dat t] S = .ok (.dat (.bool (declB m t))) S := by
  obtain ⟨k, rfl⟩ : ∃ k, n = k + 1 := ⟨n - 1, by omega⟩
  obtain ⟨j, hj⟩ : ∃ j, k = j + 1 := ⟨k - 1, by omega⟩
  have hb5 := okB_ix hd h.ht (i := 5) (by omega)
  obtain ⟨hpl, hps⟩ := body_pl m false (ix t 5) (by omega) hb5 h.b5
  have oo := own_ok hd
  have okO : okB (m + 1) (.list (ownN t)) = true := ok_lst (by omega) oo
  have okK : okB (m + 1) (.list ((ownN t).take (its (ix t 2)).length)) = true := ok_lst (by rw [List.length_take]; omega) fun x hx => oo x (List.mem_of_mem_take hx)
  have hstr : ∀ x ∈ ownN t, isT x .str = true := by
    intro x hx
    rcases List.mem_append.mp hx with q | q
    · obtain ⟨y, hy, rfl⟩ := List.mem_map.mp q
      exact nmB_str (ranged_view (keep_ranged (h.k2 y hy))).2.1
    · obtain ⟨y, hy, rfl⟩ := List.mem_map.mp q
      exact nmB_str (ranged_view (h.k3 y hy)).2.1
  have e1 : evE (run TT GL k) GL (.callK 25 [] [0] [] [(.var 0)] []) [some (.dat t), none, none, none, none, none, none] S = .ok (.dat (.list (ownN t))) S := by
    rw [hj]
    exact e_call1 (v_ok rfl) (r_own S hd h.ht h.h2 h.h3 (fun x hx => (ranged_view (keep_ranged (h.k2 x hx))).1) fun x hx => (ranged_view (h.k3 x hx)).1)
  have e2 : evE (run TT GL k) GL (.sl (.var 1) none (some (.blt .len [(.idx (.var 0) (.con (.int 2)))]))) [some (.dat t), some (.dat (.list (ownN t))), none, none, none, none, none] S = .ok (.dat (.list ((ownN t).take (its (ix t 2)).length))) S := by
    refine sl_ok (z := .list ((ownN t).take (its (ix t 2)).length)) (v_ok rfl) on_ok (h := some ((its (ix t 2)).length : Int)) (S3 := S) ?_ ?_
    · have : evE (run TT GL k) GL (.blt .len [(.idx (.var 0) (.con (.int 2)))]) [some (.dat t), some (.dat (.list (ownN t))), none, none, none, none, none] S = .ok (.dat (iN (its (ix t 2)).length)) S := by
        refine blt1_ok (ixv 2 rfl h.ht (by omega)) ?_
        have := h.h2
        cases hx : ix t 2 with
        | tuple l => rfl
        | _ => rw [hx] at this; cases this
      rw [o_some, this, bind_ok, toI_ok, bind_ok]
    · exact congrArg (fun l => some (PyData.list l)) (cut_0i _ _)
  have e3 : evE (run TT GL k) GL (.callK 14 [] [0] [] [(.idx (.var 0) (.con (.int 6)))] []) [some (.dat t), some (.dat (.list (ownN t))), some (.dat (.list ((ownN t).take (its (ix t 2)).length))), none, none, none, none] S = .ok (.dat (.list (nms (m + 1) (ix t 6)))) S :=
    e_call1 (ixv 6 rfl h.ht (by omega)) (r_names S m k _ (by omega) (okB_ix hd h.ht (by omega)) (expr_part h.e6).1 (by omega))
  have rp := r_placed (m + 1) k m (ix t 5) S (by omega) hpl hb5 (by have := h.len; omega) (by omega)
  have l6 := nms_le (m + 1) (ix t 6)
  have l6' := (expr_part h.e6).2
  have l4 := nms_le (m + 1) (ix t 4)
  have l4' := (expr_part h.e4).2
  have l5 := h.len
  obtain ⟨y4, y5, e4⟩ := dc_loop (C := run TT GL k) (S := S) (m := m) (t := t) (own := ownN t) (kept := (ownN t).take (its (ix t 2)).length) (plc (m + 1) (ix t 5)) (nms (m + 1) (ix t 6)) none none (fun p hp => by
    obtain ⟨held', o, s⟩ := hps p hp
    obtain ⟨l, st, e, _⟩ := plc_form hp
    exact ⟨by rw [e]; rfl, r_told S hm o s (by omega), told_len s⟩) (by omega)
  have hi : evI (run TT GL k) GL (.val (.callK 21 [] [0] [] [(.idx (.var 0) (.con (.int 5)))] [])) (dcR t (ownN t) ((ownN t).take (its (ix t 2)).length) (nms (m + 1) (ix t 6)) none none) S = .ok ((plc (m + 1) (ix t 5)).map .dat) S :=
    val_ok (e_call1 (ixv 5 rfl h.ht (by omega)) rp) (items_l _)
  have lt : (toldA m t).length ≤ 40000 := by
    unfold toldA
    rw [List.length_append]
    have : ∀ ps : List PyData, (∀ p ∈ ps, (toldN m (ix p 1)).length ≤ 31) → ((ps.map fun p => toldN m (ix p 1)).flatten).length ≤ 31 * ps.length := by
      intro ps
      induction ps with
      | nil => intro _; simp
      | cons p ps ih =>
        intro hq
        rw [List.map_cons, List.flatten_cons, List.length_append, List.length_cons]
        have := hq p List.mem_cons_self
        have := ih fun q h => hq q (List.mem_cons_of_mem _ h)
        omega
    have := this (plc (m + 1) (ix t 5)) fun p hp => by
      obtain ⟨held', o, s⟩ := hps p hp
      exact told_len s
    omega
  have e5 : evE (run TT GL k) GL (.or [(.not (.callK 6 [] [0] [] [(.var 1)] [])), (.cmp .gt (.blt .len [(.callK 21 [] [0] [] [(.idx (.var 0) (.con (.int 5)))] [])]) (.glob 9))]) (dcR t (ownN t) ((ownN t).take (its (ix t 2)).length) (toldA m t) y4 y5) S = .ok (.dat (.bool (!unlB (ownN t) || decide (20 < (plc (m + 1) (ix t 5)).length)))) S := by
    refine or_ok (or2_b (not_ok (e_call1 (v_ok rfl) ?_)) fun _ => or1_b (cmp_ok (blt1_ok (e_call1 (ixv 5 rfl h.ht (by omega)) rp) (bl_lenL _)) (g_ok (by rfl)) (gt_nat _ 20)))
    rw [hj]
    exact r_unlike S okO (by omega) hstr
  have tok : ∀ x ∈ toldA m t, okB (m + 1) x = true := by
    intro x hx
    rcases List.mem_append.mp hx with q | q
    · exact okB_up (nms_ok (okB_ixa hd 6) x q)
    · obtain ⟨y, hy, hx⟩ := List.mem_flatten.mp q
      obtain ⟨p, hp, rfl⟩ := List.mem_map.mp hy
      obtain ⟨held', o, s⟩ := hps p hp
      exact okB_up (told_ok o x hx)
  refine run_rt (F := F_are_declared) (by rfl) (by rfl) (by decide) (by rfl) (by rfl) (by rfl) (s_nx (a_nx e1 (by rfl)) (s_nx (a_nx e2 (by rfl)) (s_nx (a_nx e3 (by rfl)) (s_nx (f_nx hi e4) (rif_b e5 (fun _ => e_con _ _ _ _ _) fun _ => rtx (and_ok (and2_b (all_ok (ds := toldA m t) (val_ok (v_ok rfl) (items_l _)) (by omega) fun x hx => cmp_ok (v_ok rfl) (v_ok rfl) (in_lst (tok x hx) okO (by omega))) fun _ => and1_b (all_ok (ds := nms (m + 1) (ix t 4)) (val_ok (e_call1 (ixv 4 rfl h.ht (by omega)) (r_names S m k _ (by omega) (okB_ix hd h.ht (by omega)) (expr_part h.e4).1 (by omega))) (items_l _)) (by omega) fun x hx => cmp_ok (v_ok rfl) (v_ok rfl) (in_lst (okB_up (nms_ok (okB_ixa hd 4) x hx)) okK (by omega))))))))))
def taskB (m : Nat) (v : PyData) : Bool := markB v (oS "task") 7 && (nmB (ix v 1) && (tupTo (ix v 2) 2 && (tupTo (ix v 3) 2 && ((its (ix v 2)).all keepB && ((its (ix v 3)).all (rangedB 3) && (exprB (m + 1) (ix v 4) && (bodyF (stmtB (m + 1) false) (ix v 5) && (exprB (m + 1) (ix v 6) && declB m v))))))))
section
variable {C : Nat → List Val → Sto → R Val} {ρ : Rho} {S : Sto} {a b c : Ex} {r : List Sx} {p q s : Bool} {x : Bool}
theorem rif_or2 (h1 : evE C GL a ρ S = .ok (.dat (.bool p)) S) (h2 : p = true → evE C GL b ρ S = .ok (.dat (.bool q)) S) (h4 : p = true → q = true → evSs C GL r ρ S = .rt (.dat (.bool x)) S) : evSs C GL (.ife (.or [.not a, .not b]) [.ret (.con (.bool false))] [] :: r) ρ S = .rt (.dat (.bool (p && (q && x)))) S := by
  cases p with
  | false => exact rif_t (or_ok (or2_t (not_ok h1))) (e_con _ _ _ _ _)
  | true =>
    cases q with
    | false => exact rif_t (or_ok (or2_f (not_ok h1) (or1_b (not_ok (h2 rfl))))) (e_con _ _ _ _ _)
    | true => exact rif_f (or_ok (or2_f (not_ok h1) (or1_b (not_ok (h2 rfl))))) (h4 rfl rfl)
theorem rif_or3 (h1 : evE C GL a ρ S = .ok (.dat (.bool p)) S) (h2 : p = true → evE C GL b ρ S = .ok (.dat (.bool q)) S) (h3 : p = true → q = true → evE C GL (.not c) ρ S = .ok (.dat (.bool (!s))) S) (h4 : p = true → q = true → s = true → evSs C GL r ρ S = .rt (.dat (.bool x)) S) :
    evSs C GL (.ife (.or [.not a, .not b, .not c]) [.ret (.con (.bool false))] [] :: r) ρ S = .rt (.dat (.bool (p && (q && (s && x))))) S := by
  cases p with
  | false => exact rif_t (or_ok (or2_t (not_ok h1))) (e_con _ _ _ _ _)
  | true =>
    cases q with
    | false => exact rif_t (or_ok (or2_f (not_ok h1) (or2_t (not_ok (h2 rfl))))) (e_con _ _ _ _ _)
    | true =>
      cases s with
      | false => exact rif_t (or_ok (or2_f (not_ok h1) (or2_f (not_ok (h2 rfl)) (or1_b (h3 rfl rfl))))) (e_con _ _ _ _ _)
      | true => exact rif_f (or_ok (or2_f (not_ok h1) (or2_f (not_ok (h2 rfl)) (or1_b (h3 rfl rfl))))) (h4 rfl rfl rfl)
theorem rif_or3' (h1 : evE C GL a ρ S = .ok (.dat (.bool p)) S) (h2 : p = true → evE C GL b ρ S = .ok (.dat (.bool q)) S) (h3 : p = true → q = true → evE C GL c ρ S = .ok (.dat (.bool (!s))) S) (h4 : p = true → q = true → s = true → evSs C GL r ρ S = .rt (.dat (.bool x)) S) :
    evSs C GL (.ife (.or [.not a, .not b, c]) [.ret (.con (.bool false))] [] :: r) ρ S = .rt (.dat (.bool (p && (q && (s && x))))) S := by
  cases p with
  | false => exact rif_t (or_ok (or2_t (not_ok h1))) (e_con _ _ _ _ _)
  | true =>
    cases q with
    | false => exact rif_t (or_ok (or2_f (not_ok h1) (or2_t (not_ok (h2 rfl))))) (e_con _ _ _ _ _)
    | true =>
      cases s with
      | false => exact rif_t (or_ok (or2_f (not_ok h1) (or2_f (not_ok (h2 rfl)) (or1_b (h3 rfl rfl))))) (e_con _ _ _ _ _)
      | true => exact rif_f (or_ok (or2_f (not_ok h1) (or2_f (not_ok (h2 rfl)) (or1_b (h3 rfl rfl))))) (h4 rfl rfl rfl)
end
theorem tupTo_eq {d : PyData} {m : Nat} (h : tupTo d m = true) : isT d .tuple = true ∧ (its d).length ≤ m := by
  unfold tupTo at h
  rw [Bool.and_eq_true, decide_eq_true_eq] at h
  exact h
theorem own_len (t : PyData) : (ownN t).length = (its (ix t 2)).length + (its (ix t 3)).length := by
  unfold ownN
  rw [List.length_append, List.length_map, List.length_map]
theorem r_task {m n : Nat} {v : PyData} (S : Sto) (hm : m ≤ 17) (hd : okB m v = true) (hL : bodyF (stmtB (m + 1) false) (ix v 5) = true → (plc (m + 1) (ix v 5)).length ≤ 1000) (hn : 4 * m + 20 ≤ n) : run TT GL n 27 [.dat v] S = .ok (.dat (.bool (taskB m v))) S := by
  obtain ⟨k, rfl⟩ : ∃ k, n = k + 5 := ⟨n - 5, by omega⟩
  have lt : ∀ {h : markB v (oS "task") 7 = true} (i : Nat), i < 7 → okB m (ix v i) = true := fun {h} i hi => okB_ix hd (mark_tup h) hi
  refine run_rt (F := F_is_task_tree) (by rfl) (by rfl) (by decide) (by rfl) (by rfl) (by rfl) ?_
  refine rif_or2 (e_call3 (v_ok rfl) (e_con _ _ _ _ _) (e_con _ _ _ _ _) (r_marked (k + 2) S v (oS "task") (m := 7) (by omega))) (fun h => e_call1 (ixv 1 rfl (mark_tup h) (by omega)) (r_name (k + 2) S (okB_ixa hd 1))) fun h _ => ?_
  have ht := mark_tup h
  refine rif_or2 (e_call2 (ixv 2 rfl ht (by omega)) (g_ok (by rfl)) (r_tupto (k + 3) S _ 2)) (fun _ => e_call2 (ixv 3 rfl ht (by omega)) (g_ok (by rfl)) (r_tupto (k + 3) S _ 2)) fun h2 h3 => ?_
  obtain ⟨t2, l2⟩ := tupTo_eq h2
  obtain ⟨t3, l3⟩ := tupTo_eq h3
  refine rif_or2 (all_ok (vx_ok (ixv 2 rfl ht (by omega)) t2) (by omega) fun x hx => e_call1 (v_ok rfl) (r_keep (n := k) S ((okB_its (okB_ixa hd 2)).2 x hx))) (fun _ => all_ok (vx_ok (ixv 3 rfl ht (by omega)) t3) (by omega) fun x hx => e_call2 (v_ok rfl) (e_con _ _ _ _ _) (r_ranged (n := k + 1) S 3 (by omega) ((okB_its (okB_ixa hd 3)).2 x hx))) fun k2 k3 => ?_
  have b5 := (okB_its (okB_ixa hd 5))
  refine rif_or3 (e_call1 (ixv 4 rfl ht (by omega)) (r_expr S (okB_ixa hd 4) (by omega))) (fun _ => e_call2 (ixv 5 rfl ht (by omega)) (e_con _ _ _ _ _) (r_body S b5.1 fun x hx => r_stmt S m (k + 3) x false (by omega) (b5.2 x hx) (by omega))) (fun _ _ => not_ok (e_call1 (ixv 6 rfl ht (by omega)) (r_expr S (okB_ixa hd 6) (by omega)))) fun e4 hb e6 => ?_
  rw [List.all_eq_true] at k2 k3
  exact rtx (e_call1 (v_ok rfl) (r_decl S hm hd ⟨ht, t2, k2, t3, k3, e4, hb, e6, hL hb⟩ (by omega) (by rw [own_len]; omega)))
end Dw

set_option Elab.async false
set_option linter.all false
set_option maxRecDepth 100000
set_option maxHeartbeats 1000000
/-! Hands and crews judged; what the checks refuse. -/
namespace Dw
open PySem
def hbF (f : PyData → Bool) (d : PyData) : Bool := isT d .tuple && (!(its d).isEmpty && (its d).all f)
def numLo (a lo : PyData) (hi : Int) : Bool := match lo with
  | .int l => numIn a l hi
  | _ => false
def hstB : Nat → PyData → Bool
  | 0, _ => false
  | m + 1, d => if markB d (oS "serve") 2 = true then numIn (ix d 1) 1 9 else if markB d (oS "rest") 3 = true then numIn (ix d 1) 0 9 && numLo (ix d 2) (ix d 1) 9 else markB d (oS "either") 3 && (hbF (hstB m) (ix d 1) && hbF (hstB m) (ix d 2))
def svS : Nat → PyData → Bool
  | 0, _ => false
  | m + 1, st => isS (ix st 0) (oS "serve") || (isS (ix st 0) (oS "either") && ((its (ix st 1)).any (svS m) && (its (ix st 2)).any (svS m)))
def handB (m : Nat) (v : PyData) : Bool := hbF (hstB (m + 1)) v && (decide ((plc (m + 1) v).length ≤ 8) && (its v).any (svS (m + 1)))
def crewB (m : Nat) (v : PyData) : Bool := tupOf v 2 && (tupTo (ix v 0) 4 && (!(its (ix v 0)).isEmpty && ((its (ix v 0)).all (taskB m) && (handB m (ix v 1) && unlB ((its (ix v 0)).map fun t => ix t 1)))))
theorem anyTrue_map {α : Type} (f : α → Bool) : ∀ l : List α, anyTrue (l.map fun x => PyData.bool (f x)) = some (l.any f)
  | [] => rfl
  | x :: l => by
    show (anyTrue (l.map _)).map (f x || ·) = _
    rw [anyTrue_map f l]
    rfl
theorem any_ok {C : Nat → List Val → Sto → R Val} {ρ : Rho} {S : Sto} {e : Ex} {i : Nat} {own : List Nat} {it : It} {ds : List PyData} {f : PyData → Bool} (hi : evI C GL it ρ S = .ok (ds.map .dat) S) (hl : ds.length ≤ 1000000) (h : ∀ d ∈ ds, evE C GL e ((wipeE ρ own).set i (some (.dat d))) S = .ok (.dat (.bool (f d))) S) : evE C GL (.blt .any1 [.cp e (.name i) it [] own]) ρ S = .ok (.dat (.bool (ds.any f))) S :=
  blt1_ok (cp_map (g := fun d => .bool (f d)) hi (by omega) h) (by
    show (anyTrue _).map PyData.bool = _
    rw [anyTrue_map]
    rfl)
section
variable (S : Sto)
theorem r_hbody {n m : Nat} {d : PyData} {f : PyData → Bool} (hd : okB m d = true) (hm : m ≤ 50) (h : ∀ x ∈ its d, run TT GL n 29 [.dat x] S = .ok (.dat (.bool (f x))) S) : run TT GL (n + 1) 28 [.dat d] S = .ok (.dat (.bool (hbF f d))) S :=
  run_rt (F := F_is_hand_body) (by rfl) (by rfl) (by decide) (by rfl) (by rfl) (by rfl) (rtx (and_ok (and2_b (isi_ok (v_ok rfl)) fun ht => and2_b (cmp_ok (v_ok rfl) tup0_ok' (ne_tup0 hd hm ht)) fun _ => and1_b (all_ok (vi_ok rfl ht) (by have := (okB_its hd).1; omega) fun x hx => e_call1 (v_ok rfl) (h x hx)))))
theorem r_hst : ∀ (m n : Nat) (d : PyData), m ≤ 50 → okB m d = true → 2 * m + 8 ≤ n → run TT GL n 29 [.dat d] S = .ok (.dat (.bool (hstB (m + 1) d))) S
  | m, n, d, hm, hd, hn => by
    obtain ⟨k, rfl⟩ : ∃ k, n = k + 3 := ⟨n - 3, by omega⟩
    have mk : ∀ (s : String) (j : Nat), 1 ≤ j → evE (run TT GL (k + 2)) GL (.callK 8 [] [0, 1, 2] [] [(.var 0), (.con (.str (oS s))), (.con (.int (j : Int)))] []) [some (.dat d)] S = .ok (.dat (.bool (markB d (oS s) j))) S := fun s j hj => e_call3 (v_ok rfl) (e_con _ _ _ _ _) (e_con _ _ _ _ _) (r_marked k S d (oS s) hj)
    have ih : ∀ y ∈ its d, ∀ x ∈ its y, run TT GL (k + 1) 29 [.dat x] S = .ok (.dat (.bool (hstB m x))) S := fun y hy x hx => by
      cases d with
      | tuple l =>
        obtain ⟨m', rfl, _, h2⟩ := okB_tup hd
        exact r_hst m' (k + 1) x (by omega) ((okB_its (h2 y hy)).2 x hx) (by omega)
      | _ => exact nomatch hy
    have mem : ∀ {k i : Nat}, tupOf d k = true → i < k → ix d i ∈ its d := fun hk hi => ix_mem (by have := (tupOf_eq hk).2; omega)
    refine run_rt (F := F_is_hand_statement) (by rfl) (by rfl) (by decide) (by rfl) (by rfl) (by rfl) (rif_b (mk "serve" 2 (by omega)) (fun q => ?_) fun _ => rif_b (mk "rest" 3 (by omega)) (fun q => and_ok ?_) fun _ => rtx (and_ok (and2_b (mk "either" 3 (by omega)) fun q => ?_)))
    · have q := mark_tup q
      exact e_call3 (ixv 1 rfl q (by omega)) (e_con _ _ _ _ _) (g_ok (by rfl)) (r_number k S _ 1 9)
    · have q := mark_tup q
      refine and2_b (e_call3 (ixv 1 rfl q (by omega)) (e_con _ _ _ _ _) (g_ok (by rfl)) (r_number k S _ 0 9)) fun h1 => and1_b ?_
      obtain ⟨i, hi⟩ := num_int h1
      refine e_call3 (ixv 2 rfl q (by omega)) (ixv 1 rfl q (by omega)) (g_ok (by rfl)) ?_
      rw [hi]
      exact r_number k S _ i 9
    · have q := mark_tup q
      exact and2_b (e_call1 (ixv 1 rfl q (by omega)) (r_hbody S (okB_ixa hd 1) hm (ih _ (mem q (by omega))))) fun _ => and1_b (e_call1 (ixv 2 rfl q (by omega)) (r_hbody S (okB_ixa hd 2) hm (ih _ (mem q (by omega)))))
inductive HsV (m : Nat) (d : PyData) : Prop where
  | serve (h : markB d (oS "serve") 2 = true)
  | rest (h : markB d (oS "rest") 3 = true)
  | either (h : markB d (oS "either") 3 = true) (a : hbF (hstB m) (ix d 1) = true) (b : hbF (hstB m) (ix d 2) = true)
theorem hst_v {m : Nat} {d : PyData} (h : hstB (m + 1) d = true) : HsV m d := by
  unfold hstB at h
  by_cases h1 : markB d (oS "serve") 2 = true
  · exact .serve h1
  · rw [if_neg h1] at h
    by_cases h2 : markB d (oS "rest") 3 = true
    · exact .rest h2
    · rw [if_neg h2, Bool.and_eq_true, Bool.and_eq_true] at h
      exact .either h.1 h.2.1 h.2.2
theorem hb_all {f : PyData → Bool} {d : PyData} (h : hbF f d = true) : isT d .tuple = true ∧ ∀ x ∈ its d, f x = true := by
  unfold hbF at h
  rw [Bool.and_eq_true, Bool.and_eq_true, List.all_eq_true] at h
  exact ⟨h.1, h.2.2⟩
theorem hand_pl : ∀ (m : Nat) (b : PyData), okB m b = true → hbF (hstB (m + 1)) b = true → PlB (m + 1) b
  | m, b, ho, hb => by
    obtain ⟨ht, hs⟩ := hb_all hb
    have hob := okB_its ho
    refine ⟨ht, fun st hst => ?_⟩
    have hv := hst_v (hs st hst)
    have fin : ∀ {s : Str} {k : Nat}, markB st s k = true → 2 ≤ k → (∀ q ∈ inrD st, PlB m (ix q 1)) → isT st .tuple = true ∧ 0 < (its st).length ∧ (∃ w, ix st 0 = .str w) ∧ ∀ q ∈ inrD st, PlB m (ix q 1) := fun hm hk hq => by
      obtain ⟨e, hl⟩ := tupOf_eq (mark_tup hm)
      exact ⟨by rw [e]; rfl, by omega, ⟨_, mark_at hm⟩, hq⟩
    cases hv with
    | serve h =>
      refine fin h (by omega) fun q hq => ?_
      obtain ⟨j, hj, rfl, hb⟩ := inr_in hq
      rw [mark_at h] at hb
      rw [(tupOf_eq (mark_tup h)).2] at hj
      exact (bod_no 2 hj hb (by decide +kernel)).elim
    | rest h =>
      refine fin h (by omega) fun q hq => ?_
      obtain ⟨j, hj, rfl, hb⟩ := inr_in hq
      rw [mark_at h] at hb
      rw [(tupOf_eq (mark_tup h)).2] at hj
      exact (bod_no 3 hj hb (by decide +kernel)).elim
    | either h a b =>
      refine fin h (by omega) fun q hq => ?_
      obtain ⟨j, hj, rfl, hb⟩ := inr_in hq
      rw [mark_at h] at hb
      rw [(tupOf_eq (mark_tup h)).2] at hj
      match j, hj, hb with
      | 0, _, hb => exact absurd hb (by decide +kernel)
      | 1, hj, _ =>
        obtain ⟨m', rfl, ho'⟩ := okB_ix' (hob.2 st hst) (mark_tup h) hj
        exact hand_pl m' _ ho' a
      | 2, hj, _ =>
        obtain ⟨m', rfl, ho'⟩ := okB_ix' (hob.2 st hst) (mark_tup h) hj
        exact hand_pl m' _ ho' b
theorem r_each {n m : Nat} {st : PyData} (hd : okB m st = true) (h : hstB (m + 1) st = true) (ih : isS (ix st 0) (oS "either") = true → ∀ i, 1 ≤ i → i ≤ 2 → run TT GL n 30 [.dat (ix st i)] S = .ok (.dat (.bool ((its (ix st i)).any (svS m)))) S) :
    run TT GL (n + 1) 31 [.dat st] S = .ok (.dat (.bool (isS (ix st 0) (oS "either") && ((its (ix st 1)).any (svS m) && (its (ix st 2)).any (svS m))))) S := by
  have hv := hst_v h
  have hm : ∃ s k, 2 ≤ k ∧ markB st s k = true ∧ (isS (ix st 0) (oS "either") = true → k = 3) := by
    cases hv with
    | serve h => exact ⟨_, _, by omega, h, fun q => by rw [mark_at h] at q; exact absurd q (by decide +kernel)⟩
    | rest h => exact ⟨_, _, by omega, h, fun q => rfl⟩
    | either h a b => exact ⟨_, _, by omega, h, fun q => rfl⟩
  obtain ⟨s, k, hk, hm, h3⟩ := hm
  have ht := mark_tup hm
  have hs : isT (ix st 0) .str = true := by rw [mark_at hm]; rfl
  exact run_rt (F := F_does_each_serve) (by rfl) (by rfl) (by decide) (by rfl) (by rfl) (by rfl) (rtx (and_ok (and2_b (cmp_ok (ixv 0 rfl ht (by omega)) (e_con _ _ _ _ _) (cmp_isS hs _).1) fun q => and2_b (e_call1 (ixv 1 rfl ht (by have := h3 q; omega)) (ih q 1 (by omega) (by omega))) fun _ => and1_b (e_call1 (ixv 2 rfl ht (by have := h3 q; omega)) (ih q 2 (by omega) (by omega))))))
theorem r_serve : ∀ (m n : Nat) (b : PyData), okB m b = true → hbF (hstB (m + 1)) b = true → 2 * m + 4 ≤ n → run TT GL n 30 [.dat b] S = .ok (.dat (.bool ((its b).any (svS (m + 1))))) S
  | m, n, b, ho, hb, hn => by
    obtain ⟨k, rfl⟩ : ∃ k, n = k + 2 := ⟨n - 2, by omega⟩
    obtain ⟨ht, hs⟩ := hb_all hb
    have hob := okB_its ho
    refine run_rt (F := F_does_serve) (by rfl) (by rfl) (by decide) (by rfl) (by rfl) (by rfl) (rtx (any_ok (vi_ok rfl ht) (by omega) fun st hst => ?_))
    have hv := hst_v (hs st hst)
    have hm : ∃ s k, 2 ≤ k ∧ markB st s k = true := by
      cases hv with
      | serve h => exact ⟨_, _, by omega, h⟩
      | rest h => exact ⟨_, _, by omega, h⟩
      | either h a b => exact ⟨_, _, by omega, h⟩
    obtain ⟨s, j, hj, hm⟩ := hm
    have hss : isT (ix st 0) .str = true := by rw [mark_at hm]; rfl
    refine or_ok (or2_b (cmp_ok (ixv 0 rfl (mark_tup hm) (by omega)) (e_con _ _ _ _ _) (cmp_isS hss _).1) fun _ => or1_b (e_call1 (v_ok rfl) (r_each S (hob.2 st hst) (hs st hst) fun q i h1 h2 => ?_)))
    cases hv with
    | serve h => rw [mark_at h] at q; exact absurd q (by decide +kernel)
    | rest h => rw [mark_at h] at q; exact absurd q (by decide +kernel)
    | either h a b =>
      match i, h1, h2 with
      | 1, _, _ =>
        obtain ⟨m', rfl, ho'⟩ := okB_ix' (hob.2 st hst) (mark_tup h) (i := 1) (by omega)
        exact r_serve m' k _ ho' a (by omega)
      | 2, _, _ =>
        obtain ⟨m', rfl, ho'⟩ := okB_ix' (hob.2 st hst) (mark_tup h) (i := 2) (by omega)
        exact r_serve m' k _ ho' b (by omega)
theorem r_hand {m n : Nat} {v : PyData} (hm : m ≤ 50) (hd : okB m v = true) (hL : hbF (hstB (m + 1)) v = true → (plc (m + 1) v).length ≤ 1000) (hn : 2 * m + 10 ≤ n) : run TT GL n 32 [.dat v] S = .ok (.dat (.bool (handB m v))) S := by
  obtain ⟨k, rfl⟩ : ∃ k, n = k + 2 := ⟨n - 2, by omega⟩
  refine run_rt (F := F_is_hand_tree) (by rfl) (by rfl) (by decide) (by rfl) (by rfl) (by rfl) (rtx (and_ok (and2_b (e_call1 (v_ok rfl) (r_hbody S hd hm fun x hx => r_hst S m k x hm ((okB_its hd).2 x hx) (by omega))) fun h => and2_b (cmp_ok (blt1_ok (e_call1 (v_ok rfl) (r_placed (m + 1) (k + 1) m v S (by omega) (hand_pl m v hd h) hd (by have := hL h; omega) (by omega))) (bl_lenL _)) (g_ok (by rfl)) (le_nat _ 8)) fun _ => and1_b (e_call1 (v_ok rfl) (r_serve S m (k + 1) v hd h (by omega))))))
theorem task_mark {m : Nat} {t : PyData} (h : taskB m t = true) : tupOf t 7 = true ∧ nmB (ix t 1) = true := by
  unfold taskB at h
  rw [Bool.and_eq_true, Bool.and_eq_true] at h
  exact ⟨mark_tup h.1, h.2.1⟩
structure LenT (m : Nat) (t : PyData) : Prop where
  len : bodyF (stmtB (m + 1) false) (ix t 5) = true → (plc (m + 1) (ix t 5)).length ≤ 1000
structure LenH (m : Nat) (v : PyData) : Prop where
  len : hbF (hstB (m + 1)) v = true → (plc (m + 1) v).length ≤ 1000
theorem r_crew {m n : Nat} {v : PyData} (hm : m ≤ 17) (hd : okB m v = true) (hT : ∀ t ∈ its (ix v 0), LenT m t) (hH : LenH m (ix v 1)) (hn : 4 * m + 22 ≤ n) : run TT GL n 33 [.dat v] S = .ok (.dat (.bool (crewB m v))) S := by
  obtain ⟨k, rfl⟩ : ∃ k, n = k + 2 := ⟨n - 2, by omega⟩
  refine run_rt (F := F_is_crew_tree) (by rfl) (by rfl) (by decide) (by rfl) (by rfl) (by rfl) (rif_or3' (e_call2 (v_ok rfl) (e_con _ _ _ _ _) (r_tupof k S v 2)) (fun h => e_call2 (ixv 0 rfl h (by omega)) (g_ok (by rfl)) (r_tupto k S _ 4)) (fun h h2 => ?_) fun h h2 h3 => ?_)
  · rw [Bool.not_not]
    exact cmp_ok (ixv 0 rfl h (by omega)) tup0_ok' (eq_tup0 (okB_ixa hd 0) (by omega) (tupTo_eq h2).1)
  · obtain ⟨t0, l0⟩ := tupTo_eq h2
    have o0 := okB_its (okB_ixa hd 0)
    refine rif_or2 (all_ok (vx_ok (ixv 0 rfl h (by omega)) t0) (by omega) fun t ht => e_call1 (v_ok rfl) (r_task S hm (o0.2 t ht) (hT t ht).len (by omega))) (fun _ => e_call1 (ixv 1 rfl h (by omega)) (r_hand S (by omega) (okB_ixa hd 1) hH.len (by omega))) fun ht _ => rtx ?_
    rw [List.all_eq_true] at ht
    refine e_call1 (cp_map (g := fun t => ix t 1) (vx_ok (ixv 0 rfl h (by omega)) t0) (by omega) fun t hx => ixv 1 rfl (task_mark (ht t hx)).1 (by omega)) (r_unlike (m := m + 1) S (ok_lst (by rw [List.length_map]; omega) fun x hx => ?_) (by omega) fun x hx => ?_)
    · obtain ⟨t, ht', rfl⟩ := List.mem_map.mp hx
      exact okB_ixa (o0.2 t ht') 1
    · obtain ⟨t, ht', rfl⟩ := List.mem_map.mp hx
      exact nmB_str (task_mark (ht t ht')).2
/-! ### what is asked, what is refused -/
theorem r_istask {m n : Nat} {v : PyData} (hm : m ≤ 17) (hd : okB m v = true) (hT : LenT m v) (hn : 4 * m + 21 ≤ n) : run TT GL n 46 [.dat v] S = .ok (.dat (.bool (taskB m v))) S := by
  obtain ⟨k, rfl⟩ : ∃ k, n = k + 1 := ⟨n - 1, by omega⟩
  exact run_rt (F := F_is_task) (by rfl) (by rfl) (by decide) (by rfl) (by rfl) (by rfl) (rtx (e_call1 (v_ok rfl) (r_task S hm hd hT.len (by omega))))
theorem r_ishand {m n : Nat} {v : PyData} (hm : m ≤ 17) (hd : okB m v = true) (hT : LenH m v) (hn : 2 * m + 11 ≤ n) : run TT GL n 53 [.dat v] S = .ok (.dat (.bool (handB m v))) S := by
  obtain ⟨k, rfl⟩ : ∃ k, n = k + 1 := ⟨n - 1, by omega⟩
  exact run_rt (F := F_is_hand) (by rfl) (by rfl) (by decide) (by rfl) (by rfl) (by rfl) (rtx (e_call1 (v_ok rfl) (r_hand S (by omega) hd hT.len (by omega))))
theorem r_iscrew {m n : Nat} {v : PyData} (hm : m ≤ 17) (hd : okB m v = true) (hT : ∀ t ∈ its (ix v 0), LenT m t) (hH : LenH m (ix v 1)) (hn : 4 * m + 23 ≤ n) : run TT GL n 50 [.dat v] S = .ok (.dat (.bool (crewB m v))) S := by
  obtain ⟨k, rfl⟩ : ∃ k, n = k + 1 := ⟨n - 1, by omega⟩
  exact run_rt (F := F_is_crew) (by rfl) (by rfl) (by decide) (by rfl) (by rfl) (by rfl) (rtx (e_call1 (v_ok rfl) (r_crew S hm hd hT hH (by omega))))
theorem s_rai {C : Nat → List Val → Sto → R Val} {ρ : Rho} {e : Ex} {d : PyData} {c : Nat} {l : List Sx} (h : evE C GL e ρ S = .ok (.dat d) S) : evSs C GL (.rai c e :: l) ρ S = .exc c d ρ S := by
  refine s_exc ?_
  show R.st (evE C GL e ρ S) ρ _ = _
  rw [h, st_ok]
theorem s_ife_t {C : Nat → List Val → Sto → R Val} {ρ : Rho} {c : Ex} {a b l : List Sx} {q : SR} (h : evE C GL c ρ S = .ok (.dat (.bool true)) S) (h2 : evSs C GL a ρ S = q) : evS C GL (.ife c a b) ρ S = q := if_t h h2
theorem r_ctask {m n : Nat} {v : PyData} (hm : m ≤ 17) (hd : okB m v = true) (hT : LenT m v) (hn : 4 * m + 21 ≤ n) (hv : taskB m v = false) : run TT GL n 42 [.dat v] S = .exc 0 v S := by
  obtain ⟨k, rfl⟩ : ∃ k, n = k + 1 := ⟨n - 1, by omega⟩
  have e := not_ok (e_call1 (v_ok (G := GL) (ρ := [some (.dat v)]) (i := 0) rfl) (r_task S hm hd hT.len (n := k) (by omega)))
  rw [hv] at e
  exact run_ex (F := F_check_task) (by rfl) (by rfl) (by decide) (by rfl) (by rfl) (by rfl) (s_exc (if_t e (s_rai S (v_ok rfl))))
theorem r_chand {m n : Nat} {v : PyData} (hm : m ≤ 17) (hd : okB m v = true) (hT : LenH m v) (hn : 2 * m + 11 ≤ n) (hv : handB m v = false) : run TT GL n 43 [.dat v] S = .exc 0 v S := by
  obtain ⟨k, rfl⟩ : ∃ k, n = k + 1 := ⟨n - 1, by omega⟩
  have e := not_ok (e_call1 (v_ok (G := GL) (ρ := [some (.dat v)]) (i := 0) rfl) (r_hand S (by omega) hd hT.len (n := k) (by omega)))
  rw [hv] at e
  exact run_ex (F := F_check_hand) (by rfl) (by rfl) (by decide) (by rfl) (by rfl) (by rfl) (s_exc (if_t e (s_rai S (v_ok rfl))))
theorem r_ccrew {m n : Nat} {v : PyData} (hm : m ≤ 17) (hd : okB m v = true) (hT : ∀ t ∈ its (ix v 0), LenT m t) (hH : LenH m (ix v 1)) (hn : 4 * m + 23 ≤ n) (hv : crewB m v = false) : run TT GL n 44 [.dat v] S = .exc 0 v S := by
  obtain ⟨k, rfl⟩ : ∃ k, n = k + 1 := ⟨n - 1, by omega⟩
  have e := not_ok (e_call1 (v_ok (G := GL) (ρ := [some (.dat v)]) (i := 0) rfl) (r_crew S hm hd hT hH (n := k) (by omega)))
  rw [hv] at e
  exact run_ex (F := F_check_crew) (by rfl) (by rfl) (by decide) (by rfl) (by rfl) (by rfl) (s_exc (if_t e (s_rai S (v_ok rfl))))
theorem r_ccrew_t {m n : Nat} {v : PyData} (hm : m ≤ 17) (hd : okB m v = true) (hT : ∀ t ∈ its (ix v 0), LenT m t) (hH : LenH m (ix v 1)) (hn : 4 * m + 23 ≤ n) (hv : crewB m v = true) : run TT GL n 44 [.dat v] S = .ok (.dat .none) S := by
  obtain ⟨k, rfl⟩ : ∃ k, n = k + 1 := ⟨n - 1, by omega⟩
  have e := not_ok (e_call1 (v_ok (G := GL) (ρ := [some (.dat v)]) (i := 0) rfl) (r_crew S hm hd hT hH (n := k) (by omega)))
  rw [hv] at e
  exact run_nx (F := F_check_crew) (by rfl) (by rfl) (by decide) (by rfl) (by rfl) (by rfl) (s_nx (if_f e (s_nil _ _ _ _)) (s_nil _ _ _ _))
end
end Dw

set_option Elab.async false
set_option linter.all false
set_option maxRecDepth 100000
set_option maxHeartbeats 1000000
/-! What is drawn has its form. -/
namespace Dw
open PySem
theorem mk_t {s : Str} {r : List PyData} {k : Nat} (h : r.length + 1 = k) : markB (.tuple (.str s :: r)) s k = true := by
  show ((true && decide (r.length + 1 = k)) && (true && decide (s = s))) = true
  rw [decide_eq_true h, decide_eq_true (rfl : s = s)]
  rfl
theorem mk_n {s s' : Str} {r : List PyData} {k : Nat} (h : s ≠ s') : ¬ markB (.tuple (.str s :: r)) s' k = true := by
  show ¬ (((true && decide (r.length + 1 = k)) && (true && decide (s = s'))) = true)
  rw [decide_eq_false h]
  simp
theorem mk_l {s s' : Str} {r : List PyData} {k : Nat} (h : r.length + 1 ≠ k) : ¬ markB (.tuple (.str s :: r)) s' k = true := by
  show ¬ (((true && decide (r.length + 1 = k)) && (true && decide (s = s'))) = true)
  rw [decide_eq_false h]
  simp
theorem mark_no {d : PyData} {s s' : Str} {m k : Nat} (h : markB d s m = true) (hs : s ≠ s') : ¬ markB d s' k = true := fun q => by
  have h1 := mark_at h
  have h2 := mark_at q
  rw [h1] at h2
  injection h2 with h2
  exact hs h2
theorem part_num {d : PyData} {m : Nat} (h : markB d (oS "number") 2 = true) : partB (m + 1) d = numIn (ix d 1) 0 99 := if_pos h
theorem part_name {d : PyData} {m : Nat} (h : markB d (oS "name") 2 = true) : partB (m + 1) d = nmB (ix d 1) := (if_neg (mark_no h (by decide +kernel))).trans (if_pos h)
theorem part_sum {d : PyData} {m : Nat} (h1 : ¬ markB d (oS "number") 2 = true) (h2 : ¬ markB d (oS "name") 2 = true) : partB (m + 1) d = anyB (partB m) d mk3 := (if_neg h1).trans (if_neg h2)
theorem lvs_leaf {d : PyData} {m : Nat} (h : inStr mkL (ix d 0) = true) : lvs (m + 1) d = 1 := if_pos h
theorem lvs_sum {d : PyData} {m : Nat} (h : inStr mkL (ix d 0) = false) : lvs (m + 1) d = lvs m (ix d 1) + lvs m (ix d 2) := if_neg (by rw [h]; decide)
theorem nms_name {d : PyData} {m : Nat} (h : isS (ix d 0) (oS "name") = true) : nms (m + 1) d = [ix d 1] := if_pos h
theorem nms_num {d : PyData} {m : Nat} (h : isS (ix d 0) (oS "name") = false) (h2 : isS (ix d 0) (oS "number") = true) : nms (m + 1) d = [] := (if_neg (by rw [h]; decide)).trans (if_pos h2)
theorem nms_sum {d : PyData} {m : Nat} (h : isS (ix d 0) (oS "name") = false) (h2 : isS (ix d 0) (oS "number") = false) : nms (m + 1) d = nms m (ix d 1) ++ nms m (ix d 2) := (if_neg (by rw [h]; decide)).trans (if_neg (by rw [h2]; decide))
theorem stmt_read {d : PyData} {m : Nat} {held : Bool} (h : markB d (oS "read") 2 = true) : stmtB (m + 1) held d = nmB (ix d 1) := if_pos h
theorem stmt_set {d : PyData} {m : Nat} {held : Bool} (h : markB d (oS "set") 3 = true) : stmtB (m + 1) held d = (nmB (ix d 1) && exprB (m + 1) (ix d 2)) := (if_neg (mark_no h (by decide +kernel))).trans (if_pos h)
theorem stmt_work {d : PyData} {m : Nat} {held : Bool} (h : markB d (oS "work") 2 = true) : stmtB (m + 1) held d = numIn (ix d 1) 1 9 := (if_neg (mark_no h (by decide +kernel))).trans ((if_neg (mark_no h (by decide +kernel))).trans (if_pos h))
theorem stmt_hold {d : PyData} {m : Nat} {held : Bool} (h : markB d (oS "hold") 2 = true) : stmtB (m + 1) held d = (!held && fullF (stmtB m true) (ix d 1)) := (if_neg (mark_no h (by decide +kernel))).trans ((if_neg (mark_no h (by decide +kernel))).trans ((if_neg (mark_no h (by decide +kernel))).trans (if_pos h)))
theorem stmt_if {d : PyData} {m : Nat} {held : Bool} (h : markB d (oS "if") 4 = true) : stmtB (m + 1) held d = (testB (m + 1) (ix d 1) && (fullF (stmtB m held) (ix d 2) && bodyF (stmtB m held) (ix d 3))) := (if_neg (mark_no h (by decide +kernel))).trans ((if_neg (mark_no h (by decide +kernel))).trans ((if_neg (mark_no h (by decide +kernel))).trans ((if_neg (mark_no h (by decide +kernel))).trans (if_pos h))))
theorem stmt_whl {d : PyData} {m : Nat} {held : Bool} (h : markB d (oS "while") 3 = true) : stmtB (m + 1) held d = (testB (m + 1) (ix d 1) && fullF (stmtB m held) (ix d 2)) := (if_neg (mark_no h (by decide +kernel))).trans ((if_neg (mark_no h (by decide +kernel))).trans ((if_neg (mark_no h (by decide +kernel))).trans ((if_neg (mark_no h (by decide +kernel))).trans ((if_neg (mark_no h (by decide +kernel))).trans (by rw [h, Bool.true_and])))))
theorem wt_str (x : Str) : PyData.weight (.str x) = x.length := by simp only [PyData.weight]; rfl
theorem wt_tup (l : List PyData) : PyData.weight (.tuple l) = PyData.weightAll l := by simp [PyData.weight]
theorem wt_lst (l : List PyData) : PyData.weight (.list l) = PyData.weightAll l := by simp [PyData.weight]
theorem wt_cons (d : PyData) (l : List PyData) : PyData.weightAll (d :: l) = d.weight + 1 + PyData.weightAll l := by simp [PyData.weightAll]
theorem wt_nil : PyData.weightAll [] = 0 := by simp [PyData.weightAll]
theorem wt_int {n : Nat} (h : n < 1000000000000) : PyData.weight (iN n) ≤ 41 := (nice_int h).wt
theorem wt_bool (b : Bool) : PyData.weight (.bool b) = 0 := Nat.le_zero.mp (nice_bool b).wt
theorem wt_none : PyData.weight .none = 0 := Nat.le_zero.mp nice_none.wt
theorem wt_app (l m : List PyData) : PyData.weightAll (l ++ m) = PyData.weightAll l + PyData.weightAll m := by
  induction l with
  | nil => rw [List.nil_append, wt_nil, Nat.zero_add]
  | cons d l ih => rw [List.cons_append, wt_cons, wt_cons, ih]; omega
/-- the facts of an expression: its depth, its leaves -/
structure EF (V : List Str) (j c : Nat) (d : PyData) : Prop where
  part : ∀ i, j ≤ i → partB (i + 1) d = true ∧ lvs (i + 1) d ≤ c ∧ ∀ x ∈ nms (i + 1) d, x ∈ V.map PyData.str
  ok : okB (j + 1) d = true
  wt : d.weight + 4 ≤ 65 * c
theorem EF.up {V : List Str} {j k c : Nat} {d : PyData} (h : EF V j c d) (hk : j ≤ k) : EF V k c d := ⟨fun i hi => h.part i (by omega), okB_le h.ok (by omega), h.wt⟩
theorem str_short {x : Str} (h : x.length ≤ 8) (ha : Asc x) (m : Nat) : okB m (.str x) = true := ok_str (by omega) ha
theorem w_num : (oS "number").length = 6 ∧ (oS "name").length = 4 := by decide +kernel
theorem lf_ef {V : List Str} (hV : ∀ s ∈ V, nameB s = true) {d : PyData} (h : Lf V d) : EF V 0 1 d := by
  rcases h with ⟨n, hn, rfl⟩ | ⟨s, hs, hw, rfl⟩
  · refine ⟨fun i _ => ?_, ok_tup (by simp) (all2 (str_short (by decide +kernel) (asc_of (by decide +kernel)) 0) (ok_int (by omega))), ?_⟩
    · have h1 : inStr mkL (ix (num n) 0) = true := by show inStr mkL (sS "number") = true; decide +kernel
      have h2 : isS (ix (num n) 0) (oS "name") = false := by show isS (sS "number") (oS "name") = false; decide +kernel
      have h3 : isS (ix (num n) 0) (oS "number") = true := by show isS (sS "number") (oS "number") = true; decide +kernel
      refine ⟨?_, ?_, ?_⟩
      · rw [part_num (mk_t rfl)]
        show (!decide ((n : Int) < 0) && decide ((n : Int) ≤ 99)) = true
        rw [decide_eq_false (by omega), decide_eq_true (by omega)]
        rfl
      · rw [lvs_leaf h1]
        omega
      · rw [nms_num h2 h3]
        exact fun x hx => nomatch hx
    · rw [wt_tup, wt_cons, wt_cons, wt_nil, wt_str, w_num.1]
      have := wt_int (n := n) (by omega)
      omega
  · refine ⟨fun i _ => ?_, ok_tup (by simp) (all2 (str_short (by decide +kernel) (asc_of (by decide +kernel)) 0) (str_short hw.le hw.asc 0)), ?_⟩
    · have h1 : inStr mkL (ix (nam s) 0) = true := by show inStr mkL (sS "name") = true; decide +kernel
      have h2 : isS (ix (nam s) 0) (oS "name") = true := by show isS (sS "name") (oS "name") = true; decide +kernel
      refine ⟨?_, ?_, ?_⟩
      · rw [part_name (mk_t rfl)]
        exact hV s hs
      · rw [lvs_leaf h1]
        omega
      · rw [nms_name h2]
        intro x hx
        rw [List.mem_singleton.mp hx]
        exact List.mem_map_of_mem hs
    · rw [wt_tup, wt_cons, wt_cons, wt_nil, wt_str, wt_str, w_num.2]
      have := hw.le
      omega
theorem op_facts {o : Str} (h : Op o) : oS "number" ≠ o ∧ oS "name" ≠ o ∧ o.length = 1 ∧ inStr mk3 (.str o) = true ∧ inStr mkL (.str o) = false ∧ isS (.str o) (oS "name") = false ∧ isS (.str o) (oS "number") = false := by
  rcases h with rfl | rfl | rfl <;> decide +kernel
theorem sum_ef {V : List Str} {j c1 c2 : Nat} {o : Str} {a b : PyData} (ho : Op o) (ha : EF V j c1 a) (hb : EF V j c2 b) : EF V (j + 1) (c1 + c2) (.tuple [.str o, a, b]) := by
  obtain ⟨o1, o2, o3, o4, o5, o6, o7⟩ := op_facts ho
  refine ⟨fun i hi => ?_, ok_tup (by simp) (all3 (str_short (by omega) (op_asc ho) _) ha.ok hb.ok), ?_⟩
  · obtain ⟨i', rfl⟩ : ∃ i', i = i' + 1 := ⟨i - 1, by omega⟩
    obtain ⟨a1, a2, a3⟩ := ha.part i' (by omega)
    obtain ⟨b1, b2, b3⟩ := hb.part i' (by omega)
    refine ⟨?_, ?_, ?_⟩
    · rw [part_sum (mk_n (Ne.symm o1)) (mk_n (Ne.symm o2))]
      show (true && (true && (inStr mk3 (.str o) && (partB (i' + 1) a && partB (i' + 1) b)))) = true
      rw [o4, a1, b1]
      rfl
    · rw [lvs_sum (d := .tuple [.str o, a, b]) o5]
      show lvs (i' + 1) a + lvs (i' + 1) b ≤ _
      omega
    · rw [nms_sum (d := .tuple [.str o, a, b]) o6 o7]
      intro x hx
      rcases List.mem_append.mp hx with hx | hx
      · exact a3 x hx
      · exact b3 x hx
  · rw [wt_tup, wt_cons, wt_cons, wt_cons, wt_nil, wt_str, o3]
    have := ha.wt
    have := hb.wt
    omega
theorem sd_ef {V : List Str} (hV : ∀ s ∈ V, nameB s = true) {d : PyData} (h : Sd V d) : EF V 1 2 d := by
  rcases h with h | ⟨o, a, b, ho, ha, hb, rfl⟩
  · have := lf_ef hV h
    exact ⟨fun i hi => ⟨(this.part i (by omega)).1, by have := (this.part i (by omega)).2.1; omega, (this.part i (by omega)).2.2⟩, okB_le this.ok (by omega), by have := this.wt; omega⟩
  · exact sum_ef ho (lf_ef hV ha) (lf_ef hV hb)
theorem ag_ef {V : List Str} (hV : ∀ s ∈ V, nameB s = true) {d : PyData} (h : Ag V d) : EF V 2 3 d := by
  rcases h with h | ⟨a, b, c, ha, hb, hc, rfl⟩
  · have := lf_ef hV h
    exact ⟨fun i hi => ⟨(this.part i (by omega)).1, by have := (this.part i (by omega)).2.1; omega, (this.part i (by omega)).2.2⟩, okB_le this.ok (by omega), by have := this.wt; omega⟩
  · exact sum_ef (.inl rfl) ((lf_ef hV ha).up (by omega)) (sum_ef (.inr (.inr rfl)) (lf_ef hV hb) (lf_ef hV hc))
theorem EF.expr {V : List Str} {j c i : Nat} {d : PyData} (h : EF V j c d) (hi : j ≤ i) (hc : c ≤ 15) : exprB (i + 1) d = true := by
  obtain ⟨a, b, _⟩ := h.part i hi
  unfold exprB
  rw [a, decide_eq_true (by omega)]
  rfl
theorem mk2_facts {o : Str} (h : o = Str.ofString "=" ∨ o = Str.ofString "<") : o.length = 1 ∧ Asc o ∧ inStr mk2 (.str o) = true := by
  rcases h with rfl | rfl <;> exact ⟨by decide +kernel, asc_of (by decide +kernel), by decide +kernel⟩
structure TF (V : List Str) (d : PyData) : Prop where
  test : ∀ i, testB (i + 1) d = true ∧ ∀ x ∈ nms (i + 2) d, x ∈ V.map PyData.str
  ok : okB 2 d = true
  wt : d.weight ≤ 130
theorem ts_tf {V : List Str} (hV : ∀ s ∈ V, nameB s = true) {d : PyData} (h : Ts V d) : TF V d := by
  obtain ⟨o, a, b, ho, ha, hb, rfl⟩ := h
  obtain ⟨o1, o2, o3⟩ := mk2_facts ho
  have ha := lf_ef hV ha
  have hb := lf_ef hV hb
  refine ⟨fun i => ?_, ok_tup (by simp) (all3 (str_short (by omega) o2 _) ha.ok hb.ok), ?_⟩
  · obtain ⟨a1, a2, a3⟩ := ha.part i (by omega)
    obtain ⟨b1, b2, b3⟩ := hb.part i (by omega)
    have hno := mk2_no o3
    refine ⟨?_, ?_⟩
    · unfold testB
      show ((true && (true && (inStr mk2 (.str o) && (partB (i + 1) a && partB (i + 1) b)))) && (decide (lvs (i + 1) a ≤ 15) && decide (lvs (i + 1) b ≤ 15))) = true
      rw [o3, a1, b1, decide_eq_true (by omega), decide_eq_true (by omega)]
      rfl
    · rw [nms_sum (d := .tuple [.str o, a, b]) hno.1 hno.2]
      intro x hx
      rcases List.mem_append.mp hx with hx | hx
      · exact a3 x hx
      · exact b3 x hx
  · rw [wt_tup, wt_cons, wt_cons, wt_cons, wt_nil, wt_str, o1]
    have := ha.wt
    have := hb.wt
    omega
theorem all_cons {f : PyData → Bool} {l : List PyData} (h : ∀ x ∈ l, f x = true) : bodyF f (.tuple l) = true := by
  show (true && l.all f) = true
  rw [List.all_eq_true.mpr h]
  rfl
theorem bas_ok {N V : List Str} (hV : ∀ s ∈ V, nameB s = true) {d : PyData} (h : Bas N V d) (i : Nat) (hi : 1 ≤ i) (held : Bool) : stmtB (i + 1) held d = true := by
  rcases h with ⟨s, _, hs, hw, rfl⟩ | ⟨s, e, hs, hw, he, rfl⟩ | ⟨n, h1, h9, rfl⟩
  · rw [stmt_read (mk_t rfl)]
    exact hV s hs
  · rw [stmt_set (mk_t rfl), Bool.and_eq_true]
    exact ⟨hV s hs, (sd_ef hV he).expr hi (by omega)⟩
  · rw [stmt_work (mk_t rfl)]
    show (!decide ((n : Int) < 1) && decide ((n : Int) ≤ 9)) = true
    rw [decide_eq_false (by omega), decide_eq_true (by omega)]
    rfl
theorem full_ok {f : PyData → Bool} {l : List PyData} (h0 : 1 ≤ l.length) (h : ∀ x ∈ l, f x = true) : fullF f (.tuple l) = true := by
  unfold fullF
  rw [all_cons h]
  show (true && !l.isEmpty) = true
  cases l with
  | nil => simp at h0
  | cons a r => rfl
theorem whl_un {i : Nat} {held : Bool} {t b : PyData} (h1 : testB (i + 1) t = true) (h2 : fullF (stmtB i held) b = true) : stmtB (i + 1) held (.tuple [sS "while", t, b]) = true := by
  rw [stmt_whl (mk_t rfl)]
  show (testB (i + 1) t && fullF (stmtB i held) b) = true
  rw [h1, h2]
  rfl
theorem if_un {i : Nat} {held : Bool} {t b c : PyData} (h1 : testB (i + 1) t = true) (h2 : fullF (stmtB i held) b = true) (h3 : bodyF (stmtB i held) c = true) : stmtB (i + 1) held (.tuple [sS "if", t, b, c]) = true := by
  rw [stmt_if (mk_t rfl)]
  show (testB (i + 1) t && (fullF (stmtB i held) b && bodyF (stmtB i held) c)) = true
  rw [h1, h2, h3]
  rfl
theorem hold_un {i : Nat} {b : PyData} (h2 : fullF (stmtB i true) b = true) : stmtB (i + 1) false (.tuple [sS "hold", b]) = true := by
  rw [stmt_hold (mk_t rfl)]
  show (!false && fullF (stmtB i true) b) = true
  rw [h2]
  rfl
theorem bs1_ok {N V : List Str} (hV : ∀ s ∈ V, nameB s = true) {d : PyData} (h : Bs1 N V d) (i : Nat) (hi : 2 ≤ i) (held : Bool) : stmtB (i + 1) held d = true := by
  rcases h with h | ⟨t, e, ht, he, rfl⟩
  · exact bas_ok hV h i (by omega) held
  · obtain ⟨i', rfl⟩ : ∃ i', i = i' + 1 := ⟨i - 1, by omega⟩
    exact whl_un ((ts_tf hV ht).test _).1 (full_ok (by simp) (all1 (bas_ok hV he i' (by omega) held)))
theorem stm_ok {N V : List Str} (hV : ∀ s ∈ V, nameB s = true) : ∀ (k : Nat) (d : PyData), Stm N V k d → ∀ i, 2 + k ≤ i → stmtB (i + 1) false d = true
  | 0, d, h, i, hi => bas_ok hV h i (by omega) false
  | 1, d, h, i, hi => bs1_ok hV h i (by omega) false
  | k + 2, d, h, i, hi => by
    obtain ⟨i', rfl⟩ : ∃ i', i = i' + 1 := ⟨i - 1, by omega⟩
    rcases h with h | ⟨b, ⟨l, rfl, l1, _, hl⟩, rfl⟩ | ⟨t, b, c, ht, ⟨l, rfl, l1, _, hl⟩, ⟨l2, rfl, _, hl2⟩, rfl⟩
    · exact bs1_ok hV h _ (by omega) false
    · exact hold_un (full_ok l1 fun x hx => bs1_ok hV (hl x hx) i' (by omega) true)
    · exact if_un ((ts_tf hV ht).test _).1 (full_ok l1 fun x hx => stm_ok hV (k + 1) x (hl x hx) i' (by omega)) (all_cons fun x hx => stm_ok hV (k + 1) x (hl2 x hx) i' (by omega))
/-! ### their data -/
theorem w_ok (x : String) (h : (decide ((oS x).length ≤ 8) && ascB (oS x)) = true) (m : Nat) : okB m (sS x) = true := by
  rw [Bool.and_eq_true, decide_eq_true_eq] at h
  exact str_short h.1 (asc_of h.2) m
theorem bas_okB {N V : List Str} (hV : ∀ s ∈ V, nameB s = true) {d : PyData} (h : Bas N V d) : okB 3 d = true ∧ d.weight ≤ 160 := by
  rcases h with ⟨s, _, hs, hw, rfl⟩ | ⟨s, e, hs, hw, he, rfl⟩ | ⟨n, h1, h9, rfl⟩
  · refine ⟨ok_tup (by simp) (all2 (w_ok "read" (by decide +kernel) 2) (str_short hw.le hw.asc 2)), ?_⟩
    rw [wt_tup, wt_cons, wt_cons, wt_nil, wt_str, wt_str]
    have := hw.le
    have : (Str.ofString "read").length = 4 := by decide +kernel
    omega
  · have he := sd_ef hV he
    refine ⟨ok_tup (by simp) (all3 (w_ok "set" (by decide +kernel) 2) (str_short hw.le hw.asc 2) he.ok), ?_⟩
    rw [wt_tup, wt_cons, wt_cons, wt_cons, wt_nil, wt_str, wt_str]
    have := hw.le
    have := he.wt
    have : (Str.ofString "set").length = 3 := by decide +kernel
    omega
  · refine ⟨ok_tup (by simp) (all2 (w_ok "work" (by decide +kernel) 2) (ok_int (by omega))), ?_⟩
    rw [wt_tup, wt_cons, wt_cons, wt_nil, wt_str]
    have := wt_int (n := n) (by omega)
    have : (Str.ofString "work").length = 4 := by decide +kernel
    omega
end Dw

set_option Elab.async false
set_option linter.all false
set_option maxRecDepth 100000
set_option maxHeartbeats 1000000
/-! Drawn statements: data, weights, places, names told. -/
namespace Dw
open PySem
section
variable {N V : List Str} (hV : ∀ s ∈ V, nameB s = true)
include hV
theorem whl_okB {d : PyData} (h : Whl N V d) : okB 5 d = true ∧ d.weight ≤ 900 := by
  obtain ⟨t, e, ht, he, rfl⟩ := h
  have ht := ts_tf hV ht
  have he := bas_okB hV he
  refine ⟨ok_tup (by simp) (all3 (w_ok "while" (by decide +kernel) 4) (okB_le ht.ok (by omega)) (ok_tup (by simp) (all1 he.1))), ?_⟩
  rw [wt_tup, wt_cons, wt_cons, wt_cons, wt_nil, wt_str, wt_tup, wt_cons, wt_nil]
  have := ht.wt
  have := he.2
  have : (Str.ofString "while").length = 5 := by decide +kernel
  omega
theorem bs1_okB {d : PyData} (h : Bs1 N V d) : okB 5 d = true ∧ d.weight ≤ 900 := by
  rcases h with h | h
  · have := bas_okB hV h
    exact ⟨okB_le this.1 (by omega), by omega⟩
  · exact whl_okB hV h
theorem stm_okB : ∀ (k : Nat) (d : PyData), Stm N V k d → okB (3 + 2 * k) d = true
  | 0, d, h => (bas_okB hV h).1
  | 1, d, h => (bs1_okB hV h).1
  | k + 2, d, h => by
    rcases h with h | ⟨b, ⟨l, rfl, l1, l3, hl⟩, rfl⟩ | ⟨t, b, c, ht, ⟨l, rfl, l1, l3, hl⟩, ⟨l2, rfl, l4, hl2⟩, rfl⟩
    · exact okB_le (bs1_okB hV h).1 (by omega)
    · refine okB_le (m := 7) (ok_tup (by simp) (all2 (w_ok "hold" (by decide +kernel) _) (ok_tup (by omega) fun x hx => (bs1_okB hV (hl x hx)).1))) (by omega)
    · have ih := stm_okB (k + 1)
      have e1 : okB (3 + 2 * (k + 1) + 1) (.tuple l) = true := ok_tup (by omega) fun x hx => ih x (hl x hx)
      have e2 : okB (3 + 2 * (k + 1) + 1) (.tuple l2) = true := ok_tup (by omega) fun x hx => ih x (hl2 x hx)
      exact okB_le (m := 3 + 2 * (k + 1) + 2) (ok_tup (by simp) (all4 (w_ok "if" (by decide +kernel) _) (okB_le (ts_tf hV ht).ok (by omega)) e1 e2)) (by omega)
theorem wt_all {l : List PyData} (h : ∀ d ∈ l, d.weight + 1 ≤ 1000 * (1 + cntS d)) : PyData.weightAll l ≤ 1000 * (l.length + cntL l) := by
  induction l with
  | nil => rw [wt_nil]; omega
  | cons d l ih =>
    rw [wt_cons, cntL, List.length_cons]
    have := h d List.mem_cons_self
    have := ih fun x hx => h x (List.mem_cons_of_mem _ hx)
    omega
end
theorem isB_t {l : List PyData} {P : PyData → Prop} (h : ∀ d ∈ l, P d) (hp : ∀ d, P d → ∃ x, d = .tuple x) : isB (.tuple l) = true := by
  cases l with
  | nil => rfl
  | cons d l =>
    obtain ⟨x, rfl⟩ := hp d (h d List.mem_cons_self)
    rfl
theorem bs1_t {N V : List Str} {d : PyData} (h : Bs1 N V d) : ∃ x, d = .tuple x := by
  rcases h with (⟨s, _, hs, hw, rfl⟩ | ⟨s, e, hs, hw, he, rfl⟩ | ⟨n, h1, h9, rfl⟩) | ⟨t, e, ht, he, rfl⟩ <;> exact ⟨_, rfl⟩
theorem stm_t {N V : List Str} : ∀ {k : Nat} {d : PyData}, Stm N V k d → ∃ x, d = .tuple x
  | 0, d, h => bs1_t (.inl h)
  | 1, d, h => bs1_t h
  | k + 2, d, h => by
    rcases h with h | ⟨b, _, rfl⟩ | ⟨t, b, c, _, _, _, rfl⟩
    · exact bs1_t h
    · exact ⟨_, rfl⟩
    · exact ⟨_, rfl⟩
theorem cntS_of {w : Str} {r : List PyData} (h : isC w = true) : cntS (.tuple (.str w :: r)) = cntP r := by
  rw [cntS, cntT, if_pos h]
theorem cntS_no {w : Str} {r : List PyData} (h : isC w = false) : cntS (.tuple (.str w :: r)) = 0 := by
  rw [cntS, cntT, if_neg (by rw [h]; decide)]
theorem isC_w : isC (oS "hold") = true ∧ isC (oS "if") = true ∧ isC (oS "while") = true ∧ isC (oS "read") = false ∧ isC (oS "set") = false ∧ isC (oS "work") = false := by decide +kernel
theorem cntP1 {p : PyData} (h : isB p = true) : cntP [p] = cnt p := by
  rw [cntP, if_pos h, cntP]
  omega
theorem cntP2 {t p : PyData} (ht : isB t = false) (h : isB p = true) : cntP [t, p] = cnt p := by
  rw [cntP, if_neg (by rw [ht]; decide), cntP1 h]
  omega
theorem cntP3 {t p q : PyData} (ht : isB t = false) (h : isB p = true) (h2 : isB q = true) : cntP [t, p, q] = cnt p + cnt q := by
  rw [cntP, if_neg (by rw [ht]; decide), cntP, if_pos h, cntP1 h2]
  omega
theorem cnt_bas {N V : List Str} {d : PyData} (h : Bas N V d) : cntS d = 0 := by
  rcases h with ⟨s, _, hs, hw, rfl⟩ | ⟨s, e, hs, hw, he, rfl⟩ | ⟨n, h1, h9, rfl⟩
  · exact cntS_no isC_w.2.2.2.1
  · exact cntS_no isC_w.2.2.2.2.1
  · exact cntS_no isC_w.2.2.2.2.2
theorem bs1_wt {N V : List Str} (hV : ∀ s ∈ V, nameB s = true) {d : PyData} (h : Bs1 N V d) : d.weight + 1 ≤ 1000 * (1 + cntS d) := by
  have := (bs1_okB hV h).2
  omega
theorem stm_wt {N V : List Str} (hV : ∀ s ∈ V, nameB s = true) : ∀ (k : Nat) (d : PyData), Stm N V k d → d.weight + 1 ≤ 1000 * (1 + cntS d)
  | 0, d, h => bs1_wt hV (.inl h)
  | 1, d, h => bs1_wt hV h
  | k + 2, d, h => by
    rcases h with h | ⟨b, ⟨l, rfl, l1, l3, hl⟩, rfl⟩ | ⟨t, b, c, ht, ⟨l, rfl, l1, l3, hl⟩, ⟨l2, rfl, l4, hl2⟩, rfl⟩
    · exact bs1_wt hV h
    · have hb := wt_all hV (l := l) fun x hx => bs1_wt hV (hl x hx)
      rw [cntS_of isC_w.1, cntP1 (isB_t hl fun d hd => bs1_t hd), wt_tup, wt_cons, wt_cons, wt_nil, wt_str, wt_tup, cnt]
      have : (Str.ofString "hold").length = 4 := by decide +kernel
      omega
    · have ih := stm_wt (N := N) hV (k + 1)
      have hb := wt_all hV (l := l) fun x hx => ih x (hl x hx)
      have hc := wt_all hV (l := l2) fun x hx => ih x (hl2 x hx)
      rw [cntS_of isC_w.2.1, cntP3 (isB_ts ht) (isB_t hl fun d hd => stm_t hd) (isB_t hl2 fun d hd => stm_t hd), wt_tup, wt_cons, wt_cons, wt_cons, wt_cons, wt_nil, wt_str, wt_tup, wt_tup, cnt, cnt]
      have := (ts_tf hV ht).wt
      have : (Str.ofString "if").length = 2 := by decide +kernel
      omega
/-! ### inner bodies -/
theorem fneg {w : String} {x : PyData} {l : List PyData} (h : bodB (sS w) (ix x 0) = false) : List.filter (fun x => bodB (sS w) (ix x 0)) (x :: l) = List.filter (fun x => bodB (sS w) (ix x 0)) l :=
  List.filter_cons_of_neg (p := fun x => bodB (sS w) (ix x 0)) (by rw [h]; decide)
theorem fpos {w : String} {x : PyData} {l : List PyData} (h : bodB (sS w) (ix x 0) = true) : List.filter (fun x => bodB (sS w) (ix x 0)) (x :: l) = x :: List.filter (fun x => bodB (sS w) (ix x 0)) l :=
  List.filter_cons_of_pos (p := fun x => bodB (sS w) (ix x 0)) h
theorem inr_2 {w : String} {a : PyData} {p : Bool} (h0 : bodB (sS w) (iN 0) = false) (h1 : bodB (sS w) (iN 1) = p) : inrD (.tuple [sS w, a]) = if p = true then [.tuple [iN 1, a]] else [] := by
  show List.filter (fun x => bodB (sS w) (ix x 0)) [.tuple [iN 0, sS w], .tuple [iN 1, a]] = _
  rw [fneg (x := .tuple [iN 0, sS w]) h0]
  cases p with
  | true => rw [fpos (x := .tuple [iN 1, a]) h1]; rfl
  | false => rw [fneg (x := .tuple [iN 1, a]) h1]; rfl
theorem inr_3 {w : String} {a b : PyData} {p : Bool} (h0 : bodB (sS w) (iN 0) = false) (h1 : bodB (sS w) (iN 1) = false) (h2 : bodB (sS w) (iN 2) = p) : inrD (.tuple [sS w, a, b]) = if p = true then [.tuple [iN 2, b]] else [] := by
  show List.filter (fun x => bodB (sS w) (ix x 0)) [.tuple [iN 0, sS w], .tuple [iN 1, a], .tuple [iN 2, b]] = _
  rw [fneg (x := .tuple [iN 0, sS w]) h0, fneg (x := .tuple [iN 1, a]) h1]
  cases p with
  | true => rw [fpos (x := .tuple [iN 2, b]) h2]; rfl
  | false => rw [fneg (x := .tuple [iN 2, b]) h2]; rfl
theorem if_bod : bodB (sS "if") (iN 0) = false ∧ bodB (sS "if") (iN 1) = false ∧ bodB (sS "if") (iN 2) = true ∧ bodB (sS "if") (iN 3) = true := by decide +kernel
theorem inr_if {a b c : PyData} : inrD (.tuple [sS "if", a, b, c]) = [.tuple [iN 2, b], .tuple [iN 3, c]] := by
  show List.filter (fun x => bodB (sS "if") (ix x 0)) [.tuple [iN 0, sS "if"], .tuple [iN 1, a], .tuple [iN 2, b], .tuple [iN 3, c]] = _
  rw [fneg (x := .tuple [iN 0, sS "if"]) if_bod.1, fneg (x := .tuple [iN 1, a]) if_bod.2.1, fpos (x := .tuple [iN 2, b]) if_bod.2.2.1, fpos (x := .tuple [iN 3, c]) if_bod.2.2.2]
  rfl
theorem inr_bas {N V : List Str} {d : PyData} (h : Bas N V d) : inrD d = [] := by
  rcases h with ⟨s, _, hs, hw, rfl⟩ | ⟨s, e, hs, hw, he, rfl⟩ | ⟨n, h1, h9, rfl⟩
  · exact inr_2 (p := false) (by decide +kernel) (by decide +kernel)
  · exact inr_3 (p := false) (by decide +kernel) (by decide +kernel) (by decide +kernel)
  · exact inr_2 (p := false) (by decide +kernel) (by decide +kernel)
theorem inr_whl {t b : PyData} : inrD (.tuple [sS "while", t, b]) = [.tuple [iN 2, b]] := inr_3 (p := true) (by decide +kernel) (by decide +kernel) (by decide +kernel)
theorem inr_hold {b : PyData} : inrD (.tuple [sS "hold", b]) = [.tuple [iN 1, b]] := inr_2 (p := true) (by decide +kernel) (by decide +kernel)
/-- the inner bodies of a statement that is drawn: their statements, their number -/
theorem stm_inr {N V : List Str} : ∀ (k : Nat) (st : PyData), Stm N V k st → (∀ q ∈ inrD st, ∃ k', k' < k ∧ ∃ l, ix q 1 = .tuple l ∧ ∀ d ∈ l, Stm N V k' d) ∧ ((inrD st).map fun q => cnt (ix q 1)).sum = cntS st
  | 0, st, h => by
    rw [inr_bas h, cnt_bas h]
    exact ⟨fun q hq => (nomatch hq), rfl⟩
  | k + 1, st, h => by
    have hb1 : Bs1 N V st → (∀ q ∈ inrD st, ∃ k', k' < k + 1 ∧ ∃ l, ix q 1 = .tuple l ∧ ∀ d ∈ l, Stm N V k' d) ∧ ((inrD st).map fun q => cnt (ix q 1)).sum = cntS st := fun h => by
      rcases h with h | ⟨t, e, ht, he, rfl⟩
      · rw [inr_bas h, cnt_bas h]
        exact ⟨fun q hq => (nomatch hq), rfl⟩
      · rw [inr_whl, cntS_of isC_w.2.2.1, cntP2 (isB_ts ht) (isB_t (all1 he) fun d hd => bs1_t (.inl hd))]
        refine ⟨fun q hq => ?_, ?_⟩
        · rw [List.mem_singleton.mp hq]
          exact ⟨0, by omega, [e], rfl, all1 he⟩
        · show cnt (.tuple [e]) + 0 = _
          omega
    match k, h with
    | 0, h => exact hb1 h
    | k + 1, h =>
      rcases h with h | ⟨b, ⟨l, rfl, l1, l3, hl⟩, rfl⟩ | ⟨t, b, c, ht, ⟨l, rfl, l1, l3, hl⟩, ⟨l2, rfl, l4, hl2⟩, rfl⟩
      · exact hb1 h
      · rw [inr_hold, cntS_of isC_w.1, cntP1 (isB_t hl fun d hd => bs1_t hd)]
        refine ⟨fun q hq => ?_, ?_⟩
        · rw [List.mem_singleton.mp hq]
          exact ⟨1, by omega, l, rfl, hl⟩
        · show cnt (.tuple l) + 0 = _
          omega
      · rw [inr_if, cntS_of isC_w.2.1, cntP3 (isB_ts ht) (isB_t hl fun d hd => stm_t hd) (isB_t hl2 fun d hd => stm_t hd)]
        refine ⟨fun q hq => ?_, ?_⟩
        · rcases List.mem_cons.mp hq with rfl | hq
          · exact ⟨k + 1, by omega, l, rfl, hl⟩
          · rw [List.mem_singleton.mp hq]
            exact ⟨k + 1, by omega, l2, rfl, hl2⟩
        · show cnt (.tuple l) + (cnt (.tuple l2) + 0) = _
          omega
theorem plcS_len {f : PyData → List PyData} {i : Nat} {st : PyData} : (plcS f i st).length = 1 + ((inrD st).map fun q => (f (ix q 1)).length).sum := by
  unfold plcS
  rw [List.length_cons, List.length_flatten, List.map_map]
  have : (List.length ∘ plG f i) = fun q => (f (ix q 1)).length := by
    funext q
    exact List.length_map ..
  rw [this]
  omega
theorem plcL_len {f : PyData → List PyData} {g : PyData → Nat} : ∀ (l : List PyData) (i : Nat), (∀ st ∈ l, ∀ j, (plcS f j st).length = 1 + g st) → (plcL f i l).length = l.length + (l.map g).sum
  | [], _, _ => rfl
  | st :: r, i, h => by
    rw [plcL, List.length_append, h st List.mem_cons_self, plcL_len r (i + 1) fun s hs => h s (List.mem_cons_of_mem _ hs), List.map_cons, List.sum_cons, List.length_cons]
    omega
/-- the places in a body that is drawn -/
theorem plc_drawn {N V : List Str} : ∀ (m k : Nat) (l : List PyData), k < m → (∀ d ∈ l, Stm N V k d) → (plc m (.tuple l)).length = cnt (.tuple l) ∧ ∀ p ∈ plc m (.tuple l), ∃ k', k' ≤ k ∧ Stm N V k' (ix p 1)
  | m + 1, k, l, hk, hl => by
    have inn : ∀ st ∈ l, ∀ q ∈ inrD st, (plc m (ix q 1)).length = cnt (ix q 1) ∧ ∀ p ∈ plc m (ix q 1), ∃ k', k' ≤ k ∧ Stm N V k' (ix p 1) := fun st hst q hq => by
      obtain ⟨k', hk', l', e, hl'⟩ := (stm_inr k st (hl st hst)).1 q hq
      rw [e]
      obtain ⟨a, b⟩ := plc_drawn m k' l' (by omega) hl'
      exact ⟨a, fun p hp => by
        obtain ⟨k2, h2, h3⟩ := b p hp
        exact ⟨k2, by omega, h3⟩⟩
    refine ⟨?_, fun p hp => ?_⟩
    · show (plcL (plc m) 0 l).length = _
      rw [plcL_len (g := cntS) l 0, cnt, cntL_sum]
      intro st hst j
      rw [plcS_len, ← (stm_inr k st (hl st hst)).2]
      congr 1
      have : ∀ qs : List PyData, (∀ q ∈ qs, (plc m (ix q 1)).length = cnt (ix q 1)) → (qs.map fun q => (plc m (ix q 1)).length) = qs.map fun q => cnt (ix q 1) := fun qs h => List.map_congr_left h
      rw [this _ fun q hq => (inn st hst q hq).1]
    · obtain ⟨j, st, hst, hp⟩ := plcL_mem (show p ∈ plcL (plc m) 0 l from hp)
      unfold plcS at hp
      rcases List.mem_cons.mp hp with rfl | hp
      · exact ⟨k, Nat.le_refl _, hl st hst⟩
      · obtain ⟨x, hx, hp⟩ := List.mem_flatten.mp hp
        obtain ⟨q, hq, rfl⟩ := List.mem_map.mp hx
        obtain ⟨p', hp', rfl⟩ := List.mem_map.mp hp
        exact (inn st hst q hq).2 p' hp'
/-! ### names told -/
theorem told_bas {N V : List Str} (hV : ∀ s ∈ V, nameB s = true) {d : PyData} (h : Bas N V d) (m : Nat) (hm : 1 ≤ m) : ∀ x ∈ toldN m d, x ∈ V.map PyData.str := by
  unfold toldN
  rcases h with ⟨s, _, hs, hw, rfl⟩ | ⟨s, e, hs, hw, he, rfl⟩ | ⟨n, h1, h9, rfl⟩
  · rw [if_pos (show isS (ix (.tuple [sS "read", .str s]) 0) (oS "read") = true from (show isS (sS "read") (oS "read") = true by decide +kernel))]
    intro x hx
    rw [List.mem_singleton.mp hx]
    exact List.mem_map_of_mem hs
  · rw [if_neg (show ¬ isS (ix (.tuple [sS "set", .str s, e]) 0) (oS "read") = true from (show ¬ isS (sS "set") (oS "read") = true by decide +kernel)), if_pos (show isS (ix (.tuple [sS "set", .str s, e]) 0) (oS "set") = true from (show isS (sS "set") (oS "set") = true by decide +kernel))]
    intro x hx
    rcases List.mem_cons.mp hx with rfl | hx
    · exact List.mem_map_of_mem hs
    · exact ((sd_ef hV he).part m hm).2.2 x hx
  · rw [if_neg (show ¬ isS (ix (.tuple [sS "work", iN n]) 0) (oS "read") = true from (show ¬ isS (sS "work") (oS "read") = true by decide +kernel)), if_neg (show ¬ isS (ix (.tuple [sS "work", iN n]) 0) (oS "set") = true from (show ¬ isS (sS "work") (oS "set") = true by decide +kernel)), if_neg (show ¬ inStr [oS "if", oS "while"] (ix (.tuple [sS "work", iN n]) 0) = true from (show ¬ inStr [oS "if", oS "while"] (sS "work") = true by decide +kernel))]
    exact fun x hx => nomatch hx
theorem told_test {V : List Str} (hV : ∀ s ∈ V, nameB s = true) {w : String} {t : PyData} {r : List PyData} (ht : Ts V t) (h1 : isS (sS w) (oS "read") = false) (h2 : isS (sS w) (oS "set") = false) (m : Nat) : ∀ x ∈ toldN m (.tuple (sS w :: t :: r)), x ∈ V.map PyData.str := by
  unfold toldN
  rw [if_neg (show ¬ isS (ix (.tuple (sS w :: t :: r)) 0) (oS "read") = true from (show ¬ isS (sS w) (oS "read") = true by rw [h1]; decide)), if_neg (show ¬ isS (ix (.tuple (sS w :: t :: r)) 0) (oS "set") = true from (show ¬ isS (sS w) (oS "set") = true by rw [h2]; decide))]
  split
  · exact ((ts_tf hV ht).test m).2
  · exact fun x hx => nomatch hx
theorem told_stm {N V : List Str} (hV : ∀ s ∈ V, nameB s = true) : ∀ (k : Nat) (d : PyData), Stm N V k d → ∀ m, 1 ≤ m → ∀ x ∈ toldN m d, x ∈ V.map PyData.str := by
  have hb : ∀ d, Bs1 N V d → ∀ m, 1 ≤ m → ∀ x ∈ toldN m d, x ∈ V.map PyData.str := fun d h m hm => by
    rcases h with h | ⟨t, e, ht, he, rfl⟩
    · exact told_bas hV h m hm
    · exact told_test hV ht (by decide +kernel) (by decide +kernel) m
  intro k d h m hm
  match k, h with
  | 0, h => exact told_bas hV h m hm
  | 1, h => exact hb d h m hm
  | k + 2, h =>
    rcases h with h | ⟨b, ⟨l, rfl, l1, l3, hl⟩, rfl⟩ | ⟨t, b, c, ht, _, _, rfl⟩
    · exact hb d h m hm
    · unfold toldN
      rw [if_neg (show ¬ isS (ix (.tuple [sS "hold", .tuple l]) 0) (oS "read") = true from (show ¬ isS (sS "hold") (oS "read") = true by decide +kernel)), if_neg (show ¬ isS (ix (.tuple [sS "hold", .tuple l]) 0) (oS "set") = true from (show ¬ isS (sS "hold") (oS "set") = true by decide +kernel)), if_neg (show ¬ inStr [oS "if", oS "while"] (ix (.tuple [sS "hold", .tuple l]) 0) = true from (show ¬ inStr [oS "if", oS "while"] (sS "hold") = true by decide +kernel))]
      exact fun x hx => nomatch hx
    · exact told_test hV ht (by decide +kernel) (by decide +kernel) m
end Dw

set_option Elab.async false
set_option linter.all false
set_option maxRecDepth 100000
set_option maxHeartbeats 1000000
/-! Drawn tasks have their form; with one thing otherwise they have not. -/
namespace Dw
open PySem
abbrev genT (n ks fs du b ag : PyData) : PyData := .tuple [sS "task", n, ks, fs, du, b, ag]
section
variable {m : Nat} {n ks fs du b ag : PyData}
theorem task_gen : taskB m (genT n ks fs du b ag) = (nmB n && (tupTo ks 2 && (tupTo fs 2 && ((its ks).all keepB && ((its fs).all (rangedB 3) && (exprB (m + 1) du && (bodyF (stmtB (m + 1) false) b && (exprB (m + 1) ag && declB m (genT n ks fs du b ag))))))))) := by
  unfold taskB
  rw [show markB (genT n ks fs du b ag) (oS "task") 7 = true from mk_t rfl, Bool.true_and]
  rfl
theorem and_f2 {a b : Bool} (h : b = false) : (a && b) = false := by rw [h, Bool.and_false]
theorem task_name_f (h : nmB n = false) : taskB m (genT n ks fs du b ag) = false := by
  rw [task_gen, h]
  rfl
theorem task_body_f (h : bodyF (stmtB (m + 1) false) b = false) : taskB m (genT n ks fs du b ag) = false := by
  rw [task_gen, h]
  exact and_f2 (and_f2 (and_f2 (and_f2 (and_f2 (and_f2 rfl)))))
theorem task_decl_f (h : declB m (genT n ks fs du b ag) = false) : taskB m (genT n ks fs du b ag) = false := by
  rw [task_gen, h]
  exact and_f2 (and_f2 (and_f2 (and_f2 (and_f2 (and_f2 (and_f2 (and_f2 rfl)))))))
theorem decl_t {t : PyData} (h1 : unlB (ownN t) = true) (h2 : (plc (m + 1) (ix t 5)).length ≤ 20) (h3 : ∀ x ∈ toldA m t, inL (ownN t) x = true) (h4 : ∀ x ∈ nms (m + 1) (ix t 4), inL ((ownN t).take (its (ix t 2)).length) x = true) : declB m t = true := by
  unfold declB
  rw [h1, decide_eq_false (by omega), if_neg (by decide), List.all_eq_true.mpr h3, List.all_eq_true.mpr h4]
  rfl
theorem decl_told_f {t x : PyData} (h : x ∈ toldA m t) (hx : inL (ownN t) x = false) : declB m t = false := by
  unfold declB
  split
  · rfl
  · have : (toldA m t).all (inL (ownN t)) = false := by
      rw [List.all_eq_false]
      exact ⟨x, h, by rw [hx]; decide⟩
    rw [this]
    rfl
theorem decl_len_f {t : PyData} (h : 20 < (plc (m + 1) (ix t 5)).length) : declB m t = false := by
  unfold declB
  rw [decide_eq_true h, if_pos (by simp)]
theorem all_f {f : PyData → Bool} {l : List PyData} {x : PyData} (h : f x = false) : bodyF f (.tuple (l ++ [x])) = false := by
  show (true && (l ++ [x]).all f) = false
  rw [List.all_append, List.all_cons, h]
  simp
end
theorem inL_t {l : List Str} {s : Str} (h : s ∈ l) : inL (l.map .str) (.str s) = true := by
  unfold inL
  rw [List.any_eq_true]
  exact ⟨.str s, List.mem_map_of_mem h, by rw [eqv_str]; exact decide_eq_true rfl⟩
theorem inL_f {l : List Str} {s : Str} (h : s ∉ l) : inL (l.map .str) (.str s) = false := by
  unfold inL
  rw [List.any_eq_false]
  intro x hx
  obtain ⟨z, hz, rfl⟩ := List.mem_map.mp hx
  rw [eqv_str, decide_eq_false (fun e : z = s => h (e ▸ hz))]
  decide
abbrev nmsL (r r2 : Nat) : List Str := (abL.take r).map (Str.ofString "k" ++ ·) ++ (abL.take r2).map (Str.ofString "v" ++ ·)
theorem nmsL_ok : ∀ r, r < 3 → ∀ r2, r2 < 3 → (unlB ((nmsL r r2).map .str) && ((nmsL r r2).all nameB && (nmsL r r2).all fun s => !decide (s = oS "zz"))) = true := by decide +kernel
structure NamO (n : Str) : Prop where
  nm : nameB n = true
  len : n.length ≤ 8
  asc : Asc n
theorem namO_of {n : Str} (h : (nameB n && (decide (n.length ≤ 8) && ascB n)) = true) : NamO n := by
  rw [Bool.and_eq_true, Bool.and_eq_true, decide_eq_true_eq] at h
  exact ⟨h.1, h.2.1, asc_of h.2.2⟩
section
variable {nam0 name : Str} {kl : List (Str × Nat × Nat)} {fl : List (Str × Nat)} {du ag : PyData} {bl : List PyData} (T : TaskK nam0 kl fl du bl ag)
include T
theorem tk_names : ∃ r r2, r < 3 ∧ r2 < 3 ∧ kl.map (·.1) ++ fl.map (·.1) = nmsL r r2 := by
  obtain ⟨r, hr, e⟩ := T.nk
  obtain ⟨r2, hr2, e2⟩ := T.nf
  exact ⟨r, r2, hr, hr2, by rw [e, e2]⟩
theorem tk_facts : unlB ((kl.map (·.1) ++ fl.map (·.1)).map .str) = true ∧ (∀ s ∈ kl.map (·.1) ++ fl.map (·.1), nameB s = true) ∧ oS "zz" ∉ kl.map (·.1) ++ fl.map (·.1) := by
  obtain ⟨r, r2, hr, hr2, e⟩ := tk_names T
  have h := nmsL_ok r hr r2 hr2
  rw [e]
  rw [Bool.and_eq_true, Bool.and_eq_true, List.all_eq_true, List.all_eq_true] at h
  exact ⟨h.1, h.2.1, fun hz => by have := h.2.2 _ hz; rw [decide_eq_true (rfl : oS "zz" = oS "zz")] at this; exact absurd this (by decide)⟩
theorem tk_kv : (kvL kl fl).map (·.1) = kl.map (·.1) ++ fl.map (·.1) := by
  unfold kvL
  rw [List.map_append, List.map_map, List.map_map]
  rfl
theorem tk_len : kl.length ≤ 2 ∧ fl.length ≤ 2 := by
  obtain ⟨r, hr, e⟩ := T.nk
  obtain ⟨r2, hr2, e2⟩ := T.nf
  have h := congrArg List.length e
  have h2 := congrArg List.length e2
  rw [List.length_map, List.length_map, List.length_take] at h h2
  simp only [List.length_cons, List.length_nil] at h h2
  omega
theorem tk_wd : (∀ p ∈ kl, Wd p.1) ∧ ∀ p ∈ fl, Wd p.1 := by
  obtain ⟨r, hr, nk⟩ := T.nk
  obtain ⟨r2, hr2, nf⟩ := T.nf
  refine ⟨fun p hp => ?_, fun p hp => ?_⟩
  · have hm : p.1 ∈ kl.map (·.1) := List.mem_map_of_mem hp
    rw [nk] at hm
    obtain ⟨s, hs, e⟩ := List.mem_map.mp hm
    rw [← e]
    exact (kv_wd s (List.mem_of_mem_take hs)).1
  · have hm : p.1 ∈ fl.map (·.1) := List.mem_map_of_mem hp
    rw [nf] at hm
    obtain ⟨s, hs, e⟩ := List.mem_map.mp hm
    rw [← e]
    exact (kv_wd s (List.mem_of_mem_take hs)).2
theorem tk_own {n b ag' du' : PyData} : ownN (genT n (.tuple (kl.map deK)) (.tuple (fl.map deF)) du' b ag') = (kl.map (·.1) ++ fl.map (·.1)).map .str := by
  show ((kl.map deK).map fun x => ix x 0) ++ ((fl.map deF).map fun x => ix x 0) = _
  rw [List.map_map, List.map_map, List.map_append, List.map_map, List.map_map]
  rfl
theorem num_ok {n : Nat} (h : n ≤ 9) : numIn (iN n) 0 9 = true := by
  show (!decide ((n : Int) < 0) && decide ((n : Int) ≤ 9)) = true
  rw [decide_eq_false (by omega), decide_eq_true (by omega)]
  rfl
theorem le_ok' {a b : Nat} (h : a ≤ b) : leI (iN a) (iN b) = true := by
  show decide ((a : Int) ≤ (b : Int)) = true
  exact decide_eq_true (by omega)
theorem tk_keeps : (∀ x ∈ kl.map deK, keepB x = true) ∧ ∀ x ∈ fl.map deF, rangedB 3 x = true := by
  obtain ⟨_, hV, _⟩ := tk_facts T
  refine ⟨fun x hx => ?_, fun x hx => ?_⟩
  · obtain ⟨p, hp, rfl⟩ := List.mem_map.mp hx
    obtain ⟨h1, h2⟩ := T.bk p hp
    have hn : nameB p.1 = true := hV p.1 (List.mem_append_left _ (List.mem_map_of_mem hp))
    unfold keepB rangedB
    show ((true && (nameB p.1 && ((numIn (iN p.2.1) 0 9 && (numIn (iN p.2.2) 0 9 && (numIn (iN p.2.1) 0 9 && true))) && leI (iN p.2.1) (iN p.2.2)))) && (leI (iN p.2.1) (iN p.2.1) && leI (iN p.2.1) (iN p.2.2))) = true
    rw [hn, num_ok T (by omega), num_ok T (by omega), le_ok' T h1, le_ok' T (Nat.le_refl _)]
    rfl
  · obtain ⟨p, hp, rfl⟩ := List.mem_map.mp hx
    have h1 := T.bf p hp
    have hn : nameB p.1 = true := hV p.1 (List.mem_append_right _ (List.mem_map_of_mem hp))
    unfold rangedB
    show (true && (nameB p.1 && ((numIn (iN 0) 0 9 && (numIn (iN p.2) 0 9 && true)) && leI (iN 0) (iN p.2)))) = true
    rw [hn, num_ok T (by omega), num_ok T (by omega), le_ok' T (Nat.zero_le _)]
    rfl
theorem lf_mono {V W : List Str} {d : PyData} (h : ∀ s ∈ V, s ∈ W) (hl : Lf V d) : Lf W d := by
  rcases hl with q | ⟨s, hs, r⟩
  · exact .inl q
  · exact .inr ⟨s, h s hs, r⟩
theorem tk_stm : ∀ d ∈ bl, Stm (fl.map (·.1)) (kl.map (·.1) ++ fl.map (·.1)) 4 d := by
  have := T.stm
  rwa [tk_kv T] at this
theorem tk_due : EF (kl.map (·.1)) 1 2 du := sd_ef (fun s hs => (tk_facts T).2.1 s (List.mem_append_left _ hs)) T.due
theorem tk_ag : EF (kl.map (·.1)) 2 3 ag := ag_ef (fun s hs => (tk_facts T).2.1 s (List.mem_append_left _ hs)) T.again
theorem tk_body : bodyF (stmtB 18 false) (.tuple bl) = true := all_cons fun x hx => stm_ok (tk_facts T).2.1 4 x (tk_stm T x hx) 17 (by omega)
theorem tk_plc : (plc 18 (.tuple bl)).length ≤ 16 ∧ ∀ p ∈ plc 18 (.tuple bl), ∀ x ∈ toldN 17 (ix p 1), x ∈ (kl.map (·.1) ++ fl.map (·.1)).map .str := by
  obtain ⟨a, b⟩ := plc_drawn 18 4 bl (by omega) (tk_stm T)
  refine ⟨by rw [a]; exact T.cnt, fun p hp => ?_⟩
  obtain ⟨k', _, h⟩ := b p hp
  exact told_stm (tk_facts T).2.1 k' _ h 17 (by omega)
theorem strs_in {V W : List Str} (h : ∀ s ∈ V, s ∈ W) {x : PyData} (hx : x ∈ V.map PyData.str) : inL (W.map .str) x = true := by
  obtain ⟨s, hs, rfl⟩ := List.mem_map.mp hx
  exact inL_t (h s hs)
theorem tk_take {n b ag' du' : PyData} : (ownN (genT n (.tuple (kl.map deK)) (.tuple (fl.map deF)) du' b ag')).take (kl.map deK).length = (kl.map (·.1)).map .str := by
  rw [tk_own T, List.map_append, List.take_left' (by rw [List.length_map, List.length_map, List.length_map])]
/-- the task is one -/
theorem tk_true (hn : NamO name) : taskB 17 (taskD name kl fl du bl ag) = true := by
  obtain ⟨hu, hV, _⟩ := tk_facts T
  obtain ⟨kk, kf⟩ := tk_keeps T
  obtain ⟨l1, l2⟩ := tk_len T
  obtain ⟨p1, p2⟩ := tk_plc T
  have hd : declB 17 (taskD name kl fl du bl ag) = true := by
    refine decl_t ?_ ?_ ?_ ?_
    · rw [tk_own T]
      exact hu
    · show (plc 18 (.tuple bl)).length ≤ 20
      omega
    · rw [tk_own T]
      intro x hx
      rcases List.mem_append.mp hx with hx | hx
      · exact strs_in T (fun s hs => List.mem_append_left _ hs) (((tk_ag T).part 17 (by omega)).2.2 x hx)
      · obtain ⟨y, hy, hx⟩ := List.mem_flatten.mp hx
        obtain ⟨p, hp, rfl⟩ := List.mem_map.mp hy
        exact strs_in T (fun s hs => hs) (p2 p hp x hx)
    · show ∀ x ∈ nms 18 du, inL ((ownN (taskD name kl fl du bl ag)).take (kl.map deK).length) x = true
      rw [tk_take T]
      exact fun x hx => strs_in T (fun s hs => hs) (((tk_due T).part 17 (by omega)).2.2 x hx)
  rw [task_gen, hd, tk_body T, (tk_due T).expr (by omega) (by omega), (tk_ag T).expr (by omega) (by omega)]
  show (nameB name && (decide ((kl.map deK).length ≤ 2) && (decide ((fl.map deF).length ≤ 2) && ((kl.map deK).all keepB && ((fl.map deF).all (rangedB 3) && (true && (true && (true && true)))))))) = true
  rw [hn.nm, decide_eq_true (by rw [List.length_map]; omega), decide_eq_true (by rw [List.length_map]; omega), List.all_eq_true.mpr kk, List.all_eq_true.mpr kf]
  rfl
/-- with one statement more that is none -/
theorem tk_more_f {n own : PyData} (h : stmtB 18 false own = false) : taskB 17 (genT n (.tuple (kl.map deK)) (.tuple (fl.map deF)) du (.tuple (bl ++ [own])) ag) = false := task_body_f (all_f h)
theorem plcL_app {f : PyData → List PyData} {x : PyData} : ∀ (l : List PyData) (i : Nat), plcL f i (l ++ [x]) = plcL f i l ++ plcS f (i + l.length) x
  | [], i => by
    show plcS f i x ++ [] = [] ++ plcS f (i + 0) x
    rw [List.append_nil, List.nil_append, Nat.add_zero]
  | a :: l, i => by
    rw [List.cons_append, plcL, plcL, plcL_app l, List.append_assoc, List.length_cons, show i + 1 + l.length = i + (l.length + 1) by omega]
theorem plc_app {own : PyData} : plc 18 (.tuple (bl ++ [own])) = plc 18 (.tuple bl) ++ plcS (plc 17) (0 + bl.length) own := plcL_app T bl 0
theorem tk_told_f {n own : PyData} (h : sS "zz" ∈ toldN 17 own) : taskB 17 (genT n (.tuple (kl.map deK)) (.tuple (fl.map deF)) du (.tuple (bl ++ [own])) ag) = false := by
  refine task_decl_f (decl_told_f (x := sS "zz") ?_ ?_)
  · refine List.mem_append_right _ (List.mem_flatten.mpr ⟨toldN 17 own, List.mem_map.mpr ⟨.tuple [.tuple [iN (0 + bl.length)], own], ?_, rfl⟩, h⟩)
    show _ ∈ plc 18 (.tuple (bl ++ [own]))
    rw [plc_app T]
    exact List.mem_append_right _ List.mem_cons_self
  · rw [tk_own T]
    exact inL_f (tk_facts T).2.2
theorem tk_ag_f {n : PyData} : taskB 17 (genT n (.tuple (kl.map deK)) (.tuple (fl.map deF)) du (.tuple bl) (nam (oS "zz"))) = false := by
  refine task_decl_f (decl_told_f (x := sS "zz") ?_ ?_)
  · refine List.mem_append_left _ ?_
    show sS "zz" ∈ nms 18 (nam (oS "zz"))
    rw [nms_name (show isS (ix (nam (oS "zz")) 0) (oS "name") = true from (show isS (sS "name") (oS "name") = true by decide +kernel))]
    exact List.mem_singleton.mpr rfl
  · rw [tk_own T]
    exact inL_f (tk_facts T).2.2
/-! the data -/
theorem tk_okB (hn : NamO name) : okB 14 (taskD name kl fl du bl ag) = true := by
  obtain ⟨l1, l2⟩ := tk_len T
  obtain ⟨w1, w2⟩ := tk_wd T
  have hk : okB 13 (.tuple (kl.map deK)) = true := ok_tup (by rw [List.length_map]; omega) fun x hx => by
    obtain ⟨p, hp, rfl⟩ := List.mem_map.mp hx
    have := T.bk p hp
    exact ok_tup (by simp) (all4 (str_short (w1 p hp).le (w1 p hp).asc _) (ok_int (by omega)) (ok_int (by omega)) (ok_int (by omega)))
  have hf : okB 13 (.tuple (fl.map deF)) = true := ok_tup (by rw [List.length_map]; omega) fun x hx => by
    obtain ⟨p, hp, rfl⟩ := List.mem_map.mp hx
    have := T.bf p hp
    exact ok_tup (by simp) (all3 (str_short (w2 p hp).le (w2 p hp).asc _) (ok_int (by omega)) (ok_int (by omega)))
  have hb : okB 13 (.tuple bl) = true := ok_tup (by have := T.len; omega) fun x hx => okB_le (stm_okB (tk_facts T).2.1 4 x (tk_stm T x hx)) (by omega)
  refine ok_tup (by simp) fun x hx => ?_
  simp only [List.mem_cons, List.not_mem_nil, or_false] at hx
  rcases hx with rfl | rfl | rfl | rfl | rfl | rfl | rfl
  · exact w_ok "task" (by decide +kernel) _
  · exact str_short hn.len hn.asc _
  · exact hk
  · exact hf
  · exact okB_le (tk_due T).ok (by omega)
  · exact hb
  · exact okB_le (tk_ag T).ok (by omega)
theorem wt_map_le {α : Type} {f : α → PyData} {c : Nat} : ∀ (l : List α), (∀ x ∈ l, (f x).weight ≤ c) → PyData.weightAll (l.map f) ≤ l.length * (c + 1)
  | [], _ => by rw [List.map_nil, wt_nil]; omega
  | x :: l, h => by
    have := wt_map_le l fun y hy => h y (List.mem_cons_of_mem _ hy)
    have := h x List.mem_cons_self
    rw [List.map_cons, wt_cons, List.length_cons, Nat.add_mul]
    omega
theorem tk_wt (hn : NamO name) : (taskD name kl fl du bl ag).weight ≤ 18000 := by
  obtain ⟨l1, l2⟩ := tk_len T
  obtain ⟨w1, w2⟩ := tk_wd T
  have hk : PyData.weightAll (kl.map deK) ≤ kl.length * (140 + 1) := wt_map_le T kl fun p hp => by
    have := T.bk p hp
    have := (w1 p hp).le
    have := wt_int (n := p.2.1) (by omega)
    have := wt_int (n := p.2.2) (by omega)
    rw [wt_tup, wt_cons, wt_cons, wt_cons, wt_cons, wt_nil, wt_str]
    omega
  have hf : PyData.weightAll (fl.map deF) ≤ fl.length * (100 + 1) := wt_map_le T fl fun p hp => by
    have := T.bf p hp
    have := (w2 p hp).le
    have := wt_int (n := p.2) (by omega)
    have := wt_int (n := 0) (by omega)
    rw [wt_tup, wt_cons, wt_cons, wt_cons, wt_nil, wt_str]
    omega
  have hb := wt_all (tk_facts T).2.1 (l := bl) fun x hx => stm_wt (tk_facts T).2.1 4 x (tk_stm T x hx)
  have hc : cnt (.tuple bl) ≤ 16 := T.cnt
  rw [cnt] at hc
  have := (tk_due T).wt
  have := (tk_ag T).wt
  have : (Str.ofString "task").length = 4 := by decide +kernel
  have := hn.len
  rw [wt_tup, wt_cons, wt_cons, wt_cons, wt_cons, wt_cons, wt_cons, wt_cons, wt_nil, wt_str, wt_str, wt_tup, wt_tup, wt_tup]
  have a1 : kl.length * (140 + 1) ≤ 2 * 141 := Nat.mul_le_mul_right _ l1
  have a2 : fl.length * (100 + 1) ≤ 2 * 101 := Nat.mul_le_mul_right _ l2
  omega
end
end Dw

set_option Elab.async false
set_option linter.all false
set_option maxRecDepth 100000
set_option maxHeartbeats 1000000
/-! What is wrong: tasks, hands, crews. -/
namespace Dw
open PySem
abbrev t2 (w : String) (a : PyData) : PyData := .tuple [sS w, a]
abbrev t3 (w : String) (a b : PyData) : PyData := .tuple [sS w, a, b]
abbrev t4 (w : String) (a b c : PyData) : PyData := .tuple [sS w, a, b, c]
abbrev oneD : PyData := t2 "number" (.int 1)
abbrev workD : PyData := t2 "work" (.int 1)
abbrev zzN : PyData := sS "zz"
abbrev eqD1 : PyData := t3 "=" oneD oneD
abbrev ownA : List PyData := [t2 "work" (.int 0), t2 "work" (.int 10), t2 "work" (.bool true), t2 "read" zzN, t3 "set" zzN oneD, t2 "hold" (.tuple []), .tuple [sS "free"]]
abbrev ownA' : List PyData := ownA ++ [.tuple [sS "work"]]
abbrev ownC : List PyData := [t4 "if" (t2 "<" oneD) (.tuple [workD]) (.tuple []), t4 "if" eqD1 (.tuple []) (.tuple [workD]), t3 "while" eqD1 (.tuple [])]
abbrev ownC' : List PyData := ownC ++ [.list [sS "work", .int 1]]
abbrev nestD : PyData := t2 "hold" (.tuple [t4 "if" eqD1 (.tuple [t2 "hold" (.tuple [workD])]) (.tuple [])])
abbrev rgA (l : List Int) (w : String) : PyData := .tuple (sS w :: l.map .int)
abbrev nmD : PyData := .str (oS "cam")
abbrev clL : List PyData := [genT nmD (.tuple [rgA [0, 1, 2] "a"]) (.tuple []) oneD (.tuple []) oneD, genT nmD (.tuple [rgA [0, 1, 0] "a"]) (.tuple [rgA [0, 1] "a"]) oneD (.tuple []) oneD, genT nmD (.tuple []) (.tuple [rgA [2, 1] "a"]) oneD (.tuple []) oneD,
  genT nmD (.tuple []) (.tuple [rgA [0, 1] "a"]) (t2 "name" (sS "a")) (.tuple []) oneD, genT nmD (.tuple []) (.tuple [rgA [0, 10] "a"]) oneD (.tuple []) oneD, genT nmD (.tuple [rgA [0, 1, 0] "a", rgA [0, 1, 0] "a"]) (.tuple []) oneD (.tuple []) oneD,
  genT nmD (.tuple [rgA [0, 1, 0] "a", rgA [0, 1, 0] "b", rgA [0, 1, 0] "c"]) (.tuple []) oneD (.tuple []) oneD]
abbrev works21 : PyData := .tuple (List.replicate 21 [workD]).flatten
structure Bad (v : PyData) : Prop where
  ok : okB 14 v = true
  len : LenT 17 v
  f : taskB 17 v = false
  wt : v.weight ≤ 20000
theorem len_of {v : PyData} (h : (plc 18 (ix v 5)).length ≤ 1000) : LenT 17 v := ⟨fun _ => h⟩
def ownF (own : PyData) : Bool := okB 8 own && (decide (own.weight ≤ 500) && decide ((((inrD own).map fun q => (plc 17 (ix q 1)).length).sum ≤ 20)))
theorem own_all : (ownA' ++ ownC' ++ [nestD]).all ownF = true := by decide +kernel
theorem own_bad : ([t2 "work" (.int 0), t2 "work" (.int 10), t2 "work" (.bool true), t2 "hold" (.tuple []), .tuple [sS "free"], .tuple [sS "work"]] ++ ownC' ++ [nestD]).all (fun o => !stmtB 18 false o) = true := by decide +kernel
theorem cl_all : clL.all (fun v => okB 14 v && (!taskB 17 v && (decide (v.weight ≤ 20000) && decide ((plc 18 (ix v 5)).length ≤ 1000)))) = true := by decide +kernel
theorem w21 : okB 13 works21 = true ∧ works21.weight ≤ 2000 ∧ (plc 18 works21).length = 21 := by decide +kernel
theorem told_zz : ∀ own ∈ [t2 "read" zzN, t3 "set" zzN oneD], sS "zz" ∈ toldN 17 own := by
  refine all2 ?_ ?_
  · unfold toldN
    rw [if_pos (by decide +kernel)]
    exact List.mem_singleton.mpr rfl
  · unfold toldN
    rw [if_neg (by decide +kernel), if_pos (by decide +kernel)]
    exact List.mem_cons_self
section
variable {nam0 : Str} {kl : List (Str × Nat × Nat)} {fl : List (Str × Nat)} {du ag : PyData} {bl : List PyData} (T : TaskK nam0 kl fl du bl ag)
abbrev camT (kl : List (Str × Nat × Nat)) (fl : List (Str × Nat)) (du : PyData) (bl : List PyData) (ag : PyData) : PyData := taskD (oS "cam") kl fl du bl ag
abbrev moreT (kl : List (Str × Nat × Nat)) (fl : List (Str × Nat)) (du : PyData) (bl : List PyData) (ag own : PyData) : PyData := genT nmD (.tuple (kl.map deK)) (.tuple (fl.map deF)) du (.tuple (bl ++ [own])) ag
abbrev wrongs (kl : List (Str × Nat × Nat)) (fl : List (Str × Nat)) (du : PyData) (bl : List PyData) (ag : PyData) : List PyData :=
  [.none, .tuple [sS "task", nmD, .tuple (kl.map deK), .tuple (fl.map deF), du, .tuple bl], .list [sS "task", nmD, .tuple (kl.map deK), .tuple (fl.map deF), du, .tuple bl, ag], .tuple [sS "work", nmD, .tuple (kl.map deK), .tuple (fl.map deF), du, .tuple bl, ag], genT (sS "if") (.tuple (kl.map deK)) (.tuple (fl.map deF)) du (.tuple bl) ag]
  ++ ownA'.map (moreT kl fl du bl ag) ++ ownC'.map (moreT kl fl du bl ag) ++ [moreT kl fl du bl ag nestD] ++ clL ++ [genT nmD (.tuple (kl.map deK)) (.tuple (fl.map deF)) du works21 ag] ++ [genT nmD (.tuple (kl.map deK)) (.tuple (fl.map deF)) du (.tuple bl) (nam (oS "zz"))]
theorem cam_ok : NamO (oS "cam") := namO_of (by decide +kernel)
include T
theorem tk_parts : okB 14 (camT kl fl du bl ag) = true ∧ (∀ x ∈ [sS "task", nmD, .tuple (kl.map deK), .tuple (fl.map deF), du, .tuple bl, ag], okB 13 x = true) ∧ (camT kl fl du bl ag).weight ≤ 18000 :=
  ⟨tk_okB T cam_ok, okB_its' (m := 13) (tk_okB T cam_ok), tk_wt T cam_ok⟩
theorem more_bad {own : PyData} (hf : ownF own = true) (h : stmtB 18 false own = false ∨ sS "zz" ∈ toldN 17 own) : Bad (moreT kl fl du bl ag own) := by
  obtain ⟨_, hp, hw⟩ := tk_parts T
  have e0 : nmD.weight = (PyData.str (oS "cam")).weight := rfl
  unfold ownF at hf
  rw [Bool.and_eq_true, Bool.and_eq_true, decide_eq_true_eq, decide_eq_true_eq] at hf
  obtain ⟨ho, hwt, hs⟩ := hf
  refine ⟨?_, len_of ?_, ?_, ?_⟩
  · refine ok_tup (by simp) fun x hx => ?_
    have hb : okB 13 (.tuple (bl ++ [own])) = true := by
      have := okB_its' (m := 12) (hp (.tuple bl) (by simp))
      refine ok_tup (by rw [List.length_append]; have := T.len; simp; omega) fun y hy => ?_
      rcases List.mem_append.mp hy with hy | hy
      · exact this y hy
      · rw [List.mem_singleton.mp hy]
        exact okB_le ho (by omega)
    simp only [List.mem_cons, List.not_mem_nil, or_false] at hx
    rcases hx with rfl | rfl | rfl | rfl | rfl | rfl | rfl
    · exact hp _ (by simp)
    · exact hp _ (by simp)
    · exact hp _ (by simp)
    · exact hp _ (by simp)
    · exact hp _ (by simp)
    · exact hb
    · exact hp _ (by simp)
  · show (plc 18 (.tuple (bl ++ [own]))).length ≤ 1000
    rw [plc_app T, List.length_append, plcS_len]
    have := (tk_plc T).1
    omega
  · rcases h with h | h
    · exact tk_more_f T h
    · exact tk_told_f T h
  · rw [wt_tup, wt_cons, wt_cons, wt_cons, wt_cons, wt_cons, wt_cons, wt_cons, wt_nil, wt_tup (bl ++ [own]), wt_app, wt_cons, wt_nil]
    rw [wt_tup, wt_cons, wt_cons, wt_cons, wt_cons, wt_cons, wt_cons, wt_cons, wt_nil, wt_tup bl] at hw
    omega
theorem all_wrong : ∀ v ∈ wrongs kl fl du bl ag, Bad v := by
  obtain ⟨ho, hp, hw⟩ := tk_parts T
  have e0 : nmD.weight = (PyData.str (oS "cam")).weight := rfl
  have hw' := hw
  rw [wt_tup, wt_cons, wt_cons, wt_cons, wt_cons, wt_cons, wt_cons, wt_cons, wt_nil] at hw'
  have pt : (plc 18 (.tuple bl)).length ≤ 1000 := by have := (tk_plc T).1; omega
  have mem7 : ∀ {Q : PyData → Prop}, (∀ x ∈ [sS "task", nmD, .tuple (kl.map deK), .tuple (fl.map deF), du, .tuple bl, ag], Q x) → Q nmD ∧ Q (.tuple (kl.map deK)) ∧ Q (.tuple (fl.map deF)) ∧ Q du ∧ Q (.tuple bl) ∧ Q ag := fun h => ⟨h _ (by simp), h _ (by simp), h _ (by simp), h _ (by simp), h _ (by simp), h _ (by simp)⟩
  obtain ⟨p1, p2, p3, p4, p5, p6⟩ := mem7 hp
  have ow := List.all_eq_true.mp own_all
  have ob := List.all_eq_true.mp own_bad
  have z0 : (plc 18 .none).length ≤ 1000 := by decide +kernel
  have lw : (Str.ofString "work").length = 4 ∧ (Str.ofString "if").length = 2 := by decide +kernel
  have ok7 : ∀ {a b c d e f g : PyData}, okB 13 a = true → okB 13 b = true → okB 13 c = true → okB 13 d = true → okB 13 e = true → okB 13 f = true → okB 13 g = true → okB 14 (.tuple [a, b, c, d, e, f, g]) = true := fun h1 h2 h3 h4 h5 h6 h7 => by
    refine ok_tup (by simp) fun x hx => ?_
    simp only [List.mem_cons, List.not_mem_nil, or_false] at hx
    rcases hx with rfl | rfl | rfl | rfl | rfl | rfl | rfl <;> assumption
  have hbad : ∀ o ∈ [t2 "work" (.int 0), t2 "work" (.int 10), t2 "work" (.bool true), t2 "hold" (.tuple []), .tuple [sS "free"], .tuple [sS "work"]] ++ ownC' ++ [nestD], stmtB 18 false o = false := fun o hm => by simpa using ob o hm
  intro v hv
  rcases List.mem_append.mp hv with hv | hv
  rcases List.mem_append.mp hv with hv | hv
  rcases List.mem_append.mp hv with hv | hv
  rcases List.mem_append.mp hv with hv | hv
  rcases List.mem_append.mp hv with hv | hv
  rcases List.mem_append.mp hv with hv | hv
  · simp only [List.mem_cons, List.not_mem_nil, or_false] at hv
    rcases hv with rfl | rfl | rfl | rfl | rfl
    · exact ⟨okB_none _, len_of z0, by decide +kernel, by rw [wt_none]; omega⟩
    · refine ⟨ok_tup (by simp) fun x hx => hp x (show x ∈ [sS "task", nmD, .tuple (kl.map deK), .tuple (fl.map deF), du, .tuple bl] ++ [ag] from List.mem_append_left _ hx), len_of pt, ?_, ?_⟩
      · unfold taskB
        have : markB (.tuple [sS "task", nmD, .tuple (kl.map deK), .tuple (fl.map deF), du, .tuple bl]) (oS "task") 7 = false := by
          simpa using mk_l (s := oS "task") (s' := oS "task") (r := [nmD, .tuple (kl.map deK), .tuple (fl.map deF), du, .tuple bl]) (k := 7) (by simp)
        rw [this]
        rfl
      · rw [wt_tup, wt_cons, wt_cons, wt_cons, wt_cons, wt_cons, wt_cons, wt_nil]
        omega
    · refine ⟨ok_lst (by simp) hp, len_of z0, rfl, ?_⟩
      rw [wt_lst, wt_cons, wt_cons, wt_cons, wt_cons, wt_cons, wt_cons, wt_cons, wt_nil]
      omega
    · refine ⟨ok7 (w_ok "work" (by decide +kernel) _) p1 p2 p3 p4 p5 p6, len_of pt, ?_, ?_⟩
      · unfold taskB
        have : markB (.tuple [sS "work", nmD, .tuple (kl.map deK), .tuple (fl.map deF), du, .tuple bl, ag]) (oS "task") 7 = false := by
          simpa using mk_n (s := oS "work") (s' := oS "task") (r := [nmD, .tuple (kl.map deK), .tuple (fl.map deF), du, .tuple bl, ag]) (k := 7) (by decide +kernel)
        rw [this]
        rfl
      · rw [wt_tup, wt_cons, wt_cons, wt_cons, wt_cons, wt_cons, wt_cons, wt_cons, wt_nil, wt_str (Str.ofString "work")]
        omega
    · refine ⟨ok7 (w_ok "task" (by decide +kernel) _) (w_ok "if" (by decide +kernel) _) p2 p3 p4 p5 p6, len_of pt, task_name_f (by decide +kernel), ?_⟩
      rw [wt_tup, wt_cons, wt_cons, wt_cons, wt_cons, wt_cons, wt_cons, wt_cons, wt_nil, wt_str (Str.ofString "if")]
      omega
  · obtain ⟨own, hown, rfl⟩ := List.mem_map.mp hv
    refine more_bad T (ow own (List.mem_append_left _ (List.mem_append_left _ hown))) ?_
    simp only [List.mem_append, List.mem_cons, List.not_mem_nil, or_false] at hown
    rcases hown with (rfl | rfl | rfl | rfl | rfl | rfl | rfl) | rfl
    · exact .inl (hbad _ (by simp))
    · exact .inl (hbad _ (by simp))
    · exact .inl (hbad _ (by simp))
    · exact .inr (told_zz _ (by simp))
    · exact .inr (told_zz _ (by simp))
    · exact .inl (hbad _ (by simp))
    · exact .inl (hbad _ (by simp))
    · exact .inl (hbad _ (by simp))
  · obtain ⟨own, hown, rfl⟩ := List.mem_map.mp hv
    exact more_bad T (ow own (List.mem_append_left _ (List.mem_append_right _ hown))) (.inl (hbad _ (List.mem_append_left _ (List.mem_append_right _ hown))))
  · rw [List.mem_singleton.mp hv]
    exact more_bad T (ow nestD (List.mem_append_right _ List.mem_cons_self)) (.inl (hbad _ (List.mem_append_right _ List.mem_cons_self)))
  · have := List.all_eq_true.mp cl_all v hv
    rw [Bool.and_eq_true, Bool.and_eq_true, Bool.and_eq_true, decide_eq_true_eq, decide_eq_true_eq] at this
    exact ⟨this.1, len_of this.2.2.2, by simpa using this.2.1, this.2.2.1⟩
  · rw [List.mem_singleton.mp hv]
    obtain ⟨a, b, c⟩ := w21
    refine ⟨ok7 (w_ok "task" (by decide +kernel) _) p1 p2 p3 p4 a p6, len_of (show (plc 18 works21).length ≤ 1000 by omega), task_decl_f (decl_len_f (show 20 < (plc 18 works21).length by omega)), ?_⟩
    rw [wt_tup, wt_cons, wt_cons, wt_cons, wt_cons, wt_cons, wt_cons, wt_cons, wt_nil]
    omega
  · rw [List.mem_singleton.mp hv]
    refine ⟨ok7 (w_ok "task" (by decide +kernel) _) p1 p2 p3 p4 p5 (ok_tup (by simp) (all2 (w_ok "name" (by decide +kernel) _) (w_ok "zz" (by decide +kernel) _))), len_of pt, tk_ag_f T, ?_⟩
    have : (nam (oS "zz")).weight ≤ 20 := by decide +kernel
    rw [wt_tup, wt_cons, wt_cons, wt_cons, wt_cons, wt_cons, wt_cons, wt_cons, wt_nil]
    omega
end
end Dw

set_option Elab.async false
set_option linter.all false
set_option maxRecDepth 100000
set_option maxHeartbeats 1000000
/-! Hands, crews: right ones, wrong ones. -/
namespace Dw
open PySem
abbrev sv (n : Int) : PyData := t2 "serve" (.int n)
abbrev eithD : PyData := t3 "either" (.tuple [sv 2]) (.tuple [sv 3, t3 "rest" (.int 0) (.int 1)])
def hdD (a : Nat) (r : List Nat) (e : Bool) : List PyData := [t2 "serve" (iN (1 + a))] ++ r.map (fun b => t3 "rest" (.int 0) (iN b)) ++ (if e = true then [eithD] else [])
structure HandK (h : PyData) : Prop where
  t : handB 17 h = true
  ok : okB 6 h = true
  len : (plc 18 h).length ≤ 1000
  wt : h.weight ≤ 1000
theorem hands_all : ∀ a, a < 6 → ∀ r ∈ [[], [0], [1]], ∀ e ∈ [true, false], (handB 17 (.tuple (hdD a r e)) && (okB 6 (.tuple (hdD a r e)) && (decide ((plc 18 (.tuple (hdD a r e))).length ≤ 1000) && decide ((PyData.tuple (hdD a r e)).weight ≤ 1000)))) = true := by decide +kernel
theorem handK {a : Nat} {r : List Nat} {e : Bool} (ha : a < 6) (hr : r ∈ [[], [0], [1]]) : HandK (.tuple (hdD a r e)) := by
  have := hands_all a ha r hr e (by cases e <;> simp)
  rw [Bool.and_eq_true, Bool.and_eq_true, Bool.and_eq_true, decide_eq_true_eq, decide_eq_true_eq] at this
  exact ⟨this.1, this.2.1, this.2.2.1, this.2.2.2⟩
theorem HandK.lh {h : PyData} (k : HandK h) : LenH 17 h := ⟨fun _ => k.len⟩
abbrev badH1 : List PyData := [.none, .tuple [], .list [sv 1], .tuple [sv 0], .tuple [sv 10], .tuple [t3 "rest" (.int 1) (.int 2)]]
abbrev badH2 : List PyData := [.tuple [t3 "rest" (.int 2) (.int 1), sv 1], .tuple (List.replicate 9 [sv 1]).flatten, .tuple [t3 "either" (.tuple [sv 1]) (.tuple [])]]
abbrev badH3 : PyData := .tuple [t3 "either" (.tuple [sv 1]) (.tuple [t3 "rest" (.int 1) (.int 1)])]
abbrev badH4 : List PyData := [.tuple [t2 "serve" (.bool true)], .tuple [sv 1, t2 "go" (.int 1)], sv 1]
abbrev badHs : List PyData := badH1 ++ badH2 ++ [badH3] ++ badH4
structure BadH (h : PyData) : Prop where
  f : handB 17 h = false
  ok : okB 6 h = true
  len : LenH 17 h
  wt : h.weight ≤ 1000
theorem bad_hands : ∀ h ∈ badHs, BadH h := by
  have : badHs.all (fun h => !handB 17 h && (okB 6 h && (decide ((plc 18 h).length ≤ 1000) && decide (h.weight ≤ 1000)))) = true := by decide +kernel
  intro h hh
  have := List.all_eq_true.mp this h hh
  rw [Bool.and_eq_true, Bool.and_eq_true, Bool.and_eq_true, decide_eq_true_eq, decide_eq_true_eq] at this
  exact ⟨by simpa using this.1, this.2.1, ⟨fun _ => this.2.2.1⟩, this.2.2.2⟩
abbrev serve8 : PyData := .tuple (List.replicate 8 [sv 1]).flatten
theorem serve8_ok : HandK serve8 := by
  have : (handB 17 serve8 && (okB 6 serve8 && (decide ((plc 18 serve8).length ≤ 1000) && decide (serve8.weight ≤ 1000)))) = true := by decide +kernel
  rw [Bool.and_eq_true, Bool.and_eq_true, Bool.and_eq_true, decide_eq_true_eq, decide_eq_true_eq] at this
  exact ⟨this.1, this.2.1, this.2.2.1, this.2.2.2⟩
abbrev crewD (ts : List PyData) (h : PyData) : PyData := .tuple [.tuple ts, h]
section
variable {m : Nat} {ts : List PyData} {t h : PyData}
theorem crew_gen : crewB m (crewD ts h) = (decide (ts.length ≤ 4) && (!ts.isEmpty && (ts.all (taskB m) && (handB m h && unlB (ts.map fun t => ix t 1))))) := by
  unfold crewB
  show ((true && decide (2 = 2)) && ((true && decide (ts.length ≤ 4)) && _)) = _
  rw [Bool.true_and, Bool.true_and]
  rfl
theorem crew_one (ht : taskB m t = true) (hh : handB m h = true) : crewB m (crewD [t] h) = true := by
  rw [crew_gen]
  show (true && (true && ((taskB m t && true) && (handB m h && unlB [ix t 1])))) = true
  rw [ht, hh]
  rfl
theorem crew_task_f (ht : taskB m t = false) : crewB m (crewD [t] h) = false := by
  rw [crew_gen]
  show (true && (true && ((taskB m t && true) && (handB m h && unlB [ix t 1])))) = false
  rw [ht]
  rfl
theorem crew_hand_f (hh : handB m h = false) : crewB m (crewD [t] h) = false := by
  rw [crew_gen, hh]
  exact and_f2 (and_f2 (and_f2 rfl))
/-- a crew's data -/
theorem crew_ok (ht : ∀ t ∈ ts, okB 15 t = true) (hl : ts.length ≤ 10) (hh : okB 16 h = true) : okB 17 (crewD ts h) = true :=
  ok_tup (by simp) (all2 (ok_tup (by omega) ht) hh)
theorem crew_wt : (crewD ts h).weight = PyData.weightAll ts + 1 + (h.weight + 1) := by
  rw [wt_tup, wt_cons, wt_cons, wt_nil, wt_tup]
end
section
variable {nam0 : Str} {kl : List (Str × Nat × Nat)} {fl : List (Str × Nat)} {du ag : PyData} {bl : List PyData} (T : TaskK nam0 kl fl du bl ag)
theorem tk_lenT (T : TaskK nam0 kl fl du bl ag) {n : PyData} : LenT 17 (genT n (.tuple (kl.map deK)) (.tuple (fl.map deF)) du (.tuple bl) ag) := ⟨fun _ => by have := (tk_plc T).1; show (plc 18 (.tuple bl)).length ≤ 1000; omega⟩
structure BadC (v : PyData) : Prop where
  ok : okB 17 v = true
  lt : ∀ t ∈ its (ix v 0), LenT 17 t
  lh : LenH 17 (ix v 1)
  f : crewB 17 v = false
  wt : v.weight ≤ 100000
abbrev badCs (t h : PyData) : List PyData := [.none, crewD [] h, crewD [t, t] h, .tuple [.list [t], h], .tuple [.tuple [t]], .tuple [.tuple [t], h, .int 1], .list [.tuple [t], h]]
theorem none_lh : LenH 17 .none := ⟨fun _ => by show (plc 18 .none).length ≤ 1000; decide +kernel⟩
theorem bad_crews {t h : PyData} (ot : okB 14 t = true) (lt : LenT 17 t) (hk : HandK h) (wt : t.weight ≤ 20000) (nt : ix t 1 = nmD) : ∀ v ∈ badCs t h, BadC v := by
  have oh := hk.ok
  have wh := hk.wt
  have o1 : okB 16 (.tuple [t]) = true := ok_tup (by simp) (all1 (okB_le ot (by omega)))
  have w1 : (PyData.tuple [t]).weight = t.weight + 1 := by rw [wt_tup, wt_cons, wt_nil]
  intro v hv
  simp only [List.mem_cons, List.not_mem_nil, or_false] at hv
  rcases hv with rfl | rfl | rfl | rfl | rfl | rfl | rfl
  · exact ⟨okB_none _, fun t ht => (nomatch ht), none_lh, rfl, by rw [wt_none]; omega⟩
  · refine ⟨crew_ok (fun t ht => nomatch ht) (by simp) (okB_le oh (by omega)), fun t ht => (nomatch ht), hk.lh, ?_, by rw [crew_wt, wt_nil]; omega⟩
    rw [crew_gen]
    rfl
  · refine ⟨crew_ok (all2 (okB_le ot (by omega)) (okB_le ot (by omega))) (by simp) (okB_le oh (by omega)), all2 lt lt, hk.lh, ?_, by rw [crew_wt, wt_cons, wt_cons, wt_nil]; omega⟩
    rw [crew_gen]
    have : unlB ([t, t].map fun t => ix t 1) = false := by
      show unlB [ix t 1, ix t 1] = false
      rw [nt]
      decide +kernel
    rw [this]
    exact and_f2 (and_f2 (and_f2 (and_f2 rfl)))
  · refine ⟨ok_tup (by simp) (all2 (ok_lst (by simp) (all1 (okB_le ot (by omega)))) (okB_le oh (by omega))), fun t ht => (nomatch ht), hk.lh, ?_, by rw [wt_tup, wt_cons, wt_cons, wt_nil, wt_lst, wt_cons, wt_nil]; omega⟩
    rfl
  · exact ⟨okB_le (m := 17) (ok_tup (by simp) (all1 o1)) (by omega), all1 lt, none_lh, rfl, by rw [wt_tup, wt_cons, wt_nil, w1]; omega⟩
  · refine ⟨ok_tup (by simp) (all3 o1 (okB_le oh (by omega)) (ok_int (n := 1) (by omega))), all1 lt, hk.lh, rfl, ?_⟩
    have := wt_int (n := 1) (by omega)
    have e : PyData.weight (.int 1) = (iN 1).weight := rfl
    rw [wt_tup, wt_cons, wt_cons, wt_cons, wt_nil, w1]
    omega
  · refine ⟨ok_lst (by simp) (all2 o1 (okB_le oh (by omega))), fun t ht => (nomatch ht), none_lh, rfl, ?_⟩
    rw [wt_lst, wt_cons, wt_cons, wt_nil, w1]
    omega
abbrev fiveN : List Str := [oS "a", oS "b", oS "c", oS "d", oS "e"]
theorem five_ok : ∀ s ∈ fiveN, NamO s := fun s hs => by
  have : fiveN.all (fun n => nameB n && (decide (n.length ≤ 8) && ascB n)) = true := by decide +kernel
  exact namO_of (List.all_eq_true.mp this s hs)
abbrev fiveT (kl : List (Str × Nat × Nat)) (fl : List (Str × Nat)) (du : PyData) (bl : List PyData) (ag : PyData) : List PyData := fiveN.map fun s => taskD s kl fl du bl ag
theorem four_t (T : TaskK nam0 kl fl du bl ag) {h : PyData} (hk : HandK h) : crewB 17 (crewD ((fiveT kl fl du bl ag).take 4) h) = true := by
  rw [crew_gen, hk.t]
  have h1 : ((fiveT kl fl du bl ag).take 4).all (taskB 17) = true := by
    rw [List.all_eq_true]
    intro x hx
    obtain ⟨s, hs, rfl⟩ := List.mem_map.mp (List.mem_of_mem_take hx)
    exact tk_true T (five_ok s hs)
  rw [h1]
  show (true && (true && (true && (true && unlB ([oS "a", oS "b", oS "c", oS "d"].map PyData.str))))) = true
  decide +kernel
theorem five_f {h : PyData} : crewB 17 (crewD (fiveT kl fl du bl ag) h) = false := by
  rw [crew_gen]
  rfl
end
end Dw

set_option Elab.async false
set_option linter.all false
set_option maxRecDepth 100000
set_option maxHeartbeats 2000000
/-! The law's own defs: a drawn hand, wrong tasks, what is refused. -/
namespace Dw
open PySem
section
variable {C : Nat → List Val → Sto → R Val} {G : List PyData} {ρ : Rho} {S S1 S2 : Sto} {a b e : Ex} {v : Val} {d : PyData} {f : Nat}
theorem e_call1kR {q : R Val} {w : String} (h : evE C G e ρ S = .ok v S1) (h2 : C f [v] S1 = q) : evE C G (.callK f [w] [0] [] [] [e]) ρ S = q := by
  rw [e_call, l_nil, bind_ok, l_cons, h, bind_ok, l_nil, bind_ok, bind_ok]
  exact (callKR_1k C f v S1).trans h2
theorem new1_ok (h : evE C G e ρ S = .ok (.dat d) S1) : evE C G (.new [e]) ρ S = .ok (.cell S1.length) (S1 ++ [[d]]) := by
  rw [e_new, l_cons, h, bind_ok, l_nil, bind_ok, bind_ok, newR_1]
theorem e_calll (es : List Ex) : evE C G (.call f es) ρ S = (evL C G es ρ S).bind fun vs S => C f vs S := id rfl
theorem e_cl1 {q : R Val} (h : evE C G a ρ S = .ok v S1) (h2 : C f [v] S1 = q) : evE C G (.call f [a]) ρ S = q := by
  rw [e_calll, l_cons, h, bind_ok, l_nil, bind_ok, bind_ok, h2]
theorem e_cl2 {w : Val} {q : R Val} (h : evE C G a ρ S = .ok v S1) (h' : evE C G b ρ S1 = .ok w S2) (h2 : C f [v, w] S2 = q) : evE C G (.call f [a, b]) ρ S = q := by
  rw [e_calll, l_cons, h, bind_ok, l_cons, h', bind_ok, l_nil, bind_ok, bind_ok, bind_ok, h2]
end
theorem take_self (S : Sto) : S.take S.length = S := List.take_length
theorem lam_ref {j r f : Nat} {m : Lm} {caps : List Val} {S : Sto} {d : PyData} (hr : TT[r]? = some (m.r P.errs.length f)) (hf : TT[f]? = some m.f) (hc : caps.length = m.idxs.length) (h0 : m.c = 0) (h1 : m.tp = true) (h2 : m.l = [none])
    (he : evE (run TT GL j) GL m.e (caps.map some) S = .exc 0 d S) : run TT GL (j + 2) r caps S = .ok (.dat (.tuple [d])) S := by
  have e1 : run TT GL (j + 1) f caps S = .exc 0 d S := by
    rw [run_f hf hc, he]
    show R.exc 0 d (S.take S.length) = _
    rw [take_self]
  rw [run_r hr hc, e1]
  have : lamS P.errs.length m caps (.exc 0 d S) = .rt (.dat (.tuple [d])) S := by
    show (if 0 < P.errs.length ∧ m.idxs.length < (caps.map some ++ [none]).length then (if 0 = m.c then SR.rt (.dat (mkD m.tp (m.l.map fun (o : Option PyData) => o.getD d))) S else .exc 0 d (caps.map some ++ [none]) S) else .bad) = _
    rw [if_pos ⟨by decide, by rw [List.length_append, List.length_map, hc]; simp⟩, if_pos h0.symm, h1, h2]
    rfl
  rw [this]
  show R.ok (Val.dat (.tuple [d])) (S.take S.length) = _
  rw [take_self]
section
variable (S : Sto)
theorem r_ref_text {n : Nat} {v : PyData} (h : Bad v) (hn : 100 ≤ n) : run TT GL n 71 [.dat v] S = .ok (.dat (.tuple [v])) S := by
  obtain ⟨k, rfl⟩ : ∃ k, n = k + 3 := ⟨n - 3, by omega⟩
  refine lam_ref (j := k + 1) (f := 72) (m := ⟨67, [5], (.callK 47 [] [0] [] [(.var 0)] []), 0, true, [none]⟩) (by rfl) (by rfl) rfl rfl rfl rfl (e_call1R (v_ok rfl) ?_)
  exact run_ex (F := F_task_text) (by rfl) (by rfl) (by decide) (by rfl) (by rfl) (by rfl) (s_exc (x_exc (e_call1R (v_ok rfl) (r_ctask S (m := 17) (n := k) (by omega) (okB_le h.ok (by omega)) h.len (by omega) h.f))))
theorem r_ref_places {n : Nat} {v : PyData} (h : Bad v) (hn : 100 ≤ n) : run TT GL n 73 [.dat v] S = .ok (.dat (.tuple [v])) S := by
  obtain ⟨k, rfl⟩ : ∃ k, n = k + 3 := ⟨n - 3, by omega⟩
  refine lam_ref (j := k + 1) (f := 74) (m := ⟨67, [5], (.callK 48 ["task"] [0] [] [] [(.var 0)]), 0, true, [none]⟩) (by rfl) (by rfl) rfl rfl rfl rfl (e_call1kR (v_ok rfl) ?_)
  exact run_ex (F := F_places) (by rfl) (by rfl) (by decide) (by rfl) (by rfl) (by rfl) (s_exc (x_exc (e_call1R (v_ok rfl) (r_ctask S (m := 17) (n := k) (by omega) (okB_le h.ok (by omega)) h.len (by omega) h.f))))
theorem r_ref_hand {n : Nat} {v : PyData} (h : BadH v) (hn : 100 ≤ n) : run TT GL n 75 [.dat v] S = .ok (.dat (.tuple [v])) S := by
  obtain ⟨k, rfl⟩ : ∃ k, n = k + 3 := ⟨n - 3, by omega⟩
  refine lam_ref (j := k + 1) (f := 76) (m := ⟨67, [5], (.callK 54 [] [0] [] [(.var 0)] []), 0, true, [none]⟩) (by rfl) (by rfl) rfl rfl rfl rfl (e_call1R (v_ok rfl) ?_)
  exact run_ex (F := F_hand_text) (by rfl) (by rfl) (by decide) (by rfl) (by rfl) (by rfl) (s_exc (x_exc (e_call1R (v_ok rfl) (r_chand S (m := 17) (n := k) (by omega) (okB_le h.ok (by omega)) h.len (by omega) h.f))))
theorem r_ref_crew {n : Nat} {t v : PyData} (ho : okB 17 (crewD [t] v) = true) (lt : LenT 17 t) (lh : LenH 17 v) (hf : crewB 17 (crewD [t] v) = false) (hn : 100 ≤ n) : run TT GL n 77 [.dat v, .dat t] S = .ok (.dat (.tuple [crewD [t] v])) S := by
  obtain ⟨k, rfl⟩ : ∃ k, n = k + 3 := ⟨n - 3, by omega⟩
  refine lam_ref (j := k + 1) (f := 78) (m := ⟨67, [5, 1], (.callK 51 [] [0] [] [(.tup [(.tup [(.var 1)]), (.var 0)])] []), 0, true, [none]⟩) (by rfl) (by rfl) rfl rfl rfl rfl (e_call1R (tup2_ok (tup1_ok (v_ok rfl)) (v_ok rfl)) ?_)
  exact run_ex (F := F_crew_text) (by rfl) (by rfl) (by decide) (by rfl) (by rfl) (by rfl) (s_exc (x_exc (e_call1R (v_ok rfl) (r_ccrew S (m := 17) (n := k) (by omega) ho (all1 lt) lh (by omega) hf))))
theorem r_ref_names {n : Nat} {v : PyData} (h : BadC v) (hn : 100 ≤ n) : run TT GL n 79 [.dat v] S = .ok (.dat (.tuple [v])) S := by
  obtain ⟨k, rfl⟩ : ∃ k, n = k + 3 := ⟨n - 3, by omega⟩
  refine lam_ref (j := k + 1) (f := 80) (m := ⟨67, [5], (.callK 52 [] [0] [] [(.var 0)] []), 0, true, [none]⟩) (by rfl) (by rfl) rfl rfl rfl rfl (e_call1R (v_ok rfl) ?_)
  exact run_ex (F := F_names_of_crews) (by rfl) (by rfl) (by decide) (by rfl) (by rfl) (by rfl) (s_exc (x_exc (e_call1R (v_ok rfl) (r_ccrew S (m := 17) (n := k) (by omega) h.ok h.lt h.lh (by omega) h.f))))
theorem r_names_c {n : Nat} {t h : PyData} (ho : okB 17 (crewD [t] h) = true) (lt : LenT 17 t) (lh : LenH 17 h) (hf : crewB 17 (crewD [t] h) = true) (ht : tupOf t 7 = true) (hn : 100 ≤ n) : run TT GL n 52 [.dat (crewD [t] h)] S = .ok (.dat (.tuple [ix t 1])) S := by
  obtain ⟨k, rfl⟩ : ∃ k, n = k + 2 := ⟨n - 2, by omega⟩
  refine run_rt (F := F_names_of_crews) (by rfl) (by rfl) (by decide) (by rfl) (by rfl) (by rfl) (s_nx (x_nx (e_call1 (v_ok rfl) (r_ccrew_t S (m := 17) (n := k + 1) (by omega) ho (all1 lt) lh (by omega) hf))) (rtx (e_call1 (v_ok rfl) ?_)))
  refine run_rt (F := F_names_in_crew) (by rfl) (by rfl) (by decide) (by rfl) (by rfl) (by rfl) (rtx (blt1_ok (cp_map (ds := [t]) (g := fun t => ix t 1) (vx_ok (d := .tuple [t]) (idx_ok (v_ok (v := .dat (crewD [t] h)) rfl) (e_con _ _ _ _ _) rfl) rfl) (by simp) fun x hx => ?_) (bl_tupL _)))
  rw [List.mem_singleton.mp hx]
  exact ixv 1 rfl ht (by omega)
/-- a list of one's own, begun behind a draw -/
theorem LocI.begin {S S1 : Sto} {k B : Nat} {l : List PyData} (u : Upd S S1 k) (w : Wl S1 k B) : LocI S (S1 ++ [l]) k B l :=
  ⟨by rw [List.length_append, u.len]; rfl, w.at (List.getElem?_append_left w.lt), fun j h1 h2 => (List.getElem?_append_left (by rw [u.len]; exact h1)).trans (u.oth j h2), by rw [← u.len]; simp⟩
theorem r_handd (n : Nat) {S : Sto} {k B : Nat} (w : Wl S k B) (hB : B < 900000) : ∃ a r e S', run TT GL (n + 2) 66 [.cell k] S = .ok (.dat (.tuple (hdD a r e))) S' ∧ a < 6 ∧ r ∈ [[], [0], [1]] ∧ Wl S' k (B + 4) ∧ Upd S S' k := by
  have hk := w.lt
  obtain ⟨a, S1, e1, ha, w1, u1⟩ := d_ok (n := n) (ρ := [some (.cell k), none]) (S0 := S) (e := .con (.int 6)) (m := 6) rfl (e_con _ _ _ _ _) w (by omega) (by omega) (by omega) rfl
  have en : evE (run TT GL (n + 1)) GL (.new [(.tup [(.con (sS "serve")), (.bin .add (.con (.int 1)) (.callK 56 [] [0, 1] [] [(.var 0), (.con (.int 6))] []))])]) [some (.cell k), none] S = .ok (.cell S1.length) (S1 ++ [[t2 "serve" (iN (1 + a))]]) :=
    new1_ok (tup2_ok (e_con _ _ _ _ _) (bin_ok (e_con _ _ _ _ _) e1 (add_nat 1 a)))
  rw [u1.len] at en
  have L1 : LocI S (S1 ++ [[t2 "serve" (iN (1 + a))]]) k (B + 1) [t2 "serve" (iN (1 + a))] := LocI.begin u1 w1
  -- rest
  have st2 : ∃ r S2, evS (run TT GL (n + 1)) GL (.ife (.cmp .eq (.callK 56 [] [0, 1] [] [(.var 0), (.con (.int 2))] []) (.con (.int 0))) [.exp (.mth .append (.var 1) [(.tup [(.con (sS "rest")), (.con (.int 0)), (.callK 56 [] [0, 1] [] [(.var 0), (.con (.int 2))] [])])])] []) [some (.cell k), some (.cell S.length)] (S1 ++ [[t2 "serve" (iN (1 + a))]]) = .nx [some (.cell k), some (.cell S.length)] S2 ∧ r ∈ [[], [0], [1]] ∧ LocI S S2 k (B + 3) ([t2 "serve" (iN (1 + a))] ++ r.map fun b => t3 "rest" (.int 0) (iN b)) := by
    obtain ⟨q, S2, e2, hq, w2, u2⟩ := d_ok (n := n) (ρ := [some (.cell k), some (.cell S.length)]) (S0 := S1 ++ [[t2 "serve" (iN (1 + a))]]) (e := .con (.int 2)) (m := 2) rfl (e_con _ _ _ _ _) L1.wl (by omega) (by omega) (by omega) rfl
    have L2 := L1.upd hk u2 w2
    have ec := cmp_ok (op := .eq) (b := .con (.int 0)) e2 (e_con _ _ _ _ _) (eq_nat q 0)
    by_cases h0 : q = 0
    · rw [decide_eq_true h0] at ec
      obtain ⟨b, S3, e3, hb, w3, u3⟩ := d_ok (n := n) (ρ := [some (.cell k), some (.cell S.length)]) (S0 := S2) (e := .con (.int 2)) (m := 2) rfl (e_con _ _ _ _ _) L2.wl (by omega) (by omega) (by omega) rfl
      have L3 := L2.upd hk u3 w3
      refine ⟨[b], _, if_t ec (s_nx (app_nx (v_ok rfl) (tup3_ok (e_con _ _ _ _ _) (e_con _ _ _ _ _) e3) L3.at_ (by simp)) (s_nil _ _ _ _)), ?_, (L3.set hk).mono (by omega)⟩
      have : b = 0 ∨ b = 1 := by omega
      rcases this with rfl | rfl <;> simp
    · rw [decide_eq_false h0] at ec
      exact ⟨[], S2, if_f ec (s_nil _ _ _ _), by simp, by rw [List.map_nil, List.append_nil]; exact L2.mono (by omega)⟩
  obtain ⟨r, S2, e2, hr, L2⟩ := st2
  have lr : r.length ≤ 1 := by
    simp only [List.mem_cons, List.not_mem_nil, or_false] at hr
    rcases hr with rfl | rfl | rfl <;> simp
  obtain ⟨q, S3, e3, hq, w3, u3⟩ := d_ok (n := n) (ρ := [some (.cell k), some (.cell S.length)]) (S0 := S2) (e := .con (.int 4)) (m := 4) rfl (e_con _ _ _ _ _) L2.wl (by omega) (by omega) (by omega) rfl
  have L3 := L2.upd hk u3 w3
  have ec := cmp_ok (op := .eq) (b := .con (.int 0)) e3 (e_con _ _ _ _ _) (eq_nat q 0)
  have st3 : ∃ e S4, evS (run TT GL (n + 1)) GL (.ife (.cmp .eq (.callK 56 [] [0, 1] [] [(.var 0), (.con (.int 4))] []) (.con (.int 0))) [.exp (.mth .append (.var 1) [(.tup [(.con (sS "either")), (.tup [(.tup [(.con (sS "serve")), (.con (.int 2))])]), (.tup [(.tup [(.con (sS "serve")), (.con (.int 3))]), (.tup [(.con (sS "rest")), (.con (.int 0)), (.con (.int 1))])])])])] []) [some (.cell k), some (.cell S.length)] S2 = .nx [some (.cell k), some (.cell S.length)] S4 ∧ LocI S S4 k (B + 4) (hdD a r e) := by
    by_cases h0 : q = 0
    · rw [decide_eq_true h0] at ec
      refine ⟨true, _, if_t ec (s_nx (app_nx (d := eithD) (v_ok rfl) rfl L3.at_ (by simp; omega)) (s_nil _ _ _ _)), (L3.set hk).mono (by omega)⟩
    · rw [decide_eq_false h0] at ec
      exact ⟨false, S3, if_f ec (s_nil _ _ _ _), by show LocI S S3 k (B + 4) (_ ++ []); rw [List.append_nil]; exact L3.mono (by omega)⟩
  obtain ⟨e, S4, e4, L4⟩ := st3
  obtain ⟨wf, uf⟩ := L4.fin hk
  exact ⟨a, r, e, S4.take S.length, run_rtT (F := F__law_hand) (by rfl) (by rfl) (by decide) (by rfl) (by rfl) (by rfl) (s_nx (a_nx en (by rfl)) (s_nx e2 (s_nx e4 (rtx (tupC_ok rfl L4.at_))))), ha, hr, wf, uf⟩
end
end Dw

set_option Elab.async false
set_option linter.all false
set_option maxRecDepth 100000
set_option maxHeartbeats 2000000
/-! The wrong tasks, made. -/
namespace Dw
open PySem
section
variable {C : Nat → List Val → Sto → R Val} {ρ : Rho} {S S0 S1 : Sto} {a b c d e f g : Ex} {x y z u t s r : PyData} {l : List PyData}
theorem new5_ok (h1 : evE C GL a ρ S = .ok (.dat x) S) (h2 : evE C GL b ρ S = .ok (.dat y) S) (h3 : evE C GL c ρ S = .ok (.dat z) S) (h4 : evE C GL d ρ S = .ok (.dat u) S) (h5 : evE C GL e ρ S = .ok (.dat t) S) :
    evE C GL (.new [a, b, c, d, e]) ρ S = .ok (.cell S.length) (S ++ [[x, y, z, u, t]]) := by
  rw [e_new, l_cons, h1, bind_ok, l_cons, h2, bind_ok, l_cons, h3, bind_ok, l_cons, h4, bind_ok, l_cons, h5, bind_ok, l_nil, bind_ok, bind_ok, bind_ok, bind_ok, bind_ok, bind_ok]
  rfl
theorem ap_step {acc : List PyData} {n : Nat} {k : Nat} (hk : ρ[n]? = some (some (.cell k))) (hF : Fnd S0 k S1 acc) (he : evE C GL e ρ S1 = .ok (.dat x) S1) (hl : acc.length < 1000000) : ∃ S2, evS C GL (.exp (.mth .append (.var n) [e])) ρ S1 = .nx ρ S2 ∧ Fnd S0 k S2 (acc ++ [x]) :=
  ⟨_, app_nx (v_ok hk) he hF.at_ (by omega), hF.app⟩
end
abbrev wR (t n ks fs du b ag : PyData) (c : Nat) (x11 x12 x13 : Option Val) : Rho := [some (.dat t), some (.dat (sS "task")), some (.dat n), some (.dat ks), some (.dat fs), some (.dat du), some (.dat b), some (.dat ag), some (.dat oneD), some (.dat workD), some (.cell c), x11, x12, x13]
abbrev apE : Ex := .tup [(.var 1), (.var 2), (.var 3), (.var 4), (.var 5), (.bin .add (.var 6) (.tup [(.var 12)])), (.var 7)]
theorem ap_loop {C : Nat → List Val → Sto → R Val} {S0 : Sto} {t n ks fs du ag : PyData} {bl : List PyData} {c : Nat} {x11 x13 : Option Val} (hb : bl.length ≤ 1000) : ∀ (ds acc : List PyData) (x12 : Option Val) (S1 : Sto), Fnd S0 c S1 acc → acc.length + ds.length ≤ 1000 →
    ∃ y12 S2, loopF (.name 12) (evSs C GL [.exp (.mth .append (.var 10) [apE])]) (ds.map .dat) (wR t n ks fs du (.tuple bl) ag c x11 x12 x13) S1 = .nx (wR t n ks fs du (.tuple bl) ag c x11 y12 x13) S2 ∧ Fnd S0 c S2 (acc ++ ds.map fun d => genT n ks fs du (.tuple (bl ++ [d])) ag)
  | [], acc, x12, S1, hF, _ => ⟨x12, S1, rfl, by rw [List.map_nil, List.append_nil]; exact hF⟩
  | d :: ds, acc, x12, S1, hF, hl => by
    rw [List.length_cons] at hl
    obtain ⟨S2, e2, F2⟩ := ap_step (C := C) (e := apE) (x := genT n ks fs du (.tuple (bl ++ [d])) ag) (ρ := wR t n ks fs du (.tuple bl) ag c x11 (some (.dat d)) x13) (n := 10) rfl hF (tup7_ok (v_ok rfl) (v_ok rfl) (v_ok rfl) (v_ok rfl) (v_ok rfl) (addT_ok (v_ok rfl) (tup1_ok (v_ok rfl)) (by simp; omega)) (v_ok rfl)) (by omega)
    obtain ⟨y12, S3, e3, F3⟩ := ap_loop (t := t) (n := n) (ks := ks) (fs := fs) (du := du) (ag := ag) (x11 := x11) (x13 := x13) hb ds _ (some (.dat d)) S2 F2 (by rw [List.length_append]; simp; omega)
    refine ⟨y12, S3, ?_, by rw [List.map_cons, ← List.singleton_append, ← List.append_assoc]; exact F3⟩
    rw [List.map_cons]
    unfold loopF
    rw [setTg_name]
    have : evSs C GL [.exp (.mth .append (.var 10) [apE])] ((wR t n ks fs du (.tuple bl) ag c x11 x12 x13).set 12 (some (.dat d))) S1 = .nx (wR t n ks fs du (.tuple bl) ag c x11 (some (.dat d)) x13) S2 := s_nx e2 (s_nil _ _ _ _)
    simp only [this]
    exact e3
theorem cut6 (a b c d e f g : PyData) : slD (.tuple [a, b, c, d, e, f, g]) none (some 6) = some (.tuple [a, b, c, d, e, f]) := by rfl
theorem cut1 (a b c d e f g : PyData) : slD (.tuple [a, b, c, d, e, f, g]) (some 1) none = some (.tuple [b, c, d, e, f, g]) := by rfl
section
variable {C : Nat → List Val → Sto → R Val} {S : Sto} {ρ : Rho} {t ks fs du ag : PyData} {bl : List PyData} {c : Nat} {x11 x12 x13 : Option Val}
theorem ev_ownA : evE C GL (.lst [(.tup [(.con (sS "work")), (.con (.int 0))]), (.tup [(.con (sS "work")), (.con (.int 10))]), (.tup [(.con (sS "work")), (.con (.bool true))]), (.tup [(.con (sS "read")), (.con (sS "zz"))]), (.tup [(.con (sS "set")), (.con (sS "zz")), (.var 8)]), (.tup [(.con (sS "hold")), (.tup [])]), (.tup [(.con (sS "free"))])]) (wR t nmD ks fs du (.tuple bl) ag c x11 x12 x13) S = .ok (.dat (.list ownA)) S := by rfl
theorem ev_ownC : evE C GL (.lst [(.tup [(.con (sS "if")), (.tup [(.con (sS "<")), (.var 8)]), (.tup [(.var 9)]), (.tup [])]), (.tup [(.con (sS "if")), (.tup [(.con (sS "=")), (.var 8), (.var 8)]), (.tup []), (.tup [(.var 9)])]), (.tup [(.con (sS "while")), (.tup [(.con (sS "=")), (.var 8), (.var 8)]), (.tup [])])]) (wR t nmD ks fs du (.tuple bl) ag c x11 x12 x13) S = .ok (.dat (.list ownC)) S := by rfl
theorem ev_nest : evE C GL (.tup [(.con (sS "hold")), (.tup [(.tup [(.con (sS "if")), (.tup [(.con (sS "=")), (.var 8), (.var 8)]), (.tup [(.tup [(.con (sS "hold")), (.tup [(.var 9)])])]), (.tup [])])])]) (wR t nmD ks fs du (.tuple bl) ag c x11 x12 x13) S = .ok (.dat nestD) S := by rfl
end
abbrev accA (ks fs du b ag : PyData) : List PyData := [.none, .tuple [sS "task", nmD, ks, fs, du, b], .list [sS "task", nmD, ks, fs, du, b, ag], .tuple [sS "work", nmD, ks, fs, du, b, ag], genT (sS "if") ks fs du b ag]
set_option maxHeartbeats 8000000 in
theorem r_wrongs (n : Nat) (S : Sto) {kl : List (Str × Nat × Nat)} {fl : List (Str × Nat)} {du ag : PyData} {bl : List PyData} (hb : bl.length ≤ 1000) : run TT GL (n + 1) 68 [.dat (camT kl fl du bl ag)] S = .ok (.dat (.list (wrongs kl fl du bl ag))) S := by
  generalize hks : PyData.tuple (kl.map deK) = ks
  generalize hfs : PyData.tuple (fl.map deF) = fs
  have hw : wrongs kl fl du bl ag = accA ks fs du (.tuple bl) ag ++ ownA'.map (fun d => genT nmD ks fs du (.tuple (bl ++ [d])) ag) ++ ownC'.map (fun d => genT nmD ks fs du (.tuple (bl ++ [d])) ag) ++ [genT nmD ks fs du (.tuple (bl ++ [nestD])) ag] ++ clL ++ [genT nmD ks fs du works21 ag] ++ [genT nmD ks fs du (.tuple bl) (nam (oS "zz"))] := by
    rw [← hks, ← hfs]
  rw [hw]
  have ht : camT kl fl du bl ag = genT nmD ks fs du (.tuple bl) ag := by rw [← hks, ← hfs]
  rw [ht]
  generalize htt : genT nmD ks fs du (.tuple bl) ag = t
  have s1 : evS (run TT GL n) GL (.asg (.names [1, 2, 3, 4, 5, 6, 7]) (.var 0)) [some (.dat t), none, none, none, none, none, none, none, none, none, none, none, none, none] S = .nx [some (.dat t), some (.dat (sS "task")), some (.dat nmD), some (.dat ks), some (.dat fs), some (.dat du), some (.dat (.tuple bl)), some (.dat ag), none, none, none, none, none, none] S := by
    refine a_nx (v := .dat (genT nmD ks fs du (.tuple bl) ag)) (v_ok (by rw [htt]; rfl)) (by rfl)
  have s2 : evS (run TT GL n) GL (.asg (.names [8, 9]) (.tup [(.tup [(.con (sS "number")), (.con (.int 1))]), (.tup [(.con (sS "work")), (.con (.int 1))])])) [some (.dat t), some (.dat (sS "task")), some (.dat nmD), some (.dat ks), some (.dat fs), some (.dat du), some (.dat (.tuple bl)), some (.dat ag), none, none, none, none, none, none] S = .nx [some (.dat t), some (.dat (sS "task")), some (.dat nmD), some (.dat ks), some (.dat fs), some (.dat du), some (.dat (.tuple bl)), some (.dat ag), some (.dat oneD), some (.dat workD), none, none, none, none] S :=
    a_nx (tup2_ok (tup2_ok (e_con _ _ _ _ _) (e_con _ _ _ _ _)) (tup2_ok (e_con _ _ _ _ _) (e_con _ _ _ _ _))) (by rfl)
  have vt : ∀ {ρ : Rho} {S : Sto}, ρ[0]? = some (some (.dat t)) → evE (run TT GL n) GL (.var 0) ρ S = .ok (.dat (genT nmD ks fs du (.tuple bl) ag)) S := fun h => by rw [htt]; exact v_ok h
  have s3 : evE (run TT GL n) GL (.new [(.con .none), (.sl (.var 0) none (some (.con (.int 6)))), (.blt .lst1 [(.var 0)]), (.bin .add (.tup [(.con (sS "work"))]) (.sl (.var 0) (some (.con (.int 1))) none)), (.tup [(.var 1), (.con (sS "if")), (.var 3), (.var 4), (.var 5), (.var 6), (.var 7)])]) [some (.dat t), some (.dat (sS "task")), some (.dat nmD), some (.dat ks), some (.dat fs), some (.dat du), some (.dat (.tuple bl)), some (.dat ag), some (.dat oneD), some (.dat workD), none, none, none, none] S = .ok (.cell S.length) (S ++ [accA ks fs du (.tuple bl) ag]) :=
    new5_ok (e_con _ _ _ _ _) (sl_ok (vt rfl) on_ok (oc_ok 6) (cut6 _ _ _ _ _ _ _)) (blt1_ok (vt rfl) (bl_lst _)) (addT_ok (x := [sS "work"]) (y := [nmD, ks, fs, du, .tuple bl, ag]) (tup1_ok (e_con _ _ _ _ _)) (sl_ok (vt rfl) (oc_ok 1) on_ok (cut1 _ _ _ _ _ _ _)) (by simp)) (tup7_ok (v_ok rfl) (e_con _ _ _ _ _) (v_ok rfl) (v_ok rfl) (v_ok rfl) (v_ok rfl) (v_ok rfl))
  have F3 : Fnd S S.length (S ++ [accA ks fs du (.tuple bl) ag]) (accA ks fs du (.tuple bl) ag) := ⟨by simp, Nat.le_refl _, by simp⟩
  have i5 : evI (run TT GL n) GL (.val (.bin .add (.var 11) (.lst [(.sl (.var 9) none (some (.con (.int 1))))]))) (wR t nmD ks fs du (.tuple bl) ag S.length (some (.dat (.list ownA))) none none) (S ++ [accA ks fs du (.tuple bl) ag]) = .ok (ownA'.map .dat) (S ++ [accA ks fs du (.tuple bl) ag]) :=
    val_ok (addL_ok (v_ok rfl) (lst1_ok (sl_ok (v_ok rfl) on_ok (oc_ok 1) (z := .tuple [sS "work"]) (by rfl))) (by simp)) (items_l _)
  obtain ⟨y12, S5, e5, F5⟩ := ap_loop (C := run TT GL n) (t := t) (n := nmD) (ks := ks) (fs := fs) (du := du) (ag := ag) (x11 := some (.dat (.list ownA))) (x13 := none) hb ownA' (accA ks fs du (.tuple bl) ag) none _ F3 (by simp)
  have i7 : evI (run TT GL n) GL (.val (.bin .add (.var 11) (.lst [(.lst [(.con (sS "work")), (.con (.int 1))])]))) (wR t nmD ks fs du (.tuple bl) ag S.length (some (.dat (.list ownC))) y12 none) S5 = .ok (ownC'.map .dat) S5 :=
    val_ok (addL_ok (v_ok rfl) (lst1_ok (lst2_ok (e_con _ _ _ _ _) (e_con _ _ _ _ _))) (by simp)) (items_l _)
  obtain ⟨z12, S7, e7, F7⟩ := ap_loop (C := run TT GL n) (t := t) (n := nmD) (ks := ks) (fs := fs) (du := du) (ag := ag) (x11 := some (.dat (.list ownC))) (x13 := none) hb ownC' _ y12 _ F5 (by simp)
  obtain ⟨S9, e9, F9⟩ := ap_step (C := run TT GL n) (e := .tup [(.var 1), (.var 2), (.var 3), (.var 4), (.var 5), (.bin .add (.var 6) (.tup [(.var 13)])), (.var 7)]) (x := genT nmD ks fs du (.tuple (bl ++ [nestD])) ag) (ρ := wR t nmD ks fs du (.tuple bl) ag S.length (some (.dat (.list ownC))) z12 (some (.dat nestD))) (n := 10) rfl F7 (tup7_ok (v_ok rfl) (v_ok rfl) (v_ok rfl) (v_ok rfl) (v_ok rfl) (addT_ok (v_ok rfl) (tup1_ok (v_ok rfl)) (by simp; omega)) (v_ok rfl)) (by simp)
  obtain ⟨A1, a1, G1⟩ := ap_step (C := run TT GL n) (e := (.tup [(.var 1), (.var 2), (.tup [(.tup [(.con (sS "a")), (.con (.int 0)), (.con (.int 1)), (.con (.int 2))])]), (.tup []), (.var 8), (.tup []), (.var 8)])) (x := genT nmD (.tuple [rgA [0, 1, 2] "a"]) (.tuple []) oneD (.tuple []) oneD) (ρ := wR t nmD ks fs du (.tuple bl) ag S.length (some (.dat (.list ownC))) z12 (some (.dat nestD))) (n := 10) rfl F9 (by rfl) (by simp)
  obtain ⟨A2, a2, G2⟩ := ap_step (C := run TT GL n) (e := (.tup [(.var 1), (.var 2), (.tup [(.tup [(.con (sS "a")), (.con (.int 0)), (.con (.int 1)), (.con (.int 0))])]), (.tup [(.tup [(.con (sS "a")), (.con (.int 0)), (.con (.int 1))])]), (.var 8), (.tup []), (.var 8)])) (x := genT nmD (.tuple [rgA [0, 1, 0] "a"]) (.tuple [rgA [0, 1] "a"]) oneD (.tuple []) oneD) (ρ := wR t nmD ks fs du (.tuple bl) ag S.length (some (.dat (.list ownC))) z12 (some (.dat nestD))) (n := 10) rfl G1 (by rfl) (by simp)
  obtain ⟨A3, a3, G3⟩ := ap_step (C := run TT GL n) (e := (.tup [(.var 1), (.var 2), (.tup []), (.tup [(.tup [(.con (sS "a")), (.con (.int 2)), (.con (.int 1))])]), (.var 8), (.tup []), (.var 8)])) (x := genT nmD (.tuple []) (.tuple [rgA [2, 1] "a"]) oneD (.tuple []) oneD) (ρ := wR t nmD ks fs du (.tuple bl) ag S.length (some (.dat (.list ownC))) z12 (some (.dat nestD))) (n := 10) rfl G2 (by rfl) (by simp)
  obtain ⟨A4, a4, G4⟩ := ap_step (C := run TT GL n) (e := (.tup [(.var 1), (.var 2), (.tup []), (.tup [(.tup [(.con (sS "a")), (.con (.int 0)), (.con (.int 1))])]), (.tup [(.con (sS "name")), (.con (sS "a"))]), (.tup []), (.var 8)])) (x := genT nmD (.tuple []) (.tuple [rgA [0, 1] "a"]) (t2 "name" (sS "a")) (.tuple []) oneD) (ρ := wR t nmD ks fs du (.tuple bl) ag S.length (some (.dat (.list ownC))) z12 (some (.dat nestD))) (n := 10) rfl G3 (by rfl) (by simp)
  obtain ⟨A5, a5, G5⟩ := ap_step (C := run TT GL n) (e := (.tup [(.var 1), (.var 2), (.tup []), (.tup [(.tup [(.con (sS "a")), (.con (.int 0)), (.con (.int 10))])]), (.var 8), (.tup []), (.var 8)])) (x := genT nmD (.tuple []) (.tuple [rgA [0, 10] "a"]) oneD (.tuple []) oneD) (ρ := wR t nmD ks fs du (.tuple bl) ag S.length (some (.dat (.list ownC))) z12 (some (.dat nestD))) (n := 10) rfl G4 (by rfl) (by simp)
  obtain ⟨A6, a6, G6⟩ := ap_step (C := run TT GL n) (e := (.tup [(.var 1), (.var 2), (.bin .mul (.tup [(.tup [(.con (sS "a")), (.con (.int 0)), (.con (.int 1)), (.con (.int 0))])]) (.con (.int 2))), (.tup []), (.var 8), (.tup []), (.var 8)])) (x := genT nmD (.tuple [rgA [0, 1, 0] "a", rgA [0, 1, 0] "a"]) (.tuple []) oneD (.tuple []) oneD) (ρ := wR t nmD ks fs du (.tuple bl) ag S.length (some (.dat (.list ownC))) z12 (some (.dat nestD))) (n := 10) rfl G5 (by rfl) (by simp)
  obtain ⟨A7, a7, G7⟩ := ap_step (C := run TT GL n) (e := (.tup [(.var 1), (.var 2), (.tup [(.tup [(.con (sS "a")), (.con (.int 0)), (.con (.int 1)), (.con (.int 0))]), (.tup [(.con (sS "b")), (.con (.int 0)), (.con (.int 1)), (.con (.int 0))]), (.tup [(.con (sS "c")), (.con (.int 0)), (.con (.int 1)), (.con (.int 0))])]), (.tup []), (.var 8), (.tup []), (.var 8)])) (x := genT nmD (.tuple [rgA [0, 1, 0] "a", rgA [0, 1, 0] "b", rgA [0, 1, 0] "c"]) (.tuple []) oneD (.tuple []) oneD) (ρ := wR t nmD ks fs du (.tuple bl) ag S.length (some (.dat (.list ownC))) z12 (some (.dat nestD))) (n := 10) rfl G6 (by rfl) (by simp)
  obtain ⟨A8, a8, G8⟩ := ap_step (C := run TT GL n) (e := (.tup [(.var 1), (.var 2), (.var 3), (.var 4), (.var 5), (.bin .mul (.tup [(.var 9)]) (.con (.int 21))), (.var 7)])) (x := genT nmD ks fs du works21 ag) (ρ := wR t nmD ks fs du (.tuple bl) ag S.length (some (.dat (.list ownC))) z12 (some (.dat nestD))) (n := 10) rfl G7 (by rfl) (by simp)
  have hr : evE (run TT GL n) GL (.bin .add (.var 10) (.lst [(.tup [(.var 1), (.var 2), (.var 3), (.var 4), (.var 5), (.var 6), (.tup [(.con (sS "name")), (.con (sS "zz"))])])])) (wR t nmD ks fs du (.tuple bl) ag S.length (some (.dat (.list ownC))) z12 (some (.dat nestD))) A8 = .ok (.dat (.list (_ ++ [genT nmD ks fs du (.tuple bl) (nam (oS "zz"))]))) A8 :=
    binC_ok rfl G8.at_ (lst1_ok (tup7_ok (v_ok rfl) (v_ok rfl) (v_ok rfl) (v_ok rfl) (v_ok rfl) (v_ok rfl) (tup2_ok (e_con _ _ _ _ _) (e_con _ _ _ _ _)))) (by simp)
  have := run_rtT (S := S) (n := n) (T := TT) (Gc := GL) (f := 68) (vs := [.dat t]) (F := F__law_wrongs) (by rfl) (by rfl) (by decide) (by rfl) (by rfl) (by rfl)
    (s_nx s1 (s_nx s2 (s_nx (a_nx s3 (by rfl)) (s_nx (a_nx ev_ownA (by rfl)) (s_nx (f_nx i5 e5) (s_nx (a_nx ev_ownC (by rfl)) (s_nx (f_nx i7 e7) (s_nx (a_nx ev_nest (by rfl)) (s_nx e9 (s_nx a1 (s_nx a2 (s_nx a3 (s_nx a4 (s_nx a5 (s_nx a6 (s_nx a7 (s_nx a8 (rtx hr))))))))))))))))))
  rw [G8.pre] at this
  rw [this]
  congr 3
end Dw

set_option Elab.async false
set_option linter.all false
set_option maxRecDepth 100000
set_option maxHeartbeats 2000000
/-! The law's right. -/
namespace Dw
open PySem
section
variable {C : Nat → List Val → Sto → R Val} {ρ : Rho} {S S0 S1 S2 S3 : Sto} {a b c d e f g : Ex} {x y z u t s r : PyData} {l : List PyData}
theorem new3_ok (h1 : evE C GL a ρ S = .ok (.dat x) S) (h2 : evE C GL b ρ S = .ok (.dat y) S) (h3 : evE C GL c ρ S = .ok (.dat z) S) : evE C GL (.new [a, b, c]) ρ S = .ok (.cell S.length) (S ++ [[x, y, z]]) := by
  rw [e_new, l_cons, h1, bind_ok, l_cons, h2, bind_ok, l_cons, h3, bind_ok, l_nil, bind_ok, bind_ok, bind_ok, bind_ok]
  rfl
theorem lst3_ok (h1 : evE C GL a ρ S = .ok (.dat x) S) (h2 : evE C GL b ρ S = .ok (.dat y) S) (h3 : evE C GL c ρ S = .ok (.dat z) S) : evE C GL (.lst [a, b, c]) ρ S = .ok (.dat (.list [x, y, z])) S := by
  rw [e_lst, l_cons, h1, bind_ok, l_cons, h2, bind_ok, l_cons, h3, bind_ok, l_nil, bind_ok, bind_ok, bind_ok, bind_ok]
  rfl
theorem lst6_ok (h1 : evE C GL a ρ S = .ok (.dat x) S) (h2 : evE C GL b ρ S = .ok (.dat y) S) (h3 : evE C GL c ρ S = .ok (.dat z) S) (h4 : evE C GL d ρ S = .ok (.dat u) S) (h5 : evE C GL e ρ S = .ok (.dat t) S) (h6 : evE C GL f ρ S = .ok (.dat s) S) :
    evE C GL (.lst [a, b, c, d, e, f]) ρ S = .ok (.dat (.list [x, y, z, u, t, s])) S := by
  rw [e_lst, l_cons, h1, bind_ok, l_cons, h2, bind_ok, l_cons, h3, bind_ok, l_cons, h4, bind_ok, l_cons, h5, bind_ok, l_cons, h6, bind_ok, l_nil, bind_ok, bind_ok, bind_ok, bind_ok, bind_ok, bind_ok, bind_ok]
  rfl
theorem cat_dat {acc m : List PyData} (h1 : evE C GL a ρ S = .ok (.dat (.list acc)) S) (h : evE C GL b ρ S = .ok (.dat (.list m)) S) (hl : acc.length + m.length ≤ 1000000) : evE C GL (.cat a b) ρ S = .ok (.cell S.length) (S ++ [acc ++ m]) := by
  rw [e_cat, h1, bind_ok, h, bind_ok]
  exact if_pos (line_big (by omega))
theorem e_call2c {q : R Val} {v w : Val} {n : Nat} (h : evE C GL a ρ S = .ok v S) (h' : evE C GL b ρ S = .ok w S) (h2 : C n [v, w] S = q) : evE C GL (.callK n [] [0, 1] [] [a, b] []) ρ S = q := by
  rw [e_call, l_cons, h, bind_ok, l_cons, h', bind_ok, l_nil, bind_ok, bind_ok, bind_ok, l_nil, bind_ok]
  exact (callKR_2 C n v w S).trans h2
end
theorem loop_any {i : Nat} {body : Rho → Sto → SR} (I : Rho → Prop) : ∀ (vs : List PyData) (ρ : Rho) (S : Sto), I ρ → (∀ v ∈ vs, ∀ ρ S, I ρ → ∃ ρ' S', body (ρ.set i (some (.dat v))) S = .nx ρ' S' ∧ I ρ') → ∃ ρ' S', loopF (.name i) body (vs.map .dat) ρ S = .nx ρ' S' ∧ I ρ'
  | [], ρ, S, h, _ => ⟨ρ, S, rfl, h⟩
  | v :: vs, ρ, S, h, hb => by
    obtain ⟨ρ1, S1, e1, h1⟩ := hb v List.mem_cons_self ρ S h
    obtain ⟨ρ2, S2, e2, h2⟩ := loop_any I vs ρ1 S1 h1 fun w hw => hb w (List.mem_cons_of_mem _ hw)
    refine ⟨ρ2, S2, ?_, h2⟩
    rw [List.map_cons]
    unfold loopF
    rw [setTg_name]
    simp only [e1]
    exact e2
theorem okB_repr {k : Nat} {d : PyData} (h : okB k d = true) (hk : k ≤ 50) (hw : d.weight ≤ 1000000) : reprOk d = true := ((okB_nice h).mono (Nat.le_refl _) (Nat.le_refl _)).repr (by omega) hk
theorem r_isC {n c : Nat} {S : Sto} {l : List PyData} (hc : S[c]? = some l) (hd : reprOk (.list l) = true) : run TT GL (n + 1) 58 [.cell c, .dat (.list l)] S = .ok (.dat (.bool true)) S := by
  have e1 : evE (run TT GL n) GL (.blt .repr [(.var 0)]) [some (.cell c), some (.dat (.list l))] S = .ok (.dat (.str (PyData.list l).shown)) S := by
    rw [e_blt, l_cons, v_ok (v := .cell c) rfl, bind_ok, l_nil, bind_ok, bind_ok]
    have : derefs S [Val.cell c] = some [.list l] := by
      have e1 : deref S (.cell c) = some (.list l) := by
        show (S[c]?).map PyData.list = _
        rw [hc]
        rfl
      show (match deref S (.cell c), derefs S [] with
        | some d, some ds => some (d :: ds)
        | _, _ => none) = _
      rw [e1]
      rfl
    unfold bltR
    rw [this]
    show give ((bltD .repr [.list l]).map Val.dat) S = _
    rw [bl_repr _ hd]
    rfl
  exact run_rt (F := F__law_is) (by rfl) (by rfl) (by decide) (by rfl) (by rfl) (by rfl) (s_rt (r_rt (cmp_ok e1 (blt1_ok (v_ok rfl) (bl_repr _ hd)) (by rw [c_eqS]; simp))))
abbrev rR (k : Nat) (t h c : PyData) (x4 x5 x6 x7 x8 : Option Val) : Rho := [some (.cell k), some (.dat t), some (.dat h), some (.dat c), x4, x5, x6, x7, x8, none]
abbrev ff3 (v : PyData) : List PyData := [.bool false, .bool false, .tuple [v]]
abbrev sto4 (S : Sto) (v w : PyData) : Sto := (S ++ [ff3 v]).set S.length (ff3 v ++ [w])
theorem sto4_at (S : Sto) (v w : PyData) : (sto4 S v w)[S.length]? = some [.bool false, .bool false, .tuple [v], w] := set_same (l := ff3 v) (by simp)
abbrev b5 : List Sx := [.asg (.name 4) (.new [(.callK 46 [] [0] [] [(.var 5)] []), (.callK 50 [] [0] [] [(.tup [(.tup [(.var 5)]), (.var 2)])] []), (.call 71 [.var 5])]),
    .exp (.mth .append (.var 4) [(.call 73 [.var 5])]),
    .ife (.not (.callK 58 [] [0, 1] [] [(.var 4), (.lst [(.con (.bool false)), (.con (.bool false)), (.tup [(.var 5)]), (.tup [(.var 5)])])] []))
    [.ret (.con (.bool false))]
    []]
abbrev b10 : List Sx := [.asg (.name 4) (.new [(.callK 53 [] [0] [] [(.var 5)] []), (.callK 50 [] [0] [] [(.tup [(.tup [(.var 1)]), (.var 5)])] []), (.call 75 [.var 5])]),
    .exp (.mth .append (.var 4) [(.call 77 [.var 5, .var 1])]),
    .ife (.not (.callK 58 [] [0, 1] [] [(.var 4), (.lst [(.con (.bool false)), (.con (.bool false)), (.tup [(.var 5)]), (.tup [(.tup [(.tup [(.var 1)]), (.var 5)])])])] []))
    [.ret (.con (.bool false))]
    []]
abbrev b12 : List Sx := [.ife (.not (.callK 58 [] [0, 1] [] [(.lst [(.callK 50 ["value"] [0] [] [] [(.var 5)]), (.call 79 [.var 5])]), (.lst [(.con (.bool false)), (.tup [(.var 5)])])] []))
    [.ret (.con (.bool false))]
    []]
section
variable {n k : Nat} {t h c : PyData} {x4 x5 x6 x7 x8 : Option Val} (hn : 105 ≤ n)
include hn
theorem turn5 (S : Sto) (hk : HandK h) {v : PyData} (hv : Bad v) : ∃ y4 S', evSs (run TT GL n) GL b5 (rR k t h c x4 (some (.dat v)) x6 x7 x8) S = .nx (rR k t h c y4 (some (.dat v)) x6 x7 x8) S' := by
  obtain ⟨j, rfl⟩ : ∃ j, n = j + 1 := ⟨n - 1, by omega⟩
  have ov : okB 17 v = true := okB_le hv.ok (by omega)
  have oc : okB 17 (crewD [v] h) = true := crew_ok (all1 (okB_le hv.ok (by omega))) (by simp) (okB_le hk.ok (by omega))
  have q1 := r_istask S (m := 17) (n := j + 1) (v := v) (by omega) ov hv.len (by omega)
  rw [hv.f] at q1
  have q2 := r_iscrew S (m := 17) (n := j + 1) (v := crewD [v] h) (by omega) oc (all1 hv.len) hk.lh (by omega)
  rw [crew_task_f hv.f] at q2
  have e1 := new3_ok (C := run TT GL (j + 1)) (ρ := rR k t h c x4 (some (.dat v)) x6 x7 x8) (S := S) (a := .callK 46 [] [0] [] [(.var 5)] []) (b := .callK 50 [] [0] [] [(.tup [(.tup [(.var 5)]), (.var 2)])] []) (c := .call 71 [.var 5])
    (e_call1 (v_ok rfl) q1) (e_call1 (tup2_ok (tup1_ok (v_ok rfl)) (v_ok rfl)) q2) (e_cl1 (v_ok rfl) (r_ref_text S hv (by omega)))
  have e2 := app_nx (C := run TT GL (j + 1)) (G := GL) (ρ := rR k t h c (some (.cell S.length)) (some (.dat v)) x6 x7 x8) (o := .var 4) (e := .call 73 [.var 5]) (S := S ++ [[.bool false, .bool false, .tuple [v]]]) (l := [.bool false, .bool false, .tuple [v]])
    (v_ok rfl) (e_cl1 (v_ok rfl) (r_ref_places _ hv (by omega))) (by simp) (by simp)
  have rp : reprOk (.list [.bool false, .bool false, .tuple [v], .tuple [v]]) = true := by
    have o1 : okB 15 (.tuple [v]) = true := ok_tup (by simp) (all1 hv.ok)
    refine okB_repr (k := 16) (ok_lst (by simp) (all4 (okB_atom rfl _) (okB_atom rfl _) o1 o1)) (by omega) ?_
    have := hv.wt
    rw [wt_lst, wt_cons, wt_cons, wt_cons, wt_cons, wt_nil, wt_bool, wt_tup, wt_cons, wt_nil]
    omega
  have e3 : evE (run TT GL (j + 1)) GL (.not (.callK 58 [] [0, 1] [] [(.var 4), (.lst [(.con (.bool false)), (.con (.bool false)), (.tup [(.var 5)]), (.tup [(.var 5)])])] [])) (rR k t h c (some (.cell S.length)) (some (.dat v)) x6 x7 x8) (sto4 S v (.tuple [v])) = .ok (.dat (.bool false)) (sto4 S v (.tuple [v])) :=
    not_ok (q := true) (e_call2c (v_ok rfl) (lst4_ok (e_con _ _ _ _ _) (e_con _ _ _ _ _) (tup1_ok (v_ok rfl)) (tup1_ok (v_ok rfl))) (r_isC (n := j) (sto4_at _ _ _) rp))
  exact ⟨_, _, s_nx (a_nx e1 (by rfl)) (s_nx e2 (s_nx (if_f e3 (s_nil _ _ _ _)) (s_nil _ _ _ _)))⟩
theorem turn10 (S : Sto) (ht : okB 14 t = true) (lt : LenT 17 t) (wt : t.weight ≤ 20000) {v : PyData} (hv : BadH v) : ∃ y4 S', evSs (run TT GL n) GL b10 (rR k t h c x4 (some (.dat v)) x6 x7 x8) S = .nx (rR k t h c y4 (some (.dat v)) x6 x7 x8) S' := by
  obtain ⟨j, rfl⟩ : ∃ j, n = j + 1 := ⟨n - 1, by omega⟩
  have oc : okB 17 (crewD [t] v) = true := crew_ok (all1 (okB_le ht (by omega))) (by simp) (okB_le hv.ok (by omega))
  have q1 := r_ishand S (m := 17) (n := j + 1) (v := v) (by omega) (okB_le hv.ok (by omega)) hv.len (by omega)
  rw [hv.f] at q1
  have q2 := r_iscrew S (m := 17) (n := j + 1) (v := crewD [t] v) (by omega) oc (all1 lt) hv.len (by omega)
  rw [crew_hand_f hv.f] at q2
  have e1 := new3_ok (C := run TT GL (j + 1)) (ρ := rR k t h c x4 (some (.dat v)) x6 x7 x8) (S := S) (a := .callK 53 [] [0] [] [(.var 5)] []) (b := .callK 50 [] [0] [] [(.tup [(.tup [(.var 1)]), (.var 5)])] []) (c := .call 75 [.var 5])
    (e_call1 (v_ok rfl) q1) (e_call1 (tup2_ok (tup1_ok (v_ok rfl)) (v_ok rfl)) q2) (e_cl1 (v_ok rfl) (r_ref_hand S hv (by omega)))
  have e2 := app_nx (C := run TT GL (j + 1)) (G := GL) (ρ := rR k t h c (some (.cell S.length)) (some (.dat v)) x6 x7 x8) (o := .var 4) (e := .call 77 [.var 5, .var 1]) (S := S ++ [[.bool false, .bool false, .tuple [v]]]) (l := [.bool false, .bool false, .tuple [v]])
    (v_ok rfl) (e_cl2 (v_ok rfl) (v_ok rfl) (r_ref_crew _ oc lt hv.len (crew_hand_f hv.f) (by omega))) (by simp) (by simp)
  have rp : reprOk (.list [.bool false, .bool false, .tuple [v], .tuple [crewD [t] v]]) = true := by
    have o1 : okB 18 (.tuple [v]) = true := ok_tup (by simp) (all1 (okB_le hv.ok (by omega)))
    have o2 : okB 18 (.tuple [crewD [t] v]) = true := ok_tup (by simp) (all1 oc)
    refine okB_repr (k := 19) (ok_lst (by simp) (all4 (okB_atom rfl _) (okB_atom rfl _) o1 o2)) (by omega) ?_
    have := hv.wt
    rw [wt_lst, wt_cons, wt_cons, wt_cons, wt_cons, wt_nil, wt_bool, wt_tup, wt_cons, wt_nil, wt_tup, wt_cons, wt_nil, crew_wt, wt_cons, wt_nil]
    omega
  have e3 : evE (run TT GL (j + 1)) GL (.not (.callK 58 [] [0, 1] [] [(.var 4), (.lst [(.con (.bool false)), (.con (.bool false)), (.tup [(.var 5)]), (.tup [(.tup [(.tup [(.var 1)]), (.var 5)])])])] [])) (rR k t h c (some (.cell S.length)) (some (.dat v)) x6 x7 x8) (sto4 S v (.tuple [crewD [t] v])) = .ok (.dat (.bool false)) (sto4 S v (.tuple [crewD [t] v])) :=
    not_ok (q := true) (e_call2c (v_ok rfl) (lst4_ok (e_con _ _ _ _ _) (e_con _ _ _ _ _) (tup1_ok (v_ok rfl)) (tup1_ok (tup2_ok (tup1_ok (v_ok rfl)) (v_ok rfl)))) (r_isC (n := j) (sto4_at _ _ _) rp))
  exact ⟨_, _, s_nx (a_nx e1 (by rfl)) (s_nx e2 (s_nx (if_f e3 (s_nil _ _ _ _)) (s_nil _ _ _ _)))⟩
theorem turn12 (S : Sto) {v : PyData} (hv : BadC v) : evSs (run TT GL n) GL b12 (rR k t h c x4 (some (.dat v)) x6 x7 x8) S = .nx (rR k t h c x4 (some (.dat v)) x6 x7 x8) S := by
  obtain ⟨j, rfl⟩ : ∃ j, n = j + 1 := ⟨n - 1, by omega⟩
  have q2 := r_iscrew S (m := 17) (n := j + 1) (v := v) (by omega) hv.ok hv.lt hv.lh (by omega)
  rw [hv.f] at q2
  have rp : reprOk (.list [.bool false, .tuple [v]]) = true := by
    refine okB_repr (k := 19) (ok_lst (by simp) (all2 (okB_atom rfl _) (ok_tup (by simp) (all1 hv.ok)))) (by omega) ?_
    have := hv.wt
    rw [wt_lst, wt_cons, wt_cons, wt_nil, wt_bool, wt_tup, wt_cons, wt_nil]
    omega
  have e3 : evE (run TT GL (j + 1)) GL (.not (.callK 58 [] [0, 1] [] [(.lst [(.callK 50 ["value"] [0] [] [] [(.var 5)]), (.call 79 [.var 5])]), (.lst [(.con (.bool false)), (.tup [(.var 5)])])] [])) (rR k t h c x4 (some (.dat v)) x6 x7 x8) S = .ok (.dat (.bool false)) S :=
    not_ok (q := true) (e_call2c (lst2_ok (e_call1kR (v_ok rfl) q2) (e_cl1 (v_ok rfl) (r_ref_names S hv (by omega)))) (lst2_ok (e_con _ _ _ _ _) (tup1_ok (v_ok rfl))) (r_is j S rp))
  exact s_nx (if_f e3 (s_nil _ _ _ _)) (s_nil _ _ _ _)
end
abbrev hadT : List PyData := [.bool true, .bool true, .bool true, .bool true, .bool true, .tuple [nmD]]
theorem hadT_ok : reprOk (.list hadT) = true := by decide +kernel
theorem hadF_ok : reprOk (.list [.bool true, .bool false, .bool true]) = true := by decide +kernel
section
variable {C : Nat → List Val → Sto → R Val} {ρ : Rho} {S : Sto}
theorem ev_hadT : evE C GL (.bin .add (.bin .mul (.lst [(.con (.bool true))]) (.con (.int 5))) (.lst [(.tup [(.con (sS "cam"))])])) ρ S = .ok (.dat (.list hadT)) S := by rfl
theorem ev_h1 : evE C GL (.lst [(.con .none), (.tup []), (.lst [(.tup [(.con (sS "serve")), (.con (.int 1))])]), (.tup [(.tup [(.con (sS "serve")), (.con (.int 0))])]), (.tup [(.tup [(.con (sS "serve")), (.con (.int 10))])]), (.tup [(.tup [(.con (sS "rest")), (.con (.int 1)), (.con (.int 2))])])]) ρ S = .ok (.dat (.list badH1)) S := by rfl
theorem ev_h2 : evE C GL (.lst [(.tup [(.tup [(.con (sS "rest")), (.con (.int 2)), (.con (.int 1))]), (.tup [(.con (sS "serve")), (.con (.int 1))])]), (.bin .mul (.tup [(.tup [(.con (sS "serve")), (.con (.int 1))])]) (.con (.int 9))), (.tup [(.tup [(.con (sS "either")), (.tup [(.tup [(.con (sS "serve")), (.con (.int 1))])]), (.tup [])])])]) ρ S = .ok (.dat (.list badH2)) S := by rfl
theorem ev_h3 : evE C GL (.tup [(.tup [(.con (sS "either")), (.tup [(.tup [(.con (sS "serve")), (.con (.int 1))])]), (.tup [(.tup [(.con (sS "rest")), (.con (.int 1)), (.con (.int 1))])])])]) ρ S = .ok (.dat badH3) S := by rfl
theorem ev_h4 : evE C GL (.lst [(.tup [(.tup [(.con (sS "serve")), (.con (.bool true))])]), (.tup [(.tup [(.con (sS "serve")), (.con (.int 1))]), (.tup [(.con (sS "go")), (.con (.int 1))])]), (.tup [(.con (sS "serve")), (.con (.int 1))])]) ρ S = .ok (.dat (.list badH4)) S := by rfl
theorem ev_s8 : evE C GL (.bin .mul (.tup [(.tup [(.con (sS "serve")), (.con (.int 1))])]) (.con (.int 8))) ρ S = .ok (.dat serve8) S := by rfl
theorem ev_c7 {k : Nat} {t h c : PyData} {x4 x5 x6 x7 x8 : Option Val} : evE C GL (.lst [(.con .none), (.tup [(.tup []), (.var 2)]), (.tup [(.tup [(.var 1), (.var 1)]), (.var 2)]), (.tup [(.lst [(.var 1)]), (.var 2)]), (.tup [(.tup [(.var 1)])]), (.tup [(.tup [(.var 1)]), (.var 2), (.con (.int 1))]), (.lst [(.tup [(.var 1)]), (.var 2)])]) (rR k t h c x4 x5 x6 x7 x8) S = .ok (.dat (.list (badCs t h))) S := by rfl
end
end Dw

set_option Elab.async false
set_option linter.all false
set_option maxRecDepth 100000
set_option maxHeartbeats 4000000
/-! The wells, the law. -/
namespace Dw
open PySem

section
variable {n k B : Nat} {S : Sto}
set_option maxHeartbeats 8000000 in
theorem r_right (hn : 115 ≤ n) (w : Wl S k B) (hB : B < 500000) : ∃ S', run TT GL n 69 [.cell k] S = .ok (.dat (.bool true)) S' := by
  obtain ⟨m, rfl⟩ : ∃ m, n = m + 9 := ⟨n - 9, by omega⟩
  have hc : Wd (oS "cam") := wd_of (by decide +kernel)
  obtain ⟨kl, fl, du, bl, ag, S1, e1, T, w1, u1⟩ := r_drawn (n := m) (name := oS "cam") hc w (by omega)
  obtain ⟨a, r, e, S2, e2, ha, hr, w2, u2⟩ := r_handd (m + 6) w1 (by omega)
  have hk : HandK (.tuple (hdD a r e)) := handK ha hr
  generalize hh : PyData.tuple (hdD a r e) = h at e2 hk
  have ot := tk_okB T cam_ok
  have lt : LenT 17 (taskD (oS "cam") kl fl du bl ag) := tk_lenT T
  have tt := tk_true T cam_ok
  have wt := tk_wt T cam_ok
  have nt : ix (taskD (oS "cam") kl fl du bl ag) 1 = nmD := rfl
  have t7 : tupOf (taskD (oS "cam") kl fl du bl ag) 7 = true := rfl
  have bw := all_wrong T
  have rw_ : ∀ S, run TT GL (m + 7 + 1) 68 [.dat (taskD (oS "cam") kl fl du bl ag)] S = .ok (.dat (.list (wrongs kl fl du bl ag))) S := fun S => r_wrongs (m + 7) S (kl := kl) (fl := fl) (du := du) (ag := ag) (bl := bl) (by have := T.len; omega)
  generalize hT : taskD (oS "cam") kl fl du bl ag = t at e1 ot lt tt wt nt t7 rw_
  have oc : okB 17 (crewD [t] h) = true := crew_ok (all1 (okB_le ot (by omega))) (by simp) (okB_le hk.ok (by omega))
  have cc : crewB 17 (crewD [t] h) = true := crew_one tt hk.t
  have s1 : evS (run TT GL (m + 8)) GL (.asg (.names [1, 2]) (.tup [(.callK 65 [] [0, 1] [] [(.var 0), (.con (sS "cam"))] []), (.callK 66 [] [0] [] [(.var 0)] [])])) [some (.cell k), none, none, none, none, none, none, none, none, none] S = .nx [some (.cell k), some (.dat t), some (.dat h), none, none, none, none, none, none, none] S2 :=
    a_nx (tup2_ok (e_call2 (v_ok rfl) (e_con _ _ _ _ _) e1) (e_call1 (v_ok rfl) e2)) (setTg_names2 ..)
  have s2 : evE (run TT GL (m + 8)) GL (.tup [(.tup [(.var 1)]), (.var 2)]) [some (.cell k), some (.dat t), some (.dat h), none, none, none, none, none, none, none] S2 = .ok (.dat (crewD [t] h)) S2 := tup2_ok (tup1_ok (v_ok rfl)) (v_ok rfl)
  have q1 := r_istask S2 (m := 17) (n := m + 8) (v := t) (by omega) (okB_le ot (by omega)) lt (by omega)
  rw [tt] at q1
  have q2 := r_ishand S2 (m := 17) (n := m + 8) (v := h) (by omega) (okB_le hk.ok (by omega)) hk.lh (by omega)
  rw [hk.t] at q2
  have q3 := r_iscrew S2 (m := 17) (n := m + 8) (v := crewD [t] h) (by omega) oc (all1 lt) hk.lh (by omega)
  rw [cc] at q3
  have q4 := r_names_c S2 (n := m + 8) oc lt hk.lh cc t7 (by omega)
  rw [nt] at q4
  have s3 : evE (run TT GL (m + 8)) GL (.lst [(.callK 46 [] [0] [] [(.var 1)] []), (.callK 46 ["value"] [0] [] [] [(.var 1)]), (.callK 53 ["value"] [0] [] [] [(.var 2)]), (.callK 50 [] [0] [] [(.var 3)] []), (.callK 50 ["value"] [0] [] [] [(.var 3)]), (.callK 52 [] [0] [] [(.var 3)] [])]) (rR k t h (crewD [t] h) none none none none none) S2 = .ok (.dat (.list hadT)) S2 :=
    lst6_ok (e_call1 (v_ok rfl) q1) (e_call1kR (v_ok rfl) q1) (e_call1kR (v_ok rfl) q2) (e_call1 (v_ok rfl) q3) (e_call1kR (v_ok rfl) q3) (e_call1 (v_ok rfl) q4)
  have s4 : evE (run TT GL (m + 8)) GL (.not (.callK 58 [] [0, 1] [] [(.var 4), (.bin .add (.bin .mul (.lst [(.con (.bool true))]) (.con (.int 5))) (.lst [(.tup [(.con (sS "cam"))])]))] [])) (rR k t h (crewD [t] h) (some (.dat (.list hadT))) none none none none) S2 = .ok (.dat (.bool false)) S2 :=
    not_ok (q := true) (e_call2c (v_ok rfl) ev_hadT (r_is (m + 7) S2 hadT_ok))
  have i5 : evI (run TT GL (m + 8)) GL (.val (.callK 68 [] [0] [] [(.var 1)] [])) (rR k t h (crewD [t] h) (some (.dat (.list hadT))) none none none none) S2 = .ok ((wrongs kl fl du bl ag).map .dat) S2 :=
    val_ok (e_call1 (v_ok rfl) (rw_ S2)) (items_l _)
  obtain ⟨_, S5, e5, y4, y5, rfl⟩ := loop_any (i := 5) (body := evSs (run TT GL (m + 8)) GL b5) (fun ρ => ∃ y4 y5, ρ = rR k t h (crewD [t] h) y4 y5 none none none) (wrongs kl fl du bl ag) (rR k t h (crewD [t] h) (some (.dat (.list hadT))) none none none none) S2 ⟨_, _, rfl⟩ (fun v hv ρ S ⟨y4, y5, e⟩ => by
    subst e
    obtain ⟨z4, S', e'⟩ := turn5 (n := m + 8) (k := k) (t := t) (c := crewD [t] h) (x4 := y4) (x6 := none) (x7 := none) (x8 := none) (by omega) S hk (bw v hv)
    exact ⟨_, S', e', _, _, rfl⟩)
  have s6 : evE (run TT GL (m + 8)) GL _ (rR k t h (crewD [t] h) y4 y5 none none none) S5 = .ok (.dat (.list badH1)) S5 := ev_h1
  have s7 : evE (run TT GL (m + 8)) GL (.cat (.var 6) _) (rR k t h (crewD [t] h) y4 y5 (some (.dat (.list badH1))) none none) S5 = .ok (.cell S5.length) (S5 ++ [badH1 ++ badH2]) := cat_dat (v_ok rfl) ev_h2 (by simp)
  have s8 := app_nx (C := run TT GL (m + 8)) (G := GL) (ρ := rR k t h (crewD [t] h) y4 y5 (some (.cell S5.length)) none none) (o := .var 6) (S := S5 ++ [badH1 ++ badH2]) (l := badH1 ++ badH2) (v_ok rfl) ev_h3 (by simp) (by simp)
  generalize hS8 : (S5 ++ [badH1 ++ badH2]).set S5.length (badH1 ++ badH2 ++ [badH3]) = S8 at s8
  have at8 : S8[S5.length]? = some (badH1 ++ badH2 ++ [badH3]) := by
    rw [← hS8]
    exact set_same (l := badH1 ++ badH2) (by simp)
  have s9 : evE (run TT GL (m + 8)) GL (.bin .add (.var 6) _) (rR k t h (crewD [t] h) y4 y5 (some (.cell S5.length)) none none) S8 = .ok (.dat (.list badHs)) S8 := binC_ok rfl at8 ev_h4 (by simp)
  have i10 : evI (run TT GL (m + 8)) GL (.val (.var 6)) (rR k t h (crewD [t] h) y4 y5 (some (.dat (.list badHs))) none none) S8 = .ok (badHs.map .dat) S8 := val_ok (v_ok rfl) (items_l _)
  obtain ⟨_, S10, e10, z4, z5, rfl⟩ := loop_any (i := 5) (body := evSs (run TT GL (m + 8)) GL b10) (fun ρ => ∃ y4 y5, ρ = rR k t h (crewD [t] h) y4 y5 (some (.dat (.list badHs))) none none) badHs (rR k t h (crewD [t] h) y4 y5 (some (.dat (.list badHs))) none none) S8 ⟨_, _, rfl⟩ (fun v hv ρ S ⟨y4, y5, e⟩ => by
    subst e
    obtain ⟨z4, S', e'⟩ := turn10 (n := m + 8) (k := k) (h := h) (c := crewD [t] h) (x4 := y4) (x6 := some (.dat (.list badHs))) (x7 := none) (x8 := none) (by omega) S ot lt (by omega) (bad_hands v hv)
    exact ⟨_, S', e', _, _, rfl⟩)
  have s11 : evE (run TT GL (m + 8)) GL _ (rR k t h (crewD [t] h) z4 z5 (some (.dat (.list badHs))) none none) S10 = .ok (.dat (.list (badCs t h))) S10 := ev_c7
  have i12 : evI (run TT GL (m + 8)) GL (.val (.var 7)) (rR k t h (crewD [t] h) z4 z5 (some (.dat (.list badHs))) (some (.dat (.list (badCs t h)))) none) S10 = .ok ((badCs t h).map .dat) S10 := val_ok (v_ok rfl) (items_l _)
  obtain ⟨_, S12, e12, x5, rfl⟩ := loop_any (i := 5) (body := evSs (run TT GL (m + 8)) GL b12) (fun ρ => ∃ y5, ρ = rR k t h (crewD [t] h) z4 y5 (some (.dat (.list badHs))) (some (.dat (.list (badCs t h)))) none) (badCs t h) (rR k t h (crewD [t] h) z4 z5 (some (.dat (.list badHs))) (some (.dat (.list (badCs t h)))) none) S10 ⟨_, rfl⟩ (fun v hv ρ S ⟨y5, e⟩ => by
    subst e
    exact ⟨_, S, turn12 (n := m + 8) (by omega) S (bad_crews ot lt hk (by omega) nt v hv), _, rfl⟩)
  have hTe : ∀ {ρ : Rho} {S : Sto}, ρ[1]? = some (some (.dat t)) → evE (run TT GL (m + 8)) GL (.var 1) ρ S = .ok (.dat (taskD (oS "cam") kl fl du bl ag)) S := fun h => by rw [hT]; exact v_ok h
  have s13 : evE (run TT GL (m + 8)) GL (.blt .tup1 [(.cp (.bin .add (.bin .add (.sl (.var 1) none (some (.con (.int 1)))) (.tup [(.var 9)])) (.sl (.var 1) (some (.con (.int 2))) none)) (.name 9) (.val (.tup [(.con (sS "a")), (.con (sS "b")), (.con (sS "c")), (.con (sS "d")), (.con (sS "e"))])) [] [9])]) (rR k t h (crewD [t] h) z4 x5 (some (.dat (.list badHs))) (some (.dat (.list (badCs t h)))) none) S12 = .ok (.dat (.tuple (fiveT kl fl du bl ag))) S12 := by
    refine blt1_ok (x := .list (fiveT kl fl du bl ag)) ?_ (bl_tupL _)
    have hm : fiveT kl fl du bl ag = (fiveN.map PyData.str).map fun s => genT s (.tuple (kl.map deK)) (.tuple (fl.map deF)) du (.tuple bl) ag := by
      rw [List.map_map]
      rfl
    rw [hm]
    refine cp_map (ds := fiveN.map PyData.str) (val_ok (v := .dat (.tuple (fiveN.map PyData.str))) (by rfl) (items_t _)) (by simp) fun s hs => ?_
    exact addT_ok (x := [sS "task", s]) (y := [.tuple (kl.map deK), .tuple (fl.map deF), du, .tuple bl, ag]) (addT_ok (x := [sS "task"]) (y := [s]) (sl_ok (hTe rfl) on_ok (oc_ok 1) (by rfl)) (tup1_ok (v_ok rfl)) (by simp)) (sl_ok (hTe rfl) (oc_ok 2) on_ok (by rfl)) (by simp)
  have o5 : ∀ x ∈ fiveT kl fl du bl ag, okB 15 x = true ∧ LenT 17 x := fun x hx => by
    obtain ⟨s, hs, rfl⟩ := List.mem_map.mp hx
    exact ⟨okB_le (tk_okB T (five_ok s hs)) (by omega), tk_lenT T⟩
  have q5 := r_iscrew S12 (m := 17) (n := m + 8) (v := crewD ((fiveT kl fl du bl ag).take 4) h) (by omega) (crew_ok (fun x hx => (o5 x (List.mem_of_mem_take hx)).1) (by simp) (okB_le hk.ok (by omega))) (fun x hx => (o5 x (List.mem_of_mem_take hx)).2) hk.lh (by omega)
  rw [four_t T hk] at q5
  have q6 := r_iscrew S12 (m := 17) (n := m + 8) (v := crewD (fiveT kl fl du bl ag) h) (by omega) (crew_ok (fun x hx => (o5 x hx).1) (by simp) (okB_le hk.ok (by omega))) (fun x hx => (o5 x hx).2) hk.lh (by omega)
  rw [five_f] at q6
  have q7 := r_ishand S12 (m := 17) (n := m + 8) (v := serve8) (by omega) (okB_le serve8_ok.ok (by omega)) serve8_ok.lh (by omega)
  rw [serve8_ok.t] at q7
  generalize h5 : fiveT kl fl du bl ag = five at s13 q5 q6
  have s14 : evE (run TT GL (m + 8)) GL (.lst [(.callK 50 [] [0] [] [(.tup [(.sl (.var 8) none (some (.con (.int 4)))), (.var 2)])] []), (.callK 50 [] [0] [] [(.tup [(.var 8), (.var 2)])] []), (.callK 53 [] [0] [] [(.bin .mul (.tup [(.tup [(.con (sS "serve")), (.con (.int 1))])]) (.con (.int 8)))] [])]) (rR k t h (crewD [t] h) z4 x5 (some (.dat (.list badHs))) (some (.dat (.list (badCs t h)))) (some (.dat (.tuple five)))) S12 = .ok (.dat (.list [.bool true, .bool false, .bool true])) S12 :=
    lst3_ok (e_call1 (tup2_ok (sl_ok (z := .tuple (five.take 4)) (v_ok rfl) on_ok (oc_ok 4) (congrArg (fun l => some (PyData.tuple l)) (cut_0i five 4))) (v_ok rfl)) q5) (e_call1 (tup2_ok (v_ok rfl) (v_ok rfl)) q6) (e_call1 ev_s8 q7)
  have s15 : evE (run TT GL (m + 8)) GL (.callK 58 [] [0, 1] [] [(.var 4), (.lst [(.con (.bool true)), (.con (.bool false)), (.con (.bool true))])] []) (rR k t h (crewD [t] h) (some (.dat (.list [.bool true, .bool false, .bool true]))) x5 (some (.dat (.list badHs))) (some (.dat (.list (badCs t h)))) (some (.dat (.tuple five)))) S12 = .ok (.dat (.bool true)) S12 :=
    e_call2c (v_ok rfl) (lst3_ok (e_con _ _ _ _ _) (e_con _ _ _ _ _) (e_con _ _ _ _ _)) (r_is (m + 7) S12 hadF_ok)
  exact ⟨S12.take S.length, run_rtT (F := F__law_right) (by rfl) (by rfl) (by decide) (by rfl) (by rfl) (by rfl)
    (s_nx s1 (s_nx (a_nx s2 (by rfl)) (s_nx (a_nx s3 (by rfl)) (s_nx (if_f s4 (s_nil _ _ _ _)) (s_nx (f_nx i5 e5) (s_nx (a_nx s6 (by rfl)) (s_nx (a_nx s7 (by rfl)) (s_nx s8 (s_nx (a_nx s9 (by rfl)) (s_nx (f_nx i10 e10) (s_nx (a_nx s11 (by rfl)) (s_nx (f_nx i12 e12) (s_nx (a_nx s13 (by rfl)) (s_nx (a_nx s14 (by rfl)) (rtx s15)))))))))))))))⟩
end
theorem loop_inv {body : Rho → Sto → SR} {S : Sto} {i : Nat} {I : Rho → Prop} : ∀ (vs : List Val) (ρ : Rho), I ρ → (∀ v ∈ vs, ∀ ρ, I ρ → ∃ ρ', body (ρ.set i (some v)) S = .nx ρ' S ∧ I ρ') → ∃ ρ', loopF (.name i) body vs ρ S = .nx ρ' S ∧ I ρ'
  | [], ρ, h, _ => ⟨ρ, rfl, h⟩
  | v :: vs, ρ, h, hb => by
    obtain ⟨ρ1, e1, h1⟩ := hb v List.mem_cons_self ρ h
    obtain ⟨ρ2, e2, h2⟩ := loop_inv vs ρ1 h1 fun w hw => hb w (List.mem_cons_of_mem _ hw)
    refine ⟨ρ2, ?_, h2⟩
    unfold loopF
    rw [setTg_name]
    simp only [e1]
    exact e2
abbrev scv (ns : List Int) : Val := .scr (ns.map .int)
abbrev wlR (ns : List Int) (lap : Nat) (x2 x3 x4 : Option Val) : Rho := [some (scv ns), some (.dat (iN lap)), x2, x3, x4]
theorem mod_int {i : Int} {m : Nat} (hm : 0 < m) : ∃ r : Nat, r < m ∧ binD .mod (.int i) (iN m) = some (iN r) := by
  have h1 := Int.emod_nonneg i (show (m : Int) ≠ 0 by omega)
  have h2 := Int.emod_lt_of_pos i (show (0 : Int) < m by omega)
  refine ⟨(i % (m : Int)).toNat, by omega, ?_⟩
  rw [b_mod _ _ (by omega)]
  congr 2
  omega
abbrev wB : List Sx := [.asg (.name 2) (.bin .mod (.blt .int1 [(.bin .add (.bin .add (.bin .mul (.var 2) (.con (.int 47521))) (.bin .mod (.blt .int1 [(.var 3)]) (.con (.int 2147483549)))) (.con (.int 41)))]) (.con (.int 2147483629)))]
theorem r_well (n : Nat) (ns : List Int) {lap : Nat} (hl : lap ≤ 10) (S : Sto) : ∃ a b : Nat, b < 2147483629 ∧ run TT GL (n + 1) 55 [scv ns, .dat (iN lap)] S = .ok (.cell S.length) (S ++ [[iN a, iN b, iN 0]]) := by
  have t1 : evE (run TT GL n) GL (.bin .add (.con (.int 4527026)) (.bin .mul (.con (.int 5231)) (.var 1))) (wlR ns lap none none none) S = .ok (.dat (iN (4527026 + 5231 * lap))) S :=
    bin_ok (e_con _ _ _ _ _) (bin_ok (e_con _ _ _ _ _) (v_ok rfl) (mul_nat' (a := 5231) (b := lap) (by omega) (by omega))) (add_nat 4527026 _)
  have hv : evI (run TT GL n) GL (.val (.sl (.var 0) none (some (.con (.int 9))))) (wlR ns lap (some (.dat (iN (4527026 + 5231 * lap)))) none none) S = .ok ((cutD (ns.map PyData.int) none (some 9)).map .dat) S := by
    rw [i_val, e_sl, v_ok rfl, bind_ok, o_none, bind_ok, o_some, e_con, bind_ok, toI_ok, bind_ok, bind_ok]
    rfl
  have cm : ∀ d ∈ cutD (ns.map PyData.int) none (some 9), ∃ i : Int, d = .int i := fun d hd => by
    unfold cutD at hd
    have := List.mem_of_mem_drop (List.mem_of_mem_take hd)
    rw [List.mem_map] at this
    obtain ⟨i, _, rfl⟩ := this
    exact ⟨i, rfl⟩
  obtain ⟨ρ', e2, ⟨s, x3, hs, rfl⟩⟩ := loop_inv (body := evSs (run TT GL n) GL wB) (S := S) (i := 3) (I := fun ρ => ∃ (s : Nat) (x3 : Option Val), s < 2147483629 ∧ ρ = wlR ns lap (some (.dat (iN s))) x3 none) ((cutD (ns.map PyData.int) none (some 9)).map .dat) (wlR ns lap (some (.dat (iN (4527026 + 5231 * lap)))) none none) ⟨_, _, by omega, rfl⟩ (fun v hv ρ hρ => by
    obtain ⟨s, x3, hs, rfl⟩ := hρ
    rw [List.mem_map] at hv
    obtain ⟨d, hd, rfl⟩ := hv
    obtain ⟨i, rfl⟩ := cm d hd
    obtain ⟨r, hr, er⟩ := mod_int (i := i) (m := 2147483549) (by omega)
    have t : evE (run TT GL n) GL (.bin .mod (.blt .int1 [(.bin .add (.bin .add (.bin .mul (.var 2) (.con (.int 47521))) (.bin .mod (.blt .int1 [(.var 3)]) (.con (.int 2147483549)))) (.con (.int 41)))]) (.con (.int 2147483629))) (wlR ns lap (some (.dat (iN s))) (some (.dat (.int i))) none) S = .ok (.dat (iN ((s * 47521 + r + 41) % 2147483629))) S :=
      bin_ok (blt1_ok (bin_ok (bin_ok (bin_ok (v_ok rfl) (e_con _ _ _ _ _) (mul_nat' (a := s) (b := 47521) (by omega) (by omega))) (bin_ok (blt1_ok (v_ok rfl) (bl_int _)) (e_con _ _ _ _ _) er) (add_nat _ _)) (e_con _ _ _ _ _) (add_nat _ 41)) (bl_int _)) (e_con _ _ _ _ _) (mod_nat (b := 2147483629) (by omega))
    exact ⟨wlR ns lap (some (.dat (iN ((s * 47521 + r + 41) % 2147483629)))) (some (.dat (.int i))) none, s_nx (a_nx t rfl) (s_nil _ _ _ _), _, _, Nat.mod_lt _ (by omega), rfl⟩)
  have ln0 : evE (run TT GL n) GL (.blt .len [(.var 0)]) (wlR ns lap (some (.dat (iN s))) x3 none) S = .ok (.dat (iN ns.length)) S := by
    rw [e_blt, l_cons, v_ok rfl, bind_ok, l_nil, bind_ok, bind_ok]
    show R.ok (Val.dat (.int ((ns.map PyData.int).length : Int))) S = _
    rw [List.length_map]
  have own : ∃ o : Int, evE (run TT GL n) GL (.ife (.cmp .lt (.var 1) (.blt .len [(.var 0)])) (.blt .int1 [(.idx (.var 0) (.var 1))]) (.con (.int 0))) (wlR ns lap (some (.dat (iN s))) x3 none) S = .ok (.dat (.int o)) S := by
    have c : evE (run TT GL n) GL (.cmp .lt (.var 1) (.blt .len [(.var 0)])) (wlR ns lap (some (.dat (iN s))) x3 none) S = .ok (.dat (.bool (decide ((lap : Int) < (ns.length : Int))))) S := cmp_ok (v_ok rfl) ln0 (c_lt _ _)
    by_cases h : lap < ns.length
    · rw [decide_eq_true (show (lap : Int) < (ns.length : Int) by omega)] at c
      have ix : evE (run TT GL n) GL (.idx (.var 0) (.var 1)) (wlR ns lap (some (.dat (iN s))) x3 none) S = .ok (.dat (.int ns[lap])) S := by
        rw [e_idx, v_ok rfl, bind_ok, v_ok rfl, bind_ok]
        have e : idxR (scv ns) (.dat (iN lap)) S = give ((idxD (.list (ns.map .int)) (iN lap)).map .dat) S := rfl
        rw [e, ix_l, nth_nat, List.getElem?_map, List.getElem?_eq_getElem h]
        rfl
      exact ⟨_, ife_t c (blt1_ok ix (bl_int _))⟩
    · rw [decide_eq_false (show ¬ (lap : Int) < (ns.length : Int) by omega)] at c
      exact ⟨0, ife_f c (e_con _ _ _ _ _)⟩
  obtain ⟨o, t4⟩ := own
  obtain ⟨r, hr, er⟩ := mod_int (i := o) (m := 2147483549) (by omega)
  have t5 : evE (run TT GL n) GL (.bin .mod (.blt .int1 [(.bin .add (.bin .add (.bin .mul (.var 2) (.con (.int 61))) (.bin .mul (.bin .mod (.blt .int1 [(.var 4)]) (.con (.int 2147483549))) (.con (.int 16007)))) (.con (.int 17)))]) (.con (.int 2147483629))) (wlR ns lap (some (.dat (iN s))) x3 (some (.dat (.int o)))) S = .ok (.dat (iN ((s * 61 + r * 16007 + 17) % 2147483629))) S :=
    bin_ok (blt1_ok (bin_ok (bin_ok (bin_ok (v_ok rfl) (e_con _ _ _ _ _) (mul_nat' (a := s) (b := 61) (by omega) (by omega))) (bin_ok (bin_ok (blt1_ok (v_ok rfl) (bl_int _)) (e_con _ _ _ _ _) er) (e_con _ _ _ _ _) (mul_nat' (a := r) (b := 16007) (by omega) (by omega))) (add_nat _ _)) (e_con _ _ _ _ _) (add_nat _ 17)) (bl_int _)) (e_con _ _ _ _ _) (mod_nat (b := 2147483629) (by omega))
  generalize hb : (s * 61 + r * 16007 + 17) % 2147483629 = b at t5
  have bb : b < 2147483629 := by rw [← hb]; exact Nat.mod_lt _ (by omega)
  have t6 : ∃ a : Nat, evE (run TT GL n) GL (.ife (.or [(.cmp .lt (.var 4) (.con (.int 0))), (.cmp .ge (.var 4) (.bin .pow (.con (.int 10)) (.con (.int 15))))]) (.blt .abs [(.var 4)]) (.con (.int 0))) (wlR ns lap (some (.dat (iN b))) x3 (some (.dat (.int o)))) S = .ok (.dat (iN a)) S := by
    have c1 : evE (run TT GL n) GL (.cmp .lt (.var 4) (.con (.int 0))) (wlR ns lap (some (.dat (iN b))) x3 (some (.dat (.int o)))) S = .ok (.dat (.bool (decide (o < 0)))) S := cmp_ok (v_ok rfl) (e_con _ _ _ _ _) (c_lt _ _)
    have pw : binD .pow (.int 10) (.int 15) = some (.int 1000000000000000) := by
      show (if (0 : Int) ≤ 15 ∧ (15 : Int) ≤ 1000 ∧ (10 : Int).natAbs < 1000 then some (PyData.int ((10 : Int) ^ (15 : Int).toNat)) else none) = _
      rw [if_pos (by decide)]
      exact congrArg (fun i => some (PyData.int i)) (by decide)
    have c2 : evE (run TT GL n) GL (.cmp .ge (.var 4) (.bin .pow (.con (.int 10)) (.con (.int 15)))) (wlR ns lap (some (.dat (iN b))) x3 (some (.dat (.int o)))) S = .ok (.dat (.bool (decide ((1000000000000000 : Int) ≤ o)))) S := cmp_ok (v_ok rfl) (bin_ok (e_con _ _ _ _ _) (e_con _ _ _ _ _) pw) (c_ge _ _)
    have ab : evE (run TT GL n) GL (.blt .abs [(.var 4)]) (wlR ns lap (some (.dat (iN b))) x3 (some (.dat (.int o)))) S = .ok (.dat (iN o.natAbs)) S := blt1_ok (v_ok rfl) (by
      rw [bl_abs]
      congr 2
      split <;> omega)
    by_cases h1 : o < 0
    · rw [decide_eq_true h1] at c1
      exact ⟨_, ife_t ((e_or _ _ _ _ _).trans (or2_t c1)) ab⟩
    · rw [decide_eq_false h1] at c1
      by_cases h2 : (1000000000000000 : Int) ≤ o
      · rw [decide_eq_true h2] at c2
        exact ⟨_, ife_t ((e_or _ _ _ _ _).trans (or2_f c1 ((e_or1 _ _ _ _ _).trans c2))) ab⟩
      · rw [decide_eq_false h2] at c2
        exact ⟨0, ife_f ((e_or _ _ _ _ _).trans (or2_f c1 ((e_or1 _ _ _ _ _).trans c2))) (e_con _ _ _ _ _)⟩
  obtain ⟨a, t6⟩ := t6
  have t7 : evE (run TT GL n) GL (.new [(.ife (.or [(.cmp .lt (.var 4) (.con (.int 0))), (.cmp .ge (.var 4) (.bin .pow (.con (.int 10)) (.con (.int 15))))]) (.blt .abs [(.var 4)]) (.con (.int 0))), (.var 2), (.con (.int 0))]) (wlR ns lap (some (.dat (iN b))) x3 (some (.dat (.int o)))) S = .ok (.cell S.length) (S ++ [[iN a, iN b, iN 0]]) := by
    rw [e_new, l_cons, t6, bind_ok, l_cons, v_ok rfl, bind_ok, l_cons, e_con, bind_ok, l_nil, bind_ok, bind_ok, bind_ok, bind_ok]
    rfl
  refine ⟨a, b, bb, ?_⟩
  have body : evSs (run TT GL n) GL F__law_well.body (wlR ns lap none none none) S = .rt (.cell S.length) (S ++ [[iN a, iN b, iN 0]]) :=
    s_nx (a_nx t1 (by rfl)) (s_nx (f_nx hv e2) (s_nx (a_nx t4 (by rfl)) (s_nx (a_nx t5 (by rfl)) (s_rt (r_rt t7)))))
  rw [run_eq (F := F__law_well) (by rfl) (by rfl) (by decide)]
  exact congrArg (handBack true S.length) body

theorem compL_all {f : Val → Sto → R (Option Val)} : ∀ (vs : List Val) (S : Sto), (∀ v ∈ vs, ∀ S, ∃ S', f v S = .ok (some (.dat (.bool true))) S') → ∃ (S' : Sto), compL f vs S = .ok ((vs.map fun _ => PyData.bool true).map .dat) S'
  | [], S, _ => ⟨S, rfl⟩
  | v :: vs, S, hf => by
    obtain ⟨S1, e1⟩ := hf v List.mem_cons_self S
    obtain ⟨S2, e2⟩ := compL_all vs S1 fun w hw S => hf w (List.mem_cons_of_mem _ hw) S
    refine ⟨S2, ?_⟩
    unfold compL
    rw [e1, bind_ok, e2, bind_ok]
    rfl
theorem law_true (ns : List Int) (h : ns.length ≤ 63) : ∃ S, run TT GL 120 70 [.scr (ns.map .int)] [] = .ok (.dat (.bool true)) S := by
  have el : evE (run TT GL 119) GL (.blt .len [(.var 0)]) [some (scv ns), none] [] = .ok (.dat (iN ns.length)) [] := by
    rw [e_blt, l_cons, v_ok rfl, bind_ok, l_nil, bind_ok, bind_ok]
    show R.ok (Val.dat (.int ((ns.map PyData.int).length : Int))) [] = _
    rw [List.length_map]
  have ep : ∃ p : Nat, p ≤ 5 ∧ evE (run TT GL 119) GL (.blt .max2 [(.con (.int 3)), (.blt .min2 [(.blt .len [(.var 0)]), (.con (.int 5))])]) [some (scv ns), none] [] = .ok (.dat (iN p)) [] := by
    have e1 : evE (run TT GL 119) GL (.blt .min2 [(.blt .len [(.var 0)]), (.con (.int 5))]) [some (scv ns), none] [] = .ok (.dat (iN (min ns.length 5))) [] := blt2_ok el (e_con _ _ _ _ _) (by
      rw [bl_min]
      congr 2
      split <;> omega)
    refine ⟨max 3 (min ns.length 5), by omega, blt2_ok (e_con _ _ _ _ _) e1 (by
      rw [bl_max]
      congr 2
      split <;> omega)⟩
  obtain ⟨p, hp, ep⟩ := ep
  have hi : evI (run TT GL 119) GL (.rng1 (.blt .max2 [(.con (.int 3)), (.blt .min2 [(.blt .len [(.var 0)]), (.con (.int 5))])])) [some (scv ns), none] [] = .ok ((List.range p).map fun k => Val.dat (iN k)) [] := rng1_nat (by omega) ep
  obtain ⟨S2, e2⟩ := compL_all (f := turnF (.name 1) [1] (evIf (run TT GL 119) GL []) (evE (run TT GL 119) GL (.callK 69 [] [0] [] [(.callK 55 [] [0, 1] [] [(.var 0), (.var 1)] [])] [])) [some (scv ns), none]) ((List.range p).map fun k => Val.dat (iN k)) [] (fun v hv S => by
    obtain ⟨k, hk, rfl⟩ := List.mem_map.mp hv
    rw [List.mem_range] at hk
    obtain ⟨a, b, hb, e0⟩ := r_well 118 ns (lap := k) (by omega) S
    obtain ⟨S', e3⟩ := r_right (n := 119) (by omega) (S := S ++ [[iN a, iN b, iN 0]]) (k := S.length) (B := 0) ⟨a, b, 0, by simp, hb, Nat.le_refl _⟩ (by omega)
    exact ⟨S', turn_some (ρ' := [some (scv ns), some (.dat (iN k))]) rfl (if_nil _ _ _ _) (e_call1 (e_call2 (v_ok rfl) (v_ok rfl) e0) e3)⟩)
  have t2 := cp_run (tg := .name 1) (ifs := []) (own := [1]) hi (by rw [List.length_map, List.length_range]; omega) e2
  have al : bltD .all1 [.list (((List.range p).map fun k => Val.dat (iN k)).map fun _ => PyData.bool true)] = some (.bool true) := by
    rw [bl_all, allTrue_map (fun _ : Val => true)]
    simp
  refine ⟨S2.take 0, ?_⟩
  exact run_rtT (F := F_law) (by rfl) (by rfl) (by decide) (by rfl) (by rfl) (by rfl) (s_rt (r_rt (blt1_ok t2 al)))
end Dw

namespace Dw
open PySem L2
def w00 : Ew := ⟨fun _ => 0, fun _ => Str.ofString "", []⟩
end Dw

set_option Elab.async false
set_option linter.all false
set_option maxRecDepth 100000
set_option maxHeartbeats 8000000
namespace Dw
open PySem PySem.Spec PyProof.Rows L2
/-- a def as it stands behind the top -/
def Here (K : PySem.W.Frag) (gx x : Str) (st : Stmt) (dvs : List V) : Prop := ∃ f fd, PySem.W.nsIn K mainGlobals gx = some (some (.ref f)) ∧ FunD K x x (defArgs st) (defBody st) (defScope st) dvs [] f fd
section
variable {K : PySem.W.Frag} {gx x : Str} {st : Stmt} {f T : Addr} {oc kV dc pm cd ct : Value} {od an : Option Addr} {sl : Array (Option Value)} {ob : Obj} {its : List Value} {dvs : List V} {n : Nat}
theorem here0 (a : PySem.W.nsIn K mainGlobals gx = some (some (.ref f))) (l : K.lookup f = some ⟨oc, od, .func (PySem.W.fnOf x x (defArgs st) (defBody st) (defScope st) .none kV dc pm an cd ct), sl⟩) (c : PySem.W.codeIn K cd x = true) (k : PySem.W.keepIn K (.ref f) = true) : Here K gx x st [] :=
  ⟨f, _, a, ⟨_, _, _, _, _, _, _, _, _, _, rfl, l, c, .inl ⟨rfl, rfl⟩, .inl rfl⟩, k⟩
theorem here1 (a : PySem.W.nsIn K mainGlobals gx = some (some (.ref f))) (l : K.lookup f = some ⟨oc, od, .func (PySem.W.fnOf x x (defArgs st) (defBody st) (defScope st) (.ref T) kV dc pm an cd ct), sl⟩) (c : PySem.W.codeIn K cd x = true) (k : PySem.W.keepIn K (.ref f) = true)
    (lT : K.lookup T = some ob) (oT : ob.data = .seq its.toArray n) (hn : dvs ≠ []) (hv : Vals dvs its) : Here K gx x st dvs :=
  ⟨f, _, a, ⟨_, _, _, _, _, _, _, _, _, _, rfl, l, c, .inr ⟨hn, _, _, _, _, rfl, lT, oT, hv⟩, .inl rfl⟩, k⟩
/-- a def whose code object is at c, its table at Pt -/
def LamAt (K : PySem.W.Frag) (gx : Str) (c Pt : Addr) : Prop := ∃ fa oc od fd sl, PySem.W.nsIn K mainGlobals gx = some (some (.ref fa)) ∧ K.lookup fa = some ⟨oc, od, .func fd, sl⟩ ∧ fd.code = .ref c
theorem lam_at {c Pt fa : Addr} {oc ty : Value} {od dd : Option Addr} {fd : FuncData} {sl sl2 : Array (Option Value)} {vs : Array Value} (a : PySem.W.nsIn K mainGlobals gx = some (some (.ref fa))) (l : K.lookup fa = some ⟨oc, od, .func fd, sl⟩) (e : fd.code = .ref c) (l2 : K.lookup c = some ⟨ty, dd, .fields vs, sl2⟩) (v : vs[11]? = some (.ref Pt)) : LamAt K gx c Pt := ⟨fa, oc, od, fd, sl, a, l, e⟩
end
section
variable {K : PySem.W.Frag} {f : Addr} {fd : FuncData}
theorem sh0 (F : FunD K (Str.ofString "is_whole") (Str.ofString "is_whole") (defArgs (topS 2)) (defBody (topS 2)) (defScope (topS 2)) [] [] f fd) : ShapeOk K fd [Str.ofString "value"] 1 [] [0] [] := by
  obtain ⟨oc, od, dV, kV, doc, pm, an, cdv, ct, osl, rfl, lk, hcd, hD, hK⟩ := F.ex
  rcases hD with ⟨_, rfl⟩ | ⟨q, _⟩
  · refine ⟨[], .nil, fun s us ws X hu hw hl => ?_⟩
    match us, ws, hu, hw with
    | [u0], [], _, _ => exact .of_eq rfl
  · exact absurd rfl q
theorem sh1 (F : FunD K (Str.ofString "is_string") (Str.ofString "is_string") (defArgs (topS 4)) (defBody (topS 4)) (defScope (topS 4)) [] [] f fd) : ShapeOk K fd [Str.ofString "value"] 1 [] [0] [] := by
  obtain ⟨oc, od, dV, kV, doc, pm, an, cdv, ct, osl, rfl, lk, hcd, hD, hK⟩ := F.ex
  rcases hD with ⟨_, rfl⟩ | ⟨q, _⟩
  · refine ⟨[], .nil, fun s us ws X hu hw hl => ?_⟩
    match us, ws, hu, hw with
    | [u0], [], _, _ => exact .of_eq rfl
  · exact absurd rfl q
theorem sh2 (F : FunD K (Str.ofString "is_of_signs") (Str.ofString "is_of_signs") (defArgs (topS 5)) (defBody (topS 5)) (defScope (topS 5)) [] [] f fd) : ShapeOk K fd [Str.ofString "value", Str.ofString "signs"] 2 [] [0, 1] [] := by
  obtain ⟨oc, od, dV, kV, doc, pm, an, cdv, ct, osl, rfl, lk, hcd, hD, hK⟩ := F.ex
  rcases hD with ⟨_, rfl⟩ | ⟨q, _⟩
  · refine ⟨[], .nil, fun s us ws X hu hw hl => ?_⟩
    match us, ws, hu, hw with
    | [u0, u1], [], _, _ => exact .of_eq rfl
  · exact absurd rfl q
theorem sh3 (F : FunD K (Str.ofString "is_tuple_of") (Str.ofString "is_tuple_of") (defArgs (topS 6)) (defBody (topS 6)) (defScope (topS 6)) [] [] f fd) : ShapeOk K fd [Str.ofString "value", Str.ofString "many"] 2 [] [0, 1] [] := by
  obtain ⟨oc, od, dV, kV, doc, pm, an, cdv, ct, osl, rfl, lk, hcd, hD, hK⟩ := F.ex
  rcases hD with ⟨_, rfl⟩ | ⟨q, _⟩
  · refine ⟨[], .nil, fun s us ws X hu hw hl => ?_⟩
    match us, ws, hu, hw with
    | [u0, u1], [], _, _ => exact .of_eq rfl
  · exact absurd rfl q
theorem sh4 (F : FunD K (Str.ofString "is_part") (Str.ofString "is_part") (defArgs (topS 25)) (defBody (topS 25)) (defScope (topS 25)) [] [] f fd) : ShapeOk K fd [Str.ofString "value"] 1 [] [0] [] := by
  obtain ⟨oc, od, dV, kV, doc, pm, an, cdv, ct, osl, rfl, lk, hcd, hD, hK⟩ := F.ex
  rcases hD with ⟨_, rfl⟩ | ⟨q, _⟩
  · refine ⟨[], .nil, fun s us ws X hu hw hl => ?_⟩
    match us, ws, hu, hw with
    | [u0], [], _, _ => exact .of_eq rfl
  · exact absurd rfl q
theorem sh5 (F : FunD K (Str.ofString "is_marked") (Str.ofString "is_marked") (defArgs (topS 23)) (defBody (topS 23)) (defScope (topS 23)) [] [] f fd) : ShapeOk K fd [Str.ofString "value", Str.ofString "mark", Str.ofString "many"] 3 [] [0, 1, 2] [] := by
  obtain ⟨oc, od, dV, kV, doc, pm, an, cdv, ct, osl, rfl, lk, hcd, hD, hK⟩ := F.ex
  rcases hD with ⟨_, rfl⟩ | ⟨q, _⟩
  · refine ⟨[], .nil, fun s us ws X hu hw hl => ?_⟩
    match us, ws, hu, hw with
    | [u0, u1, u2], [], _, _ => exact .of_eq rfl
  · exact absurd rfl q
theorem sh6 (F : FunD K (Str.ofString "is_number") (Str.ofString "is_number") (defArgs (topS 3)) (defBody (topS 3)) (defScope (topS 3)) [] [] f fd) : ShapeOk K fd [Str.ofString "value", Str.ofString "low", Str.ofString "high"] 3 [] [0, 1, 2] [] := by
  obtain ⟨oc, od, dV, kV, doc, pm, an, cdv, ct, osl, rfl, lk, hcd, hD, hK⟩ := F.ex
  rcases hD with ⟨_, rfl⟩ | ⟨q, _⟩
  · refine ⟨[], .nil, fun s us ws X hu hw hl => ?_⟩
    match us, ws, hu, hw with
    | [u0, u1, u2], [], _, _ => exact .of_eq rfl
  · exact absurd rfl q
theorem sh7 (F : FunD K (Str.ofString "is_name_form") (Str.ofString "is_name_form") (defArgs (topS 22)) (defBody (topS 22)) (defScope (topS 22)) [] [] f fd) : ShapeOk K fd [Str.ofString "value"] 1 [] [0] [] := by
  obtain ⟨oc, od, dV, kV, doc, pm, an, cdv, ct, osl, rfl, lk, hcd, hD, hK⟩ := F.ex
  rcases hD with ⟨_, rfl⟩ | ⟨q, _⟩
  · refine ⟨[], .nil, fun s us ws X hu hw hl => ?_⟩
    match us, ws, hu, hw with
    | [u0], [], _, _ => exact .of_eq rfl
  · exact absurd rfl q
theorem sh8 (F : FunD K (Str.ofString "is_any_sum") (Str.ofString "is_any_sum") (defArgs (topS 24)) (defBody (topS 24)) (defScope (topS 24)) [] [] f fd) : ShapeOk K fd [Str.ofString "value", Str.ofString "marks"] 2 [] [0, 1] [] := by
  obtain ⟨oc, od, dV, kV, doc, pm, an, cdv, ct, osl, rfl, lk, hcd, hD, hK⟩ := F.ex
  rcases hD with ⟨_, rfl⟩ | ⟨q, _⟩
  · refine ⟨[], .nil, fun s us ws X hu hw hl => ?_⟩
    match us, ws, hu, hw with
    | [u0, u1], [], _, _ => exact .of_eq rfl
  · exact absurd rfl q
theorem sh9 (F : FunD K (Str.ofString "leaves_in") (Str.ofString "leaves_in") (defArgs (topS 26)) (defBody (topS 26)) (defScope (topS 26)) [] [] f fd) : ShapeOk K fd [Str.ofString "part"] 1 [] [0] [] := by
  obtain ⟨oc, od, dV, kV, doc, pm, an, cdv, ct, osl, rfl, lk, hcd, hD, hK⟩ := F.ex
  rcases hD with ⟨_, rfl⟩ | ⟨q, _⟩
  · refine ⟨[], .nil, fun s us ws X hu hw hl => ?_⟩
    match us, ws, hu, hw with
    | [u0], [], _, _ => exact .of_eq rfl
  · exact absurd rfl q
theorem sh10 (F : FunD K (Str.ofString "names_of") (Str.ofString "names_of") (defArgs (topS 29)) (defBody (topS 29)) (defScope (topS 29)) [] [] f fd) : ShapeOk K fd [Str.ofString "part"] 1 [] [0] [] := by
  obtain ⟨oc, od, dV, kV, doc, pm, an, cdv, ct, osl, rfl, lk, hcd, hD, hK⟩ := F.ex
  rcases hD with ⟨_, rfl⟩ | ⟨q, _⟩
  · refine ⟨[], .nil, fun s us ws X hu hw hl => ?_⟩
    match us, ws, hu, hw with
    | [u0], [], _, _ => exact .of_eq rfl
  · exact absurd rfl q
theorem sh11 (F : FunD K (Str.ofString "is_statement") (Str.ofString "is_statement") (defArgs (topS 34)) (defBody (topS 34)) (defScope (topS 34)) [] [] f fd) : ShapeOk K fd [Str.ofString "value", Str.ofString "is_held"] 2 [] [0, 1] [] := by
  obtain ⟨oc, od, dV, kV, doc, pm, an, cdv, ct, osl, rfl, lk, hcd, hD, hK⟩ := F.ex
  rcases hD with ⟨_, rfl⟩ | ⟨q, _⟩
  · refine ⟨[], .nil, fun s us ws X hu hw hl => ?_⟩
    match us, ws, hu, hw with
    | [u0, u1], [], _, _ => exact .of_eq rfl
  · exact absurd rfl q
theorem sh12 (F : FunD K (Str.ofString "is_body") (Str.ofString "is_body") (defArgs (topS 31)) (defBody (topS 31)) (defScope (topS 31)) [] [] f fd) : ShapeOk K fd [Str.ofString "value", Str.ofString "is_held"] 2 [] [0, 1] [] := by
  obtain ⟨oc, od, dV, kV, doc, pm, an, cdv, ct, osl, rfl, lk, hcd, hD, hK⟩ := F.ex
  rcases hD with ⟨_, rfl⟩ | ⟨q, _⟩
  · refine ⟨[], .nil, fun s us ws X hu hw hl => ?_⟩
    match us, ws, hu, hw with
    | [u0, u1], [], _, _ => exact .of_eq rfl
  · exact absurd rfl q
theorem sh13 (F : FunD K (Str.ofString "is_test_tree") (Str.ofString "is_test_tree") (defArgs (topS 28)) (defBody (topS 28)) (defScope (topS 28)) [] [] f fd) : ShapeOk K fd [Str.ofString "value"] 1 [] [0] [] := by
  obtain ⟨oc, od, dV, kV, doc, pm, an, cdv, ct, osl, rfl, lk, hcd, hD, hK⟩ := F.ex
  rcases hD with ⟨_, rfl⟩ | ⟨q, _⟩
  · refine ⟨[], .nil, fun s us ws X hu hw hl => ?_⟩
    match us, ws, hu, hw with
    | [u0], [], _, _ => exact .of_eq rfl
  · exact absurd rfl q
theorem sh14 (F : FunD K (Str.ofString "is_full_body") (Str.ofString "is_full_body") (defArgs (topS 32)) (defBody (topS 32)) (defScope (topS 32)) [] [] f fd) : ShapeOk K fd [Str.ofString "value", Str.ofString "is_held"] 2 [] [0, 1] [] := by
  obtain ⟨oc, od, dV, kV, doc, pm, an, cdv, ct, osl, rfl, lk, hcd, hD, hK⟩ := F.ex
  rcases hD with ⟨_, rfl⟩ | ⟨q, _⟩
  · refine ⟨[], .nil, fun s us ws X hu hw hl => ?_⟩
    match us, ws, hu, hw with
    | [u0, u1], [], _, _ => exact .of_eq rfl
  · exact absurd rfl q
theorem sh15 (F : FunD K (Str.ofString "is_expression_tree") (Str.ofString "is_expression_tree") (defArgs (topS 27)) (defBody (topS 27)) (defScope (topS 27)) [] [] f fd) : ShapeOk K fd [Str.ofString "value"] 1 [] [0] [] := by
  obtain ⟨oc, od, dV, kV, doc, pm, an, cdv, ct, osl, rfl, lk, hcd, hD, hK⟩ := F.ex
  rcases hD with ⟨_, rfl⟩ | ⟨q, _⟩
  · refine ⟨[], .nil, fun s us ws X hu hw hl => ?_⟩
    match us, ws, hu, hw with
    | [u0], [], _, _ => exact .of_eq rfl
  · exact absurd rfl q
theorem sh16 (F : FunD K (Str.ofString "is_branch") (Str.ofString "is_branch") (defArgs (topS 33)) (defBody (topS 33)) (defScope (topS 33)) [] [] f fd) : ShapeOk K fd [Str.ofString "value", Str.ofString "is_held"] 2 [] [0, 1] [] := by
  obtain ⟨oc, od, dV, kV, doc, pm, an, cdv, ct, osl, rfl, lk, hcd, hD, hK⟩ := F.ex
  rcases hD with ⟨_, rfl⟩ | ⟨q, _⟩
  · refine ⟨[], .nil, fun s us ws X hu hw hl => ?_⟩
    match us, ws, hu, hw with
    | [u0, u1], [], _, _ => exact .of_eq rfl
  · exact absurd rfl q
theorem sh17 (F : FunD K (Str.ofString "is_bodied") (Str.ofString "is_bodied") (defArgs (topS 36)) (defBody (topS 36)) (defScope (topS 36)) [] [] f fd) : ShapeOk K fd [Str.ofString "word", Str.ofString "at"] 2 [] [0, 1] [] := by
  obtain ⟨oc, od, dV, kV, doc, pm, an, cdv, ct, osl, rfl, lk, hcd, hD, hK⟩ := F.ex
  rcases hD with ⟨_, rfl⟩ | ⟨q, _⟩
  · refine ⟨[], .nil, fun s us ws X hu hw hl => ?_⟩
    match us, ws, hu, hw with
    | [u0, u1], [], _, _ => exact .of_eq rfl
  · exact absurd rfl q
theorem sh18 (F : FunD K (Str.ofString "inner_bodies") (Str.ofString "inner_bodies") (defArgs (topS 35)) (defBody (topS 35)) (defScope (topS 35)) [] [] f fd) : ShapeOk K fd [Str.ofString "statement"] 1 [] [0] [] := by
  obtain ⟨oc, od, dV, kV, doc, pm, an, cdv, ct, osl, rfl, lk, hcd, hD, hK⟩ := F.ex
  rcases hD with ⟨_, rfl⟩ | ⟨q, _⟩
  · refine ⟨[], .nil, fun s us ws X hu hw hl => ?_⟩
    match us, ws, hu, hw with
    | [u0], [], _, _ => exact .of_eq rfl
  · exact absurd rfl q
theorem sh19 (F : FunD K (Str.ofString "placed_in") (Str.ofString "placed_in") (defArgs (topS 37)) (defBody (topS 37)) (defScope (topS 37)) [] [] f fd) : ShapeOk K fd [Str.ofString "body"] 1 [] [0] [] := by
  obtain ⟨oc, od, dV, kV, doc, pm, an, cdv, ct, osl, rfl, lk, hcd, hD, hK⟩ := F.ex
  rcases hD with ⟨_, rfl⟩ | ⟨q, _⟩
  · refine ⟨[], .nil, fun s us ws X hu hw hl => ?_⟩
    match us, ws, hu, hw with
    | [u0], [], _, _ => exact .of_eq rfl
  · exact absurd rfl q
theorem sh20 (F : FunD K (Str.ofString "is_ranged") (Str.ofString "is_ranged") (defArgs (topS 39)) (defBody (topS 39)) (defScope (topS 39)) [] [] f fd) : ShapeOk K fd [Str.ofString "value", Str.ofString "many"] 2 [] [0, 1] [] := by
  obtain ⟨oc, od, dV, kV, doc, pm, an, cdv, ct, osl, rfl, lk, hcd, hD, hK⟩ := F.ex
  rcases hD with ⟨_, rfl⟩ | ⟨q, _⟩
  · refine ⟨[], .nil, fun s us ws X hu hw hl => ?_⟩
    match us, ws, hu, hw with
    | [u0, u1], [], _, _ => exact .of_eq rfl
  · exact absurd rfl q
theorem sh21 (F : FunD K (Str.ofString "own_names") (Str.ofString "own_names") (defArgs (topS 41)) (defBody (topS 41)) (defScope (topS 41)) [] [] f fd) : ShapeOk K fd [Str.ofString "task"] 1 [] [0] [] := by
  obtain ⟨oc, od, dV, kV, doc, pm, an, cdv, ct, osl, rfl, lk, hcd, hD, hK⟩ := F.ex
  rcases hD with ⟨_, rfl⟩ | ⟨q, _⟩
  · refine ⟨[], .nil, fun s us ws X hu hw hl => ?_⟩
    match us, ws, hu, hw with
    | [u0], [], _, _ => exact .of_eq rfl
  · exact absurd rfl q
theorem sh22 (F : FunD K (Str.ofString "names_told") (Str.ofString "names_told") (defArgs (topS 38)) (defBody (topS 38)) (defScope (topS 38)) [] [] f fd) : ShapeOk K fd [Str.ofString "statement"] 1 [] [0] [] := by
  obtain ⟨oc, od, dV, kV, doc, pm, an, cdv, ct, osl, rfl, lk, hcd, hD, hK⟩ := F.ex
  rcases hD with ⟨_, rfl⟩ | ⟨q, _⟩
  · refine ⟨[], .nil, fun s us ws X hu hw hl => ?_⟩
    match us, ws, hu, hw with
    | [u0], [], _, _ => exact .of_eq rfl
  · exact absurd rfl q
theorem sh23 (F : FunD K (Str.ofString "are_unlike") (Str.ofString "are_unlike") (defArgs (topS 8)) (defBody (topS 8)) (defScope (topS 8)) [] [] f fd) : ShapeOk K fd [Str.ofString "row"] 1 [] [0] [] := by
  obtain ⟨oc, od, dV, kV, doc, pm, an, cdv, ct, osl, rfl, lk, hcd, hD, hK⟩ := F.ex
  rcases hD with ⟨_, rfl⟩ | ⟨q, _⟩
  · refine ⟨[], .nil, fun s us ws X hu hw hl => ?_⟩
    match us, ws, hu, hw with
    | [u0], [], _, _ => exact .of_eq rfl
  · exact absurd rfl q
theorem sh24 (F : FunD K (Str.ofString "is_tuple_up_to") (Str.ofString "is_tuple_up_to") (defArgs (topS 7)) (defBody (topS 7)) (defScope (topS 7)) [] [] f fd) : ShapeOk K fd [Str.ofString "value", Str.ofString "most"] 2 [] [0, 1] [] := by
  obtain ⟨oc, od, dV, kV, doc, pm, an, cdv, ct, osl, rfl, lk, hcd, hD, hK⟩ := F.ex
  rcases hD with ⟨_, rfl⟩ | ⟨q, _⟩
  · refine ⟨[], .nil, fun s us ws X hu hw hl => ?_⟩
    match us, ws, hu, hw with
    | [u0, u1], [], _, _ => exact .of_eq rfl
  · exact absurd rfl q
theorem sh25 (F : FunD K (Str.ofString "is_keep") (Str.ofString "is_keep") (defArgs (topS 40)) (defBody (topS 40)) (defScope (topS 40)) [] [] f fd) : ShapeOk K fd [Str.ofString "value"] 1 [] [0] [] := by
  obtain ⟨oc, od, dV, kV, doc, pm, an, cdv, ct, osl, rfl, lk, hcd, hD, hK⟩ := F.ex
  rcases hD with ⟨_, rfl⟩ | ⟨q, _⟩
  · refine ⟨[], .nil, fun s us ws X hu hw hl => ?_⟩
    match us, ws, hu, hw with
    | [u0], [], _, _ => exact .of_eq rfl
  · exact absurd rfl q
theorem sh26 (F : FunD K (Str.ofString "are_declared") (Str.ofString "are_declared") (defArgs (topS 42)) (defBody (topS 42)) (defScope (topS 42)) [] [] f fd) : ShapeOk K fd [Str.ofString "task"] 1 [] [0] [] := by
  obtain ⟨oc, od, dV, kV, doc, pm, an, cdv, ct, osl, rfl, lk, hcd, hD, hK⟩ := F.ex
  rcases hD with ⟨_, rfl⟩ | ⟨q, _⟩
  · refine ⟨[], .nil, fun s us ws X hu hw hl => ?_⟩
    match us, ws, hu, hw with
    | [u0], [], _, _ => exact .of_eq rfl
  · exact absurd rfl q
theorem sh27 (F : FunD K (Str.ofString "is_hand_statement") (Str.ofString "is_hand_statement") (defArgs (topS 45)) (defBody (topS 45)) (defScope (topS 45)) [] [] f fd) : ShapeOk K fd [Str.ofString "value"] 1 [] [0] [] := by
  obtain ⟨oc, od, dV, kV, doc, pm, an, cdv, ct, osl, rfl, lk, hcd, hD, hK⟩ := F.ex
  rcases hD with ⟨_, rfl⟩ | ⟨q, _⟩
  · refine ⟨[], .nil, fun s us ws X hu hw hl => ?_⟩
    match us, ws, hu, hw with
    | [u0], [], _, _ => exact .of_eq rfl
  · exact absurd rfl q
theorem sh28 (F : FunD K (Str.ofString "is_hand_body") (Str.ofString "is_hand_body") (defArgs (topS 44)) (defBody (topS 44)) (defScope (topS 44)) [] [] f fd) : ShapeOk K fd [Str.ofString "value"] 1 [] [0] [] := by
  obtain ⟨oc, od, dV, kV, doc, pm, an, cdv, ct, osl, rfl, lk, hcd, hD, hK⟩ := F.ex
  rcases hD with ⟨_, rfl⟩ | ⟨q, _⟩
  · refine ⟨[], .nil, fun s us ws X hu hw hl => ?_⟩
    match us, ws, hu, hw with
    | [u0], [], _, _ => exact .of_eq rfl
  · exact absurd rfl q
theorem sh29 (F : FunD K (Str.ofString "does_each_serve") (Str.ofString "does_each_serve") (defArgs (topS 47)) (defBody (topS 47)) (defScope (topS 47)) [] [] f fd) : ShapeOk K fd [Str.ofString "statement"] 1 [] [0] [] := by
  obtain ⟨oc, od, dV, kV, doc, pm, an, cdv, ct, osl, rfl, lk, hcd, hD, hK⟩ := F.ex
  rcases hD with ⟨_, rfl⟩ | ⟨q, _⟩
  · refine ⟨[], .nil, fun s us ws X hu hw hl => ?_⟩
    match us, ws, hu, hw with
    | [u0], [], _, _ => exact .of_eq rfl
  · exact absurd rfl q
theorem sh30 (F : FunD K (Str.ofString "does_serve") (Str.ofString "does_serve") (defArgs (topS 46)) (defBody (topS 46)) (defScope (topS 46)) [] [] f fd) : ShapeOk K fd [Str.ofString "body"] 1 [] [0] [] := by
  obtain ⟨oc, od, dV, kV, doc, pm, an, cdv, ct, osl, rfl, lk, hcd, hD, hK⟩ := F.ex
  rcases hD with ⟨_, rfl⟩ | ⟨q, _⟩
  · refine ⟨[], .nil, fun s us ws X hu hw hl => ?_⟩
    match us, ws, hu, hw with
    | [u0], [], _, _ => exact .of_eq rfl
  · exact absurd rfl q
theorem sh31 (F : FunD K (Str.ofString "is_task_tree") (Str.ofString "is_task_tree") (defArgs (topS 43)) (defBody (topS 43)) (defScope (topS 43)) [] [] f fd) : ShapeOk K fd [Str.ofString "value"] 1 [] [0] [] := by
  obtain ⟨oc, od, dV, kV, doc, pm, an, cdv, ct, osl, rfl, lk, hcd, hD, hK⟩ := F.ex
  rcases hD with ⟨_, rfl⟩ | ⟨q, _⟩
  · refine ⟨[], .nil, fun s us ws X hu hw hl => ?_⟩
    match us, ws, hu, hw with
    | [u0], [], _, _ => exact .of_eq rfl
  · exact absurd rfl q
theorem sh32 (F : FunD K (Str.ofString "is_hand_tree") (Str.ofString "is_hand_tree") (defArgs (topS 48)) (defBody (topS 48)) (defScope (topS 48)) [] [] f fd) : ShapeOk K fd [Str.ofString "value"] 1 [] [0] [] := by
  obtain ⟨oc, od, dV, kV, doc, pm, an, cdv, ct, osl, rfl, lk, hcd, hD, hK⟩ := F.ex
  rcases hD with ⟨_, rfl⟩ | ⟨q, _⟩
  · refine ⟨[], .nil, fun s us ws X hu hw hl => ?_⟩
    match us, ws, hu, hw with
    | [u0], [], _, _ => exact .of_eq rfl
  · exact absurd rfl q
theorem sh33 (F : FunD K (Str.ofString "is_crew_tree") (Str.ofString "is_crew_tree") (defArgs (topS 49)) (defBody (topS 49)) (defScope (topS 49)) [] [] f fd) : ShapeOk K fd [Str.ofString "value"] 1 [] [0] [] := by
  obtain ⟨oc, od, dV, kV, doc, pm, an, cdv, ct, osl, rfl, lk, hcd, hD, hK⟩ := F.ex
  rcases hD with ⟨_, rfl⟩ | ⟨q, _⟩
  · refine ⟨[], .nil, fun s us ws X hu hw hl => ?_⟩
    match us, ws, hu, hw with
    | [u0], [], _, _ => exact .of_eq rfl
  · exact absurd rfl q
theorem sh34 (F : FunD K (Str.ofString "check_task") (Str.ofString "check_task") (defArgs (topS 63)) (defBody (topS 63)) (defScope (topS 63)) [] [] f fd) : ShapeOk K fd [Str.ofString "value"] 1 [] [0] [] := by
  obtain ⟨oc, od, dV, kV, doc, pm, an, cdv, ct, osl, rfl, lk, hcd, hD, hK⟩ := F.ex
  rcases hD with ⟨_, rfl⟩ | ⟨q, _⟩
  · refine ⟨[], .nil, fun s us ws X hu hw hl => ?_⟩
    match us, ws, hu, hw with
    | [u0], [], _, _ => exact .of_eq rfl
  · exact absurd rfl q
theorem sh35 (F : FunD K (Str.ofString "text_by") (Str.ofString "text_by") (defArgs (topS 54)) (defBody (topS 54)) (defScope (topS 54)) [] [] f fd) : ShapeOk K fd [Str.ofString "rows"] 1 [] [0] [] := by
  obtain ⟨oc, od, dV, kV, doc, pm, an, cdv, ct, osl, rfl, lk, hcd, hD, hK⟩ := F.ex
  rcases hD with ⟨_, rfl⟩ | ⟨q, _⟩
  · refine ⟨[], .nil, fun s us ws X hu hw hl => ?_⟩
    match us, ws, hu, hw with
    | [u0], [], _, _ => exact .of_eq rfl
  · exact absurd rfl q
theorem sh36 (F : FunD K (Str.ofString "task_rows") (Str.ofString "task_rows") (defArgs (topS 60)) (defBody (topS 60)) (defScope (topS 60)) [] [] f fd) : ShapeOk K fd [Str.ofString "task"] 1 [] [0] [] := by
  obtain ⟨oc, od, dV, kV, doc, pm, an, cdv, ct, osl, rfl, lk, hcd, hD, hK⟩ := F.ex
  rcases hD with ⟨_, rfl⟩ | ⟨q, _⟩
  · refine ⟨[], .nil, fun s us ws X hu hw hl => ?_⟩
    match us, ws, hu, hw with
    | [u0], [], _, _ => exact .of_eq rfl
  · exact absurd rfl q
theorem sh37 (F : FunD K (Str.ofString "places_of") (Str.ofString "places_of") (defArgs (topS 67)) (defBody (topS 67)) (defScope (topS 67)) [] [] f fd) : ShapeOk K fd [Str.ofString "task"] 1 [] [0] [] := by
  obtain ⟨oc, od, dV, kV, doc, pm, an, cdv, ct, osl, rfl, lk, hcd, hD, hK⟩ := F.ex
  rcases hD with ⟨_, rfl⟩ | ⟨q, _⟩
  · refine ⟨[], .nil, fun s us ws X hu hw hl => ?_⟩
    match us, ws, hu, hw with
    | [u0], [], _, _ => exact .of_eq rfl
  · exact absurd rfl q
theorem sh38 (F : FunD K (Str.ofString "check_crew") (Str.ofString "check_crew") (defArgs (topS 65)) (defBody (topS 65)) (defScope (topS 65)) [] [] f fd) : ShapeOk K fd [Str.ofString "value"] 1 [] [0] [] := by
  obtain ⟨oc, od, dV, kV, doc, pm, an, cdv, ct, osl, rfl, lk, hcd, hD, hK⟩ := F.ex
  rcases hD with ⟨_, rfl⟩ | ⟨q, _⟩
  · refine ⟨[], .nil, fun s us ws X hu hw hl => ?_⟩
    match us, ws, hu, hw with
    | [u0], [], _, _ => exact .of_eq rfl
  · exact absurd rfl q
theorem sh39 (F : FunD K (Str.ofString "crew_rows") (Str.ofString "crew_rows") (defArgs (topS 61)) (defBody (topS 61)) (defScope (topS 61)) [] [] f fd) : ShapeOk K fd [Str.ofString "crew"] 1 [] [0] [] := by
  obtain ⟨oc, od, dV, kV, doc, pm, an, cdv, ct, osl, rfl, lk, hcd, hD, hK⟩ := F.ex
  rcases hD with ⟨_, rfl⟩ | ⟨q, _⟩
  · refine ⟨[], .nil, fun s us ws X hu hw hl => ?_⟩
    match us, ws, hu, hw with
    | [u0], [], _, _ => exact .of_eq rfl
  · exact absurd rfl q
theorem sh40 (F : FunD K (Str.ofString "names_in_crew") (Str.ofString "names_in_crew") (defArgs (topS 72)) (defBody (topS 72)) (defScope (topS 72)) [] [] f fd) : ShapeOk K fd [Str.ofString "crew"] 1 [] [0] [] := by
  obtain ⟨oc, od, dV, kV, doc, pm, an, cdv, ct, osl, rfl, lk, hcd, hD, hK⟩ := F.ex
  rcases hD with ⟨_, rfl⟩ | ⟨q, _⟩
  · refine ⟨[], .nil, fun s us ws X hu hw hl => ?_⟩
    match us, ws, hu, hw with
    | [u0], [], _, _ => exact .of_eq rfl
  · exact absurd rfl q
theorem sh41 (F : FunD K (Str.ofString "check_hand") (Str.ofString "check_hand") (defArgs (topS 64)) (defBody (topS 64)) (defScope (topS 64)) [] [] f fd) : ShapeOk K fd [Str.ofString "value"] 1 [] [0] [] := by
  obtain ⟨oc, od, dV, kV, doc, pm, an, cdv, ct, osl, rfl, lk, hcd, hD, hK⟩ := F.ex
  rcases hD with ⟨_, rfl⟩ | ⟨q, _⟩
  · refine ⟨[], .nil, fun s us ws X hu hw hl => ?_⟩
    match us, ws, hu, hw with
    | [u0], [], _, _ => exact .of_eq rfl
  · exact absurd rfl q
theorem sh42 (F : FunD K (Str.ofString "body_rows") (Str.ofString "body_rows") (defArgs (topS 58)) (defBody (topS 58)) (defScope (topS 58)) [] [] f fd) : ShapeOk K fd [Str.ofString "body"] 1 [] [0] [] := by
  obtain ⟨oc, od, dV, kV, doc, pm, an, cdv, ct, osl, rfl, lk, hcd, hD, hK⟩ := F.ex
  rcases hD with ⟨_, rfl⟩ | ⟨q, _⟩
  · refine ⟨[], .nil, fun s us ws X hu hw hl => ?_⟩
    match us, ws, hu, hw with
    | [u0], [], _, _ => exact .of_eq rfl
  · exact absurd rfl q
theorem sh43 (F : FunD K (Str.ofString "_law_draw") (Str.ofString "_law_draw") (defArgs (topS 83)) (defBody (topS 83)) (defScope (topS 83)) [] [] f fd) : ShapeOk K fd [Str.ofString "well", Str.ofString "limit"] 2 [] [0, 1] [] := by
  obtain ⟨oc, od, dV, kV, doc, pm, an, cdv, ct, osl, rfl, lk, hcd, hD, hK⟩ := F.ex
  rcases hD with ⟨_, rfl⟩ | ⟨q, _⟩
  · refine ⟨[], .nil, fun s us ws X hu hw hl => ?_⟩
    match us, ws, hu, hw with
    | [u0, u1], [], _, _ => exact .of_eq rfl
  · exact absurd rfl q
theorem sh44 (F : FunD K (Str.ofString "_law_of") (Str.ofString "_law_of") (defArgs (topS 84)) (defBody (topS 84)) (defScope (topS 84)) [] [] f fd) : ShapeOk K fd [Str.ofString "well", Str.ofString "some"] 2 [] [0, 1] [] := by
  obtain ⟨oc, od, dV, kV, doc, pm, an, cdv, ct, osl, rfl, lk, hcd, hD, hK⟩ := F.ex
  rcases hD with ⟨_, rfl⟩ | ⟨q, _⟩
  · refine ⟨[], .nil, fun s us ws X hu hw hl => ?_⟩
    match us, ws, hu, hw with
    | [u0, u1], [], _, _ => exact .of_eq rfl
  · exact absurd rfl q
theorem sh45 (F : FunD K (Str.ofString "_law_pick_names") (Str.ofString "_law_pick_names") (defArgs (topS 86)) (defBody (topS 86)) (defScope (topS 86)) [] [] f fd) : ShapeOk K fd [Str.ofString "some"] 1 [] [0] [] := by
  obtain ⟨oc, od, dV, kV, doc, pm, an, cdv, ct, osl, rfl, lk, hcd, hD, hK⟩ := F.ex
  rcases hD with ⟨_, rfl⟩ | ⟨q, _⟩
  · refine ⟨[], .nil, fun s us ws X hu hw hl => ?_⟩
    match us, ws, hu, hw with
    | [u0], [], _, _ => exact .of_eq rfl
  · exact absurd rfl q
theorem sh46 (F : FunD K (Str.ofString "_law_inside") (Str.ofString "_law_inside") (defArgs (topS 88)) (defBody (topS 88)) (defScope (topS 88)) [] [] f fd) : ShapeOk K fd [Str.ofString "well", Str.ofString "name", Str.ofString "spans"] 3 [] [0, 1, 2] [] := by
  obtain ⟨oc, od, dV, kV, doc, pm, an, cdv, ct, osl, rfl, lk, hcd, hD, hK⟩ := F.ex
  rcases hD with ⟨_, rfl⟩ | ⟨q, _⟩
  · refine ⟨[], .nil, fun s us ws X hu hw hl => ?_⟩
    match us, ws, hu, hw with
    | [u0, u1, u2], [], _, _ => exact .of_eq rfl
  · exact absurd rfl q
theorem sh47 (F : FunD K (Str.ofString "_law_body") (Str.ofString "_law_body") (defArgs (topS 89)) (defBody (topS 89)) (defScope (topS 89)) [] [] f fd) : ShapeOk K fd [Str.ofString "well", Str.ofString "keeps", Str.ofString "freshes", Str.ofString "spans", Str.ofString "deep", Str.ofString "held"] 6 [] [0, 1, 2, 3, 4, 5] [] := by
  obtain ⟨oc, od, dV, kV, doc, pm, an, cdv, ct, osl, rfl, lk, hcd, hD, hK⟩ := F.ex
  rcases hD with ⟨_, rfl⟩ | ⟨q, _⟩
  · refine ⟨[], .nil, fun s us ws X hu hw hl => ?_⟩
    match us, ws, hu, hw with
    | [u0, u1, u2, u3, u4, u5], [], _, _ => exact .of_eq rfl
  · exact absurd rfl q
theorem sh48 (F : FunD K (Str.ofString "_law_test") (Str.ofString "_law_test") (defArgs (topS 87)) (defBody (topS 87)) (defScope (topS 87)) [] [] f fd) : ShapeOk K fd [Str.ofString "well", Str.ofString "names"] 2 [] [0, 1] [] := by
  obtain ⟨oc, od, dV, kV, doc, pm, an, cdv, ct, osl, rfl, lk, hcd, hD, hK⟩ := F.ex
  rcases hD with ⟨_, rfl⟩ | ⟨q, _⟩
  · refine ⟨[], .nil, fun s us ws X hu hw hl => ?_⟩
    match us, ws, hu, hw with
    | [u0, u1], [], _, _ => exact .of_eq rfl
  · exact absurd rfl q
theorem sh49 (F : FunD K (Str.ofString "_law_many") (Str.ofString "_law_many") (defArgs (topS 90)) (defBody (topS 90)) (defScope (topS 90)) [] [] f fd) : ShapeOk K fd [Str.ofString "body"] 1 [] [0] [] := by
  obtain ⟨oc, od, dV, kV, doc, pm, an, cdv, ct, osl, rfl, lk, hcd, hD, hK⟩ := F.ex
  rcases hD with ⟨_, rfl⟩ | ⟨q, _⟩
  · refine ⟨[], .nil, fun s us ws X hu hw hl => ?_⟩
    match us, ws, hu, hw with
    | [u0], [], _, _ => exact .of_eq rfl
  · exact absurd rfl q
theorem sh50 (F : FunD K (Str.ofString "_law_rows_most") (Str.ofString "_law_rows_most") (defArgs (topS 91)) (defBody (topS 91)) (defScope (topS 91)) [] [] f fd) : ShapeOk K fd [Str.ofString "body", Str.ofString "spans"] 2 [] [0, 1] [] := by
  obtain ⟨oc, od, dV, kV, doc, pm, an, cdv, ct, osl, rfl, lk, hcd, hD, hK⟩ := F.ex
  rcases hD with ⟨_, rfl⟩ | ⟨q, _⟩
  · refine ⟨[], .nil, fun s us ws X hu hw hl => ?_⟩
    match us, ws, hu, hw with
    | [u0, u1], [], _, _ => exact .of_eq rfl
  · exact absurd rfl q
theorem sh51 (F : FunD K (Str.ofString "_law_drawn") (Str.ofString "_law_drawn") (defArgs (topS 92)) (defBody (topS 92)) (defScope (topS 92)) [] [] f fd) : ShapeOk K fd [Str.ofString "well", Str.ofString "name"] 2 [] [0, 1] [] := by
  obtain ⟨oc, od, dV, kV, doc, pm, an, cdv, ct, osl, rfl, lk, hcd, hD, hK⟩ := F.ex
  rcases hD with ⟨_, rfl⟩ | ⟨q, _⟩
  · refine ⟨[], .nil, fun s us ws X hu hw hl => ?_⟩
    match us, ws, hu, hw with
    | [u0, u1], [], _, _ => exact .of_eq rfl
  · exact absurd rfl q
theorem sh52 (F : FunD K (Str.ofString "_law_hand") (Str.ofString "_law_hand") (defArgs (topS 93)) (defBody (topS 93)) (defScope (topS 93)) [] [] f fd) : ShapeOk K fd [Str.ofString "well"] 1 [] [0] [] := by
  obtain ⟨oc, od, dV, kV, doc, pm, an, cdv, ct, osl, rfl, lk, hcd, hD, hK⟩ := F.ex
  rcases hD with ⟨_, rfl⟩ | ⟨q, _⟩
  · refine ⟨[], .nil, fun s us ws X hu hw hl => ?_⟩
    match us, ws, hu, hw with
    | [u0], [], _, _ => exact .of_eq rfl
  · exact absurd rfl q
theorem sh53 (F : FunD K (Str.ofString "is_task") (Str.ofString "is_task") (defArgs (topS 68)) (defBody (topS 68)) (defScope (topS 68)) [] [] f fd) : ShapeOk K fd [Str.ofString "value"] 1 [] [0] [] := by
  obtain ⟨oc, od, dV, kV, doc, pm, an, cdv, ct, osl, rfl, lk, hcd, hD, hK⟩ := F.ex
  rcases hD with ⟨_, rfl⟩ | ⟨q, _⟩
  · refine ⟨[], .nil, fun s us ws X hu hw hl => ?_⟩
    match us, ws, hu, hw with
    | [u0], [], _, _ => exact .of_eq rfl
  · exact absurd rfl q
theorem sh54 (F : FunD K (Str.ofString "is_task") (Str.ofString "is_task") (defArgs (topS 68)) (defBody (topS 68)) (defScope (topS 68)) [] [] f fd) : ShapeOk K fd [Str.ofString "value"] 0 [Str.ofString "value"] [0] [] := by
  obtain ⟨oc, od, dV, kV, doc, pm, an, cdv, ct, osl, rfl, lk, hcd, hD, hK⟩ := F.ex
  rcases hD with ⟨_, rfl⟩ | ⟨q, _⟩
  · refine ⟨[], .nil, fun s us ws X hu hw hl => ?_⟩
    match us, ws, hu, hw with
    | [], [w0], _, _ => exact .of_eq rfl
  · exact absurd rfl q
theorem sh55 (F : FunD K (Str.ofString "is_hand") (Str.ofString "is_hand") (defArgs (topS 79)) (defBody (topS 79)) (defScope (topS 79)) [] [] f fd) : ShapeOk K fd [Str.ofString "value"] 0 [Str.ofString "value"] [0] [] := by
  obtain ⟨oc, od, dV, kV, doc, pm, an, cdv, ct, osl, rfl, lk, hcd, hD, hK⟩ := F.ex
  rcases hD with ⟨_, rfl⟩ | ⟨q, _⟩
  · refine ⟨[], .nil, fun s us ws X hu hw hl => ?_⟩
    match us, ws, hu, hw with
    | [], [w0], _, _ => exact .of_eq rfl
  · exact absurd rfl q
theorem sh56 (F : FunD K (Str.ofString "is_crew") (Str.ofString "is_crew") (defArgs (topS 74)) (defBody (topS 74)) (defScope (topS 74)) [] [] f fd) : ShapeOk K fd [Str.ofString "value"] 1 [] [0] [] := by
  obtain ⟨oc, od, dV, kV, doc, pm, an, cdv, ct, osl, rfl, lk, hcd, hD, hK⟩ := F.ex
  rcases hD with ⟨_, rfl⟩ | ⟨q, _⟩
  · refine ⟨[], .nil, fun s us ws X hu hw hl => ?_⟩
    match us, ws, hu, hw with
    | [u0], [], _, _ => exact .of_eq rfl
  · exact absurd rfl q
theorem sh57 (F : FunD K (Str.ofString "is_crew") (Str.ofString "is_crew") (defArgs (topS 74)) (defBody (topS 74)) (defScope (topS 74)) [] [] f fd) : ShapeOk K fd [Str.ofString "value"] 0 [Str.ofString "value"] [0] [] := by
  obtain ⟨oc, od, dV, kV, doc, pm, an, cdv, ct, osl, rfl, lk, hcd, hD, hK⟩ := F.ex
  rcases hD with ⟨_, rfl⟩ | ⟨q, _⟩
  · refine ⟨[], .nil, fun s us ws X hu hw hl => ?_⟩
    match us, ws, hu, hw with
    | [], [w0], _, _ => exact .of_eq rfl
  · exact absurd rfl q
theorem sh58 (F : FunD K (Str.ofString "names_of") (Str.ofString "names_of") (defArgs (topS 76)) (defBody (topS 76)) (defScope (topS 76)) [] [] f fd) : ShapeOk K fd [Str.ofString "crew"] 1 [] [0] [] := by
  obtain ⟨oc, od, dV, kV, doc, pm, an, cdv, ct, osl, rfl, lk, hcd, hD, hK⟩ := F.ex
  rcases hD with ⟨_, rfl⟩ | ⟨q, _⟩
  · refine ⟨[], .nil, fun s us ws X hu hw hl => ?_⟩
    match us, ws, hu, hw with
    | [u0], [], _, _ => exact .of_eq rfl
  · exact absurd rfl q
theorem sh59 (F : FunD K (Str.ofString "_law_is") (Str.ofString "_law_is") (defArgs (topS 85)) (defBody (topS 85)) (defScope (topS 85)) [] [] f fd) : ShapeOk K fd [Str.ofString "told", Str.ofString "due"] 2 [] [0, 1] [] := by
  obtain ⟨oc, od, dV, kV, doc, pm, an, cdv, ct, osl, rfl, lk, hcd, hD, hK⟩ := F.ex
  rcases hD with ⟨_, rfl⟩ | ⟨q, _⟩
  · refine ⟨[], .nil, fun s us ws X hu hw hl => ?_⟩
    match us, ws, hu, hw with
    | [u0, u1], [], _, _ => exact .of_eq rfl
  · exact absurd rfl q
theorem sh60 (F : FunD K (Str.ofString "_law_wrongs") (Str.ofString "_law_wrongs") (defArgs (topS 95)) (defBody (topS 95)) (defScope (topS 95)) [] [] f fd) : ShapeOk K fd [Str.ofString "task"] 1 [] [0] [] := by
  obtain ⟨oc, od, dV, kV, doc, pm, an, cdv, ct, osl, rfl, lk, hcd, hD, hK⟩ := F.ex
  rcases hD with ⟨_, rfl⟩ | ⟨q, _⟩
  · refine ⟨[], .nil, fun s us ws X hu hw hl => ?_⟩
    match us, ws, hu, hw with
    | [u0], [], _, _ => exact .of_eq rfl
  · exact absurd rfl q
theorem sh61 (F : FunD K (Str.ofString "task_text") (Str.ofString "task_text") (defArgs (topS 69)) (defBody (topS 69)) (defScope (topS 69)) [] [] f fd) : ShapeOk K fd [Str.ofString "task"] 1 [] [0] [] := by
  obtain ⟨oc, od, dV, kV, doc, pm, an, cdv, ct, osl, rfl, lk, hcd, hD, hK⟩ := F.ex
  rcases hD with ⟨_, rfl⟩ | ⟨q, _⟩
  · refine ⟨[], .nil, fun s us ws X hu hw hl => ?_⟩
    match us, ws, hu, hw with
    | [u0], [], _, _ => exact .of_eq rfl
  · exact absurd rfl q
theorem sh62 (F : FunD K (Str.ofString "_law_refused") (Str.ofString "_law_refused") (defArgs (topS 94)) (defBody (topS 94)) (defScope (topS 94)) [] [] f fd) : ShapeOk K fd [Str.ofString "act"] 1 [] [0] [] := by
  obtain ⟨oc, od, dV, kV, doc, pm, an, cdv, ct, osl, rfl, lk, hcd, hD, hK⟩ := F.ex
  rcases hD with ⟨_, rfl⟩ | ⟨q, _⟩
  · refine ⟨[], .nil, fun s us ws X hu hw hl => ?_⟩
    match us, ws, hu, hw with
    | [u0], [], _, _ => exact .of_eq rfl
  · exact absurd rfl q
theorem sh63 (F : FunD K (Str.ofString "places") (Str.ofString "places") (defArgs (topS 70)) (defBody (topS 70)) (defScope (topS 70)) [] [] f fd) : ShapeOk K fd [Str.ofString "task"] 0 [Str.ofString "task"] [0] [] := by
  obtain ⟨oc, od, dV, kV, doc, pm, an, cdv, ct, osl, rfl, lk, hcd, hD, hK⟩ := F.ex
  rcases hD with ⟨_, rfl⟩ | ⟨q, _⟩
  · refine ⟨[], .nil, fun s us ws X hu hw hl => ?_⟩
    match us, ws, hu, hw with
    | [], [w0], _, _ => exact .of_eq rfl
  · exact absurd rfl q
theorem sh64 (F : FunD K (Str.ofString "is_hand") (Str.ofString "is_hand") (defArgs (topS 79)) (defBody (topS 79)) (defScope (topS 79)) [] [] f fd) : ShapeOk K fd [Str.ofString "value"] 1 [] [0] [] := by
  obtain ⟨oc, od, dV, kV, doc, pm, an, cdv, ct, osl, rfl, lk, hcd, hD, hK⟩ := F.ex
  rcases hD with ⟨_, rfl⟩ | ⟨q, _⟩
  · refine ⟨[], .nil, fun s us ws X hu hw hl => ?_⟩
    match us, ws, hu, hw with
    | [u0], [], _, _ => exact .of_eq rfl
  · exact absurd rfl q
theorem sh65 (F : FunD K (Str.ofString "hand_text") (Str.ofString "hand_text") (defArgs (topS 80)) (defBody (topS 80)) (defScope (topS 80)) [] [] f fd) : ShapeOk K fd [Str.ofString "hand"] 1 [] [0] [] := by
  obtain ⟨oc, od, dV, kV, doc, pm, an, cdv, ct, osl, rfl, lk, hcd, hD, hK⟩ := F.ex
  rcases hD with ⟨_, rfl⟩ | ⟨q, _⟩
  · refine ⟨[], .nil, fun s us ws X hu hw hl => ?_⟩
    match us, ws, hu, hw with
    | [u0], [], _, _ => exact .of_eq rfl
  · exact absurd rfl q
theorem sh66 (F : FunD K (Str.ofString "crew_text") (Str.ofString "crew_text") (defArgs (topS 75)) (defBody (topS 75)) (defScope (topS 75)) [] [] f fd) : ShapeOk K fd [Str.ofString "crew"] 1 [] [0] [] := by
  obtain ⟨oc, od, dV, kV, doc, pm, an, cdv, ct, osl, rfl, lk, hcd, hD, hK⟩ := F.ex
  rcases hD with ⟨_, rfl⟩ | ⟨q, _⟩
  · refine ⟨[], .nil, fun s us ws X hu hw hl => ?_⟩
    match us, ws, hu, hw with
    | [u0], [], _, _ => exact .of_eq rfl
  · exact absurd rfl q
theorem sh67 (F : FunD K (Str.ofString "_law_right") (Str.ofString "_law_right") (defArgs (topS 96)) (defBody (topS 96)) (defScope (topS 96)) [] [] f fd) : ShapeOk K fd [Str.ofString "well"] 1 [] [0] [] := by
  obtain ⟨oc, od, dV, kV, doc, pm, an, cdv, ct, osl, rfl, lk, hcd, hD, hK⟩ := F.ex
  rcases hD with ⟨_, rfl⟩ | ⟨q, _⟩
  · refine ⟨[], .nil, fun s us ws X hu hw hl => ?_⟩
    match us, ws, hu, hw with
    | [u0], [], _, _ => exact .of_eq rfl
  · exact absurd rfl q
theorem sh68 (F : FunD K (Str.ofString "_law_well") (Str.ofString "_law_well") (defArgs (topS 82)) (defBody (topS 82)) (defScope (topS 82)) [] [] f fd) : ShapeOk K fd [Str.ofString "script", Str.ofString "lap"] 2 [] [0, 1] [] := by
  obtain ⟨oc, od, dV, kV, doc, pm, an, cdv, ct, osl, rfl, lk, hcd, hD, hK⟩ := F.ex
  rcases hD with ⟨_, rfl⟩ | ⟨q, _⟩
  · refine ⟨[], .nil, fun s us ws X hu hw hl => ?_⟩
    match us, ws, hu, hw with
    | [u0, u1], [], _, _ => exact .of_eq rfl
  · exact absurd rfl q
end
/-- the ways in which a def is called -/
def shsOf (f : Nat) : List (Nat × List Str × List Nat × List Int) := P.shs.filterMap fun s => if s.1 = f then some s.2 else none
theorem mem_shs {f nu : Nat} {ks : List Str} {perm : List Nat} {dfl : List Int} (h : (f, nu, ks, perm, dfl) ∈ P.shs) : (nu, ks, perm, dfl) ∈ shsOf f := by
  unfold shsOf
  rw [List.mem_filterMap]
  exact ⟨_, h, if_pos rfl⟩
theorem shs0 {nu : Nat} {ks : List Str} {perm : List Nat} {dfl : List Int} (h : (0, nu, ks, perm, dfl) ∈ P.shs) : (nu, ks, perm, dfl) = (1, [], [0], []) := by
  have h := mem_shs h
  rw [show shsOf 0 = [(1, [], [0], [])] from rfl] at h
  simpa using h
theorem shs1 {nu : Nat} {ks : List Str} {perm : List Nat} {dfl : List Int} (h : (1, nu, ks, perm, dfl) ∈ P.shs) : (nu, ks, perm, dfl) = (3, [], [0, 1, 2], []) := by
  have h := mem_shs h
  rw [show shsOf 1 = [(3, [], [0, 1, 2], [])] from rfl] at h
  simpa using h
theorem shs2 {nu : Nat} {ks : List Str} {perm : List Nat} {dfl : List Int} (h : (2, nu, ks, perm, dfl) ∈ P.shs) : (nu, ks, perm, dfl) = (1, [], [0], []) := by
  have h := mem_shs h
  rw [show shsOf 2 = [(1, [], [0], [])] from rfl] at h
  simpa using h
theorem shs3 {nu : Nat} {ks : List Str} {perm : List Nat} {dfl : List Int} (h : (3, nu, ks, perm, dfl) ∈ P.shs) : (nu, ks, perm, dfl) = (2, [], [0, 1], []) := by
  have h := mem_shs h
  rw [show shsOf 3 = [(2, [], [0, 1], [])] from rfl] at h
  simpa using h
theorem shs4 {nu : Nat} {ks : List Str} {perm : List Nat} {dfl : List Int} (h : (4, nu, ks, perm, dfl) ∈ P.shs) : (nu, ks, perm, dfl) = (2, [], [0, 1], []) := by
  have h := mem_shs h
  rw [show shsOf 4 = [(2, [], [0, 1], [])] from rfl] at h
  simpa using h
theorem shs5 {nu : Nat} {ks : List Str} {perm : List Nat} {dfl : List Int} (h : (5, nu, ks, perm, dfl) ∈ P.shs) : (nu, ks, perm, dfl) = (2, [], [0, 1], []) := by
  have h := mem_shs h
  rw [show shsOf 5 = [(2, [], [0, 1], [])] from rfl] at h
  simpa using h
theorem shs6 {nu : Nat} {ks : List Str} {perm : List Nat} {dfl : List Int} (h : (6, nu, ks, perm, dfl) ∈ P.shs) : (nu, ks, perm, dfl) = (1, [], [0], []) := by
  have h := mem_shs h
  rw [show shsOf 6 = [(1, [], [0], [])] from rfl] at h
  simpa using h
theorem shs7 {nu : Nat} {ks : List Str} {perm : List Nat} {dfl : List Int} (h : (7, nu, ks, perm, dfl) ∈ P.shs) : (nu, ks, perm, dfl) = (1, [], [0], []) := by
  have h := mem_shs h
  rw [show shsOf 7 = [(1, [], [0], [])] from rfl] at h
  simpa using h
theorem shs8 {nu : Nat} {ks : List Str} {perm : List Nat} {dfl : List Int} (h : (8, nu, ks, perm, dfl) ∈ P.shs) : (nu, ks, perm, dfl) = (3, [], [0, 1, 2], []) := by
  have h := mem_shs h
  rw [show shsOf 8 = [(3, [], [0, 1, 2], [])] from rfl] at h
  simpa using h
theorem shs9 {nu : Nat} {ks : List Str} {perm : List Nat} {dfl : List Int} (h : (9, nu, ks, perm, dfl) ∈ P.shs) : (nu, ks, perm, dfl) = (2, [], [0, 1], []) := by
  have h := mem_shs h
  rw [show shsOf 9 = [(2, [], [0, 1], [])] from rfl] at h
  simpa using h
theorem shs10 {nu : Nat} {ks : List Str} {perm : List Nat} {dfl : List Int} (h : (10, nu, ks, perm, dfl) ∈ P.shs) : (nu, ks, perm, dfl) = (1, [], [0], []) := by
  have h := mem_shs h
  rw [show shsOf 10 = [(1, [], [0], [])] from rfl] at h
  simpa using h
theorem shs11 {nu : Nat} {ks : List Str} {perm : List Nat} {dfl : List Int} (h : (11, nu, ks, perm, dfl) ∈ P.shs) : (nu, ks, perm, dfl) = (1, [], [0], []) := by
  have h := mem_shs h
  rw [show shsOf 11 = [(1, [], [0], [])] from rfl] at h
  simpa using h
theorem shs12 {nu : Nat} {ks : List Str} {perm : List Nat} {dfl : List Int} (h : (12, nu, ks, perm, dfl) ∈ P.shs) : (nu, ks, perm, dfl) = (1, [], [0], []) := by
  have h := mem_shs h
  rw [show shsOf 12 = [(1, [], [0], [])] from rfl] at h
  simpa using h
theorem shs13 {nu : Nat} {ks : List Str} {perm : List Nat} {dfl : List Int} (h : (13, nu, ks, perm, dfl) ∈ P.shs) : (nu, ks, perm, dfl) = (1, [], [0], []) := by
  have h := mem_shs h
  rw [show shsOf 13 = [(1, [], [0], [])] from rfl] at h
  simpa using h
theorem shs14 {nu : Nat} {ks : List Str} {perm : List Nat} {dfl : List Int} (h : (14, nu, ks, perm, dfl) ∈ P.shs) : (nu, ks, perm, dfl) = (1, [], [0], []) := by
  have h := mem_shs h
  rw [show shsOf 14 = [(1, [], [0], [])] from rfl] at h
  simpa using h
theorem shs15 {nu : Nat} {ks : List Str} {perm : List Nat} {dfl : List Int} (h : (15, nu, ks, perm, dfl) ∈ P.shs) : (nu, ks, perm, dfl) = (2, [], [0, 1], []) := by
  have h := mem_shs h
  rw [show shsOf 15 = [(2, [], [0, 1], [])] from rfl] at h
  simpa using h
theorem shs16 {nu : Nat} {ks : List Str} {perm : List Nat} {dfl : List Int} (h : (16, nu, ks, perm, dfl) ∈ P.shs) : (nu, ks, perm, dfl) = (2, [], [0, 1], []) := by
  have h := mem_shs h
  rw [show shsOf 16 = [(2, [], [0, 1], [])] from rfl] at h
  simpa using h
theorem shs17 {nu : Nat} {ks : List Str} {perm : List Nat} {dfl : List Int} (h : (17, nu, ks, perm, dfl) ∈ P.shs) : (nu, ks, perm, dfl) = (2, [], [0, 1], []) := by
  have h := mem_shs h
  rw [show shsOf 17 = [(2, [], [0, 1], [])] from rfl] at h
  simpa using h
theorem shs18 {nu : Nat} {ks : List Str} {perm : List Nat} {dfl : List Int} (h : (18, nu, ks, perm, dfl) ∈ P.shs) : (nu, ks, perm, dfl) = (2, [], [0, 1], []) := by
  have h := mem_shs h
  rw [show shsOf 18 = [(2, [], [0, 1], [])] from rfl] at h
  simpa using h
theorem shs19 {nu : Nat} {ks : List Str} {perm : List Nat} {dfl : List Int} (h : (19, nu, ks, perm, dfl) ∈ P.shs) : (nu, ks, perm, dfl) = (1, [], [0], []) := by
  have h := mem_shs h
  rw [show shsOf 19 = [(1, [], [0], [])] from rfl] at h
  simpa using h
theorem shs20 {nu : Nat} {ks : List Str} {perm : List Nat} {dfl : List Int} (h : (20, nu, ks, perm, dfl) ∈ P.shs) : (nu, ks, perm, dfl) = (2, [], [0, 1], []) := by
  have h := mem_shs h
  rw [show shsOf 20 = [(2, [], [0, 1], [])] from rfl] at h
  simpa using h
theorem shs21 {nu : Nat} {ks : List Str} {perm : List Nat} {dfl : List Int} (h : (21, nu, ks, perm, dfl) ∈ P.shs) : (nu, ks, perm, dfl) = (1, [], [0], []) := by
  have h := mem_shs h
  rw [show shsOf 21 = [(1, [], [0], [])] from rfl] at h
  simpa using h
theorem shs22 {nu : Nat} {ks : List Str} {perm : List Nat} {dfl : List Int} (h : (22, nu, ks, perm, dfl) ∈ P.shs) : (nu, ks, perm, dfl) = (1, [], [0], []) := by
  have h := mem_shs h
  rw [show shsOf 22 = [(1, [], [0], [])] from rfl] at h
  simpa using h
theorem shs23 {nu : Nat} {ks : List Str} {perm : List Nat} {dfl : List Int} (h : (23, nu, ks, perm, dfl) ∈ P.shs) : (nu, ks, perm, dfl) = (2, [], [0, 1], []) := by
  have h := mem_shs h
  rw [show shsOf 23 = [(2, [], [0, 1], [])] from rfl] at h
  simpa using h
theorem shs24 {nu : Nat} {ks : List Str} {perm : List Nat} {dfl : List Int} (h : (24, nu, ks, perm, dfl) ∈ P.shs) : (nu, ks, perm, dfl) = (1, [], [0], []) := by
  have h := mem_shs h
  rw [show shsOf 24 = [(1, [], [0], [])] from rfl] at h
  simpa using h
theorem shs25 {nu : Nat} {ks : List Str} {perm : List Nat} {dfl : List Int} (h : (25, nu, ks, perm, dfl) ∈ P.shs) : (nu, ks, perm, dfl) = (1, [], [0], []) := by
  have h := mem_shs h
  rw [show shsOf 25 = [(1, [], [0], [])] from rfl] at h
  simpa using h
theorem shs26 {nu : Nat} {ks : List Str} {perm : List Nat} {dfl : List Int} (h : (26, nu, ks, perm, dfl) ∈ P.shs) : (nu, ks, perm, dfl) = (1, [], [0], []) := by
  have h := mem_shs h
  rw [show shsOf 26 = [(1, [], [0], [])] from rfl] at h
  simpa using h
theorem shs27 {nu : Nat} {ks : List Str} {perm : List Nat} {dfl : List Int} (h : (27, nu, ks, perm, dfl) ∈ P.shs) : (nu, ks, perm, dfl) = (1, [], [0], []) := by
  have h := mem_shs h
  rw [show shsOf 27 = [(1, [], [0], [])] from rfl] at h
  simpa using h
theorem shs28 {nu : Nat} {ks : List Str} {perm : List Nat} {dfl : List Int} (h : (28, nu, ks, perm, dfl) ∈ P.shs) : (nu, ks, perm, dfl) = (1, [], [0], []) := by
  have h := mem_shs h
  rw [show shsOf 28 = [(1, [], [0], [])] from rfl] at h
  simpa using h
theorem shs29 {nu : Nat} {ks : List Str} {perm : List Nat} {dfl : List Int} (h : (29, nu, ks, perm, dfl) ∈ P.shs) : (nu, ks, perm, dfl) = (1, [], [0], []) := by
  have h := mem_shs h
  rw [show shsOf 29 = [(1, [], [0], [])] from rfl] at h
  simpa using h
theorem shs30 {nu : Nat} {ks : List Str} {perm : List Nat} {dfl : List Int} (h : (30, nu, ks, perm, dfl) ∈ P.shs) : (nu, ks, perm, dfl) = (1, [], [0], []) := by
  have h := mem_shs h
  rw [show shsOf 30 = [(1, [], [0], [])] from rfl] at h
  simpa using h
theorem shs31 {nu : Nat} {ks : List Str} {perm : List Nat} {dfl : List Int} (h : (31, nu, ks, perm, dfl) ∈ P.shs) : (nu, ks, perm, dfl) = (1, [], [0], []) := by
  have h := mem_shs h
  rw [show shsOf 31 = [(1, [], [0], [])] from rfl] at h
  simpa using h
theorem shs32 {nu : Nat} {ks : List Str} {perm : List Nat} {dfl : List Int} (h : (32, nu, ks, perm, dfl) ∈ P.shs) : (nu, ks, perm, dfl) = (1, [], [0], []) := by
  have h := mem_shs h
  rw [show shsOf 32 = [(1, [], [0], [])] from rfl] at h
  simpa using h
theorem shs33 {nu : Nat} {ks : List Str} {perm : List Nat} {dfl : List Int} (h : (33, nu, ks, perm, dfl) ∈ P.shs) : (nu, ks, perm, dfl) = (1, [], [0], []) := by
  have h := mem_shs h
  rw [show shsOf 33 = [(1, [], [0], [])] from rfl] at h
  simpa using h
theorem shs34 {nu : Nat} {ks : List Str} {perm : List Nat} {dfl : List Int} (h : (34, nu, ks, perm, dfl) ∈ P.shs) : (nu, ks, perm, dfl) = (1, [], [0], []) := by
  have h := mem_shs h
  rw [show shsOf 34 = [(1, [], [0], [])] from rfl] at h
  simpa using h
theorem shs35 {nu : Nat} {ks : List Str} {perm : List Nat} {dfl : List Int} (h : (35, nu, ks, perm, dfl) ∈ P.shs) : False := by
  have h := mem_shs h
  rw [show shsOf 35 = [] from rfl] at h
  simpa using h
theorem shs36 {nu : Nat} {ks : List Str} {perm : List Nat} {dfl : List Int} (h : (36, nu, ks, perm, dfl) ∈ P.shs) : False := by
  have h := mem_shs h
  rw [show shsOf 36 = [] from rfl] at h
  simpa using h
theorem shs37 {nu : Nat} {ks : List Str} {perm : List Nat} {dfl : List Int} (h : (37, nu, ks, perm, dfl) ∈ P.shs) : False := by
  have h := mem_shs h
  rw [show shsOf 37 = [] from rfl] at h
  simpa using h
theorem shs38 {nu : Nat} {ks : List Str} {perm : List Nat} {dfl : List Int} (h : (38, nu, ks, perm, dfl) ∈ P.shs) : (nu, ks, perm, dfl) = (1, [], [0], []) := by
  have h := mem_shs h
  rw [show shsOf 38 = [(1, [], [0], [])] from rfl] at h
  simpa using h
theorem shs39 {nu : Nat} {ks : List Str} {perm : List Nat} {dfl : List Int} (h : (39, nu, ks, perm, dfl) ∈ P.shs) : False := by
  have h := mem_shs h
  rw [show shsOf 39 = [] from rfl] at h
  simpa using h
theorem shs40 {nu : Nat} {ks : List Str} {perm : List Nat} {dfl : List Int} (h : (40, nu, ks, perm, dfl) ∈ P.shs) : (nu, ks, perm, dfl) = (1, [], [0], []) := by
  have h := mem_shs h
  rw [show shsOf 40 = [(1, [], [0], [])] from rfl] at h
  simpa using h
theorem shs41 {nu : Nat} {ks : List Str} {perm : List Nat} {dfl : List Int} (h : (41, nu, ks, perm, dfl) ∈ P.shs) : (nu, ks, perm, dfl) = (1, [], [0], []) := by
  have h := mem_shs h
  rw [show shsOf 41 = [(1, [], [0], [])] from rfl] at h
  simpa using h
theorem shs42 {nu : Nat} {ks : List Str} {perm : List Nat} {dfl : List Int} (h : (42, nu, ks, perm, dfl) ∈ P.shs) : (nu, ks, perm, dfl) = (1, [], [0], []) := by
  have h := mem_shs h
  rw [show shsOf 42 = [(1, [], [0], [])] from rfl] at h
  simpa using h
theorem shs43 {nu : Nat} {ks : List Str} {perm : List Nat} {dfl : List Int} (h : (43, nu, ks, perm, dfl) ∈ P.shs) : (nu, ks, perm, dfl) = (1, [], [0], []) := by
  have h := mem_shs h
  rw [show shsOf 43 = [(1, [], [0], [])] from rfl] at h
  simpa using h
theorem shs44 {nu : Nat} {ks : List Str} {perm : List Nat} {dfl : List Int} (h : (44, nu, ks, perm, dfl) ∈ P.shs) : (nu, ks, perm, dfl) = (1, [], [0], []) := by
  have h := mem_shs h
  rw [show shsOf 44 = [(1, [], [0], [])] from rfl] at h
  simpa using h
theorem shs45 {nu : Nat} {ks : List Str} {perm : List Nat} {dfl : List Int} (h : (45, nu, ks, perm, dfl) ∈ P.shs) : (nu, ks, perm, dfl) = (1, [], [0], []) := by
  have h := mem_shs h
  rw [show shsOf 45 = [(1, [], [0], [])] from rfl] at h
  simpa using h
theorem shs46 {nu : Nat} {ks : List Str} {perm : List Nat} {dfl : List Int} (h : (46, nu, ks, perm, dfl) ∈ P.shs) : (nu, ks, perm, dfl) = (1, [], [0], []) ∨ (nu, ks, perm, dfl) = (0, [Str.ofString "value"], [0], []) := by
  have h := mem_shs h
  rw [show shsOf 46 = [(1, [], [0], []), (0, [Str.ofString "value"], [0], [])] from rfl] at h
  simpa using h
theorem shs47 {nu : Nat} {ks : List Str} {perm : List Nat} {dfl : List Int} (h : (47, nu, ks, perm, dfl) ∈ P.shs) : (nu, ks, perm, dfl) = (1, [], [0], []) := by
  have h := mem_shs h
  rw [show shsOf 47 = [(1, [], [0], [])] from rfl] at h
  simpa using h
theorem shs48 {nu : Nat} {ks : List Str} {perm : List Nat} {dfl : List Int} (h : (48, nu, ks, perm, dfl) ∈ P.shs) : (nu, ks, perm, dfl) = (0, [Str.ofString "task"], [0], []) := by
  have h := mem_shs h
  rw [show shsOf 48 = [(0, [Str.ofString "task"], [0], [])] from rfl] at h
  simpa using h
theorem shs49 {nu : Nat} {ks : List Str} {perm : List Nat} {dfl : List Int} (h : (49, nu, ks, perm, dfl) ∈ P.shs) : (nu, ks, perm, dfl) = (1, [], [0], []) := by
  have h := mem_shs h
  rw [show shsOf 49 = [(1, [], [0], [])] from rfl] at h
  simpa using h
theorem shs50 {nu : Nat} {ks : List Str} {perm : List Nat} {dfl : List Int} (h : (50, nu, ks, perm, dfl) ∈ P.shs) : (nu, ks, perm, dfl) = (1, [], [0], []) ∨ (nu, ks, perm, dfl) = (0, [Str.ofString "value"], [0], []) := by
  have h := mem_shs h
  rw [show shsOf 50 = [(1, [], [0], []), (0, [Str.ofString "value"], [0], [])] from rfl] at h
  simpa using h
theorem shs51 {nu : Nat} {ks : List Str} {perm : List Nat} {dfl : List Int} (h : (51, nu, ks, perm, dfl) ∈ P.shs) : (nu, ks, perm, dfl) = (1, [], [0], []) := by
  have h := mem_shs h
  rw [show shsOf 51 = [(1, [], [0], [])] from rfl] at h
  simpa using h
theorem shs52 {nu : Nat} {ks : List Str} {perm : List Nat} {dfl : List Int} (h : (52, nu, ks, perm, dfl) ∈ P.shs) : (nu, ks, perm, dfl) = (1, [], [0], []) := by
  have h := mem_shs h
  rw [show shsOf 52 = [(1, [], [0], [])] from rfl] at h
  simpa using h
theorem shs53 {nu : Nat} {ks : List Str} {perm : List Nat} {dfl : List Int} (h : (53, nu, ks, perm, dfl) ∈ P.shs) : (nu, ks, perm, dfl) = (0, [Str.ofString "value"], [0], []) ∨ (nu, ks, perm, dfl) = (1, [], [0], []) := by
  have h := mem_shs h
  rw [show shsOf 53 = [(0, [Str.ofString "value"], [0], []), (1, [], [0], [])] from rfl] at h
  simpa using h
theorem shs54 {nu : Nat} {ks : List Str} {perm : List Nat} {dfl : List Int} (h : (54, nu, ks, perm, dfl) ∈ P.shs) : (nu, ks, perm, dfl) = (1, [], [0], []) := by
  have h := mem_shs h
  rw [show shsOf 54 = [(1, [], [0], [])] from rfl] at h
  simpa using h
theorem shs55 {nu : Nat} {ks : List Str} {perm : List Nat} {dfl : List Int} (h : (55, nu, ks, perm, dfl) ∈ P.shs) : (nu, ks, perm, dfl) = (2, [], [0, 1], []) := by
  have h := mem_shs h
  rw [show shsOf 55 = [(2, [], [0, 1], [])] from rfl] at h
  simpa using h
theorem shs56 {nu : Nat} {ks : List Str} {perm : List Nat} {dfl : List Int} (h : (56, nu, ks, perm, dfl) ∈ P.shs) : (nu, ks, perm, dfl) = (2, [], [0, 1], []) := by
  have h := mem_shs h
  rw [show shsOf 56 = [(2, [], [0, 1], [])] from rfl] at h
  simpa using h
theorem shs57 {nu : Nat} {ks : List Str} {perm : List Nat} {dfl : List Int} (h : (57, nu, ks, perm, dfl) ∈ P.shs) : (nu, ks, perm, dfl) = (2, [], [0, 1], []) := by
  have h := mem_shs h
  rw [show shsOf 57 = [(2, [], [0, 1], [])] from rfl] at h
  simpa using h
theorem shs58 {nu : Nat} {ks : List Str} {perm : List Nat} {dfl : List Int} (h : (58, nu, ks, perm, dfl) ∈ P.shs) : (nu, ks, perm, dfl) = (2, [], [0, 1], []) := by
  have h := mem_shs h
  rw [show shsOf 58 = [(2, [], [0, 1], [])] from rfl] at h
  simpa using h
theorem shs59 {nu : Nat} {ks : List Str} {perm : List Nat} {dfl : List Int} (h : (59, nu, ks, perm, dfl) ∈ P.shs) : (nu, ks, perm, dfl) = (1, [], [0], []) := by
  have h := mem_shs h
  rw [show shsOf 59 = [(1, [], [0], [])] from rfl] at h
  simpa using h
theorem shs60 {nu : Nat} {ks : List Str} {perm : List Nat} {dfl : List Int} (h : (60, nu, ks, perm, dfl) ∈ P.shs) : (nu, ks, perm, dfl) = (2, [], [0, 1], []) := by
  have h := mem_shs h
  rw [show shsOf 60 = [(2, [], [0, 1], [])] from rfl] at h
  simpa using h
theorem shs61 {nu : Nat} {ks : List Str} {perm : List Nat} {dfl : List Int} (h : (61, nu, ks, perm, dfl) ∈ P.shs) : (nu, ks, perm, dfl) = (3, [], [0, 1, 2], []) := by
  have h := mem_shs h
  rw [show shsOf 61 = [(3, [], [0, 1, 2], [])] from rfl] at h
  simpa using h
theorem shs62 {nu : Nat} {ks : List Str} {perm : List Nat} {dfl : List Int} (h : (62, nu, ks, perm, dfl) ∈ P.shs) : (nu, ks, perm, dfl) = (6, [], [0, 1, 2, 3, 4, 5], []) := by
  have h := mem_shs h
  rw [show shsOf 62 = [(6, [], [0, 1, 2, 3, 4, 5], [])] from rfl] at h
  simpa using h
theorem shs63 {nu : Nat} {ks : List Str} {perm : List Nat} {dfl : List Int} (h : (63, nu, ks, perm, dfl) ∈ P.shs) : (nu, ks, perm, dfl) = (1, [], [0], []) := by
  have h := mem_shs h
  rw [show shsOf 63 = [(1, [], [0], [])] from rfl] at h
  simpa using h
theorem shs64 {nu : Nat} {ks : List Str} {perm : List Nat} {dfl : List Int} (h : (64, nu, ks, perm, dfl) ∈ P.shs) : (nu, ks, perm, dfl) = (2, [], [0, 1], []) := by
  have h := mem_shs h
  rw [show shsOf 64 = [(2, [], [0, 1], [])] from rfl] at h
  simpa using h
theorem shs65 {nu : Nat} {ks : List Str} {perm : List Nat} {dfl : List Int} (h : (65, nu, ks, perm, dfl) ∈ P.shs) : (nu, ks, perm, dfl) = (2, [], [0, 1], []) := by
  have h := mem_shs h
  rw [show shsOf 65 = [(2, [], [0, 1], [])] from rfl] at h
  simpa using h
theorem shs66 {nu : Nat} {ks : List Str} {perm : List Nat} {dfl : List Int} (h : (66, nu, ks, perm, dfl) ∈ P.shs) : (nu, ks, perm, dfl) = (1, [], [0], []) := by
  have h := mem_shs h
  rw [show shsOf 66 = [(1, [], [0], [])] from rfl] at h
  simpa using h
theorem shs67 {nu : Nat} {ks : List Str} {perm : List Nat} {dfl : List Int} (h : (67, nu, ks, perm, dfl) ∈ P.shs) : (nu, ks, perm, dfl) = (1, [], [0], []) := by
  have h := mem_shs h
  rw [show shsOf 67 = [(1, [], [0], [])] from rfl] at h
  simpa using h
theorem shs68 {nu : Nat} {ks : List Str} {perm : List Nat} {dfl : List Int} (h : (68, nu, ks, perm, dfl) ∈ P.shs) : (nu, ks, perm, dfl) = (1, [], [0], []) := by
  have h := mem_shs h
  rw [show shsOf 68 = [(1, [], [0], [])] from rfl] at h
  simpa using h
theorem shs69 {nu : Nat} {ks : List Str} {perm : List Nat} {dfl : List Int} (h : (69, nu, ks, perm, dfl) ∈ P.shs) : (nu, ks, perm, dfl) = (1, [], [0], []) := by
  have h := mem_shs h
  rw [show shsOf 69 = [(1, [], [0], [])] from rfl] at h
  simpa using h
theorem shs70 {nu : Nat} {ks : List Str} {perm : List Nat} {dfl : List Int} (h : (70, nu, ks, perm, dfl) ∈ P.shs) : False := by
  have h := mem_shs h
  rw [show shsOf 70 = [] from rfl] at h
  simpa using h
theorem behind {Pr : Program} {K : PySem.W.Frag} {h : Heap} {mg : Str → Option Value} (X : K.In h) (G : h.Ns mainGlobals mg)
    (h0 : Here K (Str.ofString "is_whole") (Str.ofString "is_whole") (topS 2) []) (h1 : Here K (Str.ofString "is_number") (Str.ofString "is_number") (topS 3) []) (h2 : Here K (Str.ofString "is_string") (Str.ofString "is_string") (topS 4) []) (h3 : Here K (Str.ofString "is_of_signs") (Str.ofString "is_of_signs") (topS 5) []) (h4 : Here K (Str.ofString "is_tuple_of") (Str.ofString "is_tuple_of") (topS 6) []) (h5 : Here K (Str.ofString "is_tuple_up_to") (Str.ofString "is_tuple_up_to") (topS 7) []) (h6 : Here K (Str.ofString "are_unlike") (Str.ofString "are_unlike") (topS 8) []) (h7 : Here K (Str.ofString "is_name_form") (Str.ofString "is_name_form") (topS 22) []) (h8 : Here K (Str.ofString "is_marked") (Str.ofString "is_marked") (topS 23) []) (h9 : Here K (Str.ofString "is_any_sum") (Str.ofString "is_any_sum") (topS 24) []) (h10 : Here K (Str.ofString "is_part") (Str.ofString "is_part") (topS 25) []) (h11 : Here K (Str.ofString "leaves_in") (Str.ofString "leaves_in") (topS 26) []) (h12 : Here K (Str.ofString "is_expression_tree") (Str.ofString "is_expression_tree") (topS 27) []) (h13 : Here K (Str.ofString "is_test_tree") (Str.ofString "is_test_tree") (topS 28) []) (h14 : Here K (Str.ofString "names_of_treework") (Str.ofString "names_of") (topS 29) []) (h15 : Here K (Str.ofString "is_body") (Str.ofString "is_body") (topS 31) []) (h16 : Here K (Str.ofString "is_full_body") (Str.ofString "is_full_body") (topS 32) []) (h17 : Here K (Str.ofString "is_branch") (Str.ofString "is_branch") (topS 33) []) (h18 : Here K (Str.ofString "is_statement") (Str.ofString "is_statement") (topS 34) []) (h19 : Here K (Str.ofString "inner_bodies") (Str.ofString "inner_bodies") (topS 35) []) (h20 : Here K (Str.ofString "is_bodied") (Str.ofString "is_bodied") (topS 36) []) (h21 : Here K (Str.ofString "placed_in") (Str.ofString "placed_in") (topS 37) []) (h22 : Here K (Str.ofString "names_told") (Str.ofString "names_told") (topS 38) []) (h23 : Here K (Str.ofString "is_ranged") (Str.ofString "is_ranged") (topS 39) []) (h24 : Here K (Str.ofString "is_keep") (Str.ofString "is_keep") (topS 40) []) (h25 : Here K (Str.ofString "own_names") (Str.ofString "own_names") (topS 41) []) (h26 : Here K (Str.ofString "are_declared") (Str.ofString "are_declared") (topS 42) []) (h27 : Here K (Str.ofString "is_task_tree") (Str.ofString "is_task_tree") (topS 43) []) (h28 : Here K (Str.ofString "is_hand_body") (Str.ofString "is_hand_body") (topS 44) []) (h29 : Here K (Str.ofString "is_hand_statement") (Str.ofString "is_hand_statement") (topS 45) []) (h30 : Here K (Str.ofString "does_serve") (Str.ofString "does_serve") (topS 46) []) (h31 : Here K (Str.ofString "does_each_serve") (Str.ofString "does_each_serve") (topS 47) []) (h32 : Here K (Str.ofString "is_hand_tree") (Str.ofString "is_hand_tree") (topS 48) []) (h33 : Here K (Str.ofString "is_crew_tree") (Str.ofString "is_crew_tree") (topS 49) []) (h34 : Here K (Str.ofString "text_by") (Str.ofString "text_by") (topS 54) []) (h35 : Here K (Str.ofString "part_words") (Str.ofString "part_words") (topS 55) []) (h36 : Here K (Str.ofString "closed") (Str.ofString "closed") (topS 56) []) (h37 : Here K (Str.ofString "test_words") (Str.ofString "test_words") (topS 57) []) (h38 : Here K (Str.ofString "body_rows") (Str.ofString "body_rows") (topS 58) []) (h39 : Here K (Str.ofString "statement_rows") (Str.ofString "statement_rows") (topS 59) []) (h40 : Here K (Str.ofString "task_rows") (Str.ofString "task_rows") (topS 60) []) (h41 : Here K (Str.ofString "crew_rows") (Str.ofString "crew_rows") (topS 61) []) (h42 : Here K (Str.ofString "check_task") (Str.ofString "check_task") (topS 63) []) (h43 : Here K (Str.ofString "check_hand") (Str.ofString "check_hand") (topS 64) []) (h44 : Here K (Str.ofString "check_crew") (Str.ofString "check_crew") (topS 65) []) (h45 : Here K (Str.ofString "places_of") (Str.ofString "places_of") (topS 67) []) (h46 : Here K (Str.ofString "is_task") (Str.ofString "is_task") (topS 68) []) (h47 : Here K (Str.ofString "task_text") (Str.ofString "task_text") (topS 69) []) (h48 : Here K (Str.ofString "places") (Str.ofString "places") (topS 70) []) (h49 : Here K (Str.ofString "names_in_crew") (Str.ofString "names_in_crew") (topS 72) []) (h50 : Here K (Str.ofString "is_crew") (Str.ofString "is_crew") (topS 74) []) (h51 : Here K (Str.ofString "crew_text") (Str.ofString "crew_text") (topS 75) []) (h52 : Here K (Str.ofString "names_of_crews") (Str.ofString "names_of") (topS 76) []) (h53 : Here K (Str.ofString "is_hand") (Str.ofString "is_hand") (topS 79) []) (h54 : Here K (Str.ofString "hand_text") (Str.ofString "hand_text") (topS 80) []) (h55 : Here K (Str.ofString "_law_well") (Str.ofString "_law_well") (topS 82) []) (h56 : Here K (Str.ofString "_law_draw") (Str.ofString "_law_draw") (topS 83) []) (h57 : Here K (Str.ofString "_law_of") (Str.ofString "_law_of") (topS 84) []) (h58 : Here K (Str.ofString "_law_is") (Str.ofString "_law_is") (topS 85) []) (h59 : Here K (Str.ofString "_law_pick_names") (Str.ofString "_law_pick_names") (topS 86) []) (h60 : Here K (Str.ofString "_law_test") (Str.ofString "_law_test") (topS 87) []) (h61 : Here K (Str.ofString "_law_inside") (Str.ofString "_law_inside") (topS 88) []) (h62 : Here K (Str.ofString "_law_body") (Str.ofString "_law_body") (topS 89) []) (h63 : Here K (Str.ofString "_law_many") (Str.ofString "_law_many") (topS 90) []) (h64 : Here K (Str.ofString "_law_rows_most") (Str.ofString "_law_rows_most") (topS 91) []) (h65 : Here K (Str.ofString "_law_drawn") (Str.ofString "_law_drawn") (topS 92) []) (h66 : Here K (Str.ofString "_law_hand") (Str.ofString "_law_hand") (topS 93) []) (h67 : Here K (Str.ofString "_law_refused") (Str.ofString "_law_refused") (topS 94) []) (h68 : Here K (Str.ofString "_law_wrongs") (Str.ofString "_law_wrongs") (topS 95) []) (h69 : Here K (Str.ofString "_law_right") (Str.ofString "_law_right") (topS 96) []) (h70 : Here K (Str.ofString "law") (Str.ofString "law") (topS 97) []) {c69 P69 : Addr} (t69 : LamAt K (Str.ofString "_law_right") c69 P69)
    (z_len : PySem.W.nsIn K mainGlobals (Str.ofString "len") = some none) (z_abs : PySem.W.nsIn K mainGlobals (Str.ofString "abs") = some none) (z_max : PySem.W.nsIn K mainGlobals (Str.ofString "max") = some none) (z_int : PySem.W.nsIn K mainGlobals (Str.ofString "int") = some none) (z_tuple : PySem.W.nsIn K mainGlobals (Str.ofString "tuple") = some none) (z_list : PySem.W.nsIn K mainGlobals (Str.ofString "list") = some none) (z_divmod : PySem.W.nsIn K mainGlobals (Str.ofString "divmod") = some none) (z_all : PySem.W.nsIn K mainGlobals (Str.ofString "all") = some none) (z_repr : PySem.W.nsIn K mainGlobals (Str.ofString "repr") = some none) (z_bool : PySem.W.nsIn K mainGlobals (Str.ofString "bool") = some none) (z_str : PySem.W.nsIn K mainGlobals (Str.ofString "str") = some none) (z_isinstance : PySem.W.nsIn K mainGlobals (Str.ofString "isinstance") = some none) (z_range : PySem.W.nsIn K mainGlobals (Str.ofString "range") = some none) (z_min : PySem.W.nsIn K mainGlobals (Str.ofString "min") = some none) (z_sum : PySem.W.nsIn K mainGlobals (Str.ofString "sum") = some none) (z_dict : PySem.W.nsIn K mainGlobals (Str.ofString "dict") = some none) (z_sorted : PySem.W.nsIn K mainGlobals (Str.ofString "sorted") = some none) (z_enumerate : PySem.W.nsIn K mainGlobals (Str.ofString "enumerate") = some none) (z_any : PySem.W.nsIn K mainGlobals (Str.ofString "any") = some none)
    (g0 : GlIs K (Str.ofString "MOST_LETTERS") (.int 8)) (g1 : GlIs K (Str.ofString "LETTERS") (.str (Str.ofString "abcdefghijklmnopqrstuvwxyz"))) (g2 : GlIs K (Str.ofString "KEY_WORDS") (.tuple ([Str.ofString "again", Str.ofString "due", Str.ofString "either", Str.ofString "else", Str.ofString "end", Str.ofString "free", Str.ofString "hand", Str.ofString "hold", Str.ofString "if", Str.ofString "keep", Str.ofString "or", Str.ofString "read", Str.ofString "rest", Str.ofString "serve", Str.ofString "set", Str.ofString "task", Str.ofString "var", Str.ofString "while", Str.ofString "work"].map .str))) (g3 : GlIs K (Str.ofString "MOST_NUMBER") (.int 99)) (g4 : GlIs K (Str.ofString "SUMS") (.tuple ([Str.ofString "+", Str.ofString "-"].map .str))) (g5 : GlIs K (Str.ofString "TIMES") (.str (Str.ofString "*"))) (g6 : GlIs K (Str.ofString "MOST_LEAVES") (.int 15)) (g7 : GlIs K (Str.ofString "COMPARES") (.tuple ([Str.ofString "=", Str.ofString "<"].map .str))) (g8 : GlIs K (Str.ofString "MOST_VALUE") (.int 9)) (g9 : GlIs K (Str.ofString "MOST_STATEMENTS") (.int 20)) (g10 : GlIs K (Str.ofString "MOST_NAMES") (.int 2)) (g11 : GlIs K (Str.ofString "MOST_IN_HAND") (.int 8)) (g12 : GlIs K (Str.ofString "MOST_TASKS") (.int 4))
    {C0 fI0 : Addr} (n0 : PySem.W.nsIn K mainGlobals (Str.ofString "InvalidTree") = some (some (.ref C0))) (e0 : ErrTxt K Pr (Fld.s .given) C0 fI0) (x0_0 : PySem.W.exmOne K (.ref C0) (.ref C0) = some true)  :
    Behind Pr ⟨fun c => [C0].getD c 0, fun c => [Fld.s .given].getD c (Str.ofString ""), [(P69, Str.ofString "_law_right" ++ ".<locals>." ++ "<lambda>")]⟩ D P GL K mg [(c69, P69)] := by
  obtain ⟨f0, fd0, a0, F0⟩ := h0
  obtain ⟨f1, fd1, a1, F1⟩ := h1
  obtain ⟨f2, fd2, a2, F2⟩ := h2
  obtain ⟨f3, fd3, a3, F3⟩ := h3
  obtain ⟨f4, fd4, a4, F4⟩ := h4
  obtain ⟨f5, fd5, a5, F5⟩ := h5
  obtain ⟨f6, fd6, a6, F6⟩ := h6
  obtain ⟨f7, fd7, a7, F7⟩ := h7
  obtain ⟨f8, fd8, a8, F8⟩ := h8
  obtain ⟨f9, fd9, a9, F9⟩ := h9
  obtain ⟨f10, fd10, a10, F10⟩ := h10
  obtain ⟨f11, fd11, a11, F11⟩ := h11
  obtain ⟨f12, fd12, a12, F12⟩ := h12
  obtain ⟨f13, fd13, a13, F13⟩ := h13
  obtain ⟨f14, fd14, a14, F14⟩ := h14
  obtain ⟨f15, fd15, a15, F15⟩ := h15
  obtain ⟨f16, fd16, a16, F16⟩ := h16
  obtain ⟨f17, fd17, a17, F17⟩ := h17
  obtain ⟨f18, fd18, a18, F18⟩ := h18
  obtain ⟨f19, fd19, a19, F19⟩ := h19
  obtain ⟨f20, fd20, a20, F20⟩ := h20
  obtain ⟨f21, fd21, a21, F21⟩ := h21
  obtain ⟨f22, fd22, a22, F22⟩ := h22
  obtain ⟨f23, fd23, a23, F23⟩ := h23
  obtain ⟨f24, fd24, a24, F24⟩ := h24
  obtain ⟨f25, fd25, a25, F25⟩ := h25
  obtain ⟨f26, fd26, a26, F26⟩ := h26
  obtain ⟨f27, fd27, a27, F27⟩ := h27
  obtain ⟨f28, fd28, a28, F28⟩ := h28
  obtain ⟨f29, fd29, a29, F29⟩ := h29
  obtain ⟨f30, fd30, a30, F30⟩ := h30
  obtain ⟨f31, fd31, a31, F31⟩ := h31
  obtain ⟨f32, fd32, a32, F32⟩ := h32
  obtain ⟨f33, fd33, a33, F33⟩ := h33
  obtain ⟨f34, fd34, a34, F34⟩ := h34
  obtain ⟨f35, fd35, a35, F35⟩ := h35
  obtain ⟨f36, fd36, a36, F36⟩ := h36
  obtain ⟨f37, fd37, a37, F37⟩ := h37
  obtain ⟨f38, fd38, a38, F38⟩ := h38
  obtain ⟨f39, fd39, a39, F39⟩ := h39
  obtain ⟨f40, fd40, a40, F40⟩ := h40
  obtain ⟨f41, fd41, a41, F41⟩ := h41
  obtain ⟨f42, fd42, a42, F42⟩ := h42
  obtain ⟨f43, fd43, a43, F43⟩ := h43
  obtain ⟨f44, fd44, a44, F44⟩ := h44
  obtain ⟨f45, fd45, a45, F45⟩ := h45
  obtain ⟨f46, fd46, a46, F46⟩ := h46
  obtain ⟨f47, fd47, a47, F47⟩ := h47
  obtain ⟨f48, fd48, a48, F48⟩ := h48
  obtain ⟨f49, fd49, a49, F49⟩ := h49
  obtain ⟨f50, fd50, a50, F50⟩ := h50
  obtain ⟨f51, fd51, a51, F51⟩ := h51
  obtain ⟨f52, fd52, a52, F52⟩ := h52
  obtain ⟨f53, fd53, a53, F53⟩ := h53
  obtain ⟨f54, fd54, a54, F54⟩ := h54
  obtain ⟨f55, fd55, a55, F55⟩ := h55
  obtain ⟨f56, fd56, a56, F56⟩ := h56
  obtain ⟨f57, fd57, a57, F57⟩ := h57
  obtain ⟨f58, fd58, a58, F58⟩ := h58
  obtain ⟨f59, fd59, a59, F59⟩ := h59
  obtain ⟨f60, fd60, a60, F60⟩ := h60
  obtain ⟨f61, fd61, a61, F61⟩ := h61
  obtain ⟨f62, fd62, a62, F62⟩ := h62
  obtain ⟨f63, fd63, a63, F63⟩ := h63
  obtain ⟨f64, fd64, a64, F64⟩ := h64
  obtain ⟨f65, fd65, a65, F65⟩ := h65
  obtain ⟨f66, fd66, a66, F66⟩ := h66
  obtain ⟨f67, fd67, a67, F67⟩ := h67
  obtain ⟨f68, fd68, a68, F68⟩ := h68
  obtain ⟨f69, fd69, a69, F69⟩ := h69
  obtain ⟨f70, fd70, a70, F70⟩ := h70
  refine ⟨fun f d hd => ?_, ?_, ?_, PySem.W.mg_none_of X G z_isinstance, PySem.W.mg_none_of X G z_range, ⟨PySem.W.mg_none_of X G z_dict, PySem.W.mg_none_of X G z_sorted, PySem.W.mg_none_of X G z_enumerate⟩, ?_, ?_, ?_, ?_, ?_⟩
  · match f, hd with
    | 0, hd =>
      obtain rfl := Option.some.inj hd
      refine ⟨f0, fd0, _, _, F0, PySem.W.mg_of X G a0, fun nu ks perm dfl hm => ?_⟩
      rcases shs0 hm with h
      · cases h; exact sh0 F0
    | 1, hd =>
      obtain rfl := Option.some.inj hd
      refine ⟨f1, fd1, _, _, F1, PySem.W.mg_of X G a1, fun nu ks perm dfl hm => ?_⟩
      rcases shs1 hm with h
      · cases h; exact sh6 F1
    | 2, hd =>
      obtain rfl := Option.some.inj hd
      refine ⟨f2, fd2, _, _, F2, PySem.W.mg_of X G a2, fun nu ks perm dfl hm => ?_⟩
      rcases shs2 hm with h
      · cases h; exact sh1 F2
    | 3, hd =>
      obtain rfl := Option.some.inj hd
      refine ⟨f3, fd3, _, _, F3, PySem.W.mg_of X G a3, fun nu ks perm dfl hm => ?_⟩
      rcases shs3 hm with h
      · cases h; exact sh2 F3
    | 4, hd =>
      obtain rfl := Option.some.inj hd
      refine ⟨f4, fd4, _, _, F4, PySem.W.mg_of X G a4, fun nu ks perm dfl hm => ?_⟩
      rcases shs4 hm with h
      · cases h; exact sh3 F4
    | 5, hd =>
      obtain rfl := Option.some.inj hd
      refine ⟨f5, fd5, _, _, F5, PySem.W.mg_of X G a5, fun nu ks perm dfl hm => ?_⟩
      rcases shs5 hm with h
      · cases h; exact sh24 F5
    | 6, hd =>
      obtain rfl := Option.some.inj hd
      refine ⟨f6, fd6, _, _, F6, PySem.W.mg_of X G a6, fun nu ks perm dfl hm => ?_⟩
      rcases shs6 hm with h
      · cases h; exact sh23 F6
    | 7, hd =>
      obtain rfl := Option.some.inj hd
      refine ⟨f7, fd7, _, _, F7, PySem.W.mg_of X G a7, fun nu ks perm dfl hm => ?_⟩
      rcases shs7 hm with h
      · cases h; exact sh7 F7
    | 8, hd =>
      obtain rfl := Option.some.inj hd
      refine ⟨f8, fd8, _, _, F8, PySem.W.mg_of X G a8, fun nu ks perm dfl hm => ?_⟩
      rcases shs8 hm with h
      · cases h; exact sh5 F8
    | 9, hd =>
      obtain rfl := Option.some.inj hd
      refine ⟨f9, fd9, _, _, F9, PySem.W.mg_of X G a9, fun nu ks perm dfl hm => ?_⟩
      rcases shs9 hm with h
      · cases h; exact sh8 F9
    | 10, hd =>
      obtain rfl := Option.some.inj hd
      refine ⟨f10, fd10, _, _, F10, PySem.W.mg_of X G a10, fun nu ks perm dfl hm => ?_⟩
      rcases shs10 hm with h
      · cases h; exact sh4 F10
    | 11, hd =>
      obtain rfl := Option.some.inj hd
      refine ⟨f11, fd11, _, _, F11, PySem.W.mg_of X G a11, fun nu ks perm dfl hm => ?_⟩
      rcases shs11 hm with h
      · cases h; exact sh9 F11
    | 12, hd =>
      obtain rfl := Option.some.inj hd
      refine ⟨f12, fd12, _, _, F12, PySem.W.mg_of X G a12, fun nu ks perm dfl hm => ?_⟩
      rcases shs12 hm with h
      · cases h; exact sh15 F12
    | 13, hd =>
      obtain rfl := Option.some.inj hd
      refine ⟨f13, fd13, _, _, F13, PySem.W.mg_of X G a13, fun nu ks perm dfl hm => ?_⟩
      rcases shs13 hm with h
      · cases h; exact sh13 F13
    | 14, hd =>
      obtain rfl := Option.some.inj hd
      refine ⟨f14, fd14, _, _, F14, PySem.W.mg_of X G a14, fun nu ks perm dfl hm => ?_⟩
      rcases shs14 hm with h
      · cases h; exact sh10 F14
    | 15, hd =>
      obtain rfl := Option.some.inj hd
      refine ⟨f15, fd15, _, _, F15, PySem.W.mg_of X G a15, fun nu ks perm dfl hm => ?_⟩
      rcases shs15 hm with h
      · cases h; exact sh12 F15
    | 16, hd =>
      obtain rfl := Option.some.inj hd
      refine ⟨f16, fd16, _, _, F16, PySem.W.mg_of X G a16, fun nu ks perm dfl hm => ?_⟩
      rcases shs16 hm with h
      · cases h; exact sh14 F16
    | 17, hd =>
      obtain rfl := Option.some.inj hd
      refine ⟨f17, fd17, _, _, F17, PySem.W.mg_of X G a17, fun nu ks perm dfl hm => ?_⟩
      rcases shs17 hm with h
      · cases h; exact sh16 F17
    | 18, hd =>
      obtain rfl := Option.some.inj hd
      refine ⟨f18, fd18, _, _, F18, PySem.W.mg_of X G a18, fun nu ks perm dfl hm => ?_⟩
      rcases shs18 hm with h
      · cases h; exact sh11 F18
    | 19, hd =>
      obtain rfl := Option.some.inj hd
      refine ⟨f19, fd19, _, _, F19, PySem.W.mg_of X G a19, fun nu ks perm dfl hm => ?_⟩
      rcases shs19 hm with h
      · cases h; exact sh18 F19
    | 20, hd =>
      obtain rfl := Option.some.inj hd
      refine ⟨f20, fd20, _, _, F20, PySem.W.mg_of X G a20, fun nu ks perm dfl hm => ?_⟩
      rcases shs20 hm with h
      · cases h; exact sh17 F20
    | 21, hd =>
      obtain rfl := Option.some.inj hd
      refine ⟨f21, fd21, _, _, F21, PySem.W.mg_of X G a21, fun nu ks perm dfl hm => ?_⟩
      rcases shs21 hm with h
      · cases h; exact sh19 F21
    | 22, hd =>
      obtain rfl := Option.some.inj hd
      refine ⟨f22, fd22, _, _, F22, PySem.W.mg_of X G a22, fun nu ks perm dfl hm => ?_⟩
      rcases shs22 hm with h
      · cases h; exact sh22 F22
    | 23, hd =>
      obtain rfl := Option.some.inj hd
      refine ⟨f23, fd23, _, _, F23, PySem.W.mg_of X G a23, fun nu ks perm dfl hm => ?_⟩
      rcases shs23 hm with h
      · cases h; exact sh20 F23
    | 24, hd =>
      obtain rfl := Option.some.inj hd
      refine ⟨f24, fd24, _, _, F24, PySem.W.mg_of X G a24, fun nu ks perm dfl hm => ?_⟩
      rcases shs24 hm with h
      · cases h; exact sh25 F24
    | 25, hd =>
      obtain rfl := Option.some.inj hd
      refine ⟨f25, fd25, _, _, F25, PySem.W.mg_of X G a25, fun nu ks perm dfl hm => ?_⟩
      rcases shs25 hm with h
      · cases h; exact sh21 F25
    | 26, hd =>
      obtain rfl := Option.some.inj hd
      refine ⟨f26, fd26, _, _, F26, PySem.W.mg_of X G a26, fun nu ks perm dfl hm => ?_⟩
      rcases shs26 hm with h
      · cases h; exact sh26 F26
    | 27, hd =>
      obtain rfl := Option.some.inj hd
      refine ⟨f27, fd27, _, _, F27, PySem.W.mg_of X G a27, fun nu ks perm dfl hm => ?_⟩
      rcases shs27 hm with h
      · cases h; exact sh31 F27
    | 28, hd =>
      obtain rfl := Option.some.inj hd
      refine ⟨f28, fd28, _, _, F28, PySem.W.mg_of X G a28, fun nu ks perm dfl hm => ?_⟩
      rcases shs28 hm with h
      · cases h; exact sh28 F28
    | 29, hd =>
      obtain rfl := Option.some.inj hd
      refine ⟨f29, fd29, _, _, F29, PySem.W.mg_of X G a29, fun nu ks perm dfl hm => ?_⟩
      rcases shs29 hm with h
      · cases h; exact sh27 F29
    | 30, hd =>
      obtain rfl := Option.some.inj hd
      refine ⟨f30, fd30, _, _, F30, PySem.W.mg_of X G a30, fun nu ks perm dfl hm => ?_⟩
      rcases shs30 hm with h
      · cases h; exact sh30 F30
    | 31, hd =>
      obtain rfl := Option.some.inj hd
      refine ⟨f31, fd31, _, _, F31, PySem.W.mg_of X G a31, fun nu ks perm dfl hm => ?_⟩
      rcases shs31 hm with h
      · cases h; exact sh29 F31
    | 32, hd =>
      obtain rfl := Option.some.inj hd
      refine ⟨f32, fd32, _, _, F32, PySem.W.mg_of X G a32, fun nu ks perm dfl hm => ?_⟩
      rcases shs32 hm with h
      · cases h; exact sh32 F32
    | 33, hd =>
      obtain rfl := Option.some.inj hd
      refine ⟨f33, fd33, _, _, F33, PySem.W.mg_of X G a33, fun nu ks perm dfl hm => ?_⟩
      rcases shs33 hm with h
      · cases h; exact sh33 F33
    | 34, hd =>
      obtain rfl := Option.some.inj hd
      refine ⟨f34, fd34, _, _, F34, PySem.W.mg_of X G a34, fun nu ks perm dfl hm => ?_⟩
      rcases shs34 hm with h
      · cases h; exact sh35 F34
    | 35, hd =>
      obtain rfl := Option.some.inj hd
      refine ⟨f35, fd35, _, _, F35, PySem.W.mg_of X G a35, fun nu ks perm dfl hm => ?_⟩
      rcases shs35 hm with h
      exact h.elim
    | 36, hd =>
      obtain rfl := Option.some.inj hd
      refine ⟨f36, fd36, _, _, F36, PySem.W.mg_of X G a36, fun nu ks perm dfl hm => ?_⟩
      rcases shs36 hm with h
      exact h.elim
    | 37, hd =>
      obtain rfl := Option.some.inj hd
      refine ⟨f37, fd37, _, _, F37, PySem.W.mg_of X G a37, fun nu ks perm dfl hm => ?_⟩
      rcases shs37 hm with h
      exact h.elim
    | 38, hd =>
      obtain rfl := Option.some.inj hd
      refine ⟨f38, fd38, _, _, F38, PySem.W.mg_of X G a38, fun nu ks perm dfl hm => ?_⟩
      rcases shs38 hm with h
      · cases h; exact sh42 F38
    | 39, hd =>
      obtain rfl := Option.some.inj hd
      refine ⟨f39, fd39, _, _, F39, PySem.W.mg_of X G a39, fun nu ks perm dfl hm => ?_⟩
      rcases shs39 hm with h
      exact h.elim
    | 40, hd =>
      obtain rfl := Option.some.inj hd
      refine ⟨f40, fd40, _, _, F40, PySem.W.mg_of X G a40, fun nu ks perm dfl hm => ?_⟩
      rcases shs40 hm with h
      · cases h; exact sh36 F40
    | 41, hd =>
      obtain rfl := Option.some.inj hd
      refine ⟨f41, fd41, _, _, F41, PySem.W.mg_of X G a41, fun nu ks perm dfl hm => ?_⟩
      rcases shs41 hm with h
      · cases h; exact sh39 F41
    | 42, hd =>
      obtain rfl := Option.some.inj hd
      refine ⟨f42, fd42, _, _, F42, PySem.W.mg_of X G a42, fun nu ks perm dfl hm => ?_⟩
      rcases shs42 hm with h
      · cases h; exact sh34 F42
    | 43, hd =>
      obtain rfl := Option.some.inj hd
      refine ⟨f43, fd43, _, _, F43, PySem.W.mg_of X G a43, fun nu ks perm dfl hm => ?_⟩
      rcases shs43 hm with h
      · cases h; exact sh41 F43
    | 44, hd =>
      obtain rfl := Option.some.inj hd
      refine ⟨f44, fd44, _, _, F44, PySem.W.mg_of X G a44, fun nu ks perm dfl hm => ?_⟩
      rcases shs44 hm with h
      · cases h; exact sh38 F44
    | 45, hd =>
      obtain rfl := Option.some.inj hd
      refine ⟨f45, fd45, _, _, F45, PySem.W.mg_of X G a45, fun nu ks perm dfl hm => ?_⟩
      rcases shs45 hm with h
      · cases h; exact sh37 F45
    | 46, hd =>
      obtain rfl := Option.some.inj hd
      refine ⟨f46, fd46, _, _, F46, PySem.W.mg_of X G a46, fun nu ks perm dfl hm => ?_⟩
      rcases shs46 hm with h | h
      · cases h; exact sh53 F46
      · cases h; exact sh54 F46
    | 47, hd =>
      obtain rfl := Option.some.inj hd
      refine ⟨f47, fd47, _, _, F47, PySem.W.mg_of X G a47, fun nu ks perm dfl hm => ?_⟩
      rcases shs47 hm with h
      · cases h; exact sh61 F47
    | 48, hd =>
      obtain rfl := Option.some.inj hd
      refine ⟨f48, fd48, _, _, F48, PySem.W.mg_of X G a48, fun nu ks perm dfl hm => ?_⟩
      rcases shs48 hm with h
      · cases h; exact sh63 F48
    | 49, hd =>
      obtain rfl := Option.some.inj hd
      refine ⟨f49, fd49, _, _, F49, PySem.W.mg_of X G a49, fun nu ks perm dfl hm => ?_⟩
      rcases shs49 hm with h
      · cases h; exact sh40 F49
    | 50, hd =>
      obtain rfl := Option.some.inj hd
      refine ⟨f50, fd50, _, _, F50, PySem.W.mg_of X G a50, fun nu ks perm dfl hm => ?_⟩
      rcases shs50 hm with h | h
      · cases h; exact sh56 F50
      · cases h; exact sh57 F50
    | 51, hd =>
      obtain rfl := Option.some.inj hd
      refine ⟨f51, fd51, _, _, F51, PySem.W.mg_of X G a51, fun nu ks perm dfl hm => ?_⟩
      rcases shs51 hm with h
      · cases h; exact sh66 F51
    | 52, hd =>
      obtain rfl := Option.some.inj hd
      refine ⟨f52, fd52, _, _, F52, PySem.W.mg_of X G a52, fun nu ks perm dfl hm => ?_⟩
      rcases shs52 hm with h
      · cases h; exact sh58 F52
    | 53, hd =>
      obtain rfl := Option.some.inj hd
      refine ⟨f53, fd53, _, _, F53, PySem.W.mg_of X G a53, fun nu ks perm dfl hm => ?_⟩
      rcases shs53 hm with h | h
      · cases h; exact sh55 F53
      · cases h; exact sh64 F53
    | 54, hd =>
      obtain rfl := Option.some.inj hd
      refine ⟨f54, fd54, _, _, F54, PySem.W.mg_of X G a54, fun nu ks perm dfl hm => ?_⟩
      rcases shs54 hm with h
      · cases h; exact sh65 F54
    | 55, hd =>
      obtain rfl := Option.some.inj hd
      refine ⟨f55, fd55, _, _, F55, PySem.W.mg_of X G a55, fun nu ks perm dfl hm => ?_⟩
      rcases shs55 hm with h
      · cases h; exact sh68 F55
    | 56, hd =>
      obtain rfl := Option.some.inj hd
      refine ⟨f56, fd56, _, _, F56, PySem.W.mg_of X G a56, fun nu ks perm dfl hm => ?_⟩
      rcases shs56 hm with h
      · cases h; exact sh43 F56
    | 57, hd =>
      obtain rfl := Option.some.inj hd
      refine ⟨f57, fd57, _, _, F57, PySem.W.mg_of X G a57, fun nu ks perm dfl hm => ?_⟩
      rcases shs57 hm with h
      · cases h; exact sh44 F57
    | 58, hd =>
      obtain rfl := Option.some.inj hd
      refine ⟨f58, fd58, _, _, F58, PySem.W.mg_of X G a58, fun nu ks perm dfl hm => ?_⟩
      rcases shs58 hm with h
      · cases h; exact sh59 F58
    | 59, hd =>
      obtain rfl := Option.some.inj hd
      refine ⟨f59, fd59, _, _, F59, PySem.W.mg_of X G a59, fun nu ks perm dfl hm => ?_⟩
      rcases shs59 hm with h
      · cases h; exact sh45 F59
    | 60, hd =>
      obtain rfl := Option.some.inj hd
      refine ⟨f60, fd60, _, _, F60, PySem.W.mg_of X G a60, fun nu ks perm dfl hm => ?_⟩
      rcases shs60 hm with h
      · cases h; exact sh48 F60
    | 61, hd =>
      obtain rfl := Option.some.inj hd
      refine ⟨f61, fd61, _, _, F61, PySem.W.mg_of X G a61, fun nu ks perm dfl hm => ?_⟩
      rcases shs61 hm with h
      · cases h; exact sh46 F61
    | 62, hd =>
      obtain rfl := Option.some.inj hd
      refine ⟨f62, fd62, _, _, F62, PySem.W.mg_of X G a62, fun nu ks perm dfl hm => ?_⟩
      rcases shs62 hm with h
      · cases h; exact sh47 F62
    | 63, hd =>
      obtain rfl := Option.some.inj hd
      refine ⟨f63, fd63, _, _, F63, PySem.W.mg_of X G a63, fun nu ks perm dfl hm => ?_⟩
      rcases shs63 hm with h
      · cases h; exact sh49 F63
    | 64, hd =>
      obtain rfl := Option.some.inj hd
      refine ⟨f64, fd64, _, _, F64, PySem.W.mg_of X G a64, fun nu ks perm dfl hm => ?_⟩
      rcases shs64 hm with h
      · cases h; exact sh50 F64
    | 65, hd =>
      obtain rfl := Option.some.inj hd
      refine ⟨f65, fd65, _, _, F65, PySem.W.mg_of X G a65, fun nu ks perm dfl hm => ?_⟩
      rcases shs65 hm with h
      · cases h; exact sh51 F65
    | 66, hd =>
      obtain rfl := Option.some.inj hd
      refine ⟨f66, fd66, _, _, F66, PySem.W.mg_of X G a66, fun nu ks perm dfl hm => ?_⟩
      rcases shs66 hm with h
      · cases h; exact sh52 F66
    | 67, hd =>
      obtain rfl := Option.some.inj hd
      refine ⟨f67, fd67, _, _, F67, PySem.W.mg_of X G a67, fun nu ks perm dfl hm => ?_⟩
      rcases shs67 hm with h
      · cases h; exact sh62 F67
    | 68, hd =>
      obtain rfl := Option.some.inj hd
      refine ⟨f68, fd68, _, _, F68, PySem.W.mg_of X G a68, fun nu ks perm dfl hm => ?_⟩
      rcases shs68 hm with h
      · cases h; exact sh60 F68
    | 69, hd =>
      obtain rfl := Option.some.inj hd
      refine ⟨f69, fd69, _, _, F69, PySem.W.mg_of X G a69, fun nu ks perm dfl hm => ?_⟩
      rcases shs69 hm with h
      · cases h; exact sh67 F69
    | 70, hd =>
      obtain rfl := Option.some.inj hd
      refine ⟨f70, fd70, _, _, F70, PySem.W.mg_of X G a70, fun nu ks perm dfl hm => ?_⟩
      rcases shs70 hm with h
      exact h.elim
    | n + 71, hd => cases hd
  · intro b; cases b
    · exact PySem.W.mg_none_of X G z_len
    · exact PySem.W.mg_none_of X G z_abs
    · exact PySem.W.mg_none_of X G z_max
    · exact PySem.W.mg_none_of X G z_int
    · exact PySem.W.mg_none_of X G z_tuple
    · exact PySem.W.mg_none_of X G z_list
    · exact PySem.W.mg_none_of X G z_divmod
    · exact PySem.W.mg_none_of X G z_all
    · exact PySem.W.mg_none_of X G z_repr
    · exact PySem.W.mg_none_of X G z_min
    · exact PySem.W.mg_none_of X G z_str
    · exact PySem.W.mg_none_of X G z_sum
    · exact PySem.W.mg_none_of X G z_any
  · intro b; cases b
    · exact PySem.W.mg_none_of X G z_int
    · exact PySem.W.mg_none_of X G z_bool
    · exact PySem.W.mg_none_of X G z_str
    · exact PySem.W.mg_none_of X G z_tuple
    · exact PySem.W.mg_none_of X G z_list
  · intro c x hx
    match c, hx with
    | 0, hx =>
      obtain rfl := Option.some.inj hx
      exact ⟨.given, fI0, rfl, e0, rfl, PySem.W.mg_of X G n0⟩
    | n + 1, hx => cases hx
  · intro c c1 hc hc1
    match c, hc with
    | 0, _ =>
      match c1, hc1 with
      | 0, _ => exact x0_0
      | n + 1, h => exact absurd h (by show ¬ n + 1 < 1; omega)
    | n + 1, h => exact absurd h (by show ¬ n + 1 < 1; omega)
  · intro g x hx
    match g, hx with
    | 0, hx =>
      obtain rfl := Option.some.inj hx
      obtain ⟨y, v, e1, e2, e3⟩ := g0
      exact ⟨_, v, y, rfl, PySem.W.mg_of X G e1, e2, e3⟩
    | 1, hx =>
      obtain rfl := Option.some.inj hx
      obtain ⟨y, v, e1, e2, e3⟩ := g1
      exact ⟨_, v, y, rfl, PySem.W.mg_of X G e1, e2, e3⟩
    | 2, hx =>
      obtain rfl := Option.some.inj hx
      obtain ⟨y, v, e1, e2, e3⟩ := g2
      exact ⟨_, v, y, rfl, PySem.W.mg_of X G e1, e2, e3⟩
    | 3, hx =>
      obtain rfl := Option.some.inj hx
      obtain ⟨y, v, e1, e2, e3⟩ := g3
      exact ⟨_, v, y, rfl, PySem.W.mg_of X G e1, e2, e3⟩
    | 4, hx =>
      obtain rfl := Option.some.inj hx
      obtain ⟨y, v, e1, e2, e3⟩ := g4
      exact ⟨_, v, y, rfl, PySem.W.mg_of X G e1, e2, e3⟩
    | 5, hx =>
      obtain rfl := Option.some.inj hx
      obtain ⟨y, v, e1, e2, e3⟩ := g5
      exact ⟨_, v, y, rfl, PySem.W.mg_of X G e1, e2, e3⟩
    | 6, hx =>
      obtain rfl := Option.some.inj hx
      obtain ⟨y, v, e1, e2, e3⟩ := g6
      exact ⟨_, v, y, rfl, PySem.W.mg_of X G e1, e2, e3⟩
    | 7, hx =>
      obtain rfl := Option.some.inj hx
      obtain ⟨y, v, e1, e2, e3⟩ := g7
      exact ⟨_, v, y, rfl, PySem.W.mg_of X G e1, e2, e3⟩
    | 8, hx =>
      obtain rfl := Option.some.inj hx
      obtain ⟨y, v, e1, e2, e3⟩ := g8
      exact ⟨_, v, y, rfl, PySem.W.mg_of X G e1, e2, e3⟩
    | 9, hx =>
      obtain rfl := Option.some.inj hx
      obtain ⟨y, v, e1, e2, e3⟩ := g9
      exact ⟨_, v, y, rfl, PySem.W.mg_of X G e1, e2, e3⟩
    | 10, hx =>
      obtain rfl := Option.some.inj hx
      obtain ⟨y, v, e1, e2, e3⟩ := g10
      exact ⟨_, v, y, rfl, PySem.W.mg_of X G e1, e2, e3⟩
    | 11, hx =>
      obtain rfl := Option.some.inj hx
      obtain ⟨y, v, e1, e2, e3⟩ := g11
      exact ⟨_, v, y, rfl, PySem.W.mg_of X G e1, e2, e3⟩
    | 12, hx =>
      obtain rfl := Option.some.inj hx
      obtain ⟨y, v, e1, e2, e3⟩ := g12
      exact ⟨_, v, y, rfl, PySem.W.mg_of X G e1, e2, e3⟩
    | n + 13, hx => cases hx
  · intro f d fad fd hd hlm hmg hfd
    obtain ⟨_, _, _, lk⟩ := hfd
    match f, hd with
    | 0, hd =>
      obtain rfl := Option.some.inj hd
      cases hlm
    | 1, hd =>
      obtain rfl := Option.some.inj hd
      cases hlm
    | 2, hd =>
      obtain rfl := Option.some.inj hd
      cases hlm
    | 3, hd =>
      obtain rfl := Option.some.inj hd
      cases hlm
    | 4, hd =>
      obtain rfl := Option.some.inj hd
      cases hlm
    | 5, hd =>
      obtain rfl := Option.some.inj hd
      cases hlm
    | 6, hd =>
      obtain rfl := Option.some.inj hd
      cases hlm
    | 7, hd =>
      obtain rfl := Option.some.inj hd
      cases hlm
    | 8, hd =>
      obtain rfl := Option.some.inj hd
      cases hlm
    | 9, hd =>
      obtain rfl := Option.some.inj hd
      cases hlm
    | 10, hd =>
      obtain rfl := Option.some.inj hd
      cases hlm
    | 11, hd =>
      obtain rfl := Option.some.inj hd
      cases hlm
    | 12, hd =>
      obtain rfl := Option.some.inj hd
      cases hlm
    | 13, hd =>
      obtain rfl := Option.some.inj hd
      cases hlm
    | 14, hd =>
      obtain rfl := Option.some.inj hd
      cases hlm
    | 15, hd =>
      obtain rfl := Option.some.inj hd
      cases hlm
    | 16, hd =>
      obtain rfl := Option.some.inj hd
      cases hlm
    | 17, hd =>
      obtain rfl := Option.some.inj hd
      cases hlm
    | 18, hd =>
      obtain rfl := Option.some.inj hd
      cases hlm
    | 19, hd =>
      obtain rfl := Option.some.inj hd
      cases hlm
    | 20, hd =>
      obtain rfl := Option.some.inj hd
      cases hlm
    | 21, hd =>
      obtain rfl := Option.some.inj hd
      cases hlm
    | 22, hd =>
      obtain rfl := Option.some.inj hd
      cases hlm
    | 23, hd =>
      obtain rfl := Option.some.inj hd
      cases hlm
    | 24, hd =>
      obtain rfl := Option.some.inj hd
      cases hlm
    | 25, hd =>
      obtain rfl := Option.some.inj hd
      cases hlm
    | 26, hd =>
      obtain rfl := Option.some.inj hd
      cases hlm
    | 27, hd =>
      obtain rfl := Option.some.inj hd
      cases hlm
    | 28, hd =>
      obtain rfl := Option.some.inj hd
      cases hlm
    | 29, hd =>
      obtain rfl := Option.some.inj hd
      cases hlm
    | 30, hd =>
      obtain rfl := Option.some.inj hd
      cases hlm
    | 31, hd =>
      obtain rfl := Option.some.inj hd
      cases hlm
    | 32, hd =>
      obtain rfl := Option.some.inj hd
      cases hlm
    | 33, hd =>
      obtain rfl := Option.some.inj hd
      cases hlm
    | 34, hd =>
      obtain rfl := Option.some.inj hd
      cases hlm
    | 35, hd =>
      obtain rfl := Option.some.inj hd
      cases hlm
    | 36, hd =>
      obtain rfl := Option.some.inj hd
      cases hlm
    | 37, hd =>
      obtain rfl := Option.some.inj hd
      cases hlm
    | 38, hd =>
      obtain rfl := Option.some.inj hd
      cases hlm
    | 39, hd =>
      obtain rfl := Option.some.inj hd
      cases hlm
    | 40, hd =>
      obtain rfl := Option.some.inj hd
      cases hlm
    | 41, hd =>
      obtain rfl := Option.some.inj hd
      cases hlm
    | 42, hd =>
      obtain rfl := Option.some.inj hd
      cases hlm
    | 43, hd =>
      obtain rfl := Option.some.inj hd
      cases hlm
    | 44, hd =>
      obtain rfl := Option.some.inj hd
      cases hlm
    | 45, hd =>
      obtain rfl := Option.some.inj hd
      cases hlm
    | 46, hd =>
      obtain rfl := Option.some.inj hd
      cases hlm
    | 47, hd =>
      obtain rfl := Option.some.inj hd
      cases hlm
    | 48, hd =>
      obtain rfl := Option.some.inj hd
      cases hlm
    | 49, hd =>
      obtain rfl := Option.some.inj hd
      cases hlm
    | 50, hd =>
      obtain rfl := Option.some.inj hd
      cases hlm
    | 51, hd =>
      obtain rfl := Option.some.inj hd
      cases hlm
    | 52, hd =>
      obtain rfl := Option.some.inj hd
      cases hlm
    | 53, hd =>
      obtain rfl := Option.some.inj hd
      cases hlm
    | 54, hd =>
      obtain rfl := Option.some.inj hd
      cases hlm
    | 55, hd =>
      obtain rfl := Option.some.inj hd
      cases hlm
    | 56, hd =>
      obtain rfl := Option.some.inj hd
      cases hlm
    | 57, hd =>
      obtain rfl := Option.some.inj hd
      cases hlm
    | 58, hd =>
      obtain rfl := Option.some.inj hd
      cases hlm
    | 59, hd =>
      obtain rfl := Option.some.inj hd
      cases hlm
    | 60, hd =>
      obtain rfl := Option.some.inj hd
      cases hlm
    | 61, hd =>
      obtain rfl := Option.some.inj hd
      cases hlm
    | 62, hd =>
      obtain rfl := Option.some.inj hd
      cases hlm
    | 63, hd =>
      obtain rfl := Option.some.inj hd
      cases hlm
    | 64, hd =>
      obtain rfl := Option.some.inj hd
      cases hlm
    | 65, hd =>
      obtain rfl := Option.some.inj hd
      cases hlm
    | 66, hd =>
      obtain rfl := Option.some.inj hd
      cases hlm
    | 67, hd =>
      obtain rfl := Option.some.inj hd
      cases hlm
    | 68, hd =>
      obtain rfl := Option.some.inj hd
      cases hlm
    | 69, hd =>
      obtain rfl := Option.some.inj hd
      obtain ⟨fa, oc1, od1, fd1, sl1, k1, k2, k3⟩ := t69
      have k4 := PySem.W.mg_of X G k1
      have k5 := hmg.symm.trans k4
      cases k5
      rw [k2] at lk
      cases lk
      exact ⟨c69, P69, k3, by simp, by simp⟩
    | 70, hd =>
      obtain rfl := Option.some.inj hd
      cases hlm
    | n + 71, hd => cases hd
  · intro p hp q hq e
    simp only [List.mem_cons, List.not_mem_nil, or_false] at hp hq
    rw [hp, hq]
theorem all_mk {w : World} {K : PySem.W.Frag} {h : Heap} {mg : Str → Option Value} {la : Addr} {Pr : Program} {w0 : Ew} {cs : List (Addr × Addr)} (X : K.In h) (G : h.Ns mainGlobals mg) (hla : mg "law" = some (.ref la)) (B : Behind Pr w0 D P GL K mg cs) (HL : Here K (Str.ofString "law") (Str.ofString "law") (topS 97) [])
    (hc : ∀ p ∈ cs, PySem.W.CodeHd h p.1 p.2 ∧ h.get? p.2 = some (PySem.W.tabObj #[])) (nt : ∀ p ∈ cs, K.lookup p.2 = none) (hw : ∀ p ∈ w0.T, ∃ c, (c, p.1) ∈ cs) :
    ∃ (fd : FuncData) (sp : Sp) (cs : List (Addr × Addr)), (∀ p ∈ cs, PySem.W.CodeHd h p.1 p.2 ∧ h.get? p.2 = some (PySem.W.tabObj #[])) ∧ (∀ p ∈ cs, K.lookup p.2 = none) ∧ (∀ (s : Shared) (u : Value), BindsTo s fd ⟨[u], []⟩ [(Str.ofString "script", u)]) ∧
      (∀ (H : Hp) (z : Addr) (ns : List Int), ns.length ≤ 63 → (∀ p ∈ cs, H p.2 = some (.tbl #[])) → SqL K H z (ns.map V.int) → sp [.ref z] H (fun v _ => v = .bl true) fun _ _ _ => False) ∧
      ∀ b : Heap, K.In b → b.Ns mainGlobals mg → (∀ p ∈ cs, LamX.TabB b mg p.1 p.2) → FnG Pr w K mg b 120 la fd [Str.ofString "script"] sp := by
  obtain ⟨la', fd, a, F⟩ := HL
  have e := hla.symm.trans (PySem.W.mg_of X G a)
  cases e
  refine ⟨fd, spEv K w0 (run (tabT D P.errs.length L) GL 120 70), cs, hc, nt, fun s u => ?_, fun H z ns hl hb s => told_law s (fun p hp => (hw p hp).elim fun c hcs => hb _ hcs) (law_true ns hl), fun b _ _ tb => defs_ok w0 (List.all_eq_true.mp tab_ok) rfl (fun _ _ _ _ => rfl) B tb 120 120 (Nat.le_refl _) 70 _ rfl la fd [] [] F hla⟩
  obtain ⟨oc, od, dV, kV, doc, pm, an, cdv, ct, osl, rfl, lk, hcd, hD, hK⟩ := F.ex
  rcases hD with ⟨_, rfl⟩ | ⟨q, _⟩
  · exact .of_eq rfl
  · exact absurd rfl q
end Dw
open PySem PySem.W PyProof.Rows
set_option maxHeartbeats 0 in
set_option maxRecDepth 100000 in
theorem PySem.Challenge.cw_duewrights_k06_whole_trees_judged_holds : PySem.Challenge.rw_duewrights_k06_whole_trees_judged.Holds := by
  w_on; o_law; k_head; (case hw => w_witness2)
  k_fill
  refine Dw.walk_law (l := PySem.Challenge.rw_duewrights_k06_whole_trees_judged) (n := 63) (k := 120) (x := PySem.Str.ofString "script") rfl (by decide) rfl ⟨rfl, by decide, by decide⟩ (fun w h Y => PySem.W.km_in_of Y) ?F
  case F =>
    intro w mg la h Y KX G hmg
    refine' Dw.all_mk KX G hmg (Dw.behind KX G (Dw.here0 ?dwa0 ?dwl0 ?dwc0 ?dwk0) (Dw.here0 ?dwa1 ?dwl1 ?dwc1 ?dwk1) (Dw.here0 ?dwa2 ?dwl2 ?dwc2 ?dwk2) (Dw.here0 ?dwa3 ?dwl3 ?dwc3 ?dwk3) (Dw.here0 ?dwa4 ?dwl4 ?dwc4 ?dwk4) (Dw.here0 ?dwa5 ?dwl5 ?dwc5 ?dwk5) (Dw.here0 ?dwa6 ?dwl6 ?dwc6 ?dwk6) (Dw.here0 ?dwa7 ?dwl7 ?dwc7 ?dwk7) (Dw.here0 ?dwa8 ?dwl8 ?dwc8 ?dwk8) (Dw.here0 ?dwa9 ?dwl9 ?dwc9 ?dwk9) (Dw.here0 ?dwa10 ?dwl10 ?dwc10 ?dwk10) (Dw.here0 ?dwa11 ?dwl11 ?dwc11 ?dwk11) (Dw.here0 ?dwa12 ?dwl12 ?dwc12 ?dwk12) (Dw.here0 ?dwa13 ?dwl13 ?dwc13 ?dwk13) (Dw.here0 ?dwa14 ?dwl14 ?dwc14 ?dwk14) (Dw.here0 ?dwa15 ?dwl15 ?dwc15 ?dwk15) (Dw.here0 ?dwa16 ?dwl16 ?dwc16 ?dwk16) (Dw.here0 ?dwa17 ?dwl17 ?dwc17 ?dwk17) (Dw.here0 ?dwa18 ?dwl18 ?dwc18 ?dwk18) (Dw.here0 ?dwa19 ?dwl19 ?dwc19 ?dwk19) (Dw.here0 ?dwa20 ?dwl20 ?dwc20 ?dwk20) (Dw.here0 ?dwa21 ?dwl21 ?dwc21 ?dwk21) (Dw.here0 ?dwa22 ?dwl22 ?dwc22 ?dwk22) (Dw.here0 ?dwa23 ?dwl23 ?dwc23 ?dwk23) (Dw.here0 ?dwa24 ?dwl24 ?dwc24 ?dwk24) (Dw.here0 ?dwa25 ?dwl25 ?dwc25 ?dwk25) (Dw.here0 ?dwa26 ?dwl26 ?dwc26 ?dwk26) (Dw.here0 ?dwa27 ?dwl27 ?dwc27 ?dwk27) (Dw.here0 ?dwa28 ?dwl28 ?dwc28 ?dwk28) (Dw.here0 ?dwa29 ?dwl29 ?dwc29 ?dwk29) (Dw.here0 ?dwa30 ?dwl30 ?dwc30 ?dwk30) (Dw.here0 ?dwa31 ?dwl31 ?dwc31 ?dwk31) (Dw.here0 ?dwa32 ?dwl32 ?dwc32 ?dwk32) (Dw.here0 ?dwa33 ?dwl33 ?dwc33 ?dwk33) (Dw.here0 ?dwa34 ?dwl34 ?dwc34 ?dwk34) (Dw.here0 ?dwa35 ?dwl35 ?dwc35 ?dwk35) (Dw.here0 ?dwa36 ?dwl36 ?dwc36 ?dwk36) (Dw.here0 ?dwa37 ?dwl37 ?dwc37 ?dwk37) (Dw.here0 ?dwa38 ?dwl38 ?dwc38 ?dwk38) (Dw.here0 ?dwa39 ?dwl39 ?dwc39 ?dwk39) (Dw.here0 ?dwa40 ?dwl40 ?dwc40 ?dwk40) (Dw.here0 ?dwa41 ?dwl41 ?dwc41 ?dwk41) (Dw.here0 ?dwa42 ?dwl42 ?dwc42 ?dwk42) (Dw.here0 ?dwa43 ?dwl43 ?dwc43 ?dwk43) (Dw.here0 ?dwa44 ?dwl44 ?dwc44 ?dwk44) (Dw.here0 ?dwa45 ?dwl45 ?dwc45 ?dwk45) (Dw.here0 ?dwa46 ?dwl46 ?dwc46 ?dwk46) (Dw.here0 ?dwa47 ?dwl47 ?dwc47 ?dwk47) (Dw.here0 ?dwa48 ?dwl48 ?dwc48 ?dwk48) (Dw.here0 ?dwa49 ?dwl49 ?dwc49 ?dwk49) (Dw.here0 ?dwa50 ?dwl50 ?dwc50 ?dwk50) (Dw.here0 ?dwa51 ?dwl51 ?dwc51 ?dwk51) (Dw.here0 ?dwa52 ?dwl52 ?dwc52 ?dwk52) (Dw.here0 ?dwa53 ?dwl53 ?dwc53 ?dwk53) (Dw.here0 ?dwa54 ?dwl54 ?dwc54 ?dwk54) (Dw.here0 ?dwa55 ?dwl55 ?dwc55 ?dwk55) (Dw.here0 ?dwa56 ?dwl56 ?dwc56 ?dwk56) (Dw.here0 ?dwa57 ?dwl57 ?dwc57 ?dwk57) (Dw.here0 ?dwa58 ?dwl58 ?dwc58 ?dwk58) (Dw.here0 ?dwa59 ?dwl59 ?dwc59 ?dwk59) (Dw.here0 ?dwa60 ?dwl60 ?dwc60 ?dwk60) (Dw.here0 ?dwa61 ?dwl61 ?dwc61 ?dwk61) (Dw.here0 ?dwa62 ?dwl62 ?dwc62 ?dwk62) (Dw.here0 ?dwa63 ?dwl63 ?dwc63 ?dwk63) (Dw.here0 ?dwa64 ?dwl64 ?dwc64 ?dwk64) (Dw.here0 ?dwa65 ?dwl65 ?dwc65 ?dwk65) (Dw.here0 ?dwa66 ?dwl66 ?dwc66 ?dwk66) (Dw.here0 ?dwa67 ?dwl67 ?dwc67 ?dwk67) (Dw.here0 ?dwa68 ?dwl68 ?dwc68 ?dwk68) (Dw.here0 ?dwa69 ?dwl69 ?dwc69 ?dwk69) (Dw.here0 ?dwa70 ?dwl70 ?dwc70 ?dwk70) (Dw.lam_at ?dwTa69 ?dwTb69 ?dwTc69 ?dwTd69 ?dwTe69) ?dwz0 ?dwz1 ?dwz2 ?dwz3 ?dwz4 ?dwz5 ?dwz6 ?dwz7 ?dwz8 ?dwz9 ?dwz10 ?dwz11 ?dwz12 ?dwz13 ?dwz14 ?dwz15 ?dwz16 ?dwz17 ?dwz18 (Dw.gl_int 8 ?dwg0 ?dwr0) (Dw.gl_str _ ?dwg1 ?dwr1) (Dw.gl_strs _ ?dwg2 ?dwgl2 ?dwgc2 ?dwgd2 ?dwgz2 ?dwr2) (Dw.gl_int 99 ?dwg3 ?dwr3) (Dw.gl_strs _ ?dwg4 ?dwgl4 ?dwgc4 ?dwgd4 ?dwgz4 ?dwr4) (Dw.gl_str _ ?dwg5 ?dwr5) (Dw.gl_int 15 ?dwg6 ?dwr6) (Dw.gl_strs _ ?dwg7 ?dwgl7 ?dwgc7 ?dwgd7 ?dwgz7 ?dwr7) (Dw.gl_int 9 ?dwg8 ?dwr8) (Dw.gl_int 20 ?dwg9 ?dwr9) (Dw.gl_int 2 ?dwg10 ?dwr10) (Dw.gl_int 8 ?dwg11 ?dwr11) (Dw.gl_int 4 ?dwg12 ?dwr12) ?dwn0 (Dw.err_mk (Fl := .given) ?dwe0_0 ?dwe0_1 ?dwe0_2 ?dwe0_3 ?dwe0_4 ?dwe0_5 ?dwe0_6 ?dwe0_7 ?dwe0_8 ?dwe0_9 ?dwe0_10 ?dwe0_11 ?dwe0_12 ?dwe0_13 ?dwe0_14 ?dwe0_15 ?dwe0_16 ?dwe0_17 ?dwe0_18 ?dwe0_19 ?dwe0_20 ?dwe0_21 ?dwe0_22 ?dwe0_23) ?dwx0_0 ) (Dw.here0 ?dwa70 ?dwl70 ?dwc70 ?dwk70) (List.forall_mem_cons.mpr ⟨⟨PySem.W.codeHd_of_K KX ?dwh69, PySem.W.km_tabs_of Y _ ?dwm69⟩, (fun _ h => nomatch h)⟩) (List.forall_mem_cons.mpr ⟨?dwq69, (fun _ h => nomatch h)⟩) (List.forall_mem_cons.mpr ⟨⟨_, List.mem_cons_self⟩, (fun _ h => nomatch h)⟩)
    (case dwTa69 => first | k_is | rfl)
    (case dwTb69 => first | k_is | rfl)
    (case dwTc69 => first | k_is | rfl)
    (case dwTd69 => first | k_is | rfl)
    (case dwTe69 => first | k_is | rfl)
    (case dwh69 => first | k_is | kernel_rfl | rfl)
    (case dwm69 => first | k_mem | simp)
    (case dwa0 => first | k_is | rfl)
    (case dwl0 => first | k_is | rfl)
    (case dwc0 => first | k_is | rfl)
    (case dwk0 => first | k_is | rfl)
    (case dwa1 => first | k_is | rfl)
    (case dwl1 => first | k_is | rfl)
    (case dwc1 => first | k_is | rfl)
    (case dwk1 => first | k_is | rfl)
    (case dwa2 => first | k_is | rfl)
    (case dwl2 => first | k_is | rfl)
    (case dwc2 => first | k_is | rfl)
    (case dwk2 => first | k_is | rfl)
    (case dwa3 => first | k_is | rfl)
    (case dwl3 => first | k_is | rfl)
    (case dwc3 => first | k_is | rfl)
    (case dwk3 => first | k_is | rfl)
    (case dwa4 => first | k_is | rfl)
    (case dwl4 => first | k_is | rfl)
    (case dwc4 => first | k_is | rfl)
    (case dwk4 => first | k_is | rfl)
    (case dwa5 => first | k_is | rfl)
    (case dwl5 => first | k_is | rfl)
    (case dwc5 => first | k_is | rfl)
    (case dwk5 => first | k_is | rfl)
    (case dwa6 => first | k_is | rfl)
    (case dwl6 => first | k_is | rfl)
    (case dwc6 => first | k_is | rfl)
    (case dwk6 => first | k_is | rfl)
    (case dwa7 => first | k_is | rfl)
    (case dwl7 => first | k_is | rfl)
    (case dwc7 => first | k_is | rfl)
    (case dwk7 => first | k_is | rfl)
    (case dwa8 => first | k_is | rfl)
    (case dwl8 => first | k_is | rfl)
    (case dwc8 => first | k_is | rfl)
    (case dwk8 => first | k_is | rfl)
    (case dwa9 => first | k_is | rfl)
    (case dwl9 => first | k_is | rfl)
    (case dwc9 => first | k_is | rfl)
    (case dwk9 => first | k_is | rfl)
    (case dwa10 => first | k_is | rfl)
    (case dwl10 => first | k_is | rfl)
    (case dwc10 => first | k_is | rfl)
    (case dwk10 => first | k_is | rfl)
    (case dwa11 => first | k_is | rfl)
    (case dwl11 => first | k_is | rfl)
    (case dwc11 => first | k_is | rfl)
    (case dwk11 => first | k_is | rfl)
    (case dwa12 => first | k_is | rfl)
    (case dwl12 => first | k_is | rfl)
    (case dwc12 => first | k_is | rfl)
    (case dwk12 => first | k_is | rfl)
    (case dwa13 => first | k_is | rfl)
    (case dwl13 => first | k_is | rfl)
    (case dwc13 => first | k_is | rfl)
    (case dwk13 => first | k_is | rfl)
    (case dwa14 => first | k_is | rfl)
    (case dwl14 => first | k_is | rfl)
    (case dwc14 => first | k_is | rfl)
    (case dwk14 => first | k_is | rfl)
    (case dwa15 => first | k_is | rfl)
    (case dwl15 => first | k_is | rfl)
    (case dwc15 => first | k_is | rfl)
    (case dwk15 => first | k_is | rfl)
    (case dwa16 => first | k_is | rfl)
    (case dwl16 => first | k_is | rfl)
    (case dwc16 => first | k_is | rfl)
    (case dwk16 => first | k_is | rfl)
    (case dwa17 => first | k_is | rfl)
    (case dwl17 => first | k_is | rfl)
    (case dwc17 => first | k_is | rfl)
    (case dwk17 => first | k_is | rfl)
    (case dwa18 => first | k_is | rfl)
    (case dwl18 => first | k_is | rfl)
    (case dwc18 => first | k_is | rfl)
    (case dwk18 => first | k_is | rfl)
    (case dwa19 => first | k_is | rfl)
    (case dwl19 => first | k_is | rfl)
    (case dwc19 => first | k_is | rfl)
    (case dwk19 => first | k_is | rfl)
    (case dwa20 => first | k_is | rfl)
    (case dwl20 => first | k_is | rfl)
    (case dwc20 => first | k_is | rfl)
    (case dwk20 => first | k_is | rfl)
    (case dwa21 => first | k_is | rfl)
    (case dwl21 => first | k_is | rfl)
    (case dwc21 => first | k_is | rfl)
    (case dwk21 => first | k_is | rfl)
    (case dwa22 => first | k_is | rfl)
    (case dwl22 => first | k_is | rfl)
    (case dwc22 => first | k_is | rfl)
    (case dwk22 => first | k_is | rfl)
    (case dwa23 => first | k_is | rfl)
    (case dwl23 => first | k_is | rfl)
    (case dwc23 => first | k_is | rfl)
    (case dwk23 => first | k_is | rfl)
    (case dwa24 => first | k_is | rfl)
    (case dwl24 => first | k_is | rfl)
    (case dwc24 => first | k_is | rfl)
    (case dwk24 => first | k_is | rfl)
    (case dwa25 => first | k_is | rfl)
    (case dwl25 => first | k_is | rfl)
    (case dwc25 => first | k_is | rfl)
    (case dwk25 => first | k_is | rfl)
    (case dwa26 => first | k_is | rfl)
    (case dwl26 => first | k_is | rfl)
    (case dwc26 => first | k_is | rfl)
    (case dwk26 => first | k_is | rfl)
    (case dwa27 => first | k_is | rfl)
    (case dwl27 => first | k_is | rfl)
    (case dwc27 => first | k_is | rfl)
    (case dwk27 => first | k_is | rfl)
    (case dwa28 => first | k_is | rfl)
    (case dwl28 => first | k_is | rfl)
    (case dwc28 => first | k_is | rfl)
    (case dwk28 => first | k_is | rfl)
    (case dwa29 => first | k_is | rfl)
    (case dwl29 => first | k_is | rfl)
    (case dwc29 => first | k_is | rfl)
    (case dwk29 => first | k_is | rfl)
    (case dwa30 => first | k_is | rfl)
    (case dwl30 => first | k_is | rfl)
    (case dwc30 => first | k_is | rfl)
    (case dwk30 => first | k_is | rfl)
    (case dwa31 => first | k_is | rfl)
    (case dwl31 => first | k_is | rfl)
    (case dwc31 => first | k_is | rfl)
    (case dwk31 => first | k_is | rfl)
    (case dwa32 => first | k_is | rfl)
    (case dwl32 => first | k_is | rfl)
    (case dwc32 => first | k_is | rfl)
    (case dwk32 => first | k_is | rfl)
    (case dwa33 => first | k_is | rfl)
    (case dwl33 => first | k_is | rfl)
    (case dwc33 => first | k_is | rfl)
    (case dwk33 => first | k_is | rfl)
    (case dwa34 => first | k_is | rfl)
    (case dwl34 => first | k_is | rfl)
    (case dwc34 => first | k_is | rfl)
    (case dwk34 => first | k_is | rfl)
    (case dwa35 => first | k_is | rfl)
    (case dwl35 => first | k_is | rfl)
    (case dwc35 => first | k_is | rfl)
    (case dwk35 => first | k_is | rfl)
    (case dwa36 => first | k_is | rfl)
    (case dwl36 => first | k_is | rfl)
    (case dwc36 => first | k_is | rfl)
    (case dwk36 => first | k_is | rfl)
    (case dwa37 => first | k_is | rfl)
    (case dwl37 => first | k_is | rfl)
    (case dwc37 => first | k_is | rfl)
    (case dwk37 => first | k_is | rfl)
    (case dwa38 => first | k_is | rfl)
    (case dwl38 => first | k_is | rfl)
    (case dwc38 => first | k_is | rfl)
    (case dwk38 => first | k_is | rfl)
    (case dwa39 => first | k_is | rfl)
    (case dwl39 => first | k_is | rfl)
    (case dwc39 => first | k_is | rfl)
    (case dwk39 => first | k_is | rfl)
    (case dwa40 => first | k_is | rfl)
    (case dwl40 => first | k_is | rfl)
    (case dwc40 => first | k_is | rfl)
    (case dwk40 => first | k_is | rfl)
    (case dwa41 => first | k_is | rfl)
    (case dwl41 => first | k_is | rfl)
    (case dwc41 => first | k_is | rfl)
    (case dwk41 => first | k_is | rfl)
    (case dwa42 => first | k_is | rfl)
    (case dwl42 => first | k_is | rfl)
    (case dwc42 => first | k_is | rfl)
    (case dwk42 => first | k_is | rfl)
    (case dwa43 => first | k_is | rfl)
    (case dwl43 => first | k_is | rfl)
    (case dwc43 => first | k_is | rfl)
    (case dwk43 => first | k_is | rfl)
    (case dwa44 => first | k_is | rfl)
    (case dwl44 => first | k_is | rfl)
    (case dwc44 => first | k_is | rfl)
    (case dwk44 => first | k_is | rfl)
    (case dwa45 => first | k_is | rfl)
    (case dwl45 => first | k_is | rfl)
    (case dwc45 => first | k_is | rfl)
    (case dwk45 => first | k_is | rfl)
    (case dwa46 => first | k_is | rfl)
    (case dwl46 => first | k_is | rfl)
    (case dwc46 => first | k_is | rfl)
    (case dwk46 => first | k_is | rfl)
    (case dwa47 => first | k_is | rfl)
    (case dwl47 => first | k_is | rfl)
    (case dwc47 => first | k_is | rfl)
    (case dwk47 => first | k_is | rfl)
    (case dwa48 => first | k_is | rfl)
    (case dwl48 => first | k_is | rfl)
    (case dwc48 => first | k_is | rfl)
    (case dwk48 => first | k_is | rfl)
    (case dwa49 => first | k_is | rfl)
    (case dwl49 => first | k_is | rfl)
    (case dwc49 => first | k_is | rfl)
    (case dwk49 => first | k_is | rfl)
    (case dwa50 => first | k_is | rfl)
    (case dwl50 => first | k_is | rfl)
    (case dwc50 => first | k_is | rfl)
    (case dwk50 => first | k_is | rfl)
    (case dwa51 => first | k_is | rfl)
    (case dwl51 => first | k_is | rfl)
    (case dwc51 => first | k_is | rfl)
    (case dwk51 => first | k_is | rfl)
    (case dwa52 => first | k_is | rfl)
    (case dwl52 => first | k_is | rfl)
    (case dwc52 => first | k_is | rfl)
    (case dwk52 => first | k_is | rfl)
    (case dwa53 => first | k_is | rfl)
    (case dwl53 => first | k_is | rfl)
    (case dwc53 => first | k_is | rfl)
    (case dwk53 => first | k_is | rfl)
    (case dwa54 => first | k_is | rfl)
    (case dwl54 => first | k_is | rfl)
    (case dwc54 => first | k_is | rfl)
    (case dwk54 => first | k_is | rfl)
    (case dwa55 => first | k_is | rfl)
    (case dwl55 => first | k_is | rfl)
    (case dwc55 => first | k_is | rfl)
    (case dwk55 => first | k_is | rfl)
    (case dwa56 => first | k_is | rfl)
    (case dwl56 => first | k_is | rfl)
    (case dwc56 => first | k_is | rfl)
    (case dwk56 => first | k_is | rfl)
    (case dwa57 => first | k_is | rfl)
    (case dwl57 => first | k_is | rfl)
    (case dwc57 => first | k_is | rfl)
    (case dwk57 => first | k_is | rfl)
    (case dwa58 => first | k_is | rfl)
    (case dwl58 => first | k_is | rfl)
    (case dwc58 => first | k_is | rfl)
    (case dwk58 => first | k_is | rfl)
    (case dwa59 => first | k_is | rfl)
    (case dwl59 => first | k_is | rfl)
    (case dwc59 => first | k_is | rfl)
    (case dwk59 => first | k_is | rfl)
    (case dwa60 => first | k_is | rfl)
    (case dwl60 => first | k_is | rfl)
    (case dwc60 => first | k_is | rfl)
    (case dwk60 => first | k_is | rfl)
    (case dwa61 => first | k_is | rfl)
    (case dwl61 => first | k_is | rfl)
    (case dwc61 => first | k_is | rfl)
    (case dwk61 => first | k_is | rfl)
    (case dwa62 => first | k_is | rfl)
    (case dwl62 => first | k_is | rfl)
    (case dwc62 => first | k_is | rfl)
    (case dwk62 => first | k_is | rfl)
    (case dwa63 => first | k_is | rfl)
    (case dwl63 => first | k_is | rfl)
    (case dwc63 => first | k_is | rfl)
    (case dwk63 => first | k_is | rfl)
    (case dwa64 => first | k_is | rfl)
    (case dwl64 => first | k_is | rfl)
    (case dwc64 => first | k_is | rfl)
    (case dwk64 => first | k_is | rfl)
    (case dwa65 => first | k_is | rfl)
    (case dwl65 => first | k_is | rfl)
    (case dwc65 => first | k_is | rfl)
    (case dwk65 => first | k_is | rfl)
    (case dwa66 => first | k_is | rfl)
    (case dwl66 => first | k_is | rfl)
    (case dwc66 => first | k_is | rfl)
    (case dwk66 => first | k_is | rfl)
    (case dwa67 => first | k_is | rfl)
    (case dwl67 => first | k_is | rfl)
    (case dwc67 => first | k_is | rfl)
    (case dwk67 => first | k_is | rfl)
    (case dwa68 => first | k_is | rfl)
    (case dwl68 => first | k_is | rfl)
    (case dwc68 => first | k_is | rfl)
    (case dwk68 => first | k_is | rfl)
    (case dwa69 => first | k_is | rfl)
    (case dwl69 => first | k_is | rfl)
    (case dwc69 => first | k_is | rfl)
    (case dwk69 => first | k_is | rfl)
    (case dwa70 => first | k_is | rfl)
    (case dwl70 => first | k_is | rfl)
    (case dwc70 => first | k_is | rfl)
    (case dwk70 => first | k_is | rfl)
    (case dwz0 => k_is)
    (case dwz1 => k_is)
    (case dwz2 => k_is)
    (case dwz3 => k_is)
    (case dwz4 => k_is)
    (case dwz5 => k_is)
    (case dwz6 => k_is)
    (case dwz7 => k_is)
    (case dwz8 => k_is)
    (case dwz9 => k_is)
    (case dwz10 => k_is)
    (case dwz11 => k_is)
    (case dwz12 => k_is)
    (case dwz13 => k_is)
    (case dwz14 => k_is)
    (case dwz15 => k_is)
    (case dwz16 => k_is)
    (case dwz17 => k_is)
    (case dwz18 => k_is)
    (case dwg0 => k_is)
    (case dwr0 => exact ⟨_, rfl⟩)
    (case dwg1 => k_is)
    (case dwr1 => exact ⟨_, rfl⟩)
    (case dwg2 => k_is)
    (case dwgl2 => first | k_is | rfl)
    (case dwgc2 => first | k_is | rfl)
    (case dwgd2 => first | k_is | rfl)
    (case dwgz2 => rfl)
    (case dwr2 => exact .cons ⟨_, rfl⟩ (.cons ⟨_, rfl⟩ (.cons ⟨_, rfl⟩ (.cons ⟨_, rfl⟩ (.cons ⟨_, rfl⟩ (.cons ⟨_, rfl⟩ (.cons ⟨_, rfl⟩ (.cons ⟨_, rfl⟩ (.cons ⟨_, rfl⟩ (.cons ⟨_, rfl⟩ (.cons ⟨_, rfl⟩ (.cons ⟨_, rfl⟩ (.cons ⟨_, rfl⟩ (.cons ⟨_, rfl⟩ (.cons ⟨_, rfl⟩ (.cons ⟨_, rfl⟩ (.cons ⟨_, rfl⟩ (.cons ⟨_, rfl⟩ (.cons ⟨_, rfl⟩ (.nil))))))))))))))))))))
    (case dwg3 => k_is)
    (case dwr3 => exact ⟨_, rfl⟩)
    (case dwg4 => k_is)
    (case dwgl4 => first | k_is | rfl)
    (case dwgc4 => first | k_is | rfl)
    (case dwgd4 => first | k_is | rfl)
    (case dwgz4 => rfl)
    (case dwr4 => exact .cons ⟨_, rfl⟩ (.cons ⟨_, rfl⟩ (.nil)))
    (case dwg5 => k_is)
    (case dwr5 => exact ⟨_, rfl⟩)
    (case dwg6 => k_is)
    (case dwr6 => exact ⟨_, rfl⟩)
    (case dwg7 => k_is)
    (case dwgl7 => first | k_is | rfl)
    (case dwgc7 => first | k_is | rfl)
    (case dwgd7 => first | k_is | rfl)
    (case dwgz7 => rfl)
    (case dwr7 => exact .cons ⟨_, rfl⟩ (.cons ⟨_, rfl⟩ (.nil)))
    (case dwg8 => k_is)
    (case dwr8 => exact ⟨_, rfl⟩)
    (case dwg9 => k_is)
    (case dwr9 => exact ⟨_, rfl⟩)
    (case dwg10 => k_is)
    (case dwr10 => exact ⟨_, rfl⟩)
    (case dwg11 => k_is)
    (case dwr11 => exact ⟨_, rfl⟩)
    (case dwg12 => k_is)
    (case dwr12 => exact ⟨_, rfl⟩)
    (case dwn0 => k_is)
    (case dwe0_0 => first | k_is | ks_is | rfl | decide +kernel)
    (case dwe0_1 => first | k_is | ks_is | rfl | decide +kernel)
    (case dwe0_2 => first | k_is | ks_is | rfl | decide +kernel)
    (case dwe0_3 => first | k_is | ks_is | rfl | decide +kernel)
    (case dwe0_4 => first | k_is | ks_is | rfl | decide +kernel)
    (case dwe0_5 => first | k_is | ks_is | rfl | decide +kernel)
    (case dwe0_6 => first | k_is | ks_is | rfl | decide +kernel)
    (case dwe0_7 => first | k_is | ks_is | rfl | decide +kernel)
    (case dwe0_8 => first | k_is | ks_is | rfl | decide +kernel)
    (case dwe0_9 => first | k_is | ks_is | rfl | decide +kernel)
    (case dwe0_10 => first | k_is | ks_is | rfl | decide +kernel)
    (case dwe0_11 => first | k_is | ks_is | rfl | decide +kernel)
    (case dwe0_12 => first | k_is | ks_is | rfl | decide +kernel)
    (case dwe0_13 => first | k_is | ks_is | rfl | decide +kernel)
    (case dwe0_14 => first | k_is | ks_is | rfl | decide +kernel)
    (case dwe0_15 => first | k_is | ks_is | rfl | decide +kernel)
    (case dwe0_16 => first | k_is | ks_is | rfl | decide +kernel)
    (case dwe0_17 => first | k_is | ks_is | rfl | decide +kernel)
    (case dwe0_18 => first | k_is | ks_is | rfl | decide +kernel)
    (case dwe0_19 => first | k_is | ks_is | rfl | decide +kernel)
    (case dwe0_20 => first | k_is | ks_is | rfl | decide +kernel)
    (case dwe0_21 => first | k_is | ks_is | rfl | decide +kernel)
    (case dwe0_22 => first | k_is | ks_is | rfl | decide +kernel)
    (case dwe0_23 => first | k_is | ks_is | rfl | decide +kernel)
    (case dwx0_0 => first | k_is | rfl | decide +kernel)
    (case dwq69 => first | k_is | rfl | decide +kernel)
