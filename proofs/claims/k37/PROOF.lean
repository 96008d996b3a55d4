import PyProof.Rows.All
import PySem.Challenge.RW_duewrights_k37_whole_lines
import HandS.ForExc
import PyProof.ReprRoads
import HandS.Comp
import HandS.TupAny
import HandS.TupMul
import HandS.Wide
import HandS.IsInst
import HandS.CallSlots
import HandS.More
import HandS.Conv
import HandS.Defaults
import Wide.All
import OpenK.AllK
import Wide.FinOn
import HandS.ForMost
set_option linter.all false
/-! A small language of its own and what it computes: values are data (PyData) or lists that change (cells). -/
namespace Dw
open PySem

inductive Val where
  | dat (d : PyData)
  | cell (k : Nat)
  | cells (ks : List Nat)
  | scr (l : List PyData)
  | fn (f : Nat)
abbrev Sto := List (List PyData)
abbrev Rho := List (Option Val)

inductive R (α : Type) where
  | ok (a : α) (S : Sto)
  | exc (c : Nat) (d : PyData) (S : Sto)
  | bad
def R.bind {α β : Type} : R α → (α → Sto → R β) → R β
  | .ok a S, f => f a S
  | .exc c d S, _ => .exc c d S
  | .bad, _ => .bad
/-- where no error may leave -/
def R.calm {α : Type} : R α → R α
  | .exc _ _ _ => .bad
  | r => r
inductive SR where
  | nx (ρ : Rho) (S : Sto)
  | rt (v : Val) (S : Sto)
  | bk (ρ : Rho) (S : Sto)
  | ct (ρ : Rho) (S : Sto)
  | exc (c : Nat) (d : PyData) (ρ : Rho) (S : Sto)
  | bad

def LINE : Nat := 16777216

inductive Bop where
  | add | sub | mul | fdiv | mod | pow
  deriving DecidableEq
inductive Cop where
  | eq | ne | lt | le | gt | ge | inn | nin
  deriving DecidableEq
inductive Ty where
  | int | bool | str | tuple | list
  deriving DecidableEq
inductive Blt where
  | len | abs | max2 | int1 | tup1 | lst1 | divmod | all1 | repr
  deriving DecidableEq
inductive Mth where
  | append
  deriving DecidableEq
inductive Tg where
  | name (i : Nat)
  | names (is : List Nat)

/-- the operators on data -/
def mulOk (a b : Int) : Bool := decide (a.natAbs.log2 + b.natAbs.log2 < 1000000)
def binD : Bop → PyData → PyData → Option PyData
  | .add, .int a, .int b => some (.int (a + b))
  | .add, .str a, .str b => if a.length + b.length ≤ LINE then some (.str (a ++ b)) else none
  | .add, .list a, .list b => if a.length + b.length ≤ LINE then some (.list (a ++ b)) else none
  | .add, .tuple a, .tuple b => if a.length + b.length ≤ LINE then some (.tuple (a ++ b)) else none
  | .sub, .int a, .int b => some (.int (a - b))
  | .mul, .int a, .int b => if mulOk a b = true then some (.int (a * b)) else none
  | .mul, .tuple l, .int k => if 0 < l.length ∧ l.length ≤ 1000 ∧ 2 ≤ k ∧ k ≤ 1000 then some (.tuple (List.replicate k.toNat l).flatten) else none
  | .fdiv, .int a, .int b => if 0 < b ∧ b < 1073741824 then some (.int (a / b)) else none
  | .mod, .int a, .int b => if 0 < b then some (.int (a % b)) else none
  | .pow, .int a, .int b => if 0 ≤ b ∧ b ≤ 1000 ∧ a.natAbs < 1000 then some (.int (a ^ b.toNat)) else none
  | _, _, _ => none

def eqD : PyData → PyData → Option Bool
  | .int a, .int b => some (a == b)
  | .str a, .str b => some (decide (a = b))
  | .bool a, .bool b => some (a == b)
  | a, b => if SeqAt.shaped a = true ∧ SeqAt.shaped b = true then some (PyData.eqv a b) else none
def cmpD : Cop → PyData → PyData → Option Bool
  | .eq, a, b => eqD a b
  | .ne, a, b => (eqD a b).map (!·)
  | .lt, .int a, .int b => some (decide (a < b))
  | .le, .int a, .int b => some (decide (a ≤ b))
  | .gt, .int a, .int b => some (decide (b < a))
  | .ge, .int a, .int b => some (decide (b ≤ a))
  | _, _, _ => none

/-- an item, from either end -/
def nth {α : Type} (l : List α) (i : Int) : Option α :=
  if 0 ≤ i then l[i.toNat]? else if -(l.length : Int) ≤ i then l[(i + l.length).toNat]? else none
def idxD : PyData → PyData → Option PyData
  | .list l, .int i => nth l i
  | .tuple l, .int i => nth l i
  | .str z, .int i => if z.length ≤ LINE then (nth z.cps.toList i).map fun c => .str ⟨#[c]⟩ else none
  | _, _ => none
/-- the bounds of a slice -/
def sIx (n : Nat) (dflt : Nat) : Option Int → Nat
  | none => dflt
  | some i => if 0 ≤ i then min i.toNat n else (i + n).toNat
def cutD {α : Type} (l : List α) (lo hi : Option Int) : List α :=
  (l.drop (sIx l.length 0 lo)).take (sIx l.length l.length hi - sIx l.length 0 lo)
def slD : PyData → Option Int → Option Int → Option PyData
  | .list l, lo, hi => some (.list (cutD l lo hi))
  | .tuple l, lo, hi => some (.tuple (cutD l lo hi))
  | _, _, _ => none
def isT : PyData → Ty → Bool
  | .int _, .int => true
  | .bool _, .int => true
  | .bool _, .bool => true
  | .str _, .str => true
  | .tuple _, .tuple => true
  | .list _, .list => true
  | _, _ => false

def reprOk (d : PyData) : Bool := d.showable && !d.hasDict && decide (d.depth ≤ 50) && decide (d.shown.length ≤ LINE)
def allTrue : List PyData → Option Bool
  | [] => some true
  | .bool b :: r => (allTrue r).map (b && ·)
  | _ => none
def bLen : List PyData → Option PyData
  | [.list l] => some (.int l.length)
  | [.tuple l] => some (.int l.length)
  | [.str z] => if z.length ≤ LINE then some (.int z.length) else none
  | _ => none
def bAbs : List PyData → Option PyData
  | [.int i] => some (.int (if i < 0 then -i else i))
  | _ => none
def bMax : List PyData → Option PyData
  | [.int i, .int j] => some (.int (if j > i then j else i))
  | _ => none
def bInt : List PyData → Option PyData
  | [.int i] => some (.int i)
  | _ => none
def bTup : List PyData → Option PyData
  | [.list l] => some (.tuple l)
  | [.tuple l] => some (.tuple l)
  | _ => none
def bLst : List PyData → Option PyData
  | [.tuple l] => some (.list l)
  | _ => none
def bDivmod : List PyData → Option PyData
  | [.int i, .int j] => if 0 < j ∧ j < 1073741824 then some (.tuple [.int (i / j), .int (i % j)]) else none
  | _ => none
def bAll : List PyData → Option PyData
  | [.list l] => (allTrue l).map .bool
  | _ => none
def bRepr : List PyData → Option PyData
  | [d] => if reprOk d = true then some (.str d.shown) else none
  | _ => none
def bltD : Blt → List PyData → Option PyData
  | .len => bLen
  | .abs => bAbs
  | .max2 => bMax
  | .int1 => bInt
  | .tup1 => bTup
  | .lst1 => bLst
  | .divmod => bDivmod
  | .all1 => bAll
  | .repr => bRepr

/-- what a value is read as -/
def deref (S : Sto) : Val → Option PyData
  | .dat d => some d
  | .cell k => (S[k]?).map .list
  | .scr l => some (.list l)
  | _ => none
/-- what may be added, multiplied -/
def derefB (S : Sto) : Val → Option PyData
  | .dat d => some d
  | .cell k => (S[k]?).map .list
  | _ => none
def derefs (S : Sto) : List Val → Option (List PyData)
  | [] => some []
  | v :: r => match deref S v, derefs S r with
    | some d, some ds => some (d :: ds)
    | _, _ => none
/-- plain data alone -/
def plains : List Val → Option (List PyData)
  | [] => some []
  | .dat d :: r => (plains r).map (d :: ·)
  | _ => none
def cellsOf : List Val → Option (List Nat)
  | [] => some []
  | .cell k :: r => (cellsOf r).map (k :: ·)
  | _ => none
def collect (vs : List Val) : Option Val := match plains vs with
  | some ds => some (.dat (.list ds))
  | none => (cellsOf vs).map .cells
def give {α : Type} (o : Option α) (S : Sto) : R α := match o with
  | some a => .ok a S
  | none => .bad

def binR (op : Bop) (a b : Val) (S : Sto) : R Val := match derefB S a, derefB S b with
  | some x, some y => give ((binD op x y).map .dat) S
  | _, _ => .bad
def cmpR (op : Cop) (a b : Val) (S : Sto) : R Val := match deref S a, deref S b with
  | some x, some y => give ((cmpD op x y).map fun c => .dat (.bool c)) S
  | _, _ => .bad
def idxR (x y : Val) (S : Sto) : R Val := match x, y with
  | .cells ks, .dat (.int i) => give ((nth ks i).map .cell) S
  | x, y => match deref S x, deref S y with
    | some x, some y => give ((idxD x y).map .dat) S
    | _, _ => .bad
def slR (x : Val) (lo hi : Option Int) (S : Sto) : R Val := match deref S x with
  | some x => give ((slD x lo hi).map .dat) S
  | none => .bad
def bltR (b : Blt) (vs : List Val) (S : Sto) : R Val := match derefs S vs with
  | some ds => give ((bltD b ds).map .dat) S
  | none => .bad
def isiR (t : Ty) (x : Val) (S : Sto) : R Val := match deref S x with
  | some d => .ok (.dat (.bool (isT d t))) S
  | none => .bad
def isCell (x : Val) (S : Sto) : R Val := match x with
  | .cell k => .ok (.cell k) S
  | _ => .bad
def appR (x : Val) (vs : List Val) (S : Sto) : R Val := match x, vs with
  | .cell k, [.dat d] => match S[k]? with
    | some l => if l.length < LINE then .ok (.dat .none) (S.set k (l ++ [d])) else .bad
    | none => .bad
  | _, _ => .bad
def newR (vs : List Val) (S : Sto) : R Val := match plains vs with
  | some ds => .ok (.cell S.length) (S ++ [ds])
  | none => .bad
def tupR (vs : List Val) (S : Sto) : R Val := give ((plains vs).map fun ds => .dat (.tuple ds)) S
def lstR (vs : List Val) (S : Sto) : R Val := give (collect vs) S
def isNone : Val → Bool
  | .dat .none => true
  | _ => false
def negR (x : Val) (S : Sto) : R Val := match x with
  | .dat (.int i) => .ok (.dat (.int (-i))) S
  | _ => .bad
def toI (x : Val) (S : Sto) : R Int := match x with
  | .dat (.int i) => .ok i S
  | _ => .bad
def callKR (C : Nat → List Val → Sto → R Val) (f nu nk : Nat) (perm : List Nat) (dfl : List Int) (vs ws : List Val) (S : Sto) : R Val :=
  if vs.length = nu ∧ ws.length = nk then C f (perm.filterMap fun i => (vs ++ ws ++ dfl.map fun i => Val.dat (.int i))[i]?) S else .bad

mutual
inductive Ex where
  | var (i : Nat)
  | con (d : PyData)
  | glob (g : Nat)
  | bin (op : Bop) (a b : Ex)
  | neg (a : Ex)
  | cmp (op : Cop) (a b : Ex)
  | chn (op op' : Cop) (a b c : Ex)
  | isN (a : Ex)
  | notN (a : Ex)
  | not (a : Ex)
  | and (es : List Ex)
  | or (es : List Ex)
  | ife (c a b : Ex)
  | tup (es : List Ex)
  | lst (es : List Ex)
  | new (es : List Ex)
  | idx (a b : Ex)
  | sl (a : Ex) (lo hi : Option Ex)
  | call (f : Nat) (es : List Ex)
  | callK (f : Nat) (kws : List String) (perm : List Nat) (dfl : List Int) (es kes : List Ex)
  | blt (b : Blt) (es : List Ex)
  | isi (a : Ex) (t : Ty)
  | mth (m : Mth) (o : Ex) (es : List Ex)
  | cp (e : Ex) (tg : Tg) (it : It) (ifs : List Ex) (own : List Nat)
inductive It where
  | val (e : Ex)
  | rng1 (a : Ex)
  | rng2 (a b : Ex)
end
inductive Sx where
  | asg (tg : Tg) (e : Ex)
  | par (i j : Nat) (a b : Ex)
  | sub (o i e : Ex)
  | subn (o i : Ex) (j : Nat) (e : Ex)
  | exp (e : Ex)
  | ret (e : Ex)
  | ife (c : Ex) (a b : List Sx)
  | whl (fuel : Nat) (c : Ex) (b : List Sx)
  | fr (tg : Tg) (it : It) (b : List Sx)
  | rai (c : Nat) (e : Ex)
  | pass

/-- targets -/
def setNames : List Nat → List PyData → Rho → Option Rho
  | [], [], ρ => some ρ
  | i :: is, d :: ds, ρ => setNames is ds (ρ.set i (some (.dat d)))
  | _, _, _ => none
def setTg : Tg → Val → Rho → Option Rho
  | .name i, v, ρ => some (ρ.set i (some v))
  | .names is, .dat (.tuple ds), ρ => setNames is ds ρ
  | _, _, _ => none
def wipeE (ρ : Rho) : List Nat → Rho
  | [] => ρ
  | v :: vs => (wipeE ρ vs).set v none

/-- a truth -/
def toB : Val → Sto → R Bool
  | .dat (.bool b), S => .ok b S
  | _, _ => .bad
/-- what is walked -/
def items : Val → Option (List Val)
  | .dat (.list l) => some (l.map .dat)
  | .dat (.tuple l) => some (l.map .dat)
  | .cells ks => some (ks.map .cell)
  | .scr l => some (l.map .dat)
  | _ => none
def rangeV (lo hi : Int) : Option (List Val) :=
  if -(2 ^ 62) ≤ lo ∧ lo < 2 ^ 62 ∧ -(2 ^ 62) ≤ hi ∧ hi < 2 ^ 62 then some ((List.range (hi - lo).toNat).map fun (i : Nat) => .dat (.int (lo + i))) else none
/-- a comprehension's turns; none: left out -/
def compL (f : Val → Sto → R (Option Val)) : List Val → Sto → R (List Val)
  | [], S => .ok [] S
  | v :: r, S => (f v S).bind fun o S => (compL f r S).bind fun vs S => .ok (match o with
    | some x => x :: vs
    | none => vs) S
def loopW (test : Rho → Sto → R Bool) (body : Rho → Sto → SR) : Nat → Rho → Sto → SR
  | 0, _, _ => .bad
  | n + 1, ρ, S => match test ρ S with
    | .ok true S => match body ρ S with
      | .nx ρ S => loopW test body n ρ S
      | .ct ρ S => loopW test body n ρ S
      | .bk ρ S => .nx ρ S
      | r => r
    | .ok false S => .nx ρ S
    | .exc c d S => .exc c d ρ S
    | .bad => .bad
def loopF (tg : Tg) (body : Rho → Sto → SR) : List Val → Rho → Sto → SR
  | [], ρ, S => .nx ρ S
  | v :: r, ρ, S => match setTg tg v ρ with
    | some ρ => match body ρ S with
      | .nx ρ S => loopF tg body r ρ S
      | .ct ρ S => loopF tg body r ρ S
      | .bk ρ S => .nx ρ S
      | r => r
    | none => .bad

section
variable (C : Nat → List Val → Sto → R Val) (G : List PyData)
mutual
def evE : Ex → Rho → Sto → R Val
  | .var i, ρ, S => match ρ[i]? with
    | some (some v) => .ok v S
    | _ => .bad
  | .con d, _, S => .ok (.dat d) S
  | .glob g, _, S => give (G[g]?.map .dat) S
  | .bin op a b, ρ, S => (evE a ρ S).bind fun x S => (evE b ρ S).bind fun y S => binR op x y S
  | .neg a, ρ, S => (evE a ρ S).bind negR
  | .cmp op a b, ρ, S => (evE a ρ S).bind fun x S => (evE b ρ S).bind fun y S => cmpR op x y S
  | .chn op op' a b c, ρ, S => (evE a ρ S).bind fun x S => (evE b ρ S).bind fun y S => ((cmpR op x y S).bind toB).bind fun k S =>
    if k = true then (evE c ρ S).bind fun z S => cmpR op' y z S else .ok (.dat (.bool false)) S
  | .isN a, ρ, S => (evE a ρ S).bind fun x S => .ok (.dat (.bool (isNone x))) S
  | .notN a, ρ, S => (evE a ρ S).bind fun x S => .ok (.dat (.bool (!isNone x))) S
  | .not a, ρ, S => ((evE a ρ S).bind toB).bind fun c S => .ok (.dat (.bool (!c))) S
  | .and es, ρ, S => evAnd es ρ S
  | .or es, ρ, S => evOr es ρ S
  | .ife c a b, ρ, S => ((evE c ρ S).bind toB).bind fun k S => if k = true then evE a ρ S else evE b ρ S
  | .tup es, ρ, S => (evL es ρ S).bind tupR
  | .lst es, ρ, S => (evL es ρ S).bind lstR
  | .new es, ρ, S => (evL es ρ S).bind newR
  | .idx a b, ρ, S => (evE a ρ S).bind fun x S => (evE b ρ S).bind fun y S => idxR x y S
  | .sl a lo hi, ρ, S => (evE a ρ S).bind fun x S => (evO lo ρ S).bind fun l S => (evO hi ρ S).bind fun h S => slR x l h S
  | .call f es, ρ, S => (evL es ρ S).bind fun vs S => C f vs S
  | .callK f kws perm dfl es kes, ρ, S => (evL es ρ S).bind fun vs S => (evL kes ρ S).bind fun ws S => callKR C f es.length kws.length perm dfl vs ws S
  | .blt b es, ρ, S => (evL es ρ S).bind fun vs S => bltR b vs S
  | .isi a t, ρ, S => (evE a ρ S).bind fun x S => isiR t x S
  | .mth .append o es, ρ, S => ((evE o ρ S).bind isCell).bind fun x S => (evL es ρ S).bind fun vs S => appR x vs S
  | .cp e tg it ifs own, ρ, S => (evI it ρ S).bind fun vs S =>
    if vs.length ≤ LINE then
      (compL (fun v S => match setTg tg v (wipeE ρ own) with
        | none => .bad
        | some ρ' => R.calm ((evIf ifs ρ' S).bind fun b S => if b = true then (evE e ρ' S).bind fun x S => .ok (some x) S else .ok none S)) vs S).bind lstR
    else .bad
def evL : List Ex → Rho → Sto → R (List Val)
  | [], _, S => .ok [] S
  | e :: es, ρ, S => (evE e ρ S).bind fun v S => (evL es ρ S).bind fun vs S => .ok (v :: vs) S
def evAnd : List Ex → Rho → Sto → R Val
  | [], _, _ => .bad
  | [a], ρ, S => evE a ρ S
  | a :: b :: r, ρ, S => ((evE a ρ S).bind toB).bind fun k S => if k = true then evAnd (b :: r) ρ S else .ok (.dat (.bool false)) S
def evOr : List Ex → Rho → Sto → R Val
  | [], _, _ => .bad
  | [a], ρ, S => evE a ρ S
  | a :: b :: r, ρ, S => ((evE a ρ S).bind toB).bind fun k S => if k = true then .ok (.dat (.bool true)) S else evOr (b :: r) ρ S
def evIf : List Ex → Rho → Sto → R Bool
  | [], _, S => .ok true S
  | [c], ρ, S => (evE c ρ S).bind toB
  | _, _, _ => .bad
def evO : Option Ex → Rho → Sto → R (Option Int)
  | none, _, S => .ok none S
  | some e, ρ, S => ((evE e ρ S).bind toI).bind fun i S => .ok (some i) S
def evI : It → Rho → Sto → R (List Val)
  | .val e, ρ, S => (evE e ρ S).bind fun x S => give (items x) S
  | .rng1 a, ρ, S => ((evE a ρ S).bind toI).bind fun i S => give (rangeV 0 i) S
  | .rng2 a b, ρ, S => (evE a ρ S).bind fun x S => (evE b ρ S).bind fun y S => (toI x S).bind fun i S => (toI y S).bind fun j S => give (rangeV i j) S
end
def R.st {α : Type} (r : R α) (ρ : Rho) (f : α → Sto → SR) : SR := match r with
  | .ok v S => f v S
  | .exc c d S => .exc c d ρ S
  | .bad => .bad
/-- o[i] = v -/
def setCell (k : Nat) (i : Int) (d : PyData) (S : Sto) : Option Sto := match S[k]? with
  | some l => if 0 ≤ i ∧ i < l.length then some (S.set k (l.set i.toNat d)) else none
  | none => none
def evSub (o i : Ex) (d : PyData) (ρ : Rho) (S : Sto) (f : Sto → SR) : SR :=
  R.st (evE C G o ρ S) ρ fun x S => R.st (evE C G i ρ S) ρ fun y S => match x, y with
    | .cell k, .dat (.int j) => match setCell k j d S with
      | some S => f S
      | none => .bad
    | _, _ => .bad
mutual
def evS : Sx → Rho → Sto → SR
  | .asg tg e, ρ, S => R.st (evE C G e ρ S) ρ fun v S => match setTg tg v ρ with
    | some ρ => .nx ρ S
    | none => .bad
  | .par i j a b, ρ, S => R.st (evE C G a ρ S) ρ fun v S => R.st (evE C G b ρ S) ρ fun w S => .nx ((ρ.set i (some v)).set j (some w)) S
  | .sub o i e, ρ, S => R.st (evE C G e ρ S) ρ fun v S => match v with
    | .dat d => evSub C G o i d ρ S fun S => .nx ρ S
    | _ => .bad
  | .subn o i j e, ρ, S => R.st (evE C G e ρ S) ρ fun v S => match v with
    | .dat (.tuple [d, d']) => evSub C G o i d ρ S fun S => .nx (ρ.set j (some (.dat d'))) S
    | _ => .bad
  | .exp e, ρ, S => R.st (evE C G e ρ S) ρ fun _ S => .nx ρ S
  | .ret e, ρ, S => R.st (evE C G e ρ S) ρ fun v S => .rt v S
  | .ife c a b, ρ, S => R.st ((evE C G c ρ S).bind toB) ρ fun k S => if k = true then evSs a ρ S else evSs b ρ S
  | .whl n c b, ρ, S => loopW (fun ρ S => (evE C G c ρ S).bind toB) (evSs b) n ρ S
  | .fr tg it b, ρ, S => match evI C G it ρ S with
    | .ok vs S => loopF tg (evSs b) vs ρ S
    | .exc c d S => .exc c d ρ S
    | .bad => .bad
  | .rai _ _, _, _ => .bad
  | .pass, ρ, S => .nx ρ S
def evSs : List Sx → Rho → Sto → SR
  | [], ρ, S => .nx ρ S
  | s :: r, ρ, S => match evS s ρ S with
    | .nx ρ S => evSs r ρ S
    | x => x
end
end

/-- a def: its parameters' number, its names' number, its body, whether a list that it hands back goes on to change -/
structure Fd where
  np : Nat
  nn : Nat
  keep : Bool
  body : List Sx
/-- what a def hands back: the lists made within it are forgotten, the one handed back is frozen -/
def handBack (keep : Bool) (n : Nat) : SR → R Val
  | .rt (.dat d) S => .ok (.dat d) (if keep then S else S.take n)
  | .rt (.cell k) S => if keep then .ok (.cell k) S else if n ≤ k then match S[k]? with
    | some l => .ok (.dat (.list l)) (S.take n)
    | none => .bad
    else .bad
  | .rt v S => if keep then .ok v S else .bad
  | .nx _ S => .ok (.dat .none) (if keep then S else S.take n)
  | .exc c d _ S => .exc c d (if keep then S else S.take n)
  | _ => .bad
def run (T : List Fd) (G : List PyData) : Nat → Nat → List Val → Sto → R Val
  | 0, _, _, _ => .bad
  | n + 1, f, vs, S => match T[f]? with
    | some F => if vs.length = F.np ∧ F.np ≤ F.nn then
        handBack F.keep S.length (evSs (run T G n) G F.body (vs.map some ++ List.replicate (F.nn - F.np) none) S)
      else .bad
    | none => .bad
end Dw

set_option Elab.async false
set_option linter.all false
set_option maxRecDepth 100000
set_option maxHeartbeats 4000000
/-! The relations between what the small language computes and what the walk sees. -/
namespace Dw
open PySem PySem.Spec PyProof.Rows L2

def keyD : Key → PyData
  | .inl i => .int i
  | .inr s => .str s
mutual
inductive Da (K : PySem.W.Frag) (G : Hp) : V → PyData → Prop
  | non : Da K G .non .none
  | bl (b : Bool) : Da K G (.bl b) (.bool b)
  | int (i : Int) : Da K G (.int i) (.int i)
  | str (x : Str) : Da K G (.str x) (.str x)
  | lst {a : Addr} {xs : List V} {ds : List PyData} : G a = some (.lst xs) → DaAll K G xs ds → Da K G (.ref a) (.list ds)
  | tup {a : Addr} {xs : List V} {ds : List PyData} : SqT K G a xs → DaAll K G xs ds → Da K G (.ref a) (.tuple ds)
inductive DaAll (K : PySem.W.Frag) (G : Hp) : List V → List PyData → Prop
  | nil : DaAll K G [] []
  | cons {v : V} {vs : List V} {d : PyData} {ds : List PyData} : Da K G v d → DaAll K G vs ds → DaAll K G (v :: vs) (d :: ds)
end
theorem Same.seqT {K : PySem.W.Frag} {H H' : Hp} {a : Addr} {xs : List V} (e : Same H H') (h : SqT K H a xs) : SqT K H' a xs := by
  rcases h with (h | ⟨o, h⟩) | h
  · exact .inl (.inl (e _ _ h))
  · exact .inl (.inr ⟨o, e _ _ h⟩)
  · exact .inr h
section
variable {K : PySem.W.Frag} {G G' H H' : Hp}
mutual
theorem Da.mono (h : Same G G') : ∀ (d : PyData) (v : V), Da K G v d → Da K G' v d
  | .none, _, x => by cases x; exact .non
  | .bool _, _, x => by cases x; exact .bl _
  | .int _, _, x => by cases x; exact .int _
  | .str _, _, x => by cases x; exact .str _
  | .list ds, _, x => by
    cases x with
    | lst e a => exact .lst (h _ _ e) (DaAll.mono h ds _ a)
  | .tuple ds, _, x => by
    cases x with
    | tup e a => exact .tup (Same.seqT h e) (DaAll.mono h ds _ a)
  | .dict _, _, x => by cases x
theorem DaAll.mono (h : Same G G') : ∀ (ds : List PyData) (vs : List V), DaAll K G vs ds → DaAll K G' vs ds
  | [], _, x => by cases x; exact .nil
  | d :: ds, _, x => by
    cases x with
    | cons a b => exact .cons (Da.mono h d _ a) (DaAll.mono h ds _ b)
end
mutual
theorem Da.dp (h : Same G H) : ∀ (d : PyData) (v : V), Da K G v d → Dp K H v d
  | .none, _, x => by cases x; exact .non
  | .bool _, _, x => by cases x; exact .bl _
  | .int _, _, x => by cases x; exact .int _
  | .str _, _, x => by cases x; exact .str _
  | .list ds, _, x => by
    cases x with
    | lst e a => exact .lst (SqL.of (h _ _ e)) (DaAll.dp h ds _ a)
  | .tuple ds, _, x => by
    cases x with
    | tup e a => exact .tup (Same.seqT h e) (DaAll.dp h ds _ a)
  | .dict _, _, x => by cases x
theorem DaAll.dp (h : Same G H) : ∀ (ds : List PyData) (vs : List V), DaAll K G vs ds → DpAll K H vs ds
  | [], _, x => by cases x; exact .nil
  | d :: ds, _, x => by
    cases x with
    | cons a b => exact .cons (Da.dp h d _ a) (DaAll.dp h ds _ b)
end
theorem DaAll.length : ∀ {vs : List V} {ds : List PyData}, DaAll K G vs ds → vs.length = ds.length
  | _, _, .nil => rfl
  | _, _, .cons _ b => by rw [List.length_cons, List.length_cons, DaAll.length b]
theorem DaAll.append : ∀ {vs ws : List V} {ds es : List PyData}, DaAll K G vs ds → DaAll K G ws es → DaAll K G (vs ++ ws) (ds ++ es)
  | _, _, _, _, .nil, b => b
  | _, _, _, _, .cons x a, b => .cons x (DaAll.append a b)
theorem DaAll.get : ∀ {vs : List V} {ds : List PyData} {i : Nat} {d : PyData}, DaAll K G vs ds → ds[i]? = some d → ∃ v, vs[i]? = some v ∧ Da K G v d
  | _, _, _, _, .nil, e => by simp at e
  | _, _, 0, _, .cons x _, e => by
    simp at e
    subst e
    exact ⟨_, rfl, x⟩
  | _, _, i + 1, _, .cons _ a, e => by
    obtain ⟨v, h1, h2⟩ := DaAll.get (i := i) a (by simpa using e)
    exact ⟨v, by simpa using h1, h2⟩
theorem DaAll.take : ∀ {vs : List V} {ds : List PyData} (n : Nat), DaAll K G vs ds → DaAll K G (vs.take n) (ds.take n)
  | _, _, 0, _ => by rw [List.take_zero, List.take_zero]; exact .nil
  | _, _, _ + 1, .nil => .nil
  | _, _, n + 1, .cons x a => .cons x (DaAll.take n a)
theorem DaAll.drop : ∀ {vs : List V} {ds : List PyData} (n : Nat), DaAll K G vs ds → DaAll K G (vs.drop n) (ds.drop n)
  | _, _, 0, a => a
  | _, _, _ + 1, .nil => .nil
  | _, _, n + 1, .cons _ a => DaAll.drop n a
theorem DaAll.set {v : V} {d : PyData} (x : Da K G v d) : ∀ {vs : List V} {ds : List PyData} (n : Nat), DaAll K G vs ds → DaAll K G (vs.set n v) (ds.set n d)
  | _, _, _, .nil => .nil
  | _, _, 0, .cons _ a => .cons x a
  | _, _, n + 1, .cons y a => .cons y (DaAll.set x n a)
theorem DaAll.rep {vs : List V} {ds : List PyData} (a : DaAll K G vs ds) : ∀ n : Nat, DaAll K G (List.replicate n vs).flatten (List.replicate n ds).flatten
  | 0 => .nil
  | n + 1 => by
    rw [List.replicate_succ, List.replicate_succ, List.flatten_cons, List.flatten_cons]
    exact a.append (DaAll.rep a n)

/-- the lists that change -/
structure Rst (K : PySem.W.Frag) (G : Hp) (as : List Addr) (S : Sto) (H : Hp) : Prop where
  same : Same G H
  len : as.length = S.length
  cl : ∀ (k : Nat) (a : Addr), as[k]? = some a → ∃ (l : List PyData) (xs : List V), S[k]? = some l ∧ H a = some (.lst xs) ∧ DaAll K G xs l ∧ G a = none
  nd : as.Nodup
def Refs (as : List Addr) : List Addr → List Nat → Prop := Paired fun (b : Addr) (k : Nat) => as[k]? = some b
def At (K : PySem.W.Frag) (G : Hp) (as : List Addr) (v : V) : Val → Prop
  | .dat d => Da K G v d
  | .cell k => ∃ a, v = .ref a ∧ as[k]? = some a
  | .cells ks => ∃ a bs, v = .ref a ∧ G a = some (.lst (bs.map V.ref)) ∧ Refs as bs ks
  | .scr l => ∃ a xs, v = .ref a ∧ SqL K G a xs ∧ DaAll K G xs l
  | .fn _ => False
structure Ext (G : Hp) (as : List Addr) (H : Hp) (G' : Hp) (as' : List Addr) (H' : Hp) : Prop where
  g : Same G G'
  pre : as <+: as'
  kp : ∀ b o, H b = some o → b ∉ as → H' b = some o
  th : ∀ b, H' b = none → H b = none
  fr : ∀ b ∈ as', b ∈ as ∨ H b = none
  gf : ∀ b o, G' b = some o → G b = some o ∨ H b = none
def EnvR (K : PySem.W.Frag) (G : Hp) (as : List Addr) (σ : L2.St) (ρ : Rho) : Prop :=
  σ.length = ρ.length ∧ ∀ (i : Nat) (x : Val), ρ[i]? = some (some x) → ∃ v, σ[i]? = some (some v) ∧ At K G as v x

theorem Ext.refl {as : List Addr} : Ext G as H G as H := ⟨Same.refl _, List.prefix_refl _, fun _ _ e _ => e, fun _ e => e, fun _ h => .inl h, fun _ _ e => .inl e⟩
theorem Ext.trans {G1 G2 H1 H2 : Hp} {as as1 as2 : List Addr} (a : Ext G as H G1 as1 H1) (b : Ext G1 as1 H1 G2 as2 H2) : Ext G as H G2 as2 H2 where
  g := a.g.trans b.g
  pre := a.pre.trans b.pre
  kp := fun c o e hn => by
    refine b.kp c o (a.kp c o e hn) fun hc => ?_
    rcases a.fr c hc with h | h
    · exact hn h
    · rw [e] at h; cases h
  th := fun c e => a.th c (b.th c e)
  fr := fun c hc => by
    rcases b.fr c hc with h | h
    · exact a.fr c h
    · exact .inr (a.th c h)
  gf := fun c o e => by
    rcases b.gf c o e with h | h
    · exact a.gf c o h
    · exact .inr (a.th c h)
theorem pre_get {as as' : List Addr} (h : as <+: as') {k : Nat} {a : Addr} (e : as[k]? = some a) : as'[k]? = some a := by
  obtain ⟨t, rfl⟩ := h
  rw [List.getElem?_append_left (List.getElem?_eq_some_iff.mp e).1]
  exact e
theorem Refs.mono {as as' : List Addr} (h : as <+: as') : ∀ {bs : List Addr} {ks : List Nat}, Refs as bs ks → Refs as' bs ks
  | _, _, .nil => .nil
  | _, _, .cons r t => .cons (pre_get h r) (Refs.mono h t)
theorem At.mono {as as' : List Addr} (g : Same G G') (h : as <+: as') {v : V} : ∀ {x : Val}, At K G as v x → At K G' as' v x
  | .dat d, a => Da.mono g d v a
  | .cell k, ⟨a, e, q⟩ => ⟨a, e, pre_get h q⟩
  | .cells ks, ⟨a, bs, e, q, r⟩ => ⟨a, bs, e, g _ _ q, r.mono h⟩
  | .scr l, ⟨a, xs, e, q, r⟩ => ⟨a, xs, e, g.seq q, DaAll.mono g _ _ r⟩
  | .fn _, h => h
theorem At.ext {G1 H1 : Hp} {as as1 : List Addr} (x : Ext G as H G1 as1 H1) {v : V} {y : Val} (a : At K G as v y) : At K G1 as1 v y := At.mono x.g x.pre a
theorem EnvR.ext {G1 H1 : Hp} {as as1 : List Addr} {σ : L2.St} {ρ : Rho} (x : Ext G as H G1 as1 H1) (e : EnvR K G as σ ρ) : EnvR K G1 as1 σ ρ :=
  ⟨e.1, fun i y h => by
    obtain ⟨v, h1, h2⟩ := e.2 i y h
    exact ⟨v, h1, h2.ext x⟩⟩
theorem EnvR.set {as : List Addr} {σ : L2.St} {ρ : Rho} (e : EnvR K G as σ ρ) {v : V} {x : Val} (a : At K G as v x) (j : Nat) : EnvR K G as (σ.set j (some v)) (ρ.set j (some x)) := by
  refine ⟨by rw [List.length_set, List.length_set, e.1], fun i y h => ?_⟩
  by_cases hi : j = i
  · subst hi
    by_cases hl : j < ρ.length
    · rw [List.getElem?_set_self hl] at h
      cases h
      exact ⟨v, List.getElem?_set_self (by rw [e.1]; exact hl), a⟩
    · rw [List.getElem?_eq_none (by rw [List.length_set]; omega)] at h
      cases h
  · rw [List.getElem?_set_ne hi] at h
    rw [List.getElem?_set_ne hi]
    exact e.2 i y h
theorem wipeE_some {ρ : Rho} {i : Nat} {x : Val} : ∀ {vs : List Nat}, (wipeE ρ vs)[i]? = some (some x) → ρ[i]? = some (some x) ∧ i ∉ vs
  | [], h => ⟨h, by simp⟩
  | v :: vs, h => by
    unfold wipeE at h
    by_cases hi : v = i
    · subst hi
      by_cases hv : v < (wipeE ρ vs).length
      · rw [List.getElem?_set_self hv] at h; cases h
      · rw [List.getElem?_eq_none (by simpa using hv)] at h; cases h
    · rw [List.getElem?_set_ne hi] at h
      obtain ⟨h1, h2⟩ := wipeE_some h
      exact ⟨h1, by simp only [List.mem_cons, not_or]; exact ⟨fun e => hi e.symm, h2⟩⟩
theorem wipeE_length (ρ : Rho) : ∀ vs : List Nat, (wipeE ρ vs).length = ρ.length
  | [] => rfl
  | v :: vs => by unfold wipeE; rw [List.length_set, wipeE_length ρ vs]
theorem EnvR.wipe {as : List Addr} {σ : L2.St} {ρ : Rho} (e : EnvR K G as σ ρ) (vs : List Nat) : EnvR K G as (L2.wipe σ vs) (wipeE ρ vs) := by
  refine ⟨by rw [wipe_length, wipeE_length, e.1], fun i y h => ?_⟩
  obtain ⟨h1, h2⟩ := wipeE_some h
  obtain ⟨v, h3, h4⟩ := e.2 i y h1
  exact ⟨v, by rw [wipe_out h2]; exact h3, h4⟩

/-- something new that will never change -/
theorem Rst.new {as : List Addr} {S : Sto} (r : Rst K G as S H) {p : Addr} (np : H p = none) (o : HO) : Rst K (upd G p o) as S (upd H p o) ∧ Ext G as H (upd G p o) as (upd H p o) ∧ (upd G p o) p = some o := by
  have gp : G p = none := r.same.free np
  have sg : Same G (upd G p o) := fun b u e => by rw [upd_ne (ne_of_none e gp)]; exact e
  refine ⟨⟨fun b u e => ?_, r.len, fun k a e => ?_, r.nd⟩, ⟨sg, List.prefix_refl _, fun b u e _ => ?_, fun b e => ?_, fun _ h => .inl h, fun b u e => ?_⟩, upd_same⟩
  · by_cases hb : b = p
    · subst hb; rw [upd_same] at e ⊢; exact e
    · rw [upd_ne hb] at e ⊢; exact r.same b u e
  · obtain ⟨l, xs, h1, h2, h3, h4⟩ := r.cl k a e
    have hap : a ≠ p := ne_of_none h2 np
    exact ⟨l, xs, h1, by rw [upd_ne hap]; exact h2, DaAll.mono sg _ _ h3, by rw [upd_ne hap]; exact h4⟩
  · rw [upd_ne (ne_of_none e np)]; exact e
  · by_cases hb : b = p
    · rw [hb]; exact np
    · rw [upd_ne hb] at e; exact e
  · by_cases hb : b = p
    · rw [hb]; exact .inr np
    · rw [upd_ne hb] at e; exact .inl e
/-- a new list that changes -/
theorem Rst.newCell {as : List Addr} {S : Sto} (r : Rst K G as S H) {p : Addr} (np : H p = none) {xs : List V} {l : List PyData} (d : DaAll K G xs l) :
    Rst K G (as ++ [p]) (S ++ [l]) (upd H p (.lst xs)) ∧ Ext G as H G (as ++ [p]) (upd H p (.lst xs)) ∧ (as ++ [p])[S.length]? = some p := by
  have gp : G p = none := r.same.free np
  have pn : p ∉ as := fun h => by
    obtain ⟨k, hk, e⟩ := List.getElem_of_mem h
    obtain ⟨l, xs, h1, h2, _, _⟩ := r.cl k p (by rw [List.getElem?_eq_getElem hk, e])
    rw [np] at h2; cases h2
  refine ⟨⟨fun b u e => ?_, by rw [List.length_append, List.length_append, r.len]; rfl, fun k a e => ?_, ?_⟩, ⟨Same.refl _, List.prefix_append _ _, fun b u e _ => ?_, fun b e => ?_, fun b hb => ?_, fun b u e => .inl e⟩, ?_⟩
  · rw [upd_ne (ne_of_none e gp)]; exact r.same b u e
  · by_cases hk : k < as.length
    · rw [List.getElem?_append_left hk] at e
      obtain ⟨l', xs', h1, h2, h3, h4⟩ := r.cl k a e
      have hap : a ≠ p := ne_of_none h2 np
      exact ⟨l', xs', by rw [List.getElem?_append_left (by rw [← r.len]; exact hk)]; exact h1, by rw [upd_ne hap]; exact h2, h3, h4⟩
    · have hk2 : k = as.length := by
        have := (List.getElem?_eq_some_iff.mp e).1
        rw [List.length_append, List.length_singleton] at this
        omega
      subst hk2
      rw [List.getElem?_append_right (Nat.le_refl _), Nat.sub_self] at e
      have e2 : p = a := by simpa using e
      subst e2
      exact ⟨l, xs, by rw [r.len, List.getElem?_append_right (Nat.le_refl _), Nat.sub_self]; rfl, upd_same, d, gp⟩
  · rw [List.nodup_append]
    exact ⟨r.nd, by simp, fun a ha b hb => by
      rw [List.mem_singleton] at hb
      subst hb
      exact fun e => pn (e ▸ ha)⟩
  · rw [upd_ne (ne_of_none e np)]; exact e
  · by_cases hb : b = p
    · rw [hb]; exact np
    · rw [upd_ne hb] at e; exact e
  · rcases List.mem_append.mp hb with h | h
    · exact .inl h
    · rw [List.mem_singleton] at h; rw [h]; exact .inr np
  · rw [← r.len, List.getElem?_append_right (Nat.le_refl _), Nat.sub_self]; rfl
/-- a list is changed -/
theorem Rst.write {as : List Addr} {S : Sto} (r : Rst K G as S H) {k : Nat} {a : Addr} (e : as[k]? = some a) {xs : List V} {l : List PyData} (d : DaAll K G xs l) :
    Rst K G as (S.set k l) (upd H a (.lst xs)) ∧ Ext G as H G as (upd H a (.lst xs)) := by
  obtain ⟨l0, xs0, h1, h2, h3, h4⟩ := r.cl k a e
  have ma : a ∈ as := List.mem_of_getElem? e
  have hk : k < S.length := (List.getElem?_eq_some_iff.mp h1).1
  refine ⟨⟨fun b u eb => ?_, by rw [List.length_set]; exact r.len, fun j b eb => ?_, r.nd⟩, ⟨Same.refl _, List.prefix_refl _, fun b u eb hb => ?_, fun b eb => ?_, fun _ h => .inl h, fun b u eb => .inl eb⟩⟩
  · rw [upd_ne (ne_of_none eb h4)]; exact r.same b u eb
  · by_cases hj : j = k
    · subst hj
      rw [e] at eb; cases eb
      exact ⟨l, xs, List.getElem?_set_self hk, upd_same, d, h4⟩
    · have hab : b ≠ a := fun z => hj (by subst z; exact nd_ix r.nd eb e)
      obtain ⟨l', xs', g1, g2, g3, g4⟩ := r.cl j b eb
      exact ⟨l', xs', by rw [List.getElem?_set_ne (Ne.symm hj)]; exact g1, by rw [upd_ne hab]; exact g2, g3, g4⟩
  · rw [upd_ne (show b ≠ a from fun z => hb (by rw [z]; exact ma))]; exact eb
  · by_cases hb : b = a
    · subst hb; rw [upd_same] at eb; cases eb
    · rw [upd_ne hb] at eb; exact eb
end
end Dw

set_option Elab.async false
set_option linter.all false
set_option maxRecDepth 100000
set_option maxHeartbeats 4000000
/-! The readings that the small language gives; what a def promises. -/
namespace Dw
open PySem PySem.Spec PyProof.Rows L2

/-- the program's data: its defs, its constants, its errors, how it is called -/
structure Pg where
  T : List Fd
  names : List String
  params : List (List String)
  C : List PyData
  cnames : List String
  excs : List (String × String)
  shapes : List (Nat × Nat × List String × List Nat × List Int)
  blts : List String

/-- where the errors' classes stand -/
structure Ew where
  cA : Nat → Addr
  cF : Nat → Str

section
variable (K : PySem.W.Frag) (w0 : Ew)
def FinG {α β : Type} (rel : Hp → List Addr → β → α → Prop) (W : WX) (σ : L2.St) (Q : β → Hp → Prop) (G : Hp) (as : List Addr) (H : Hp) : R α → Prop
  | .ok x S' => ∀ G' as' H' v, Ext G as H G' as' H' → Rst K G' as' S' H' → rel G' as' v x → Q v H'
  | .exc c d S' => ∀ G' as' H' dx v, Ext G as H G' as' H' → Rst K G' as' S' H' → H' dx = some (.xd [(w0.cF c, v)]) → Da K G' v d → W (.ref (w0.cA c)) (some dx) σ H'
  | .bad => False
def tG {α β : Type} (rel : Hp → List Addr → β → α → Prop) (W : WX) (f : Rho → Sto → R α) : L2.St → Hp → (β → Hp → Prop) → Prop := fun σ H Q =>
  ∃ G as S ρ, Rst K G as S H ∧ EnvR K G as σ ρ ∧ FinG K w0 rel W σ Q G as H (f ρ S)
def relB : Hp → List Addr → Bool → Val → Prop := fun _ _ b x => x = .dat (.bool b)
abbrev Ats (G : Hp) (as : List Addr) : List V → List Val → Prop := Paired (At K G as)
def relEq {α : Type} : Hp → List Addr → α → α → Prop := fun _ _ a b => a = b
abbrev tE (W : WX) (f : Rho → Sto → R Val) : TE := tG K w0 (At K) W f
abbrev tT (W : WX) (f : Rho → Sto → R Val) : TT := tG K w0 relB W f
abbrev tTB (W : WX) (f : Rho → Sto → R Bool) : TT := tG K w0 relEq W f
abbrev tA (W : WX) (f : Rho → Sto → R (List Val)) : TA := tG K w0 (Ats K) W f
def FinS (W : WX) (D : Ends) (G : Hp) (as : List Addr) (H : Hp) : SR → Prop
  | .nx ρ S' => ∀ G' as' H' σ', Ext G as H G' as' H' → Rst K G' as' S' H' → EnvR K G' as' σ' ρ → D.nx σ' H'
  | .rt x S' => ∀ G' as' H' v, Ext G as H G' as' H' → Rst K G' as' S' H' → At K G' as' v x → D.rt v H'
  | .bk ρ S' => ∀ G' as' H' σ', Ext G as H G' as' H' → Rst K G' as' S' H' → EnvR K G' as' σ' ρ → D.bk σ' H'
  | .ct ρ S' => ∀ G' as' H' σ', Ext G as H G' as' H' → Rst K G' as' S' H' → EnvR K G' as' σ' ρ → D.ct σ' H'
  | .exc c d ρ S' => ∀ G' as' H' σ' dx v, Ext G as H G' as' H' → Rst K G' as' S' H' → EnvR K G' as' σ' ρ → H' dx = some (.xd [(w0.cF c, v)]) → Da K G' v d → W (.ref (w0.cA c)) (some dx) σ' H'
  | .bad => False
def tSx (W : WX) (f : Rho → Sto → SR) : TS := fun D σ H => ∃ G as S ρ, Rst K G as S H ∧ EnvR K G as σ ρ ∧ FinS K w0 W D G as H (f ρ S)
/-- a def's promise -/
def spEv (f : List Val → Sto → R Val) : Sp := fun vs H Q E => ∃ G as S xs, Rst K G as S H ∧ Ats K G as vs xs ∧ FinG K w0 (At K) (fun c d _ H' => E c d H') [] Q G as H (f xs S)
end

section
variable {K : PySem.W.Frag} {w0 : Ew} {α β γ δ : Type} {rel : Hp → List Addr → β → α → Prop} {rel' : Hp → List Addr → δ → γ → Prop} {W : WX} {σ : L2.St} {Q : β → Hp → Prop} {G G' H H' : Hp} {as as' : List Addr}
theorem FinG.shift {r : R α} (h : FinG K w0 rel W σ Q G as H r) (x : Ext G as H G' as' H') : FinG K w0 rel W σ Q G' as' H' r := by
  cases r with
  | ok a S => exact fun G1 as1 H1 v e r at_ => h G1 as1 H1 v (x.trans e) r at_
  | exc c d S => exact fun G1 as1 H1 dx v e r h1 h2 => h G1 as1 H1 dx v (x.trans e) r h1 h2
  | bad => exact h.elim
theorem FinG.imp {Q' : β → Hp → Prop} {r : R α} (h : FinG K w0 rel W σ Q G as H r) (f : ∀ v H, Q v H → Q' v H) : FinG K w0 rel W σ Q' G as H r := by
  cases r with
  | ok a S => exact fun G1 as1 H1 v e r at_ => f _ _ (h G1 as1 H1 v e r at_)
  | exc c d S => exact h
  | bad => exact h
/-- what is known behind a part -/
def Step (K : PySem.W.Frag) (w0 : Ew) (rel : Hp → List Addr → β → α → Prop) (rel' : Hp → List Addr → δ → γ → Prop) (W : WX) (σ : L2.St) (Q : β → Hp → Prop) (G : Hp) (as : List Addr) (H : Hp) (g : γ → Sto → R α) (v : δ) (H1 : Hp) : Prop :=
  ∃ G1 as1 S1 x, Ext G as H G1 as1 H1 ∧ Rst K G1 as1 S1 H1 ∧ rel' G1 as1 v x ∧ FinG K w0 rel W σ Q G1 as1 H1 (g x S1)
theorem FinG.bind {r : R γ} {g : γ → Sto → R α} (h : FinG K w0 rel W σ Q G as H (r.bind g)) : FinG K w0 rel' W σ (Step K w0 rel rel' W σ Q G as H g) G as H r := by
  cases r with
  | ok a S => exact fun G1 as1 H1 v e r at_ => ⟨G1, as1, S, a, e, r, at_, FinG.shift h e⟩
  | exc c d S => exact h
  | bad => exact h
/-- the end of a part that makes something by itself -/
theorem FinG.now {x : α} {S : Sto} (h : FinG K w0 rel W σ Q G as H (.ok x S)) (x1 : Ext G as H G' as' H') (r : Rst K G' as' S H') {v : β} (a : rel G' as' v x) : Q v H' := h G' as' H' v x1 r a
end

section
variable {X : Cx} {e : Expr}
theorem PE.imp {t t' : TE} (h : PE X e t) (f : ∀ σ H Q, t' σ H Q → t σ H Q) : PE X e t' := ⟨fun pins s σ H Q I q => h.run pins s σ H Q I (f σ H Q q)⟩
theorem PT.imp {t t' : TT} (h : PT X e t) (f : ∀ σ H Q, t' σ H Q → t σ H Q) : PT X e t' := ⟨fun pins s σ H Q I q => h.run pins s σ H Q I (f σ H Q q)⟩
theorem PW.imp {t t' : TT} (h : PW X e t) (f : ∀ σ H Q, t' σ H Q → t σ H Q) : PW X e t' := ⟨fun wh pins s σ H Q I q => h.run wh pins s σ H Q I (f σ H Q q)⟩
theorem PA.imp {es : List Expr} {t t' : TA} (h : PA X es t) (f : ∀ σ H Q, t' σ H Q → t σ H Q) : PA X es t' := ⟨fun pos pins s σ H Q I q => h.run pos pins s σ H Q I (f σ H Q q)⟩
theorem PS.imp {st : Stmt} {t t' : TS} (h : PS X st t) (f : ∀ D σ H, t' D σ H → t D σ H) : PS X st t' := ⟨fun pins s σ H D I q => h.run pins s σ H D I (f D σ H q)⟩
theorem PSs.imp {st : List Stmt} {t t' : TS} (h : PSs X st t) (f : ∀ D σ H, t' D σ H → t D σ H) : PSs X st t' := ⟨fun pins s σ H D I q => h.run pins s σ H D I (f D σ H q)⟩
end

/-! ### a def's promise where nothing is being shown as text around it -/
structure FnG (P : Program) (w : World) (K : PySem.W.Frag) (mg : Str → Option Value) (base : Heap) (lvl : Nat) (fa : Addr) (fd : FuncData) (ps : List Str) (sp : Sp) : Prop where
  arity : ∀ vs H Q E, sp vs H Q E → vs.length = ps.length
  runs : ∀ (A : Around) (outer : List PySem.Env) (s : Shared) (H : Hp) (args : Args) (us : List Value) (vs : List V) (Q : VK) (E : XK), Room lvl A → A.guards = some [] → Env0 P w K mg base A outer s H → BindsTo s fd args (ps.zip us) →
    Vals vs us → sp vs H Q E → codeAny (model P w) A (.call (.ref fa) args) (CR (L2.CX P w) outer P w H s Q E) s
theorem FnG.lift {P : Program} {w : World} {K : PySem.W.Frag} {mg : Str → Option Value} {base : Heap} {j k : Nat} {fa : Addr} {fd : FuncData} {ps : List Str} {sp : Sp} (F : FnG P w K mg base j fa fd ps sp) (h : j ≤ k) : FnG P w K mg base k fa fd ps sp :=
  ⟨F.arity, fun A outer s H args us vs Q E hr => F.runs A outer s H args us vs Q E (hr.mono h)⟩
/-- how a call's written arguments, the keywords' and the defaults' values come to the parameters -/
structure ShapeOk (K : PySem.W.Frag) (fd : FuncData) (ps : List Str) (nu : Nat) (ks : List Str) (perm : List Nat) (dfl : List Int) : Prop where
  ex : ∃ ds : List Value, Vals (dfl.map V.int) ds ∧ ∀ (s : Shared) (us ws : List Value), K.In s.heap → us.length = nu → ws.length = ks.length → (perm.filterMap fun i => (us ++ ws ++ ds)[i]?).length = ps.length →
    BindsTo s fd ⟨us, ks.zip ws⟩ (ps.zip (perm.filterMap fun i => (us ++ ws ++ ds)[i]?))
theorem vals_perm {vs : List V} {us : List Value} (r : Vals vs us) : ∀ perm : List Nat, Vals (perm.filterMap fun i => vs[i]?) (perm.filterMap fun i => us[i]?)
  | [] => .nil
  | i :: p => by
    have ih := vals_perm r p
    rw [List.filterMap_cons, List.filterMap_cons]
    cases h : vs[i]? with
    | none => rw [r.none_of h]; exact ih
    | some v =>
      obtain ⟨u, h1, h2⟩ := r.get h
      rw [h1]
      exact .cons h2 ih

section
variable {X : Cx} {lvl : Nat} {fa : Addr} {fd : FuncData} {ps ks : List Str} {sp : Sp} {E : L2.St → XK} {x : Str} {p pos : Pos} {e : Expr} {es : List Expr} {t tk : TA} {perm : List Nat} {dfl : List Int} {nu : Nat} {kws : List Keyword}
theorem passAt' {W : WX} (tk : Takes X W) (σ : L2.St) : PassesAt (L2.CX X.prog X.w) X σ (fun c d H => W c d σ H) := passAt tk σ
theorem run_any {pins : List (Addr × Obj)} {σ : L2.St} {H : Hp} {s : Shared} {Q : VK} {us ws : List Value} {vs zs : List V} {E : XK} (F : FnG X.prog X.w X.K X.mg X.base lvl fa fd ps sp) (hr : Room lvl X.A) (hg : X.A.guards = some [])
    (sh : ShapeOk X.K fd ps nu ks perm dfl) (hx : PassesAt (L2.CX X.prog X.w) X σ E) (I : Inv X pins σ H s) (r : Vals vs us) (rz : Vals zs ws) (hu : vs.length = nu) (hz : zs.length = ks.length)
    (h : sp (perm.filterMap fun i => (vs ++ zs ++ dfl.map V.int)[i]?) H Q E) : wpAny (model X.prog X.w) X.A (call (.ref fa) us (ks.zip ws)) (EP X pins σ Q) X.xe s := by
  obtain ⟨ds, rd, hb⟩ := sh.ex
  have rall := vals_perm ((r.append rz).append rd) perm
  have hl := rall.length.symm.trans (F.arity _ _ _ _ h)
  refine wpAny_call (codeAny_mono (F.runs X.A X.stack s H _ _ _ Q E hr hg I.env0 (hb s us ws I.kIn (by rw [← r.length]; exact hu) (by rw [← rz.length]; exact hz) hl) rall h) fun o s' hq => ?_)
  match o, hq with
  | .error er, hq => exact hx pins H s er s' I hq
  | .ok (.ret u), hq => exact I.after hq
  | .ok .next, hq => exact hq.elim
  | .ok .brk, hq => exact hq.elim
  | .ok .cont, hq => exact hq.elim
def tCallG (sp : Sp) (perm : List Nat) (dfl : List Int) (nu nk : Nat) (E : L2.St → XK) (t tk : TA) : TE := fun σ H Q => t σ H fun vs H1 => tk σ H1 fun zs H2 => vs.length = nu ∧ zs.length = nk ∧ sp (perm.filterMap fun i => (vs ++ zs ++ dfl.map V.int)[i]?) H2 Q (E σ)
theorem pe_callG {e0 : Expr} (F : FnG X.prog X.w X.K X.mg X.base lvl fa fd ps sp) (hr : Room lvl X.A) (hgd : X.A.guards = some []) (hg : Gl X x) (hm : X.mg x = some (.ref fa)) (hk : PySem.W.keepIn X.K (.ref fa) = true) (sh : ShapeOk X.K fd ps nu ks perm dfl)
    (hx : ∀ σ, PassesAt (L2.CX X.prog X.w) X σ (E σ)) (ha : PA X (e0 :: es) t) (hkw : PK X kws tk) (hall : (backToKw pos (keywordEach kws X.env)).all (·.1.isSome) = true) (hks : (backToKw pos (keywordEach kws X.env)).filterMap (·.1) = ks)
    (he : starEach (e0 :: es) X.env = (false, eval e0 X.env) :: starEach es X.env)
    (hpl : ((backTo pos (starEach (e0 :: es) X.env)).any (·.1) || (backToKw pos (keywordEach kws X.env)).any (·.1.isNone)) = false) (hdb : (x == ("__debug__" : Str)) = false) :
    PE X (.Call (.Name x p) (e0 :: es) kws pos) (tCallG sp perm dfl nu ks.length E t tk) := by
  refine ⟨fun pins s σ H Q I h => ?_⟩
  refine wpAny_Call_Name_kw (ld_glob I hg hm ?_ hdb)
  refine PySem.W.callWith_KW (h₀ := X.base) I.ok.mod.kin hk hall (thn (ha.run pos pins s σ H _ I h) fun us s1 ⟨vs, H1, I1, r, q⟩ => ?_) hpl he
  refine thn (hkw.run pos pins s1 σ H1 _ I1 q) fun ws s2 ⟨zs, H2, I2, rz, hu, hz, q2⟩ => ⟨I2.kIn, ?_⟩
  rw [hks]
  exact run_any F hr hgd sh (hx σ) I2 r rz hu hz q2
theorem pe_callG0 (F : FnG X.prog X.w X.K X.mg X.base lvl fa fd ps sp) (hr : Room lvl X.A) (hgd : X.A.guards = some []) (hg : Gl X x) (hm : X.mg x = some (.ref fa)) (hk : PySem.W.keepIn X.K (.ref fa) = true) (sh : ShapeOk X.K fd ps nu ks perm dfl)
    (hx : ∀ σ, PassesAt (L2.CX X.prog X.w) X σ (E σ)) (hkw : PK X kws tk) (hall : (backToKw pos (keywordEach kws X.env)).all (·.1.isSome) = true) (hks : (backToKw pos (keywordEach kws X.env)).filterMap (·.1) = ks)
    (hpl : ((backTo pos (starEach [] X.env)).any (·.1) || (backToKw pos (keywordEach kws X.env)).any (·.1.isNone)) = false) (hdb : (x == ("__debug__" : Str)) = false) :
    PE X (.Call (.Name x p) [] kws pos) (tCallG sp perm dfl nu ks.length E tNil tk) := by
  refine ⟨fun pins s σ H Q I h => ?_⟩
  refine wpAny_Call_Name_kw (ld_glob I hg hm ?_ hdb)
  refine PySem.W.callWith_KW0 (h₀ := X.base) I.ok.mod.kin hk hall (thn (hkw.run pos pins s σ H _ I h) fun ws s2 ⟨zs, H2, I2, rz, hu, hz, q2⟩ => ⟨I2.kIn, ?_⟩) hpl
  rw [hks]
  exact run_any F hr hgd sh (hx σ) I2 .nil rz hu hz q2
end

section
variable {P : Program} {w : World} {K : PySem.W.Frag} {mg : Str → Option Value} {base : Heap}
/-- the rule for a def: its body, then its promise -/
theorem fn_ofG {k : Nat} {f : Addr} {name qual : Str} {params : Arguments} {body : List Stmt} {scope : Scope} {dV kV doc pm cdv ct oc : Value} {an od : Option Addr} {osl : Array (Option Value)} {N ps : List Str} {sp : Sp}
    (lk : K.lookup f = some ⟨oc, od, .func (PySem.W.fnOf name qual params body scope dV kV doc pm an cdv ct), osl⟩) (hcd : PySem.W.codeIn K cdv qual = true) (Sc : FnScope N ps scope) (ar : ∀ vs H Q E, sp vs H Q E → vs.length = ps.length)
    (hbody : ∀ (A : Around) (outer : List PySem.Env) (s : Shared) (H : Hp) (vs : List V) (Q : VK) (E : XK), Room k (A.deeper (envOfC qual scope s.heap.objs.size f cdv)) → A.guards = some [] → sp vs H Q E →
      ∃ t, PSs (cxOf (L2.CX P w) P w K mg base N qual scope f cdv A outer s H E) body t ∧ t { nx := fun _ H' => Q .non H', rt := Q } (start N vs) H) :
    FnG P w K mg base (k + 1) f (PySem.W.fnOf name qual params body scope dV kV doc pm an cdv ct) ps sp := by
  refine ⟨ar, fun A outer s H args us vs Q E hr hgd e0 hb r hsp => ?_⟩
  have har := ar _ _ _ _ hsp
  have kin : K.In s.heap := e0.mod.kin.keeps fun b o e => (e0.bs b o e).1
  have nlim : s.heap.NoLimit := e0.mod.nolimit.keeps fun b o e => (e0.bs b o e).1
  have kinds : ∀ y ∈ ps.zip us, scope.names.lookup y.1 = some .local ∨ (scope.names.lookup y.1 = some .cell ∧ ((cellsFrom (s.heap.objs.size + 1) scope.names []).lookup y.1).isSome = true) := fun ⟨n, v⟩ hy =>
    (Sc.par n (List.of_mem_zip hy).1).elim .inl fun q => .inr ⟨q, PySem.W.cellsFrom_some _ _ _ (.inl q)⟩
  refine codeAny_call_function hr.depth (kin _ _ lk) rfl Sc.co Sc.gen rfl (PySem.W.codeRec_of kin hcd) (hb _ _ _ _ ?_)
  refine wpAny_newFunctionEnv_cells Sc.kind kinds fun env he s1 x => ?_
  subst he
  refine ⟨nlim.keeps x.toInCall.keep, codeAny_func ?_⟩
  obtain ⟨t, ht, hq⟩ := hbody A outer s H vs Q E (hr.deeper _) hgd hsp
  have I0 : Inv (cxOf (L2.CX P w) P w K mg base N qual scope f cdv A outer s H E) [] (start N vs) H s1 := inv_start Sc hr.hd e0 har r x
  refine wpAny_mono (ht.run [] s1 (start N vs) H _ I0 hq) (fun fl s' hs => ?_) fun e s' hs => hs
  match fl, hs with
  | .ret u, ⟨v, σ', H', J, rv, q⟩ => exact ⟨v, H', J.os, J.bare, J.base, J.hok, rv, q⟩
  | .next, ⟨σ', H', J, q⟩ => exact ⟨V.non, H', J.os, J.bare, J.base, J.hok, rfl, q⟩
  | .brk, ⟨_, _, _, q⟩ => exact q.elim
  | .cont, ⟨_, _, _, q⟩ => exact q.elim
end
end Dw

set_option Elab.async false
set_option linter.all false
set_option maxRecDepth 100000
set_option maxHeartbeats 4000000
/-! Operators, built-ins: what they do with data. -/
namespace Dw
open PySem PySem.Spec PyProof.Rows L2

section
variable {K : PySem.W.Frag} {w0 : Ew} {G H : Hp} {as : List Addr} {S : Sto} {W : WX} {σ0 : L2.St} {Q : VK} {v : V}
theorem LINE_eq : LINE = sizeLine := by rw [sizeLine_eq]; rfl
/-- a list that may be read; anything else -/
def Rr (K : PySem.W.Frag) (G H : Hp) (v : V) : PyData → Prop
  | .list l => ∃ p xs, v = .ref p ∧ SqL K H p xs ∧ DaAll K G xs l
  | d => Da K G v d
def Rb (K : PySem.W.Frag) (G H : Hp) (v : V) : PyData → Prop
  | .list l => ∃ p xs, v = .ref p ∧ H p = some (.lst xs) ∧ DaAll K G xs l
  | d => Da K G v d
theorem Rr.of_da (r : Rst K G as S H) : ∀ {d : PyData}, Da K G v d → Rr K G H v d
  | .none, h => h
  | .bool _, h => h
  | .int _, h => h
  | .str _, h => h
  | .tuple _, h => h
  | .dict _, h => h
  | .list l, h => by
    cases h with
    | lst e a => exact ⟨_, _, rfl, SqL.of (r.same _ _ e), a⟩
theorem Rb.of_da (r : Rst K G as S H) : ∀ {d : PyData}, Da K G v d → Rb K G H v d
  | .none, h => h
  | .bool _, h => h
  | .int _, h => h
  | .str _, h => h
  | .tuple _, h => h
  | .dict _, h => h
  | .list l, h => by
    cases h with
    | lst e a => exact ⟨_, _, rfl, r.same _ _ e, a⟩
theorem cell_at (r : Rst K G as S H) {k : Nat} {d : PyData} (a : At K G as v (.cell k)) (e : (S[k]?).map PyData.list = some d) : ∃ p xs l, d = .list l ∧ v = .ref p ∧ H p = some (.lst xs) ∧ DaAll K G xs l ∧ S[k]? = some l ∧ as[k]? = some p := by
  obtain ⟨p, rfl, ep⟩ := a
  obtain ⟨l, xs, h1, h2, h3, h4⟩ := r.cl k p ep
  rw [h1] at e
  cases e
  exact ⟨p, xs, l, rfl, rfl, h2, h3, h1, ep⟩
theorem rr_of (r : Rst K G as S H) {x : Val} {d : PyData} (a : At K G as v x) (e : deref S x = some d) : Rr K G H v d := by
  cases x with
  | dat d' => cases e; exact Rr.of_da r a
  | cell k =>
    obtain ⟨p, xs, l, rfl, rfl, h1, h2, _, _⟩ := cell_at r a e
    exact ⟨p, xs, rfl, SqL.of h1, h2⟩
  | cells ks => cases e
  | scr l =>
    cases e
    obtain ⟨p, xs, rfl, h1, h2⟩ := a
    exact ⟨p, xs, rfl, r.same.seq h1, h2⟩
  | fn f => cases e
theorem rb_of (r : Rst K G as S H) {x : Val} {d : PyData} (a : At K G as v x) (e : derefB S x = some d) : Rb K G H v d := by
  cases x with
  | dat d' => cases e; exact Rb.of_da r a
  | cell k =>
    obtain ⟨p, xs, l, rfl, rfl, h1, h2, _, _⟩ := cell_at r a e
    exact ⟨p, xs, rfl, h1, h2⟩
  | cells ks => cases e
  | scr l => cases e
  | fn f => cases e
theorem Rr.dp (r : Rst K G as S H) : ∀ {d : PyData}, Rr K G H v d → Dp K H v d
  | .none, h => Da.dp r.same _ _ h
  | .bool _, h => Da.dp r.same _ _ h
  | .int _, h => Da.dp r.same _ _ h
  | .str _, h => Da.dp r.same _ _ h
  | .tuple _, h => Da.dp r.same _ _ h
  | .dict _, h => Da.dp r.same _ _ h
  | .list l, ⟨p, xs, e, h1, h2⟩ => by rw [e]; exact .lst h1 (DaAll.dp r.same _ _ h2)
theorem Rr.dpAll (r : Rst K G as S H) : ∀ {ds : List PyData} {vs : List V}, Paired (fun v d => Rr K G H v d) vs ds → DpAll K H vs ds
  | _, _, .nil => .nil
  | _, _, .cons a b => .cons (Rr.dp r a) (Rr.dpAll r b)
/-- a new tuple, a new list -/
theorem new_tup (r : Rst K G as S H) {ds : List PyData} (h : FinG K w0 (At K) W σ0 Q G as H (.ok (.dat (.tuple ds)) S)) {xs : List V} (a : DaAll K G xs ds) : ∀ p, H p = none → Q (.ref p) (upd H p (.tup xs)) := fun p np => by
  obtain ⟨r', x, e⟩ := r.new np (.tup xs)
  exact h.now x r' (v := .ref p) (show Da K _ _ _ from .tup (SqT.of e) (DaAll.mono x.g _ _ a))
theorem new_lst (r : Rst K G as S H) {ds : List PyData} (h : FinG K w0 (At K) W σ0 Q G as H (.ok (.dat (.list ds)) S)) {xs : List V} (a : DaAll K G xs ds) : ∀ p, H p = none → Q (.ref p) (upd H p (.lst xs)) := fun p np => by
  obtain ⟨r', x, e⟩ := r.new np (.lst xs)
  exact h.now x r' (v := .ref p) (show Da K _ _ _ from .lst e (DaAll.mono x.g _ _ a))
theorem same_val (r : Rst K G as S H) {d : PyData} (h : FinG K w0 (At K) W σ0 Q G as H (.ok (.dat d) S)) (a : Da K G v d) : Q v H := h.now Ext.refl r a
end

/-! ### binary operators -/
def opC : Operator → Bop → Bool
  | .Add, .add => true
  | .Sub, .sub => true
  | .Mult, .mul => true
  | .FloorDiv, .fdiv => true
  | .Mod, .mod => true
  | .Pow, .pow => true
  | _, _ => false

def rBin (K : PySem.W.Frag) (w0 : Ew) (op : Bop) : R2 := fun x y H Q => ∃ G as S a b W σ, Rst K G as S H ∧ At K G as x a ∧ At K G as y b ∧ FinG K w0 (At K) W σ Q G as H (binR op a b S)
theorem fin_bin {K : PySem.W.Frag} {w0 : Ew} {G H : Hp} {as : List Addr} {S : Sto} {W : WX} {σ0 : L2.St} {Q : VK} {op : Bop} {a b : Val} (h : FinG K w0 (At K) W σ0 Q G as H (binR op a b S)) :
    ∃ x y d, derefB S a = some x ∧ derefB S b = some y ∧ binD op x y = some d ∧ FinG K w0 (At K) W σ0 Q G as H (.ok (.dat d) S) := by
  unfold binR at h
  cases h1 : derefB S a with
  | none => rw [h1] at h; exact h.elim
  | some x =>
    cases h2 : derefB S b with
    | none => rw [h1, h2] at h; exact h.elim
    | some y =>
      rw [h1, h2] at h
      cases h3 : binD op x y with
      | none => simp only [h3] at h; exact h.elim
      | some d => simp only [h3] at h; exact ⟨x, y, d, rfl, rfl, h3, h⟩
section
variable {x y d : PyData}
theorem binD_add (h : binD .add x y = some d) : (∃ a b, x = .int a ∧ y = .int b ∧ d = .int (a + b)) ∨ (∃ a b, x = .str a ∧ y = .str b ∧ a.length + b.length ≤ LINE ∧ d = .str (a ++ b)) ∨
    (∃ a b, x = .list a ∧ y = .list b ∧ a.length + b.length ≤ LINE ∧ d = .list (a ++ b)) ∨ (∃ a b, x = .tuple a ∧ y = .tuple b ∧ a.length + b.length ≤ LINE ∧ d = .tuple (a ++ b)) := by
  cases x <;> cases y <;> simp only [binD, reduceCtorEq] at h
  · cases h; exact .inl ⟨_, _, rfl, rfl, rfl⟩
  · split at h
    · cases h; exact .inr (.inl ⟨_, _, rfl, rfl, by assumption, rfl⟩)
    · cases h
  · split at h
    · cases h; exact .inr (.inr (.inl ⟨_, _, rfl, rfl, by assumption, rfl⟩))
    · cases h
  · split at h
    · cases h; exact .inr (.inr (.inr ⟨_, _, rfl, rfl, by assumption, rfl⟩))
    · cases h
theorem binD_sub (h : binD .sub x y = some d) : ∃ a b, x = .int a ∧ y = .int b ∧ d = .int (a - b) := by
  cases x <;> cases y <;> simp only [binD, reduceCtorEq] at h
  cases h; exact ⟨_, _, rfl, rfl, rfl⟩
theorem binD_mul (h : binD .mul x y = some d) : (∃ a b, x = .int a ∧ y = .int b ∧ mulOk a b = true ∧ d = .int (a * b)) ∨
    (∃ l k, x = .tuple l ∧ y = .int k ∧ (0 < l.length ∧ l.length ≤ 1000 ∧ 2 ≤ k ∧ k ≤ 1000) ∧ d = .tuple (List.replicate k.toNat l).flatten) := by
  cases x <;> cases y <;> simp only [binD, reduceCtorEq] at h
  · split at h
    · cases h; exact .inl ⟨_, _, rfl, rfl, by assumption, rfl⟩
    · cases h
  · split at h
    · cases h; exact .inr ⟨_, _, rfl, rfl, by assumption, rfl⟩
    · cases h
theorem binD_fdiv (h : binD .fdiv x y = some d) : ∃ a b, x = .int a ∧ y = .int b ∧ (0 < b ∧ b < 1073741824) ∧ d = .int (a / b) := by
  cases x <;> cases y <;> simp only [binD, reduceCtorEq] at h
  split at h
  · cases h; exact ⟨_, _, rfl, rfl, by assumption, rfl⟩
  · cases h
theorem binD_mod (h : binD .mod x y = some d) : ∃ a b, x = .int a ∧ y = .int b ∧ 0 < b ∧ d = .int (a % b) := by
  cases x <;> cases y <;> simp only [binD, reduceCtorEq] at h
  split at h
  · cases h; exact ⟨_, _, rfl, rfl, by assumption, rfl⟩
  · cases h
theorem binD_pow (h : binD .pow x y = some d) : ∃ a b, x = .int a ∧ y = .int b ∧ (0 ≤ b ∧ b ≤ 1000 ∧ a.natAbs < 1000) ∧ d = .int (a ^ b.toNat) := by
  cases x <;> cases y <;> simp only [binD, reduceCtorEq] at h
  split at h
  · cases h; exact ⟨_, _, rfl, rfl, by assumption, rfl⟩
  · cases h
end
section
variable {X : Cx} {w0 : Ew}
theorem op_bin {o : Operator} {op : Bop} (h : opC o op = true) : OpR X (binaryOp o) (rBin X.K w0 op) := by
  intro pins s σ H v1 v2 u1 u2 Q I r1 r2 ⟨G, as, S, a, b, W, σ', rst, a1, a2, f⟩
  obtain ⟨x, y, d, h1, h2, h3, f⟩ := fin_bin f
  have b1 := rb_of rst a1 h1
  have b2 := rb_of rst a2 h2
  cases op with
  | add =>
    cases o <;> first | exact absurd h (by decide) | skip
    rcases binD_add h3 with ⟨i, j, rfl, rfl, rfl⟩ | ⟨i, j, rfl, rfl, z, rfl⟩ | ⟨l, m, rfl, rfl, z, rfl⟩ | ⟨l, m, rfl, rfl, z, rfl⟩
    · cases b1; cases b2
      exact op_add pins s σ H _ _ u1 u2 Q I r1 r2 ⟨_, _, rfl, rfl, same_val rst f (.int _)⟩
    · cases b1; cases b2
      exact op_add_str pins s σ H _ _ u1 u2 Q I r1 r2 ⟨_, _, rfl, rfl, by rw [← LINE_eq]; exact z, same_val rst f (.str _)⟩
    · obtain ⟨p, xs, rfl, e1, d1⟩ := b1
      obtain ⟨q, ys, rfl, e2, d2⟩ := b2
      exact op_cat pins s σ H _ _ u1 u2 Q I r1 r2 ⟨_, _, _, _, rfl, rfl, e1, e2, by rw [d1.length, d2.length, ← LINE_eq]; exact z, new_lst rst f (d1.append d2)⟩
    · cases b1 with
      | tup e1 d1 =>
        cases b2 with
        | tup e2 d2 =>
          rename_i p xs q ys
          refine op_catA pins s σ H _ _ u1 u2 Q I r1 r2 ⟨_, _, _, _, rfl, rfl, Same.seqT rst.same e1, Same.seqT rst.same e2, by rw [d1.length, d2.length, ← LINE_eq]; exact z, fun e => ?_, fun _ e => ?_, fun _ _ => new_tup rst f (d1.append d2)⟩
          · subst e
            cases d1
            exact same_val rst f (.tup e2 d2)
          · subst e
            cases d2
            rw [List.append_nil] at f
            exact same_val rst f (.tup e1 d1)
  | sub =>
    cases o <;> first | exact absurd h (by decide) | skip
    obtain ⟨i, j, rfl, rfl, rfl⟩ := binD_sub h3
    cases b1; cases b2
    exact op_sub pins s σ H _ _ u1 u2 Q I r1 r2 ⟨_, _, rfl, rfl, same_val rst f (.int _)⟩
  | mul =>
    cases o <;> first | exact absurd h (by decide) | skip
    rcases binD_mul h3 with ⟨i, j, rfl, rfl, z, rfl⟩ | ⟨l, k, rfl, rfl, z, rfl⟩
    · cases b1; cases b2
      exact op_mulW pins s σ H _ _ u1 u2 Q I r1 r2 ⟨_, _, rfl, rfl, (show i.natAbs.log2 + j.natAbs.log2 < 1000000 from of_decide_eq_true z), same_val rst f (.int _)⟩
    · cases b2
      cases b1 with
      | tup e1 d1 =>
        rename_i p xs
        exact op_repT pins s σ H _ _ u1 u2 Q I r1 r2 ⟨_, _, _, rfl, rfl, Same.seqT rst.same e1, fun e => by
          have := d1.length
          rw [e, List.length_nil] at this
          omega, z.2.2.1, z.2.2.2, by rw [d1.length]; exact z.2.1, new_tup rst f (d1.rep _)⟩
  | fdiv =>
    cases o <;> first | exact absurd h (by decide) | skip
    obtain ⟨i, j, rfl, rfl, z, rfl⟩ := binD_fdiv h3
    cases b1; cases b2
    exact op_fdiv pins s σ H _ _ u1 u2 Q I r1 r2 ⟨_, _, rfl, rfl, z, same_val rst f (.int _)⟩
  | mod =>
    cases o <;> first | exact absurd h (by decide) | skip
    obtain ⟨i, j, rfl, rfl, z, rfl⟩ := binD_mod h3
    cases b1; cases b2
    exact op_mod pins s σ H _ _ u1 u2 Q I r1 r2 ⟨_, _, rfl, rfl, z, same_val rst f (.int _)⟩
  | pow =>
    cases o <;> first | exact absurd h (by decide) | skip
    obtain ⟨i, j, rfl, rfl, z, rfl⟩ := binD_pow h3
    cases b1; cases b2
    exact op_pow pins s σ H _ _ u1 u2 Q I r1 r2 ⟨_, _, rfl, rfl, ⟨z.1, by omega, by have := z.2.2; omega⟩, same_val rst f (.int _)⟩
end
end Dw

set_option Elab.async false
set_option linter.all false
set_option maxRecDepth 100000
set_option maxHeartbeats 4000000
/-! Comparisons, subscripts, slices, built-in functions. -/
namespace Dw
open PySem PySem.Spec PyProof.Rows L2

def cmpC : CmpOp → Cop → Bool
  | .Eq, .eq => true
  | .NotEq, .ne => true
  | .Lt, .lt => true
  | .LtE, .le => true
  | .Gt, .gt => true
  | .GtE, .ge => true
  | _, _ => false

def rCmp (K : PySem.W.Frag) (w0 : Ew) (op : Cop) : R2 := fun x y H Q => ∃ G as S a b W σ, Rst K G as S H ∧ At K G as x a ∧ At K G as y b ∧ FinG K w0 (At K) W σ Q G as H (cmpR op a b S)
theorem fin_cmp {K : PySem.W.Frag} {w0 : Ew} {G H : Hp} {as : List Addr} {S : Sto} {W : WX} {σ0 : L2.St} {Q : VK} {op : Cop} {a b : Val} (h : FinG K w0 (At K) W σ0 Q G as H (cmpR op a b S)) :
    ∃ x y c, deref S a = some x ∧ deref S b = some y ∧ cmpD op x y = some c ∧ FinG K w0 (At K) W σ0 Q G as H (.ok (.dat (.bool c)) S) := by
  unfold cmpR at h
  cases h1 : deref S a with
  | none => rw [h1] at h; exact h.elim
  | some x =>
    cases h2 : deref S b with
    | none => rw [h1, h2] at h; exact h.elim
    | some y =>
      rw [h1, h2] at h
      cases h3 : cmpD op x y with
      | none => simp only [h3] at h; exact h.elim
      | some d => simp only [h3] at h; exact ⟨x, y, d, rfl, rfl, h3, h⟩
section
variable {x y : PyData} {c : Bool}
theorem eqD_some (h : eqD x y = some c) : (∃ a b, x = .int a ∧ y = .int b ∧ c = (a == b)) ∨ (∃ a b, x = .str a ∧ y = .str b ∧ c = decide (a = b)) ∨ (∃ a b, x = .bool a ∧ y = .bool b ∧ c = (a == b)) ∨
    (SeqAt.shaped x = true ∧ SeqAt.shaped y = true ∧ c = PyData.eqv x y) := by
  unfold eqD at h
  split at h
  · cases h; exact .inl ⟨_, _, rfl, rfl, rfl⟩
  · cases h; exact .inr (.inl ⟨_, _, rfl, rfl, rfl⟩)
  · cases h; exact .inr (.inr (.inl ⟨_, _, rfl, rfl, rfl⟩))
  · split at h
    · cases h; exact .inr (.inr (.inr ⟨by simp_all, by simp_all, rfl⟩))
    · cases h
theorem cmpD_int {op : Cop} (ho : op = .lt ∨ op = .le ∨ op = .gt ∨ op = .ge) (h : cmpD op x y = some c) : ∃ a b, x = .int a ∧ y = .int b := by
  rcases ho with rfl | rfl | rfl | rfl <;> cases x <;> cases y <;> simp only [cmpD, reduceCtorEq] at h <;> exact ⟨_, _, rfl, rfl⟩
end
theorem dec_str {a b : Str} : decide (V.str a = V.str b) = decide (a = b) := by
  rw [Bool.eq_iff_iff]
  simp
section
variable {X : Cx} {w0 : Ew}
theorem op_cmp (hu : X.A.units + 64 < cLine) {o : CmpOp} {op : Cop} (h : cmpC o op = true) : OpR X (compareOp o) (rCmp X.K w0 op) := by
  intro pins s σ H v1 v2 u1 u2 Q I r1 r2 ⟨G, as, S, a, b, W, σ', rst, a1, a2, f⟩
  obtain ⟨x, y, c, h1, h2, h3, f⟩ := fin_cmp f
  have b1 := rr_of rst a1 h1
  have b2 := rr_of rst a2 h2
  have fin : Q (.bl c) H := same_val rst f (.bl c)
  have eqq : ∀ {c'}, eqD x y = some c' → Q (.bl c') H → wpAny (model X.prog X.w) X.A (compareOp .Eq u1 u2) (EP X pins σ Q) X.xe s := fun {c'} e q => by
    rcases eqD_some e with ⟨i, j, rfl, rfl, rfl⟩ | ⟨i, j, rfl, rfl, rfl⟩ | ⟨i, j, rfl, rfl, rfl⟩ | ⟨s1, s2, rfl⟩
    · cases b1; cases b2
      exact op_eq pins s σ H _ _ u1 u2 Q I r1 r2 ⟨rfl, by rw [dec_int]; exact q⟩
    · cases b1; cases b2
      exact op_eq pins s σ H _ _ u1 u2 Q I r1 r2 ⟨rfl, by rw [dec_str]; exact q⟩
    · cases b1; cases b2
      exact op_eq pins s σ H _ _ u1 u2 Q I r1 r2 ⟨rfl, by rw [dec_bl]; exact q⟩
    · exact op_eqD hu pins s σ H _ _ u1 u2 Q I r1 r2 ⟨x, y, b1.dp rst, b2.dp rst, s1, s2, q⟩
  have neq : ∀ {c'}, eqD x y = some c' → Q (.bl (!c')) H → wpAny (model X.prog X.w) X.A (compareOp .NotEq u1 u2) (EP X pins σ Q) X.xe s := fun {c'} e q => by
    rcases eqD_some e with ⟨i, j, rfl, rfl, rfl⟩ | ⟨i, j, rfl, rfl, rfl⟩ | ⟨i, j, rfl, rfl, rfl⟩ | ⟨s1, s2, rfl⟩
    · cases b1; cases b2
      exact op_ne pins s σ H _ _ u1 u2 Q I r1 r2 ⟨rfl, by rw [dec_int]; exact q⟩
    · cases b1; cases b2
      exact op_ne pins s σ H _ _ u1 u2 Q I r1 r2 ⟨rfl, by rw [dec_str]; exact q⟩
    · cases b1; cases b2
      exact op_ne pins s σ H _ _ u1 u2 Q I r1 r2 ⟨rfl, by rw [dec_bl]; exact q⟩
    · exact op_neD hu pins s σ H _ _ u1 u2 Q I r1 r2 ⟨x, y, b1.dp rst, b2.dp rst, s1, s2, q⟩
  cases op <;> cases o <;> first | exact absurd h (by decide) | skip
  · exact eqq h3 fin
  · have h3 : (eqD x y).map (!·) = some c := h3
    cases e : eqD x y with
    | none => rw [e] at h3; cases h3
    | some c' =>
      rw [e] at h3
      cases h3
      exact neq e fin
  · obtain ⟨i, j, rfl, rfl⟩ := cmpD_int (.inl rfl) h3
    cases h3; cases b1; cases b2
    exact op_lt pins s σ H _ _ u1 u2 Q I r1 r2 ⟨_, _, rfl, rfl, fin⟩
  · obtain ⟨i, j, rfl, rfl⟩ := cmpD_int (.inr (.inl rfl)) h3
    cases h3; cases b1; cases b2
    exact op_le pins s σ H _ _ u1 u2 Q I r1 r2 ⟨_, _, rfl, rfl, fin⟩
  · obtain ⟨i, j, rfl, rfl⟩ := cmpD_int (.inr (.inr (.inl rfl))) h3
    cases h3; cases b1; cases b2
    exact op_gt pins s σ H _ _ u1 u2 Q I r1 r2 ⟨_, _, rfl, rfl, fin⟩
  · obtain ⟨i, j, rfl, rfl⟩ := cmpD_int (.inr (.inr (.inr rfl))) h3
    cases h3; cases b1; cases b2
    exact op_ge pins s σ H _ _ u1 u2 Q I r1 r2 ⟨_, _, rfl, rfl, fin⟩
end

/-! ### subscripts -/
theorem nth_atI {α : Type} (l : List α) (i : Int) (x : α) (h : nth l i = some x) : atI l i = some x := by
  unfold nth at h
  unfold atI ixN
  by_cases h0 : 0 ≤ i
  · rw [if_pos h0] at h ⊢
    have hl := (List.getElem?_eq_some_iff.mp h).1
    rw [if_pos (by omega)]
    exact h
  · rw [if_neg h0] at h ⊢
    by_cases h1 : -(l.length : Int) ≤ i
    · rw [if_pos h1] at h ⊢
      exact h
    · rw [if_neg h1] at h; cases h
theorem nth_all {K : PySem.W.Frag} {G : Hp} {xs : List V} {l : List PyData} (a : DaAll K G xs l) {i : Int} {d : PyData} (h : nth l i = some d) : ∃ v, nth xs i = some v ∧ Da K G v d := by
  have hl := a.length
  unfold nth at h ⊢
  by_cases h0 : 0 ≤ i
  · rw [if_pos h0] at h ⊢
    exact a.get h
  · rw [if_neg h0] at h ⊢
    rw [hl]
    by_cases h1 : -(l.length : Int) ≤ i
    · rw [if_pos h1] at h ⊢
      exact a.get h
    · rw [if_neg h1] at h; cases h
theorem refs_get {as : List Addr} : ∀ {bs : List Addr} {ks : List Nat} {i : Nat} {k : Nat}, Refs as bs ks → ks[i]? = some k → ∃ b, bs[i]? = some b ∧ as[k]? = some b
  | _, _, _, _, .nil, e => by simp at e
  | _, _, 0, _, .cons x _, e => by
    simp at e
    subst e
    exact ⟨_, rfl, x⟩
  | _, _, i + 1, _, .cons _ a, e => by
    obtain ⟨v, h1, h2⟩ := refs_get (i := i) a (by simpa using e)
    exact ⟨v, by simpa using h1, h2⟩
theorem refs_len {as : List Addr} : ∀ {bs : List Addr} {ks : List Nat}, Refs as bs ks → bs.length = ks.length
  | _, _, .nil => rfl
  | _, _, .cons _ t => by rw [List.length_cons, List.length_cons, refs_len t]
theorem nth_refs {as bs : List Addr} {ks : List Nat} (a : Refs as bs ks) {i : Int} {k : Nat} (h : nth ks i = some k) : ∃ b, nth (bs.map V.ref) i = some (.ref b) ∧ as[k]? = some b := by
  have hl := refs_len a
  unfold nth at h ⊢
  rw [List.length_map, hl]
  by_cases h0 : 0 ≤ i
  · rw [if_pos h0] at h ⊢
    obtain ⟨b, e1, e2⟩ := refs_get a h
    exact ⟨b, by rw [List.getElem?_map, e1]; rfl, e2⟩
  · rw [if_neg h0] at h ⊢
    by_cases h1 : -(ks.length : Int) ≤ i
    · rw [if_pos h1] at h ⊢
      obtain ⟨b, e1, e2⟩ := refs_get a h
      exact ⟨b, by rw [List.getElem?_map, e1]; rfl, e2⟩
    · rw [if_neg h1] at h; cases h

def rIdx (K : PySem.W.Frag) (w0 : Ew) : R2 := fun x y H Q => ∃ G as S a b W σ, Rst K G as S H ∧ At K G as x a ∧ At K G as y b ∧ FinG K w0 (At K) W σ Q G as H (idxR a b S)
theorem idxD_some {x y d : PyData} (h : idxD x y = some d) : (∃ l i, x = .list l ∧ y = .int i ∧ nth l i = some d) ∨ (∃ l i, x = .tuple l ∧ y = .int i ∧ nth l i = some d) ∨
    (∃ z i c, x = .str z ∧ y = .int i ∧ z.length ≤ LINE ∧ nth z.cps.toList i = some c ∧ d = .str ⟨#[c]⟩) := by
  cases x <;> cases y <;> simp only [idxD, reduceCtorEq] at h
  · split at h
    · cases e : nth (α := Nat) _ _ with
      | none => rw [e] at h; cases h
      | some c => rw [e] at h; cases h; exact .inr (.inr ⟨_, _, c, rfl, rfl, by assumption, e, rfl⟩)
    · cases h
  · exact .inl ⟨_, _, rfl, rfl, h⟩
  · exact .inr (.inl ⟨_, _, rfl, rfl, h⟩)
section
variable {X : Cx} {w0 : Ew}
theorem ix_any : IxR X (rIdx X.K w0) := by
  intro value slice pins s σ H v1 v2 u1 u2 Q I r1 r2 ⟨G, as, S, a, b, W, σ', rst, a1, a2, f⟩ hs
  have go : ∀ x y d, deref S a = some x → deref S b = some y → idxD x y = some d → FinG X.K w0 (At X.K) W σ' Q G as H (.ok (.dat d) S) → wpAny (model X.prog X.w) X.A (subscriptTail value slice u1 u2) (EP X pins σ Q) X.xe s := fun x y d h1 h2 h3 f => by
    have b1 := rr_of rst a1 h1
    have b2 := rr_of rst a2 h2
    rcases idxD_some h3 with ⟨l, i, rfl, rfl, e⟩ | ⟨l, i, rfl, rfl, e⟩ | ⟨z, i, c, rfl, rfl, hz, e, rfl⟩
    · obtain ⟨p, xs, rfl, h4, h5⟩ := b1
      cases b2
      obtain ⟨v, e2, dv⟩ := nth_all h5 e
      exact ix_list value slice pins s σ H _ _ u1 u2 Q I r1 r2 ⟨_, _, _, _, rfl, rfl, h4, nth_atI _ _ _ e2, same_val rst f dv⟩ hs
    · cases b2
      cases b1 with
      | tup h4 h5 =>
        obtain ⟨v, e2, dv⟩ := nth_all h5 e
        exact ix_tup value slice pins s σ H _ _ u1 u2 Q I r1 r2 ⟨_, _, _, _, rfl, rfl, Same.seqT rst.same h4, nth_atI _ _ _ e2, same_val rst f dv⟩ hs
    · cases b2
      cases b1
      exact ix_str value slice pins s σ H _ _ u1 u2 Q I r1 r2 ⟨_, _, _, rfl, rfl, by rw [← LINE_eq]; exact hz, nth_atI _ _ _ e, same_val rst f (.str _)⟩ hs
  unfold idxR at f
  split at f
  · rename_i ks i
    cases e : nth ks i with
    | none => rw [e] at f; exact f.elim
    | some k =>
      rw [e] at f
      obtain ⟨p, bs, rfl, h4, h5⟩ := a1
      cases a2
      obtain ⟨b', e2, e3⟩ := nth_refs h5 e
      exact ix_list value slice pins s σ H _ _ u1 u2 Q I r1 r2 ⟨_, _, _, _, rfl, rfl, SqL.of (rst.same _ _ h4), nth_atI _ _ _ e2, f.now Ext.refl rst ⟨_, rfl, e3⟩⟩ hs
  · cases h1 : deref S a with
    | none => rw [h1] at f; exact f.elim
    | some x =>
      cases h2 : deref S b with
      | none => rw [h1, h2] at f; exact f.elim
      | some y =>
        rw [h1, h2] at f
        cases h3 : idxD x y with
        | none => simp only [h3] at f; exact f.elim
        | some d => simp only [h3] at f; exact go x y d h1 h2 h3 f
end

/-! ### slices -/
theorem sIx_eq (n d : Nat) (o : Option Int) : HT.sIx n d o = sIx n d o := by
  cases o with
  | none => rfl
  | some i =>
    show (if i < 0 then (i + (n : Int)).toNat else min i.toNat n) = (if 0 ≤ i then min i.toNat n else (i + n).toNat)
    by_cases h : i < 0
    · rw [if_pos h, if_neg (by omega)]
    · rw [if_neg h, if_pos (by omega)]
theorem cut_all {K : PySem.W.Frag} {G : Hp} {xs : List V} {l : List PyData} (a : DaAll K G xs l) (lo hi : Option Int) : DaAll K G (cutV xs lo hi) (cutD l lo hi) := by
  unfold cutV cutD
  rw [sIx_eq, sIx_eq, a.length]
  exact (a.drop _).take _

def rSl (K : PySem.W.Frag) (w0 : Ew) : V → Option Int → Option Int → Hp → VK → Prop := fun x lo hi H Q => ∃ G as S a W σ, Rst K G as S H ∧ At K G as x a ∧ FinG K w0 (At K) W σ Q G as H (slR a lo hi S)
theorem slD_some {x d : PyData} {lo hi : Option Int} (h : slD x lo hi = some d) : (∃ l, x = .list l ∧ d = .list (cutD l lo hi)) ∨ (∃ l, x = .tuple l ∧ d = .tuple (cutD l lo hi)) := by
  cases x <;> simp only [slD, reduceCtorEq] at h
  · cases h; exact .inl ⟨_, rfl, rfl⟩
  · cases h; exact .inr ⟨_, rfl, rfl⟩
theorem cut_whole {α : Type} {l : List α} {lo hi : Option Int} (h : sIx l.length 0 lo = 0 ∧ sIx l.length l.length hi = l.length) : cutD l lo hi = l := by
  unfold cutD
  rw [h.1, h.2, List.drop_zero, Nat.sub_zero, List.take_length]
section
variable {X : Cx} {w0 : Ew}
theorem sl_any : SlR X (rSl X.K w0) := by
  intro pins s σ H v u vl vu lo hi sl Q I rx hs pl pu ⟨G, as, S, a, W, σ', rst, a1, f⟩
  unfold slR at f
  cases h1 : deref S a with
  | none => rw [h1] at f; exact f.elim
  | some x =>
    rw [h1] at f
    have b1 := rr_of rst a1 h1
    cases h3 : slD x lo hi with
    | none => simp only [h3] at f; exact f.elim
    | some d =>
      simp only [h3] at f
      rcases slD_some h3 with ⟨l, rfl, rfl⟩ | ⟨l, rfl, rfl⟩
      · obtain ⟨p, xs, rfl, h4, h5⟩ := b1
        exact sl_list pins s σ H _ u vl vu lo hi sl Q I rx hs pl pu ⟨_, _, rfl, h4, new_lst rst f (cut_all h5 lo hi)⟩
      · cases b1 with
        | tup h4 h5 =>
          rename_i p xs
          have hl := h5.length
          refine sl_tupA pins s σ H _ u vl vu lo hi sl Q I rx hs pl pu ⟨_, _, rfl, Same.seqT rst.same h4, fun e => ?_, fun _ => new_tup rst f (cut_all h5 lo hi)⟩
          rw [sIx_eq, sIx_eq, hl] at e
          have f' : FinG X.K w0 (At X.K) W σ' Q G as H (.ok (.dat (.tuple (cutD l lo hi))) S) := f
          rw [cut_whole e] at f'
          exact same_val rst f' (.tup h4 h5)
end
end Dw

set_option Elab.async false
set_option linter.all false
set_option maxRecDepth 100000
set_option maxHeartbeats 4000000
/-! Built-in functions, isinstance, append. -/
namespace Dw
open PySem PySem.Spec PyProof.Rows L2

def bltName : Blt → String
  | .len => "len"
  | .abs => "abs"
  | .max2 => "max"
  | .int1 => "int"
  | .tup1 => "tuple"
  | .lst1 => "list"
  | .divmod => "divmod"
  | .all1 => "all"
  | .repr => "repr"
/-- a built-in class is called as a type -/
def bltTy : Blt → Bool
  | .int1 => true
  | .tup1 => true
  | .lst1 => true
  | _ => false
def bltVal (b : Blt) : Value := if bltTy b then .type (bltName b) else .builtin (bltName b)
theorem blt_boot (b : Blt) : bootBuiltins (bltName b) = some (bltVal b) := by cases b <;> decide +kernel

def rBlt (K : PySem.W.Frag) (w0 : Ew) (b : Blt) : List V → Hp → VK → Prop := fun xs H Q => ∃ G as S vs W σ, Rst K G as S H ∧ Ats K G as xs vs ∧ FinG K w0 (At K) W σ Q G as H (bltR b vs S)
theorem derefs_all {K : PySem.W.Frag} {G H : Hp} {as : List Addr} {S : Sto} (r : Rst K G as S H) : ∀ {xs : List V} {vs : List Val} {ds : List PyData}, Ats K G as xs vs → derefs S vs = some ds → Paired (fun v d => Rr K G H v d) xs ds
  | _, _, _, .nil, e => by
    cases e
    exact .nil
  | _, v :: vs, _, .cons a t, e => by
    unfold derefs at e
    cases h1 : deref S v with
    | none => rw [h1] at e; cases e
    | some d =>
      cases h2 : derefs S vs with
      | none => rw [h1, h2] at e; cases e
      | some ds =>
        rw [h1, h2] at e
        cases e
        exact .cons (rr_of r a h1) (derefs_all r t h2)
theorem allTrue_bools {K : PySem.W.Frag} {G : Hp} : ∀ {xs : List V} {l : List PyData} {c : Bool}, DaAll K G xs l → allTrue l = some c → ∃ bs : List Bool, xs = bs.map V.bl ∧ c = bs.all id
  | _, _, _, .nil, h => by
    cases h
    exact ⟨[], rfl, rfl⟩
  | _, _, _, .cons (d := d) (ds := ds) a t, h => by
    cases a with
    | bl b =>
      unfold allTrue at h
      cases h1 : allTrue ds with
      | none => rw [h1] at h; cases h
      | some c' =>
        rw [h1] at h
        cases h
        obtain ⟨bs, rfl, rfl⟩ := allTrue_bools t h1
        exact ⟨b :: bs, rfl, rfl⟩
    | non => cases h
    | int _ => cases h
    | str _ => cases h
    | lst _ _ => cases h
    | tup _ _ => cases h
/-- a call of the built-in repr with data -/
theorem repr_data {X : Cx} {pins : List (Addr × Obj)} {s : Shared} {σ : L2.St} {H : Hp} {v : V} {u : Value} {d : PyData} {Q : VK} (I : Inv X pins σ H s) (r : RelV v u) (h : Dp X.K H v d) (hg : X.A.guards = some []) (hu : X.A.units + 100 < cLine)
    (ok : reprOk d = true) (q : Q (.str d.shown) H) : wpAny (model X.prog X.w) X.A (call (.builtin "repr") [u]) (EP X pins σ Q) X.xe s := by
  unfold reprOk at ok
  simp only [Bool.and_eq_true, decide_eq_true_eq, Bool.not_eq_true'] at ok
  obtain ⟨⟨⟨o1, o2⟩, o3⟩, o4⟩ := ok
  have o4' : d.shown.length ≤ sizeLine := by rw [← LINE_eq]; exact o4
  have fin : ∀ tk, EP X pins σ Q (.str d.shown tk) { s with toks := s.toks + 1 } := fun tk => ⟨.str d.shown, H, I.tok _, ⟨_, rfl⟩, q⟩
  cases h with
  | non => cases r; exact PySem.P.repr_of_none (fin _)
  | bl b => cases r; exact PySem.P.repr_of_bool (fin _)
  | int i =>
    obtain ⟨t, rfl⟩ := r
    exact PySem.P.repr_of_int (by simpa [PyData.showable] using o1) (fin _)
  | str x =>
    obtain ⟨t, rfl⟩ := r
    exact PySem.P.repr_of_str (fin _) (by simpa only [PyData.shown] using o4')
  | lst e a =>
    cases r
    obtain ⟨as, rd⟩ := Dp.reads I _ _ _ (.lst e a) rfl
    exact repr_of_reads' rd o1 (PyData.noDict_hsm o2) hg (by omega) (fun _ _ z => z) (fun h' u tk hk => ⟨.str _, H, I.kept (t' := tk) hk, ⟨_, rfl⟩, q⟩) o4'
  | tup e a =>
    cases r
    obtain ⟨as, rd⟩ := Dp.reads I _ _ _ (.tup e a) rfl
    exact repr_of_reads' rd o1 (PyData.noDict_hsm o2) hg (by omega) (fun _ _ z => z) (fun h' u tk hk => ⟨.str _, H, I.kept (t' := tk) hk, ⟨_, rfl⟩, q⟩) o4'
section
variable {X : Cx} {w0 : Ew}
theorem call_blt (hc : X.calm = true) (hg : X.A.guards = some []) (hu : X.A.units + 100 < cLine) (b : Blt) : CallR X (bltVal b) (rBlt X.K w0 b) := by
  intro pins s σ H xs us Q I r ⟨G, as, S, vs, W, σ', rst, a, f⟩
  unfold bltR at f
  cases h1 : derefs S vs with
  | none => rw [h1] at f; exact f.elim
  | some ds =>
    rw [h1] at f
    cases h2 : bltD b ds with
    | none => simp only [h2] at f; exact f.elim
    | some d =>
      simp only [h2] at f
      have f : FinG X.K w0 (At X.K) W σ' Q G as H (.ok (.dat d) S) := f
      have p := derefs_all rst a h1
      cases b with
      | len =>
        replace h2 : bLen ds = some d := h2
        unfold bLen at h2
        split at h2 <;> first | (cases h2; done) | skip
        · rename_i l heq
          cases h2
          cases p with
          | cons x t =>
            cases t
            obtain ⟨p, ys, rfl, e1, e2⟩ := x
            exact call_len_seq pins s σ H _ us Q I r ⟨_, _, rfl, .inl e1, by rw [e2.length]; exact same_val rst f (.int _)⟩
        · rename_i l heq
          cases h2
          cases p with
          | cons x t =>
            cases t
            cases x with
            | tup e1 e2 => exact call_len_seq pins s σ H _ us Q I r ⟨_, _, rfl, .inr (Same.seqT rst.same e1), by rw [e2.length]; exact same_val rst f (.int _)⟩
        · split at h2
          · rename_i z heq hz
            cases h2
            cases p with
            | cons x t =>
              cases t
              cases x
              exact call_len_str pins s σ H _ us Q I r ⟨_, rfl, by rw [← LINE_eq]; exact hz, same_val rst f (.int _)⟩
          · cases h2
      | abs =>
        replace h2 : bAbs ds = some d := h2
        unfold bAbs at h2
        split at h2 <;> first | (cases h2; done) | skip
        cases h2
        cases p with
        | cons x t =>
          cases t
          cases x
          exact call_abs pins s σ H _ us Q I r ⟨_, rfl, same_val rst f (.int _)⟩
      | max2 =>
        replace h2 : bMax ds = some d := h2
        unfold bMax at h2
        split at h2 <;> first | (cases h2; done) | skip
        cases h2
        cases p with
        | cons x t =>
          cases t with
          | cons y t =>
            cases t
            cases x
            cases y
            exact call_max2 hc pins s σ H _ us Q I r ⟨_, _, rfl, same_val rst f (.int _)⟩
      | int1 =>
        replace h2 : bInt ds = some d := h2
        unfold bInt at h2
        split at h2 <;> first | (cases h2; done) | skip
        cases h2
        cases p with
        | cons x t =>
          cases t
          cases x
          exact call_int1 pins s σ H _ us Q I r (.inl ⟨_, rfl, same_val rst f (.int _)⟩)
      | tup1 =>
        replace h2 : bTup ds = some d := h2
        unfold bTup at h2
        split at h2 <;> first | (cases h2; done) | skip
        · cases h2
          cases p with
          | cons x t =>
            cases t
            obtain ⟨p, ys, rfl, e1, e2⟩ := x
            exact call_tuple_of pins s σ H _ us Q I r ⟨_, _, rfl, .inl ⟨e1, new_tup rst f e2⟩⟩
        · cases h2
          cases p with
          | cons x t =>
            cases t
            cases x with
            | tup e1 e2 => exact call_tuple_of pins s σ H _ us Q I r ⟨_, _, rfl, .inr ⟨Same.seqT rst.same e1, same_val rst f (.tup e1 e2)⟩⟩
      | lst1 =>
        replace h2 : bLst ds = some d := h2
        unfold bLst at h2
        split at h2 <;> first | (cases h2; done) | skip
        cases h2
        cases p with
        | cons x t =>
          cases t
          cases x with
          | tup e1 e2 => exact call_list_of pins s σ H _ us Q I r ⟨_, _, rfl, .inr (Same.seqT rst.same e1), new_lst rst f e2⟩
      | divmod =>
        replace h2 : bDivmod ds = some d := h2
        unfold bDivmod at h2
        split at h2 <;> first | (cases h2; done) | skip
        split at h2
        · rename_i hz
          cases h2
          cases p with
          | cons x t =>
            cases t with
            | cons y t =>
              cases t
              cases x
              cases y
              exact call_divmod pins s σ H _ us Q I r ⟨_, _, rfl, hz, new_tup rst f (.cons (.int _) (.cons (.int _) .nil))⟩
        · cases h2
      | all1 =>
        replace h2 : bAll ds = some d := h2
        unfold bAll at h2
        split at h2 <;> first | (cases h2; done) | skip
        rename_i l
        cases e : allTrue l with
        | none => rw [e] at h2; cases h2
        | some c =>
          rw [e] at h2
          cases h2
          cases p with
          | cons x t =>
            cases t
            obtain ⟨p, ys, rfl, e1, e2⟩ := x
            obtain ⟨bs, rfl, rfl⟩ := allTrue_bools e2 e
            exact cr_all hc pins s σ H _ us Q I r ⟨_, _, rfl, e1, same_val rst f (.bl _)⟩
      | repr =>
        replace h2 : bRepr ds = some d := h2
        unfold bRepr at h2
        split at h2 <;> first | (cases h2; done) | skip
        split at h2
        · rename_i hz
          cases h2
          cases p with
          | cons x t =>
            cases t
            cases r with
            | cons r1 t1 =>
              cases t1
              exact repr_data I r1 (x.dp rst) hg hu hz (same_val rst f (.str _))
        · cases h2
end
end Dw

set_option Elab.async false
set_option linter.all false
set_option maxRecDepth 100000
set_option maxHeartbeats 4000000
/-! Expressions, one construct after another. -/
namespace Dw
open PySem PySem.Spec PyProof.Rows L2

def isStar : Expr → Bool
  | .Starred _ _ => true
  | _ => false
theorem star_cons {e : Expr} (h : isStar e = false) (es : List Expr) (env : PySem.Env) : starEach (e :: es) env = (false, eval e env) :: starEach es env := by
  cases e <;> first | rfl | cases h
theorem star_all : ∀ {es : List Expr}, (es.all fun e => !isStar e) = true → ∀ (pos : Pos) (env : PySem.Env), (backTo pos (starEach es env)).any (·.1) = false
  | [], _, _, _ => rfl
  | e :: es, h, pos, env => by
    rw [List.all_cons, Bool.and_eq_true, Bool.not_eq_true'] at h
    rw [star_cons h.1]
    show (false || (backTo pos (starEach es env)).any (·.1)) = false
    rw [star_all h.2 pos env]
    rfl
theorem star_not : ∀ {es : List Expr}, (es.all fun e => !isStar e) = true → ∀ (pos : Pos) (env : PySem.Env), ((backTo pos (starEach es env)).all fun x => !x.1) = true
  | [], _, _, _ => rfl
  | e :: es, h, pos, env => by
    rw [List.all_cons, Bool.and_eq_true, Bool.not_eq_true'] at h
    rw [star_cons h.1]
    show (true && (backTo pos (starEach es env)).all fun x => !x.1) = true
    rw [star_not h.2 pos env]
    rfl
theorem R.bind_assoc {α β γ : Type} (r : R α) (f : α → Sto → R β) (g : β → Sto → R γ) : (r.bind f).bind g = r.bind fun a S => (f a S).bind g := by
  cases r <;> rfl
abbrev bB (f : Rho → Sto → R Val) : Rho → Sto → R Bool := fun ρ S => (f ρ S).bind toB

section
variable {X : Cx} {w0 : Ew} {W : WX} {fa fb fc : Rho → Sto → R Val} {a b c e : Expr} {pos : Pos}
theorem toB_some {K : PySem.W.Frag} {σ : L2.St} {Q : Bool → Hp → Prop} {G H : Hp} {as : List Addr} {x : Val} {S : Sto} (f : FinG K w0 relEq W σ Q G as H (toB x S)) : ∃ k, x = .dat (.bool k) ∧ FinG K w0 relEq W σ Q G as H (.ok k S) := by
  unfold toB at f
  split at f
  · exact ⟨_, rfl, f⟩
  · exact f.elim
theorem fin_tt {K : PySem.W.Frag} {σ : L2.St} {Q : Bool → Hp → Prop} {G H : Hp} {as : List Addr} {r : R Val} (f : FinG K w0 relEq W σ Q G as H (r.bind toB)) : FinG K w0 (At K) W σ (fun v H1 => ∃ k, v = .bl k ∧ Q k H1) G as H r := by
  refine (FinG.bind (rel' := At K) f).imp fun v H1 ⟨G1, as1, S1, x, x1, r1, a1, f1⟩ => ?_
  obtain ⟨k, rfl, f1⟩ := toB_some f1
  cases a1
  exact ⟨k, rfl, f1 G1 as1 H1 k Ext.refl r1 rfl⟩
theorem snd_test (h : PE X e (tE X.K w0 W fa)) (he : ∀ whole, isTrue e X.env whole = (do let v ← whole; standAt e.pos; holding [v] (truthy v))) : PT X e (tTB X.K w0 W (bB fa)) := by
  refine PT.imp (pt_val h he) fun σ H Q ⟨G, as, S, ρ, r0, e0, f⟩ => ⟨G, as, S, ρ, r0, e0, fin_tt f⟩
theorem snd_var {i : Nat} {x : Str} (hN : X.N[i]? = some x) (hv : Vis X.env.scope x) (h1 : (x == ("__debug__" : Str)) = false) (h2 : (x == ("__classdict__" : Str)) = false) :
    PE X (.Name x pos) (tE X.K w0 W fun ρ S => match ρ[i]? with
      | some (some v) => .ok v S
      | _ => .bad) := by
  refine PE.imp (pe_var hN hv h1 h2) fun σ H Q ⟨G, as, S, ρ, r0, e0, f⟩ => ?_
  cases h : ρ[i]? with
  | none => simp only [h] at f; exact f.elim
  | some o =>
    cases o with
    | none => simp only [h] at f; exact f.elim
    | some x =>
      simp only [h] at f
      obtain ⟨v, e1, a1⟩ := e0.2 i x h
      exact ⟨v, e1, f G as H v Ext.refl r0 a1⟩
theorem snd_con {t : TE} {d : PyData} {v : V} (h : PE X e (tC v)) (hd : ∀ G, Da X.K G v d) : PE X e (tE X.K w0 W fun _ S => .ok (.dat d) S) :=
  PE.imp h fun σ H Q ⟨G, as, S, ρ, r0, e0, f⟩ => f G as H v Ext.refl r0 (hd G)
theorem snd_neg (ha : PE X a (tE X.K w0 W fa)) : PE X (.UnaryOp .USub a pos) (tE X.K w0 W fun ρ S => (fa ρ S).bind negR) := by
  refine PE.imp (pe_un un_neg ha) fun σ H Q ⟨G, as, S, ρ, r0, e0, f⟩ => ⟨G, as, S, ρ, r0, e0, (FinG.bind f).imp ?_⟩
  intro v1 H1 ⟨G1, as1, S1, x, x1, r1, a1, f1⟩
  unfold negR at f1
  split at f1
  · cases a1
    exact ⟨_, rfl, f1 G1 as1 H1 _ Ext.refl r1 (.int _)⟩
  · exact f1.elim
theorem snd_bin {o : Operator} {op : Bop} (h : opC o op = true) (ha : PE X a (tE X.K w0 W fa)) (hb : PE X b (tE X.K w0 W fb)) :
    PE X (.BinOp a o b pos) (tE X.K w0 W fun ρ S => (fa ρ S).bind fun x S => (fb ρ S).bind fun y S => binR op x y S) := by
  refine PE.imp (pe_op (op_bin (w0 := w0) h) ha hb) fun σ H Q ⟨G, as, S, ρ, r0, e0, f⟩ => ⟨G, as, S, ρ, r0, e0, (FinG.bind f).imp ?_⟩
  intro v1 H1 ⟨G1, as1, S1, x, x1, r1, a1, f1⟩
  refine ⟨G1, as1, S1, ρ, r1, e0.ext x1, (FinG.bind f1).imp ?_⟩
  intro v2 H2 ⟨G2, as2, S2, y, x2, r2, a2, f2⟩
  exact ⟨G2, as2, S2, x, y, W, σ, r2, a1.ext x2, a2, f2⟩
abbrev cmpF (op : Cop) (fa fb : Rho → Sto → R Val) : Rho → Sto → R Val := fun ρ S => (fa ρ S).bind fun x S => (fb ρ S).bind fun y S => cmpR op x y S
theorem cmp_step {op : Cop} {K : PySem.W.Frag} {σ : L2.St} {H : Hp} {Q : VK} : tE K w0 W (cmpF op fa fb) σ H Q → tOp (rCmp K w0 op) (tE K w0 W fa) (tE K w0 W fb) σ H Q := fun ⟨G, as, S, ρ, r0, e0, f⟩ => by
  refine ⟨G, as, S, ρ, r0, e0, (FinG.bind f).imp ?_⟩
  intro v1 H1 ⟨G1, as1, S1, x, x1, r1, a1, f1⟩
  refine ⟨G1, as1, S1, ρ, r1, e0.ext x1, (FinG.bind f1).imp ?_⟩
  intro v2 H2 ⟨G2, as2, S2, y, x2, r2, a2, f2⟩
  exact ⟨G2, as2, S2, x, y, W, σ, r2, a1.ext x2, a2, f2⟩
theorem snd_cmp {o : CmpOp} {op : Cop} (hu : X.A.units + 64 < cLine) (h : cmpC o op = true) (hm : behindInMarks o b = false) (ha : PE X a (tE X.K w0 W fa)) (hb : PE X b (tE X.K w0 W fb)) :
    PE X (.Compare a [o] [b] pos) (tE X.K w0 W (cmpF op fa fb)) := PE.imp (pe_cmpR (op_cmp (w0 := w0) hu h) ha hb hm) fun _ _ _ f => cmp_step f
/-- a value's test -/
theorem tt_step {K : PySem.W.Frag} {σ : L2.St} {H : Hp} {Q : Bool → Hp → Prop} : tTB K w0 W (bB fa) σ H Q → tE K w0 W fa σ H (fun v H1 => ∃ k, v = .bl k ∧ Q k H1) := fun ⟨G, as, S, ρ, r0, e0, f⟩ => ⟨G, as, S, ρ, r0, e0, fin_tt f⟩
theorem snt_cmp {o : CmpOp} {op : Cop} (hu : X.A.units + 64 < cLine) (h : cmpC o op = true) (hm : behindInMarks o b = false) (ha : PE X a (tE X.K w0 W fa)) (hb : PE X b (tE X.K w0 W fb)) :
    PT X (.Compare a [o] [b] pos) (tTB X.K w0 W (bB (cmpF op fa fb))) := PT.imp (pt_cmpR (op_cmp (w0 := w0) hu h) ha hb hm) fun _ _ _ f => cmp_step (tt_step f)
abbrev chnF (op op' : Cop) (fa fb fc : Rho → Sto → R Val) : Rho → Sto → R Val := fun ρ S => (fa ρ S).bind fun x S => (fb ρ S).bind fun y S => ((cmpR op x y S).bind toB).bind fun k S =>
  if k = true then (fc ρ S).bind fun z S => cmpR op' y z S else .ok (.dat (.bool false)) S
theorem chn_step {op op' : Cop} {K : PySem.W.Frag} {σ : L2.St} {H : Hp} {Q : VK} : tE K w0 W (chnF op op' fa fb fc) σ H Q → tChain (rCmp K w0 op) (rCmp K w0 op') (tE K w0 W fa) (tE K w0 W fb) (tE K w0 W fc) σ H Q := fun ⟨G, as, S, ρ, r0, e0, f⟩ => by
  refine ⟨G, as, S, ρ, r0, e0, (FinG.bind f).imp ?_⟩
  intro v1 H1 ⟨G1, as1, S1, x, x1, r1, a1, f1⟩
  refine ⟨G1, as1, S1, ρ, r1, e0.ext x1, (FinG.bind f1).imp ?_⟩
  intro v2 H2 ⟨G2, as2, S2, y, x2, r2, a2, f2⟩
  have f3 := FinG.bind (rel' := relEq) f2
  refine ⟨G2, as2, S2, x, y, W, σ, r2, a1.ext x2, a2, (fin_tt f3).imp fun v3 H3 ⟨k, e, G3, as3, S3, k', x3, r3, ek, f4⟩ => ⟨k, e, ?_⟩⟩
  obtain rfl : k = k' := ek
  cases k with
  | false => exact f4 G3 as3 H3 _ Ext.refl r3 (.bl false)
  | true =>
    refine iteT ⟨G3, as3, S3, ρ, r3, ((e0.ext x1).ext x2).ext x3, (FinG.bind f4).imp ?_⟩
    intro v4 H4 ⟨G4, as4, S4, z, x4, r4, a4, f5⟩
    exact ⟨G4, as4, S4, y, z, W, σ, r4, (a2.ext x3).ext x4, a4, f5⟩
theorem snd_chn {o o' : CmpOp} {op op' : Cop} (hu : X.A.units + 64 < cLine) (h : cmpC o op = true) (h' : cmpC o' op' = true) (hm : lastMarks [o, o'] [b, c] = false) (ha : PE X a (tE X.K w0 W fa)) (hb : PE X b (tE X.K w0 W fb)) (hc : PE X c (tE X.K w0 W fc)) :
    PE X (.Compare a [o, o'] [b, c] pos) (tE X.K w0 W (chnF op op' fa fb fc)) := PE.imp (pe_chain (op_cmp (w0 := w0) hu h) (op_cmp (w0 := w0) hu h') ha hb hc hm) fun _ _ _ f => chn_step f
theorem snt_chn {o o' : CmpOp} {op op' : Cop} (hu : X.A.units + 64 < cLine) (h : cmpC o op = true) (h' : cmpC o' op' = true) (hm : lastMarks [o, o'] [b, c] = false) (ha : PE X a (tE X.K w0 W fa)) (hb : PE X b (tE X.K w0 W fb)) (hc : PE X c (tE X.K w0 W fc)) :
    PT X (.Compare a [o, o'] [b, c] pos) (tTB X.K w0 W (bB (chnF op op' fa fb fc))) := PT.imp (pt_chain (op_cmp (w0 := w0) hu h) (op_cmp (w0 := w0) hu h') ha hb hc hm) fun _ _ _ f => chn_step (tt_step f)
theorem at_none {K : PySem.W.Frag} {G : Hp} {as : List Addr} {v : V} {x : Val} (a : At K G as v x) : decide (v = .non) = isNone x := by
  cases x with
  | dat d =>
    cases d <;> cases a <;> rfl
  | cell k => obtain ⟨p, rfl, _⟩ := a; rfl
  | cells k => obtain ⟨p, _, rfl, _⟩ := a; rfl
  | scr l => obtain ⟨p, _, rfl, _⟩ := a; rfl
  | fn f => exact a.elim
abbrev isF (fa : Rho → Sto → R Val) : Rho → Sto → R Val := fun ρ S => (fa ρ S).bind fun x S => .ok (.dat (.bool (isNone x))) S
abbrev isnF (fa : Rho → Sto → R Val) : Rho → Sto → R Val := fun ρ S => (fa ρ S).bind fun x S => .ok (.dat (.bool (!isNone x))) S
theorem snd_isN {j : Nat} {p2 : Pos} (ha : PE X a (tE X.K w0 W fa)) : PE X (.Compare a [.Is] [.Constant .none j p2] pos) (tE X.K w0 W (isF fa)) := by
  refine PE.imp (pe_cmp (pc_isN ha) (nobehind _ (by decide) (by decide))) fun σ H Q ⟨G, as, S, ρ, r0, e0, f⟩ => ⟨G, as, S, ρ, r0, e0, (FinG.bind f).imp ?_⟩
  intro v1 H1 ⟨G1, as1, S1, x, x1, r1, a1, f1⟩
  rw [at_none a1]
  exact f1 G1 as1 H1 _ Ext.refl r1 (.bl _)
theorem snd_notN {j : Nat} {p2 : Pos} (ha : PE X a (tE X.K w0 W fa)) : PE X (.Compare a [.IsNot] [.Constant .none j p2] pos) (tE X.K w0 W (isnF fa)) := by
  refine PE.imp (pe_cmp (pc_notN ha) (nobehind _ (by decide) (by decide))) fun σ H Q ⟨G, as, S, ρ, r0, e0, f⟩ => ⟨G, as, S, ρ, r0, e0, (FinG.bind f).imp ?_⟩
  intro v1 H1 ⟨G1, as1, S1, x, x1, r1, a1, f1⟩
  rw [at_none a1]
  exact f1 G1 as1 H1 _ Ext.refl r1 (.bl _)
theorem snt_isN {j : Nat} {p2 : Pos} (ha : PE X a (tE X.K w0 W fa)) : PT X (.Compare a [.Is] [.Constant .none j p2] pos) (tTB X.K w0 W (bB (isF fa))) := by
  refine PT.imp (pt_cmp (pc_isN ha) (nobehind _ (by decide) (by decide))) fun σ H Q f => ?_
  obtain ⟨G, as, S, ρ, r0, e0, f⟩ := tt_step f
  refine ⟨G, as, S, ρ, r0, e0, (FinG.bind f).imp ?_⟩
  intro v1 H1 ⟨G1, as1, S1, x, x1, r1, a1, f1⟩
  rw [at_none a1]
  exact f1 G1 as1 H1 _ Ext.refl r1 (.bl _)
theorem snt_notN {j : Nat} {p2 : Pos} (ha : PE X a (tE X.K w0 W fa)) : PT X (.Compare a [.IsNot] [.Constant .none j p2] pos) (tTB X.K w0 W (bB (isnF fa))) := by
  refine PT.imp (pt_cmp (pc_notN ha) (nobehind _ (by decide) (by decide))) fun σ H Q f => ?_
  obtain ⟨G, as, S, ρ, r0, e0, f⟩ := tt_step f
  refine ⟨G, as, S, ρ, r0, e0, (FinG.bind f).imp ?_⟩
  intro v1 H1 ⟨G1, as1, S1, x, x1, r1, a1, f1⟩
  rw [at_none a1]
  exact f1 G1 as1 H1 _ Ext.refl r1 (.bl _)
abbrev notF (fa : Rho → Sto → R Val) : Rho → Sto → R Val := fun ρ S => ((fa ρ S).bind toB).bind fun c S => .ok (.dat (.bool (!c))) S
theorem snt_not (ha : PT X a (tTB X.K w0 W (bB fa))) : PT X (.UnaryOp .Not a pos) (tTB X.K w0 W (bB (notF fa))) := by
  refine PT.imp (pt_not ha) fun σ H Q f => ?_
  obtain ⟨G, as, S, ρ, r0, e0, f⟩ := tt_step f
  refine ⟨G, as, S, ρ, r0, e0, (FinG.bind (rel' := relEq) f).imp ?_⟩
  intro k H1 ⟨G1, as1, S1, x, x1, r1, a1, f1⟩
  obtain rfl : k = x := a1
  obtain ⟨k', e, q⟩ := f1 G1 as1 H1 _ Ext.refl r1 (.bl _)
  cases e
  exact q
theorem snd_not (ha : PE X a (tE X.K w0 W fa)) : PE X (.UnaryOp .Not a pos) (tE X.K w0 W (notF fa)) := by
  refine PE.imp (pe_not ha) fun σ H Q ⟨G, as, S, ρ, r0, e0, f⟩ => ⟨G, as, S, ρ, r0, e0, (fin_tt (FinG.bind (rel' := relEq) f)).imp ?_⟩
  intro v1 H1 ⟨k, e, G1, as1, S1, x, x1, r1, a1, f1⟩
  obtain rfl : k = x := a1
  exact ⟨k, e, f1 G1 as1 H1 _ Ext.refl r1 (.bl _)⟩
abbrev ifF (fc fa fb : Rho → Sto → R Val) : Rho → Sto → R Val := fun ρ S => ((fc ρ S).bind toB).bind fun k S => if k = true then fa ρ S else fb ρ S
theorem snd_ife (hc : PT X c (tTB X.K w0 W (bB fc))) (ha : PE X a (tE X.K w0 W fa)) (hb : PE X b (tE X.K w0 W fb)) : PE X (.IfExp c a b pos) (tE X.K w0 W (ifF fc fa fb)) := by
  refine PE.imp (pe_ifExp hc ha hb) fun σ H Q ⟨G, as, S, ρ, r0, e0, f⟩ => ⟨G, as, S, ρ, r0, e0, (FinG.bind (rel' := relEq) f).imp ?_⟩
  intro k H1 ⟨G1, as1, S1, x, x1, r1, a1, f1⟩
  obtain rfl : k = x := a1
  cases k with
  | true => exact iteT ⟨G1, as1, S1, ρ, r1, e0.ext x1, f1⟩
  | false => exact iteF ⟨G1, as1, S1, ρ, r1, e0.ext x1, f1⟩
/-! and, or -/
abbrev andF (fa fb : Rho → Sto → R Val) : Rho → Sto → R Val := fun ρ S => ((fa ρ S).bind toB).bind fun k S => if k = true then fb ρ S else .ok (.dat (.bool false)) S
abbrev orF (fa fb : Rho → Sto → R Val) : Rho → Sto → R Val := fun ρ S => ((fa ρ S).bind toB).bind fun k S => if k = true then .ok (.dat (.bool true)) S else fb ρ S
theorem snd_and {rest : List Expr} (ha : PE X a (tE X.K w0 W fa)) (hb : PE X (.BoolOp .And (b :: rest) pos) (tE X.K w0 W fb)) : PE X (.BoolOp .And (a :: b :: rest) pos) (tE X.K w0 W (andF fa fb)) := by
  refine PE.imp (pe_and ha hb) fun σ H Q ⟨G, as, S, ρ, r0, e0, f⟩ => ⟨G, as, S, ρ, r0, e0, (fin_tt (FinG.bind (rel' := relEq) f)).imp ?_⟩
  intro v1 H1 ⟨k, e, G1, as1, S1, x, x1, r1, a1, f1⟩
  obtain rfl : k = x := a1
  refine ⟨k, e, ?_⟩
  cases k with
  | true => exact iteT ⟨G1, as1, S1, ρ, r1, e0.ext x1, f1⟩
  | false => exact iteF (f1 G1 as1 H1 _ Ext.refl r1 (.bl _))
theorem snd_or {rest : List Expr} (ha : PE X a (tE X.K w0 W fa)) (hb : PE X (.BoolOp .Or (b :: rest) pos) (tE X.K w0 W fb)) : PE X (.BoolOp .Or (a :: b :: rest) pos) (tE X.K w0 W (orF fa fb)) := by
  refine PE.imp (pe_or ha hb) fun σ H Q ⟨G, as, S, ρ, r0, e0, f⟩ => ⟨G, as, S, ρ, r0, e0, (fin_tt (FinG.bind (rel' := relEq) f)).imp ?_⟩
  intro v1 H1 ⟨k, e, G1, as1, S1, x, x1, r1, a1, f1⟩
  obtain rfl : k = x := a1
  refine ⟨k, e, ?_⟩
  cases k with
  | true => exact iteT (f1 G1 as1 H1 _ Ext.refl r1 (.bl _))
  | false => exact iteF ⟨G1, as1, S1, ρ, r1, e0.ext x1, f1⟩
theorem snt_and {rest : List Expr} (ha : PT X a (tTB X.K w0 W (bB fa))) (hb : PW X (.BoolOp .And (b :: rest) pos) (tTB X.K w0 W (bB fb))) : PW X (.BoolOp .And (a :: b :: rest) pos) (tTB X.K w0 W (bB (andF fa fb))) := by
  refine PW.imp (pw_and ha hb) fun σ H Q f => ?_
  obtain ⟨G, as, S, ρ, r0, e0, f⟩ := f
  have f : FinG X.K w0 relEq W σ Q G as H ((((fa ρ S).bind toB).bind fun k S => if k = true then fb ρ S else .ok (.dat (.bool false)) S).bind toB) := f
  rw [R.bind_assoc ((fa ρ S).bind toB)] at f
  refine ⟨G, as, S, ρ, r0, e0, (FinG.bind (rel' := relEq) f).imp ?_⟩
  intro k H1 ⟨G1, as1, S1, x, x1, r1, a1, f1⟩
  obtain rfl : k = x := a1
  cases k with
  | true => exact iteT ⟨G1, as1, S1, ρ, r1, e0.ext x1, f1⟩
  | false => exact iteF (f1 G1 as1 H1 false Ext.refl r1 rfl)
theorem snt_or {rest : List Expr} (ha : PT X a (tTB X.K w0 W (bB fa))) (hb : PW X (.BoolOp .Or (b :: rest) pos) (tTB X.K w0 W (bB fb))) : PW X (.BoolOp .Or (a :: b :: rest) pos) (tTB X.K w0 W (bB (orF fa fb))) := by
  refine PW.imp (pw_or ha hb) fun σ H Q f => ?_
  obtain ⟨G, as, S, ρ, r0, e0, f⟩ := f
  have f : FinG X.K w0 relEq W σ Q G as H ((((fa ρ S).bind toB).bind fun k S => if k = true then .ok (.dat (.bool true)) S else fb ρ S).bind toB) := f
  rw [R.bind_assoc ((fa ρ S).bind toB)] at f
  refine ⟨G, as, S, ρ, r0, e0, (FinG.bind (rel' := relEq) f).imp ?_⟩
  intro k H1 ⟨G1, as1, S1, x, x1, r1, a1, f1⟩
  obtain rfl : k = x := a1
  cases k with
  | true => exact iteT (f1 G1 as1 H1 true Ext.refl r1 rfl)
  | false => exact iteF ⟨G1, as1, S1, ρ, r1, e0.ext x1, f1⟩
end

/-! ### lists of expressions, displays, subscripts, built-ins -/
section
variable {X : Cx} {w0 : Ew} {W : WX} {fa fb : Rho → Sto → R Val} {fs : Rho → Sto → R (List Val)} {a b e : Expr} {es : List Expr} {pos : Pos}
theorem sna_nil : PA X [] (tA X.K w0 W fun _ S => .ok [] S) := PA.imp pa_nil fun σ H Q ⟨G, as, S, ρ, r0, e0, f⟩ => f G as H [] Ext.refl r0 .nil
theorem sna_cons (hs : isStar e = false) (ha : PE X e (tE X.K w0 W fa)) (hr : PA X es (tA X.K w0 W fs)) : PA X (e :: es) (tA X.K w0 W fun ρ S => (fa ρ S).bind fun v S => (fs ρ S).bind fun vs S => .ok (v :: vs) S) := by
  refine PA.imp (pa_cons ha hr (star_cons hs es X.env)) fun σ H Q ⟨G, as, S, ρ, r0, e0, f⟩ => ⟨G, as, S, ρ, r0, e0, (FinG.bind f).imp ?_⟩
  intro v1 H1 ⟨G1, as1, S1, x, x1, r1, a1, f1⟩
  refine ⟨G1, as1, S1, ρ, r1, e0.ext x1, (FinG.bind f1).imp ?_⟩
  intro vs H2 ⟨G2, as2, S2, y, x2, r2, a2, f2⟩
  exact f2 G2 as2 H2 _ Ext.refl r2 (.cons (a1.ext x2) a2)
theorem snk_nil : PK X [] (tA X.K w0 W fun _ S => .ok [] S) := ⟨fun pos pins s σ H Q I ⟨G, as, S, ρ, r0, e0, f⟩ => pk_nil.run pos pins s σ H Q I (f G as H [] Ext.refl r0 .nil)⟩
theorem snk_cons {nm : Option Str} {kpos : Pos} {kws : List Keyword} (ha : PE X e (tE X.K w0 W fa)) (hr : PK X kws (tA X.K w0 W fs)) : PK X (⟨nm, e, kpos⟩ :: kws) (tA X.K w0 W fun ρ S => (fa ρ S).bind fun v S => (fs ρ S).bind fun vs S => .ok (v :: vs) S) := by
  refine ⟨fun pos pins s σ H Q I ⟨G, as, S, ρ, r0, e0, f⟩ => (pk_cons ha hr).run pos pins s σ H Q I ⟨G, as, S, ρ, r0, e0, (FinG.bind f).imp ?_⟩⟩
  intro v1 H1 ⟨G1, as1, S1, x, x1, r1, a1, f1⟩
  refine ⟨G1, as1, S1, ρ, r1, e0.ext x1, (FinG.bind f1).imp ?_⟩
  intro vs H2 ⟨G2, as2, S2, y, x2, r2, a2, f2⟩
  exact f2 G2 as2 H2 _ Ext.refl r2 (.cons (a1.ext x2) a2)
theorem plains_all {K : PySem.W.Frag} {G : Hp} {as : List Addr} : ∀ {xs : List V} {vs : List Val} {ds : List PyData}, Ats K G as xs vs → plains vs = some ds → DaAll K G xs ds
  | _, _, _, .nil, e => by cases e; exact .nil
  | _, v :: vs, _, .cons a t, e => by
    cases v with
    | dat d =>
      unfold plains at e
      cases h : plains vs with
      | none => rw [h] at e; cases e
      | some ds =>
        rw [h] at e
        cases e
        exact .cons a (plains_all t h)
    | _ => cases e
theorem cells_all {K : PySem.W.Frag} {G : Hp} {as : List Addr} : ∀ {xs : List V} {vs : List Val} {ks : List Nat}, Ats K G as xs vs → cellsOf vs = some ks → ∃ bs : List Addr, xs = bs.map V.ref ∧ Refs as bs ks
  | _, _, _, .nil, e => by cases e; exact ⟨[], rfl, .nil⟩
  | _, v :: vs, _, .cons a t, e => by
    cases v with
    | cell k =>
      unfold cellsOf at e
      cases h : cellsOf vs with
      | none => rw [h] at e; cases e
      | some ks =>
        rw [h] at e
        cases e
        obtain ⟨bs, rfl, r⟩ := cells_all t h
        obtain ⟨p, rfl, ep⟩ := a
        exact ⟨p :: bs, rfl, .cons ep r⟩
    | _ => cases e
theorem ats_len {K : PySem.W.Frag} {G : Hp} {as : List Addr} : ∀ {xs : List V} {vs : List Val}, Ats K G as xs vs → xs.length = vs.length
  | _, _, .nil => rfl
  | _, _, .cons _ t => by rw [List.length_cons, List.length_cons, ats_len t]
theorem Ats.ext {K : PySem.W.Frag} {G H G1 H1 : Hp} {as as1 : List Addr} (x : Ext G as H G1 as1 H1) : ∀ {xs : List V} {vs : List Val}, Ats K G as xs vs → Ats K G1 as1 xs vs
  | _, _, .nil => .nil
  | _, _, .cons a t => .cons (a.ext x) (Ats.ext x t)
/-- a list that has been made holds what was collected -/
theorem collect_at {K : PySem.W.Frag} {G : Hp} {as : List Addr} {p : Addr} {xs : List V} {vs : List Val} {x : Val} (h : G p = some (.lst xs)) (a : Ats K G as xs vs) (e : collect vs = some x) : At K G as (.ref p) x := by
  unfold collect at e
  cases h1 : plains vs with
  | some ds =>
    rw [h1] at e
    cases e
    exact .lst h (plains_all a h1)
  | none =>
    rw [h1] at e
    cases h2 : cellsOf vs with
    | none => rw [h2] at e; cases e
    | some ks =>
      rw [h2] at e
      cases e
      obtain ⟨bs, rfl, r⟩ := cells_all a h2
      exact ⟨p, bs, rfl, h, r⟩
theorem snd_tup {j : Nat} (ha : PA X es (tA X.K w0 W fs)) (hl : es.length ≤ 1000) (hfs : ∀ ρ S vs S', fs ρ S = .ok vs S' → vs.length = es.length) : PE X (.Tuple es j pos) (tE X.K w0 W fun ρ S => (fs ρ S).bind tupR) := by
  refine PE.imp (pe_tup ha) fun σ H Q ⟨G, as, S, ρ, r0, e0, f⟩ => ⟨G, as, S, ρ, r0, e0, ?_⟩
  have f : FinG X.K w0 (At X.K) W σ Q G as H ((fs ρ S).bind tupR) := f
  cases h : fs ρ S with
  | exc c d S1 => rw [h] at f; exact f
  | bad => rw [h] at f; exact f
  | ok vs S1 =>
    have hv := hfs ρ S vs S1 h
    rw [h] at f
    intro G1 as1 H1 xs x1 r1 a1
    have f1 := FinG.shift f x1
    refine ⟨by rw [ats_len a1, hv]; exact Nat.le_of_lt (small1000 hl), ?_⟩
    have f1 : FinG X.K w0 (At X.K) W σ Q G1 as1 H1 (tupR vs S1) := f1
    unfold tupR at f1
    cases h1 : plains vs with
    | none => rw [h1] at f1; exact f1.elim
    | some ds =>
      rw [h1] at f1
      exact new_tup r1 f1 (plains_all a1 h1)
theorem snd_lst (ha : PA X es (tA X.K w0 W fs)) (hl : es.length ≤ 1000) (hfs : ∀ ρ S vs S', fs ρ S = .ok vs S' → vs.length = es.length) : PE X (.List es pos) (tE X.K w0 W fun ρ S => (fs ρ S).bind lstR) := by
  refine PE.imp (pe_lst ha) fun σ H Q ⟨G, as, S, ρ, r0, e0, f⟩ => ⟨G, as, S, ρ, r0, e0, ?_⟩
  have f : FinG X.K w0 (At X.K) W σ Q G as H ((fs ρ S).bind lstR) := f
  cases h : fs ρ S with
  | exc c d S1 => rw [h] at f; exact f
  | bad => rw [h] at f; exact f
  | ok vs S1 =>
    have hv := hfs ρ S vs S1 h
    rw [h] at f
    intro G1 as1 H1 xs x1 r1 a1
    have f1 : FinG X.K w0 (At X.K) W σ Q G1 as1 H1 (lstR vs S1) := FinG.shift f x1
    refine ⟨by rw [ats_len a1, hv]; exact Nat.le_of_lt (small1000 hl), fun p np => ?_⟩
    unfold lstR at f1
    cases h1 : collect vs with
    | none => rw [h1] at f1; exact f1.elim
    | some x =>
      rw [h1] at f1
      obtain ⟨r', xe, e1⟩ := r1.new np (.lst xs)
      exact f1.now xe r' (collect_at e1 (Ats.ext xe a1) h1)
theorem snd_new (ha : PA X es (tA X.K w0 W fs)) (hl : es.length ≤ 1000) (hfs : ∀ ρ S vs S', fs ρ S = .ok vs S' → vs.length = es.length) : PE X (.List es pos) (tE X.K w0 W fun ρ S => (fs ρ S).bind newR) := by
  refine PE.imp (pe_lst ha) fun σ H Q ⟨G, as, S, ρ, r0, e0, f⟩ => ⟨G, as, S, ρ, r0, e0, ?_⟩
  have f : FinG X.K w0 (At X.K) W σ Q G as H ((fs ρ S).bind newR) := f
  cases h : fs ρ S with
  | exc c d S1 => rw [h] at f; exact f
  | bad => rw [h] at f; exact f
  | ok vs S1 =>
    have hv := hfs ρ S vs S1 h
    rw [h] at f
    intro G1 as1 H1 xs x1 r1 a1
    have f1 : FinG X.K w0 (At X.K) W σ Q G1 as1 H1 (newR vs S1) := FinG.shift f x1
    refine ⟨by rw [ats_len a1, hv]; exact Nat.le_of_lt (small1000 hl), fun p np => ?_⟩
    unfold newR at f1
    cases h1 : plains vs with
    | none => rw [h1] at f1; exact f1.elim
    | some ds =>
      rw [h1] at f1
      obtain ⟨r', xe, e1⟩ := r1.newCell np (plains_all a1 h1)
      exact f1.now xe r' ⟨p, rfl, e1⟩
theorem snd_idx (hs : PlainIx b) (ha : PE X a (tE X.K w0 W fa)) (hb : PE X b (tE X.K w0 W fb)) : PE X (.Subscript a b pos) (tE X.K w0 W fun ρ S => (fa ρ S).bind fun x S => (fb ρ S).bind fun y S => idxR x y S) := by
  refine PE.imp (pe_ix (ix_any (w0 := w0)) ha hb hs) fun σ H Q ⟨G, as, S, ρ, r0, e0, f⟩ => ⟨G, as, S, ρ, r0, e0, (FinG.bind f).imp ?_⟩
  intro v1 H1 ⟨G1, as1, S1, x, x1, r1, a1, f1⟩
  refine ⟨G1, as1, S1, ρ, r1, e0.ext x1, (FinG.bind f1).imp ?_⟩
  intro v2 H2 ⟨G2, as2, S2, y, x2, r2, a2, f2⟩
  exact ⟨G2, as2, S2, x, y, W, σ, r2, a1.ext x2, a2, f2⟩
abbrev tO (K : PySem.W.Frag) (w0 : Ew) (W : WX) (f : Rho → Sto → R (Option Int)) : TO := tG K w0 relEq W f
theorem sno_none : PO X none (tO X.K w0 W fun _ S => .ok none S) := ⟨fun pins s σ H Q I ⟨G, as, S, ρ, r0, e0, f⟩ => po_none.run pins s σ H Q I (f G as H none Ext.refl r0 rfl)⟩
theorem sno_some (ha : PE X a (tE X.K w0 W fa)) : PO X (some a) (tO X.K w0 W fun ρ S => ((fa ρ S).bind toI).bind fun i S => .ok (some i) S) := by
  refine ⟨fun pins s σ H Q I ⟨G, as, S, ρ, r0, e0, f⟩ => (po_some ha).run pins s σ H Q I ⟨G, as, S, ρ, r0, e0, ?_⟩⟩
  have f : FinG X.K w0 relEq W σ Q G as H (((fa ρ S).bind toI).bind fun i S => .ok (some i) S) := f
  rw [R.bind_assoc (fa ρ S)] at f
  refine (FinG.bind f).imp ?_
  intro v1 H1 ⟨G1, as1, S1, x, x1, r1, a1, f1⟩
  have f1 : FinG X.K w0 relEq W σ (fun i H => Q i H) G1 as1 H1 ((toI x S1).bind fun i S => .ok (some i) S) := f1
  unfold toI at f1
  split at f1
  · cases a1
    exact ⟨_, rfl, f1 G1 as1 H1 _ Ext.refl r1 rfl⟩
  · exact f1.elim
theorem snd_sl {lo hi : Option Expr} {p2 : Pos} {fl fh : Rho → Sto → R (Option Int)} (ha : PE X a (tE X.K w0 W fa)) (hl : PO X lo (tO X.K w0 W fl)) (hh : PO X hi (tO X.K w0 W fh)) :
    PE X (.Subscript a (.Slice lo hi none p2) pos) (tE X.K w0 W fun ρ S => (fa ρ S).bind fun x S => (fl ρ S).bind fun l S => (fh ρ S).bind fun h S => slR x l h S) := by
  refine PE.imp (pe_slice (sl_any (w0 := w0)) ha hl hh) fun σ H Q ⟨G, as, S, ρ, r0, e0, f⟩ => ⟨G, as, S, ρ, r0, e0, (FinG.bind f).imp ?_⟩
  intro v1 H1 ⟨G1, as1, S1, x, x1, r1, a1, f1⟩
  refine ⟨G1, as1, S1, ρ, r1, e0.ext x1, (FinG.bind (rel' := relEq) f1).imp ?_⟩
  intro l H2 ⟨G2, as2, S2, l', x2, r2, el, f2⟩
  obtain rfl : l = l' := el
  refine ⟨G2, as2, S2, ρ, r2, (e0.ext x1).ext x2, (FinG.bind (rel' := relEq) f2).imp ?_⟩
  intro h H3 ⟨G3, as3, S3, h', x3, r3, eh, f3⟩
  obtain rfl : h = h' := eh
  exact ⟨G3, as3, S3, x, W, σ, r3, (a1.ext x2).ext x3, f3⟩
theorem snd_blt (b : Blt) {x : Str} {p : Pos} (hc : X.calm = true) (hg : X.A.guards = some []) (hu : X.A.units + 100 < cLine) (hx : x = bltName b) (gl : Gl X x) (hm : X.mg x = none) (hs : isStar e = false) (hss : (es.all fun e => !isStar e) = true)
    (ha : PA X (e :: es) (tA X.K w0 W fs)) : PE X (.Call (.Name x p) (e :: es) [] pos) (tE X.K w0 W fun ρ S => (fs ρ S).bind fun vs S => bltR b vs S) := by
  have hn : x ≠ "__name__" := by rw [hx]; cases b <;> decide +kernel
  have hd : (x == ("__debug__" : Str)) = false := by rw [hx]; cases b <;> decide +kernel
  have hv : bootBuiltins x = some (bltVal b) := by rw [hx]; exact blt_boot b
  have hr := call_blt (w0 := w0) hc hg hu b
  unfold bltVal at hv hr
  have key : ∀ σ H Q, tE X.K w0 W (fun ρ S => (fs ρ S).bind fun vs S => bltR b vs S) σ H Q → tCB (rBlt X.K w0 b) (tA X.K w0 W fs) σ H Q := fun σ H Q ⟨G, as, S, ρ, r0, e0, f⟩ => by
    refine ⟨G, as, S, ρ, r0, e0, (FinG.bind f).imp ?_⟩
    intro v1 H1 ⟨G1, as1, S1, x, x1, r1, a1, f1⟩
    exact ⟨G1, as1, S1, x, W, σ, r1, a1, f1⟩
  cases h : bltTy b with
  | true =>
    rw [h] at hv hr
    exact PE.imp (pe_callTy hr gl hm hv ha hn hd (star_cons hs es X.env) (star_all hss _ _)) key
  | false =>
    rw [h] at hv hr
    exact PE.imp (pe_callB hr gl hm hv ha hn hd (star_cons hs es X.env) (star_all hss _ _)) key
end
end Dw

set_option Elab.async false
set_option linter.all false
set_option maxRecDepth 100000
set_option maxHeartbeats 4000000
/-! What is walked; comprehensions; isinstance; append. -/
namespace Dw
open PySem PySem.Spec PyProof.Rows L2

structure Walk (K : PySem.W.Frag) (G : Hp) (as : List Addr) (J : L2.It) (vs : List Val) : Prop where
  go : ∀ i H, Same G H → i < vs.length → J.go i H
  stop : ∀ i H, Same G H → vs.length ≤ i → J.stop i H
  yld : ∀ (i : Nat) (H : Hp) (x : V) (H' G1 : Hp) (as1 : List Addr) (S : Sto), Same G G1 → as <+: as1 → Rst K G1 as1 S H → J.yld i H x H' → i < vs.length → ∃ G2 y, Ext G1 as1 H G2 as1 H' ∧ Rst K G2 as1 S H' ∧ vs[i]? = some y ∧ At K G2 as1 x y
abbrev tI (K : PySem.W.Frag) (w0 : Ew) (W : WX) (f : Rho → Sto → R (List Val)) : TI := tG K w0 (Walk K) W f
section
variable {K : PySem.W.Frag} {G : Hp} {as : List Addr} {a : Addr} {xs : List V} {vs : List Val}
theorem walkL (hs : ∀ H, Same G H → SqL K H a xs) (hl : xs.length = vs.length) (hx : ∀ (i : Nat) x, xs[i]? = some x → ∃ y, vs[i]? = some y ∧ At K G as x y) : Walk K G as (Itl K a) vs where
  go := fun i H s h => ⟨xs, xs[i]'(by omega), hs H s, List.getElem?_eq_getElem _⟩
  stop := fun i H s h => ⟨xs, hs H s, by omega⟩
  yld := fun i H x H' G1 as1 S g p r y h => by
    obtain ⟨rfl, y⟩ := y
    obtain ⟨z, h1, h2⟩ := hx i x (y xs (hs _ (g.trans r.same)))
    exact ⟨G1, z, Ext.refl, r, h1, h2.mono g p⟩
theorem walkT (hs : ∀ H, Same G H → SqT K H a xs) (hl : xs.length = vs.length) (hx : ∀ (i : Nat) x, xs[i]? = some x → ∃ y, vs[i]? = some y ∧ At K G as x y) : Walk K G as (Itt K a) vs where
  go := fun i H s h => ⟨xs, xs[i]'(by omega), hs H s, List.getElem?_eq_getElem _⟩
  stop := fun i H s h => ⟨xs, hs H s, by omega⟩
  yld := fun i H x H' G1 as1 S g p r y h => by
    obtain ⟨rfl, y⟩ := y
    obtain ⟨z, h1, h2⟩ := hx i x (y xs (hs _ (g.trans r.same)))
    exact ⟨G1, z, Ext.refl, r, h1, h2.mono g p⟩
theorem walkR (lo : Int) (n : Nat) : Walk K G as (Itr lo n) ((List.range n).map fun (i : Nat) => Val.dat (.int (lo + i))) where
  go := fun i H s h => by
    show i < n
    simpa using h
  stop := fun i H s h => by
    show n ≤ i
    simpa using h
  yld := fun i H x H' G1 as1 S g p r y h => by
    obtain ⟨rfl, rfl⟩ := y
    have hi : i < n := by simpa using h
    exact ⟨G1, .dat (.int (lo + i)), Ext.refl, r, by simp [hi], .int _⟩
theorem da_get : ∀ {xs : List V} {l : List PyData} {i : Nat} {x : V}, DaAll K G xs l → xs[i]? = some x → ∃ d, l[i]? = some d ∧ Da K G x d
  | _, _, _, _, .nil, e => by simp at e
  | _, _, 0, _, .cons x _, e => by
    simp at e
    subst e
    exact ⟨_, rfl, x⟩
  | _, _, i + 1, _, .cons _ a, e => by
    obtain ⟨v, h1, h2⟩ := da_get (i := i) a (by simpa using e)
    exact ⟨v, by simpa using h1, h2⟩
theorem refs_get' : ∀ {bs : List Addr} {ks : List Nat} {i : Nat} {b : Addr}, Refs as bs ks → bs[i]? = some b → ∃ k, ks[i]? = some k ∧ as[k]? = some b
  | _, _, _, _, .nil, e => by simp at e
  | _, _, 0, _, .cons x _, e => by
    simp at e
    subst e
    exact ⟨_, rfl, x⟩
  | _, _, i + 1, _, .cons _ a, e => by
    obtain ⟨v, h1, h2⟩ := refs_get' (i := i) a (by simpa using e)
    exact ⟨v, by simpa using h1, h2⟩
theorem dat_items {l : List PyData} (a : DaAll K G xs l) : ∀ (i : Nat) x, xs[i]? = some x → ∃ y, (l.map Val.dat)[i]? = some y ∧ At K G as x y := fun i x e => by
  obtain ⟨d, h1, h2⟩ := da_get a e
  exact ⟨.dat d, by rw [List.getElem?_map, h1]; rfl, h2⟩
end
section
variable {X : Cx} {w0 : Ew} {W : WX} {fa fb : Rho → Sto → R Val} {tg e a b : Expr} {pos : Pos}
theorem sni_val (ha : PE X e (tE X.K w0 W fa)) : PI X tg e (tI X.K w0 W fun ρ S => (fa ρ S).bind fun x S => give (items x) S) := by
  refine ⟨fun pins s σ H R I ⟨G, as, S, ρ, r0, e0, f⟩ => ?_⟩
  have f : FinG X.K w0 (Walk X.K) W σ R G as H ((fa ρ S).bind fun x S => give (items x) S) := f
  cases h : fa ρ S with
  | bad => rw [h] at f; exact f.elim
  | exc c d S1 =>
    exact (pi_list ha).run pins s σ H R I ⟨G, as, S, ρ, r0, e0, by rw [h] at f ⊢; exact f⟩
  | ok x S1 =>
    rw [h] at f
    have f : FinG X.K w0 (Walk X.K) W σ R G as H (give (items x) S1) := f
    cases x with
    | dat d =>
      cases d with
      | list l =>
        refine (pi_list ha).run pins s σ H R I ⟨G, as, S, ρ, r0, e0, ?_⟩
        rw [h]
        intro G1 as1 H1 v x1 r1 a1
        cases a1 with
        | lst e1 e2 =>
          rename_i p xs
          refine ⟨p, rfl, ⟨xs, SqL.of (r1.same _ _ e1)⟩, f G1 as1 H1 _ x1 r1 (walkL (fun H s => SqL.of (s _ _ e1)) (by rw [e2.length, List.length_map]) (dat_items e2))⟩
      | tuple l =>
        refine (pi_tup ha).run pins s σ H R I ⟨G, as, S, ρ, r0, e0, ?_⟩
        rw [h]
        intro G1 as1 H1 v x1 r1 a1
        cases a1 with
        | tup e1 e2 =>
          rename_i p xs
          refine ⟨p, rfl, ⟨xs, Same.seqT r1.same e1⟩, f G1 as1 H1 _ x1 r1 (walkT (fun H s => Same.seqT s e1) (by rw [e2.length, List.length_map]) (dat_items e2))⟩
      | _ => exact f.elim
    | cell k => exact f.elim
    | fn k => exact f.elim
    | cells ks =>
      refine (pi_list ha).run pins s σ H R I ⟨G, as, S, ρ, r0, e0, ?_⟩
      rw [h]
      intro G1 as1 H1 v x1 r1 a1
      obtain ⟨p, bs, rfl, e1, e2⟩ := a1
      refine ⟨p, rfl, ⟨_, SqL.of (r1.same _ _ e1)⟩, f G1 as1 H1 _ x1 r1 (walkL (fun H s => SqL.of (s _ _ e1)) (by rw [List.length_map, List.length_map, refs_len e2]) fun i y ey => ?_)⟩
      rw [List.getElem?_map] at ey
      cases q : bs[i]? with
      | none => rw [q] at ey; cases ey
      | some b =>
        rw [q] at ey
        cases ey
        obtain ⟨k, h1, h2⟩ := refs_get' e2 q
        exact ⟨.cell k, by rw [List.getElem?_map, h1]; rfl, b, rfl, h2⟩
    | scr l =>
      refine (pi_list ha).run pins s σ H R I ⟨G, as, S, ρ, r0, e0, ?_⟩
      rw [h]
      intro G1 as1 H1 v x1 r1 a1
      obtain ⟨p, xs, rfl, e1, e2⟩ := a1
      exact ⟨p, rfl, ⟨xs, r1.same.seq e1⟩, f G1 as1 H1 _ x1 r1 (walkL (fun H s => s.seq e1) (by rw [e2.length, List.length_map]) (dat_items e2))⟩
theorem toI_some {α β : Type} {rel : Hp → List Addr → β → α → Prop} {K : PySem.W.Frag} {σ : L2.St} {Q : β → Hp → Prop} {G H : Hp} {as : List Addr} {x : Val} {S : Sto} {g : Int → Sto → R α} (f : FinG K w0 rel W σ Q G as H ((toI x S).bind g)) :
    ∃ i, x = .dat (.int i) ∧ FinG K w0 rel W σ Q G as H (g i S) := by
  unfold toI at f
  split at f
  · exact ⟨_, rfl, f⟩
  · exact f.elim
theorem rangeV_some {α : Type} {rel : Hp → List Addr → α → List Val → Prop} {K : PySem.W.Frag} {σ : L2.St} {Q : α → Hp → Prop} {G H : Hp} {as : List Addr} {S : Sto} {i j : Int} (f : FinG K w0 rel W σ Q G as H (give (rangeV i j) S)) :
    (-(2 ^ 62) ≤ i ∧ i < 2 ^ 62 ∧ -(2 ^ 62) ≤ j ∧ j < 2 ^ 62) ∧ FinG K w0 rel W σ Q G as H (.ok ((List.range (j - i).toNat).map fun (k : Nat) => Val.dat (.int (i + k))) S) := by
  unfold rangeV at f
  split at f
  · exact ⟨by assumption, f⟩
  · exact f.elim
theorem sni_rng1 {p : Pos} (gl : Gl X "range") (hm : X.mg "range" = none) (hs : isStar a = false) (ha : PE X a (tE X.K w0 W fa)) :
    PI X tg (.Call (.Name "range" p) [a] [] pos) (tI X.K w0 W fun ρ S => ((fa ρ S).bind toI).bind fun i S => give (rangeV 0 i) S) := by
  refine ⟨fun pins s σ H RR I ⟨G, as, S, ρ, r0, e0, f⟩ => ?_⟩
  have f : FinG X.K w0 (Walk X.K) W σ RR G as H (((fa ρ S).bind toI).bind fun i S => give (rangeV 0 i) S) := f
  rw [R.bind_assoc (fa ρ S)] at f
  refine (pi_range1 gl hm (pa_cons ha pa_nil (star_cons hs _ _)) (star_cons hs _ _)).run pins s σ H RR I ⟨G, as, S, ρ, r0, e0, (FinG.bind f).imp ?_⟩
  intro v1 H1 ⟨G1, as1, S1, x, x1, r1, a1, f1⟩
  obtain ⟨i, rfl, f1⟩ := toI_some f1
  obtain ⟨hb, f1⟩ := rangeV_some f1
  cases a1
  refine ⟨i, rfl, hb.2.2.1, hb.2.2.2, ?_⟩
  have q := f1 G1 as1 H1 _ Ext.refl r1 (walkR 0 (i - 0).toNat)
  rw [Int.sub_zero] at q
  exact q
theorem sni_rng2 {p : Pos} (gl : Gl X "range") (hm : X.mg "range" = none) (hs : isStar a = false) (hs2 : isStar b = false) (ha : PE X a (tE X.K w0 W fa)) (hb : PE X b (tE X.K w0 W fb)) :
    PI X tg (.Call (.Name "range" p) [a, b] [] pos) (tI X.K w0 W fun ρ S => (fa ρ S).bind fun x S => (fb ρ S).bind fun y S => (toI x S).bind fun i S => (toI y S).bind fun j S => give (rangeV i j) S) := by
  refine ⟨fun pins s σ H RR I ⟨G, as, S, ρ, r0, e0, f⟩ => ?_⟩
  refine (pi_range2 gl hm (pa_cons ha (pa_cons hb pa_nil (star_cons hs2 _ _)) (star_cons hs _ _)) (by rw [star_cons hs, star_cons hs2]; rfl) (by rw [star_cons hs2]; rfl)).run pins s σ H RR I ⟨G, as, S, ρ, r0, e0, (FinG.bind f).imp ?_⟩
  intro v1 H1 ⟨G1, as1, S1, x, x1, r1, a1, f1⟩
  refine ⟨G1, as1, S1, ρ, r1, e0.ext x1, (FinG.bind f1).imp ?_⟩
  intro v2 H2 ⟨G2, as2, S2, y, x2, r2, a2, f2⟩
  have f2 : FinG X.K w0 (Walk X.K) W σ RR G2 as2 H2 ((toI x S2).bind fun i S => (toI y S).bind fun j S => give (rangeV i j) S) := f2
  obtain ⟨i, rfl, f2⟩ := toI_some f2
  have f2 : FinG X.K w0 (Walk X.K) W σ RR G2 as2 H2 ((toI y S2).bind fun j S => give (rangeV i j) S) := f2
  obtain ⟨j, rfl, f2⟩ := toI_some f2
  obtain ⟨hb, f2⟩ := rangeV_some f2
  cases a1
  cases a2
  exact ⟨i, j, rfl, hb, f2 G2 as2 H2 _ Ext.refl r2 (walkR i (j - i).toNat)⟩
end

/-! ### targets -/
def tgSlots : Tg → List Nat
  | .name i => [i]
  | .names is => is
def tGt (K : PySem.W.Frag) (tg : Tg) : TG := fun v σ H Q => ∃ G as S ρ x ρ', Rst K G as S H ∧ EnvR K G as σ ρ ∧ At K G as v x ∧ setTg tg x ρ = some ρ' ∧ ∀ σ', EnvR K G as σ' ρ' → (∀ own : List Nat, (∀ i ∈ tgSlots tg, i ∈ own) → L2.wipe σ' own = L2.wipe σ own) → Q σ' H
theorem wipe_set {σ : L2.St} {i : Nat} {x : Option V} : ∀ {own : List Nat}, i ∈ own → L2.wipe (σ.set i x) own = L2.wipe σ own
  | [], h => by cases h
  | v :: vs, h => by
    show (L2.wipe (σ.set i x) vs).set v none = (L2.wipe σ vs).set v none
    by_cases hi : i ∈ vs
    · rw [wipe_set hi]
    · have e : v = i := by
        rcases List.mem_cons.mp h with h | h
        · exact h.symm
        · exact absurd h hi
      subst e
      have : ∀ (ws : List Nat), v ∉ ws → (L2.wipe (σ.set v x) ws) = (L2.wipe σ ws).set v x := by
        intro ws
        induction ws with
        | nil => intro _; rfl
        | cons w ws ih =>
          intro hw
          rw [List.mem_cons, not_or] at hw
          show (L2.wipe (σ.set v x) ws).set w none = ((L2.wipe σ ws).set w none).set v x
          rw [ih hw.2, List.set_comm _ _ hw.1]
      rw [this vs hi, List.set_set]
section
variable {X : Cx}
theorem sng_name {i : Nat} {x : Str} {pos : Pos} (hN : X.N.Nodup) (hi : X.N[i]? = some x) (hx : Loc X.env.scope x) (hf : X.fn x = true ∨ X.env.scope.names.lookup x = some .local) : PG X (.Name x pos) (tGt X.K (.name i)) := by
  refine ⟨fun pins s σ H v u Q I r ⟨G, as, S, ρ, y, ρ', r0, e0, a, h, q⟩ => (pg_name hN hi hx hf).run pins s σ H v u Q I r ?_⟩
  cases h
  exact q _ (e0.set a i) fun own ho => wipe_set (ho i (List.mem_singleton.mpr rfl))
/-- names one behind another -/
def tGs (K : PySem.W.Frag) (is : List Nat) : TGs := fun vs σ H Q => ∃ G as S ρ ds ρ', Rst K G as S H ∧ EnvR K G as σ ρ ∧ DaAll K G vs ds ∧ setNames is ds ρ = some ρ' ∧ ∀ σ', EnvR K G as σ' ρ' → (∀ own : List Nat, (∀ i ∈ is, i ∈ own) → L2.wipe σ' own = L2.wipe σ own) → Q σ' H
theorem sngs_nil : PGs X [] (tGs X.K []) := by
  refine ⟨fun pins s σ H vs us Q I r ⟨G, as, S, ρ, ds, ρ', r0, e0, a, h, q⟩ => pgs_nil.run pins s σ H vs us Q I r ?_⟩
  cases a with
  | nil =>
    cases h
    exact ⟨rfl, q σ e0 fun _ _ => rfl⟩
  | cons _ _ => cases h
theorem sngs_cons {i : Nat} {is : List Nat} {x : Str} {pos : Pos} {es : List Expr} (hN : X.N.Nodup) (hi : X.N[i]? = some x) (hx : Loc X.env.scope x) (hf : X.fn x = true ∨ X.env.scope.names.lookup x = some .local) (hr : PGs X es (tGs X.K is)) : PGs X (.Name x pos :: es) (tGs X.K (i :: is)) := by
  refine ⟨fun pins s σ H vs us Q I r ⟨G, as, S, ρ, ds, ρ', r0, e0, a, h, q⟩ => (pgs_cons (pg_name hN hi hx hf) hr).run pins s σ H vs us Q I r ?_⟩
  cases a with
  | nil => cases h
  | cons a1 a2 =>
    refine ⟨_, _, rfl, G, as, S, _, _, ρ', r0, e0.set (x := .dat _) a1 i, a2, h, fun σ' e' hw => q σ' e' fun own ho => ?_⟩
    rw [hw own fun j hj => ho j (List.mem_cons_of_mem _ hj)]
    exact wipe_set (ho i List.mem_cons_self)
theorem sng_names {is : List Nat} {es : List Expr} {j : Nat} {pos : Pos} (hc : X.calm = true) (h : PGs X es (tGs X.K is)) (hn : es.length = is.length) (hl : (assignEach es X.env).length = es.length) (hst : (assignEach es X.env).findIdx? (·.1) = none) :
    PG X (.Tuple es j pos) (tGt X.K (.names is)) := by
  refine ⟨fun pins s σ H v u Q I r ⟨G, as, S, ρ, y, ρ', r0, e0, a, e, q⟩ => (pg_tup (n := is.length) hc h (hl.trans hn) hst).run pins s σ H v u Q I r ?_⟩
  unfold setTg at e
  split at e
  · rename_i heq; cases heq
  · rename_i is' ds heq
    cases heq
    cases a with
    | tup e1 e2 =>
      refine ⟨_, _, rfl, Same.seqT r0.same e1, ?_, G, as, S, _, ds, ρ', r0, e0, e2, e, q⟩
      rw [e2.length]
      have : ∀ (is : List Nat) (ds : List PyData) (ρ ρ' : Rho), setNames is ds ρ = some ρ' → ds.length = is.length := by
        intro is
        induction is with
        | nil => intro ds ρ ρ' h; cases ds <;> first | rfl | cases h
        | cons i is ih => intro ds ρ ρ' h; cases ds with
          | nil => cases h
          | cons d ds => rw [List.length_cons, List.length_cons, ih ds _ _ h]
      exact this _ _ _ _ e
  · cases e
end

/-! ### list comprehensions -/
abbrev W0 : WX := fun _ _ _ _ => False
theorem calm_ok {α : Type} {r : R α} {x : α} {S : Sto} (h : r.calm = .ok x S) : r = .ok x S := by
  cases r <;> first | exact h | cases h
section
variable {X : Cx} {w0 : Ew} {W : WX} {fe : Rho → Sto → R Val} {ff : Rho → Sto → R Bool} {fi : Rho → Sto → R (List Val)} {elt tg iter : Expr} {ifs : List Expr} {scope : Scope} {own : List (Str × Nat)} {pos : Pos} {t : Tg}
abbrev turnF (t : Tg) (own : List Nat) (ff : Rho → Sto → R Bool) (fe : Rho → Sto → R Val) (ρ : Rho) : Val → Sto → R (Option Val) := fun v S => match setTg t v (wipeE ρ own) with
  | none => .bad
  | some ρ' => R.calm ((ff ρ' S).bind fun b S => if b = true then (fe ρ' S).bind fun x S => .ok (some x) S else .ok none S)
abbrev cpF (t : Tg) (own : List Nat) (ff : Rho → Sto → R Bool) (fe : Rho → Sto → R Val) (fi : Rho → Sto → R (List Val)) : Rho → Sto → R Val := fun ρ S => (fi ρ S).bind fun vs S =>
  if vs.length ≤ LINE then (compL (turnF t own ff fe ρ) vs S).bind lstR else .bad
theorem compL_ext (f : Val → Sto → R (Option Val)) : ∀ (vs : List Val) (S : Sto), compL f vs S = match vs with
    | [] => .ok [] S
    | v :: r => (f v S).bind fun o S => (compL f r S).bind fun vs S => .ok (match o with
      | some x => x :: vs
      | none => vs) S
  | [], _ => rfl
  | _ :: _, _ => rfl
theorem turn_calm {ρ : Rho} {v : Val} {S : Sto} {o : Option Val} {S1 : Sto} (h : turnF t (own.map (·.2)) ff fe ρ v S = .ok o S1) :
    ∃ (ρ' : Rho), setTg t v (wipeE ρ (own.map (·.2))) = some ρ' ∧ ((∃ S2 x, ff ρ' S = .ok true S2 ∧ fe ρ' S2 = .ok x S1 ∧ o = some x) ∨ (ff ρ' S = .ok false S1 ∧ o = none)) := by
  unfold turnF at h
  cases h1 : setTg t v (wipeE ρ (own.map (·.2))) with
  | none => simp only [h1] at h; cases h
  | some ρ' =>
    simp only [h1] at h
    refine ⟨ρ', rfl, ?_⟩
    have h := calm_ok h
    cases h2 : ff ρ' S with
    | bad => rw [h2] at h; cases h
    | exc c d S2 => rw [h2] at h; cases h
    | ok b S2 =>
      rw [h2] at h
      cases b with
      | false => cases h; exact .inr ⟨rfl, rfl⟩
      | true =>
        have h : (fe ρ' S2).bind (fun x S => R.ok (some x) S) = .ok o S1 := h
        cases h3 : fe ρ' S2 with
        | bad => rw [h3] at h; cases h
        | exc c d S3 => rw [h3] at h; cases h
        | ok x S3 => rw [h3] at h; cases h; exact .inl ⟨S2, x, rfl, h3, rfl⟩
theorem turn_noexc {ρ : Rho} {v : Val} {S : Sto} {c : Nat} {d : PyData} {S1 : Sto} : turnF t (own.map (·.2)) ff fe ρ v S ≠ .exc c d S1 := by
  intro h
  unfold turnF at h
  split at h
  · cases h
  · unfold R.calm at h
    split at h <;> first | cases h | skip
    rename_i hne
    exact hne _ _ _ h
theorem cp_step {K : PySem.W.Frag} {σ : L2.St} {H : Hp} {Q : VK} (hown : ∀ i ∈ tgSlots t, i ∈ own.map (·.2)) (h : tE K w0 W (cpF t (own.map (·.2)) ff fe fi) σ H Q) :
    tLc (tI K w0 W fi) (tGt K t) (tTB K w0 W0 ff) (tE K w0 W0 fe) (own.map (·.2)) σ H Q := by
  obtain ⟨G, as, S, ρ, r0, e0, f⟩ := h
  refine ⟨G, as, S, ρ, r0, e0, (FinG.bind (rel' := Walk K) f).imp ?_⟩
  intro J H1 ⟨G1, as1, S1, vs, x1, r1, wk, f1⟩ D nD
  have e1 : EnvR K G1 as1 σ ρ := e0.ext x1
  by_cases hlen : vs.length ≤ LINE
  case neg => simp only [if_neg hlen] at f1; exact f1.elim
  simp only [if_pos hlen] at f1
  -- what stands between two turns
  refine ⟨fun i m H2 => m = vs.length - i ∧ i ≤ vs.length ∧ ∃ G2 as2 S2 acc ys, Ext G1 as1 H1 G2 as2 H2 ∧ Rst K G2 as2 S2 H2 ∧ H2 D = some (.lst acc) ∧ Ats K G2 as2 acc ys ∧ acc.length ≤ i ∧ G2 D = none ∧ D ∉ as2 ∧
      FinG K w0 (At K) W σ Q G1 as1 H1 ((compL (turnF t (own.map (·.2)) ff fe ρ) (vs.drop i) S2).bind fun zs S => lstR (ys ++ zs) S), ⟨vs.length, rfl, Nat.zero_le _, G1, as1, S1, [], [], ?_, ?_, upd_same, .nil, Nat.le_refl _, r1.same.free nD, ?_, ?_⟩, ?_⟩
  · exact ⟨Same.refl _, List.prefix_refl _, fun b o e _ => by rw [upd_ne (ne_of_none e nD)]; exact e, fun b e => by
      by_cases hb : b = D
      · rw [hb]; exact nD
      · rw [upd_ne hb] at e; exact e, fun _ h => .inl h, fun b o e => .inl e⟩
  · refine ⟨fun b o e => by rw [upd_ne (ne_of_none e (r1.same.free nD))]; exact r1.same b o e, r1.len, fun k a e => ?_, r1.nd⟩
    obtain ⟨l, xs, h1, h2, h3, h4⟩ := r1.cl k a e
    exact ⟨l, xs, h1, by rw [upd_ne (ne_of_none h2 nD)]; exact h2, h3, h4⟩
  · intro hD
    obtain ⟨k, hk, e⟩ := List.getElem_of_mem hD
    obtain ⟨l, xs, h1, h2, _, _⟩ := r1.cl k D (by rw [List.getElem?_eq_getElem hk, e])
    rw [nD] at h2; cases h2
  · rw [List.drop_zero]
    exact f1
  rintro i m H2 ⟨rfl, hi', G2, as2, S2, acc, ys, x2, r2, hD, ha, hal, gD, dD, f2⟩
  by_cases hlt : i < vs.length
  case neg =>
    have ei : i = vs.length := by omega
    refine .inl ⟨wk.stop i H2 (x2.g.trans r2.same) (by omega), ?_⟩
    rw [ei, List.drop_length] at f2
    have f2 : FinG K w0 (At K) W σ Q G1 as1 H1 (lstR (ys ++ []) S2) := f2
    rw [List.append_nil] at f2
    unfold lstR at f2
    cases h1 : collect ys with
    | none => rw [h1] at f2; exact f2.elim
    | some x =>
      rw [h1] at f2
      have sg : Same G2 (upd G2 D (.lst acc)) := fun b u e => by rw [upd_ne (ne_of_none e gD)]; exact e
      have r3 : Rst K (upd G2 D (.lst acc)) as2 S2 H2 := ⟨fun b u e => by
        by_cases hb : b = D
        · subst hb; rw [upd_same] at e; rw [← e]; exact hD
        · rw [upd_ne hb] at e; exact r2.same b u e, r2.len, fun k a e => by
          obtain ⟨l, xs, h1, h2, h3, h4⟩ := r2.cl k a e
          exact ⟨l, xs, h1, h2, DaAll.mono sg _ _ h3, by rw [upd_ne (fun z => dD (by rw [← z]; exact List.mem_of_getElem? e))]; exact h4⟩, r2.nd⟩
      have x3 : Ext G1 as1 H1 (upd G2 D (.lst acc)) as2 H2 := ⟨x2.g.trans sg, x2.pre, x2.kp, x2.th, x2.fr, fun b o e => by
        by_cases hb : b = D
        · rw [hb]; exact .inr nD
        · rw [upd_ne hb] at e; exact x2.gf b o e⟩
      have ha' : Ats K (upd G2 D (.lst acc)) as2 acc ys := by
        have : ∀ {xs : List V} {ys : List Val}, Ats K G2 as2 xs ys → Ats K (upd G2 D (.lst acc)) as2 xs ys := by
          intro xs ys h
          induction h with
          | nil => exact .nil
          | cons a _ ih => exact .cons (a.mono sg (List.prefix_refl _)) ih
        exact this ha
      exact f2 _ _ _ (.ref D) x3 r3 (collect_at upd_same ha' h1)
  case pos =>
    refine .inr ⟨wk.go i H2 (x2.g.trans r2.same) hlt, fun H3 => ∃ G3 as3 S3 acc3 ys3, Ext G1 as1 H1 G3 as3 H3 ∧ Rst K G3 as3 S3 H3 ∧ H3 D = some (.lst acc3) ∧ Ats K G3 as3 acc3 ys3 ∧ acc3.length ≤ i + 1 ∧ G3 D = none ∧ D ∉ as3 ∧
      FinG K w0 (At K) W σ Q G1 as1 H1 ((compL (turnF t (own.map (·.2)) ff fe ρ) (vs.drop (i + 1)) S3).bind fun zs S => lstR (ys3 ++ zs) S), fun H3 h => ⟨vs.length - (i + 1), by omega, rfl, hlt, h⟩, fun x H3 hy => ?_⟩
    obtain ⟨G3, y, x3, r3, ey, ax⟩ := wk.yld i H2 x H3 G2 as2 S2 x2.g x2.pre r2 hy hlt
    have ev : vs.drop i = y :: vs.drop (i + 1) := by
      rw [List.drop_eq_getElem_cons hlt]
      rw [List.getElem?_eq_getElem hlt] at ey
      rw [Option.some.inj ey]
    rw [ev] at f2
    have f2 : FinG K w0 (At K) W σ Q G1 as1 H1 (((turnF t (own.map (·.2)) ff fe ρ y S2).bind fun o S => (compL (turnF t (own.map (·.2)) ff fe ρ) (vs.drop (i + 1)) S).bind fun zs S => .ok (match o with
      | some x => x :: zs
      | none => zs) S).bind fun zs S => lstR (ys ++ zs) S) := f2
    have hD3 : H3 D = some (.lst acc) := x3.kp D _ hD dD
    have gD3 : G3 D = none := by
      cases q : G3 D with
      | none => rfl
      | some o =>
        rcases x3.gf D o q with z | z
        · rw [gD] at z; cases z
        · rw [hD] at z; cases z
    cases hr : turnF t (own.map (·.2)) ff fe ρ y S2 with
    | bad => rw [hr] at f2; exact f2.elim
    | exc c d S3 => exact absurd hr turn_noexc
    | ok o S4 =>
      rw [hr] at f2
      obtain ⟨ρ', hset, hcase⟩ := turn_calm hr
      have e3 : EnvR K G3 as2 σ ρ := (e1.ext x2).ext x3
      refine ⟨G3, as2, S2, _, y, ρ', r3, e3.wipe _, ax, hset, fun σ2 e4 hw => ⟨?_, ?_⟩⟩
      · rw [hw _ hown]
        have : ∀ (vs : List Nat) (τ : L2.St), L2.wipe (L2.wipe τ vs) vs = L2.wipe τ vs := by
          intro vs τ
          apply List.ext_getElem?
          intro j
          by_cases hj : j ∈ vs
          · have z1 : ∀ (τ : L2.St) (ws : List Nat), j ∈ ws → (L2.wipe τ ws)[j]? = if j < τ.length then some none else none := by
              intro τ ws
              induction ws with
              | nil => intro h; cases h
              | cons w ws ih =>
                intro h
                show ((L2.wipe τ ws).set w none)[j]? = _
                by_cases hwj : w = j
                · subst hwj
                  by_cases hl : w < τ.length
                  · rw [List.getElem?_set_self (by rw [wipe_length]; exact hl), if_pos hl]
                  · rw [List.getElem?_eq_none (by rw [List.length_set, wipe_length]; omega), if_neg hl]
                · rw [List.getElem?_set_ne hwj]
                  exact ih (by
                    rcases List.mem_cons.mp h with z | z
                    · exact absurd z.symm hwj
                    · exact z)
            rw [z1 _ _ hj, z1 _ _ hj, wipe_length]
          · rw [wipe_out hj]
        exact this _ _
      · rcases hcase with ⟨S5, z, h1, h2, rfl⟩ | ⟨h1, rfl⟩
        · refine ⟨G3, as2, S2, ρ', r3, e4, ?_⟩
          rw [h1]
          intro G5 as5 H5 b x5 r5 eb
          obtain rfl : b = true := eb
          refine iteT ⟨G5, as5, S5, ρ', r5, e4.ext x5, ?_⟩
          rw [h2]
          intro G6 as6 H6 v x6 r6 a6
          have x36 := x3.trans (x5.trans x6)
          have hD6 : H6 D = some (.lst acc) := x36.kp D _ hD dD
          have gD6 : G6 D = none := by
            cases q : G6 D with
            | none => rfl
            | some o =>
              rcases x36.gf D o q with z | z
              · rw [gD] at z; cases z
              · rw [hD] at z; cases z
          have dD6 : D ∉ as6 := fun h => by
            rcases x36.fr D h with z | z
            · exact dD z
            · rw [hD] at z; cases z
          refine ⟨acc, hD6, by rw [← LINE_eq]; omega, G6, as6, S4, acc ++ [v], ys ++ [z], ?_, ?_, upd_same, ?_, by rw [List.length_append, List.length_singleton]; omega, gD6, dD6, ?_⟩
          · have xx := x2.trans x36
            exact ⟨xx.g, xx.pre, fun b o e hb => by
              have hbD : b ≠ D := ne_of_none e nD
              rw [upd_ne hbD]
              exact xx.kp b o e hb, fun b e => by
              by_cases hb : b = D
              · subst hb; rw [upd_same] at e; cases e
              · rw [upd_ne hb] at e; exact xx.th b e, xx.fr, xx.gf⟩
          · refine ⟨fun b o e => by rw [upd_ne (ne_of_none e gD6)]; exact r6.same b o e, r6.len, fun k a e => ?_, r6.nd⟩
            obtain ⟨l, xs, g1, g2, g3, g4⟩ := r6.cl k a e
            exact ⟨l, xs, g1, by rw [upd_ne (fun z => dD6 (by rw [← z]; exact List.mem_of_getElem? e))]; exact g2, g3, g4⟩
          · have : ∀ {xs : List V} {ys : List Val}, Ats K G6 as6 xs ys → Ats K G6 as6 (xs ++ [v]) (ys ++ [z]) := by
              intro xs ys h
              induction h with
              | nil => exact .cons a6 .nil
              | cons a _ ih => exact .cons a ih
            exact this (Ats.ext x36 ha)
          · have f3 : FinG K w0 (At K) W σ Q G1 as1 H1 (((compL (turnF t (own.map (·.2)) ff fe ρ) (vs.drop (i + 1)) S4).bind fun zs S => .ok (z :: zs) S).bind fun zs S => lstR (ys ++ zs) S) := f2
            rw [R.bind_assoc] at f3
            have f4 : FinG K w0 (At K) W σ Q G1 as1 H1 ((compL (turnF t (own.map (·.2)) ff fe ρ) (vs.drop (i + 1)) S4).bind fun zs S => lstR (ys ++ z :: zs) S) := f3
            have e5 : (fun (zs : List Val) (S : Sto) => lstR (ys ++ z :: zs) S) = fun zs S => lstR (ys ++ [z] ++ zs) S := by
              funext zs S
              rw [List.append_assoc]
              rfl
            rw [e5] at f4
            exact f4
        · refine ⟨G3, as2, S2, ρ', r3, e4, ?_⟩
          rw [h1]
          intro G5 as5 H5 b x5 r5 eb
          obtain rfl : b = false := eb
          have x35 := x3.trans x5
          refine iteF ⟨G5, as5, S4, acc, ys, x2.trans x35, r5, x35.kp D _ hD dD, Ats.ext x35 ha, by omega, ?_, ?_, ?_⟩
          · cases q : G5 D with
            | none => rfl
            | some o =>
              rcases x35.gf D o q with z | z
              · rw [gD] at z; cases z
              · rw [hD] at z; cases z
          · intro h
            rcases x35.fr D h with z | z
            · exact dD z
            · rw [hD] at z; cases z
          · have f3 : FinG K w0 (At K) W σ Q G1 as1 H1 (((compL (turnF t (own.map (·.2)) ff fe ρ) (vs.drop (i + 1)) S4).bind fun zs S => .ok zs S).bind fun zs S => lstR (ys ++ zs) S) := f2
            rw [R.bind_assoc] at f3
            exact f3
theorem snd_cp (hc : X.calm = true) (hN : X.N.Nodup) (hi : PI X tg iter (tI X.K w0 W fi)) (ok : BlkOk X.N X.env.scope scope own) (hown : ∀ i ∈ tgSlots t, i ∈ own.map (·.2))
    (hg : ∀ (s : Shared) (H : Hp) (C : Addr) (cl : List (Str × Addr)) (fp : List Addr), PG (X.blk s H scope (compEnvC scope cl C X.env) fp) tg (tGt X.K t))
    (ht : ∀ (s : Shared) (H : Hp) (C : Addr) (cl : List (Str × Addr)) (fp : List Addr), PTs (X.blk s H scope (compEnvC scope cl C X.env) fp) ifs (tTB X.K w0 W0 ff))
    (he : ∀ (s : Shared) (H : Hp) (C : Addr) (cl : List (Str × Addr)) (fp : List Addr), PE (X.blk s H scope (compEnvC scope cl C X.env) fp) elt (tE X.K w0 W0 fe)) (hs : ∀ x, foldedSetIterable iter X.env x = pure x) :
    PE X (.ListComp elt [⟨tg, iter, ifs, 0⟩] scope pos) (tE X.K w0 W (cpF t (own.map (·.2)) ff fe fi)) := PE.imp (pe_lc hc hN hi ok hg ht he hs) fun _ _ _ h => cp_step hown h
end
end Dw

set_option Elab.async false
set_option linter.all false
set_option maxRecDepth 100000
set_option maxHeartbeats 4000000
/-! isinstance, append, calls of defs; statements. -/
namespace Dw
open PySem PySem.Spec PyProof.Rows L2

def tyName : Ty → String
  | .int => "int"
  | .bool => "bool"
  | .str => "str"
  | .tuple => "tuple"
  | .list => "list"
theorem ty_boot (t : Ty) : bootBuiltins (tyName t) = some (.type (tyName t)) := by cases t <;> decide +kernel
def dName : PyData → String
  | .none => "NoneType"
  | .bool _ => "bool"
  | .int _ => "int"
  | .str _ => "str"
  | .list _ => "list"
  | .tuple _ => "tuple"
  | .dict _ => "dict"
def isN (n : String) (t : Ty) : Bool := (n == tyName t) || (n == "bool" && tyName t == "int")
theorem isT_isN (d : PyData) (t : Ty) (hd : ∀ x, d ≠ .dict x) : isT d t = isN (dName d) t := by
  cases d with
  | dict x => exact absurd rfl (hd x)
  | none =>
    obtain ⟨h1, h2, h3, h4, h5⟩ : isN "NoneType" .int = false ∧ isN "NoneType" .bool = false ∧ isN "NoneType" .str = false ∧ isN "NoneType" .tuple = false ∧ isN "NoneType" .list = false := by decide +kernel
    cases t
    · exact h1.symm
    · exact h2.symm
    · exact h3.symm
    · exact h4.symm
    · exact h5.symm
  | bool b =>
    obtain ⟨h1, h2, h3, h4, h5⟩ : isN "bool" .int = true ∧ isN "bool" .bool = true ∧ isN "bool" .str = false ∧ isN "bool" .tuple = false ∧ isN "bool" .list = false := by decide +kernel
    cases t
    · exact h1.symm
    · exact h2.symm
    · exact h3.symm
    · exact h4.symm
    · exact h5.symm
  | int b =>
    obtain ⟨h1, h2, h3, h4, h5⟩ : isN "int" .int = true ∧ isN "int" .bool = false ∧ isN "int" .str = false ∧ isN "int" .tuple = false ∧ isN "int" .list = false := by decide +kernel
    cases t
    · exact h1.symm
    · exact h2.symm
    · exact h3.symm
    · exact h4.symm
    · exact h5.symm
  | str b =>
    obtain ⟨h1, h2, h3, h4, h5⟩ : isN "str" .int = false ∧ isN "str" .bool = false ∧ isN "str" .str = true ∧ isN "str" .tuple = false ∧ isN "str" .list = false := by decide +kernel
    cases t
    · exact h1.symm
    · exact h2.symm
    · exact h3.symm
    · exact h4.symm
    · exact h5.symm
  | list b =>
    obtain ⟨h1, h2, h3, h4, h5⟩ : isN "list" .int = false ∧ isN "list" .bool = false ∧ isN "list" .str = false ∧ isN "list" .tuple = false ∧ isN "list" .list = true := by decide +kernel
    cases t
    · exact h1.symm
    · exact h2.symm
    · exact h3.symm
    · exact h4.symm
    · exact h5.symm
  | tuple b =>
    obtain ⟨h1, h2, h3, h4, h5⟩ : isN "tuple" .int = false ∧ isN "tuple" .bool = false ∧ isN "tuple" .str = false ∧ isN "tuple" .tuple = true ∧ isN "tuple" .list = false := by decide +kernel
    cases t
    · exact h1.symm
    · exact h2.symm
    · exact h3.symm
    · exact h4.symm
    · exact h5.symm
theorem kit_isN : ∀ n ∈ ["NoneType", "bool", "int", "str", "list", "tuple"], ∀ t ∈ [Ty.int, .bool, .str, .tuple, .list], kitB n (tyName t) = some (isN n t) := by decide +kernel
theorem kit_is (d : PyData) (hd : ∀ x, d ≠ .dict x) (t : Ty) : kitB (dName d) (tyName t) = some (isT d t) := by
  rw [isT_isN d t hd]
  refine kit_isN _ ?_ _ (by cases t <;> simp)
  cases d with
  | dict x => exact absurd rfl (hd x)
  | _ => simp [dName]
section
variable {K : PySem.W.Frag} {G H : Hp} {as : List Addr} {S : Sto}
theorem rr_ty (r : Rst K G as S H) {v : V} : ∀ {d : PyData}, Rr K G H v d → TyX K H v (.type (dName d)) ∧ ∀ x, d ≠ .dict x
  | .none, h => by cases h; exact ⟨.base .non, fun _ z => nomatch z⟩
  | .bool _, h => by cases h; exact ⟨.base (.bl _), fun _ z => nomatch z⟩
  | .int _, h => by cases h; exact ⟨.base (.int _), fun _ z => nomatch z⟩
  | .str _, h => by cases h; exact ⟨.base (.str _), fun _ z => nomatch z⟩
  | .list l, h => by
    obtain ⟨p, xs, rfl, h1, h2⟩ := h
    refine ⟨?_, fun _ z => nomatch z⟩
    rcases h1 with (h1 | ⟨o, h1⟩) | ⟨o, its, n, h1, h2, _⟩
    · exact .base (.lst h1)
    · exact .base (.frz h1)
    · exact .kList h1 h2
  | .tuple l, h => by
    cases h with
    | tup h1 h2 =>
      refine ⟨?_, fun _ z => nomatch z⟩
      rcases Same.seqT r.same h1 with (h1 | ⟨o, h1⟩) | ⟨o, its, n, h1, h2, _⟩
      · exact .base (.tup h1)
      · exact .fTuple h1
      · exact .kTuple h1 h2
  | .dict _, h => by cases h
end
section
variable {X : Cx} {w0 : Ew} {W : WX} {fa : Rho → Sto → R Val} {fs fk : Rho → Sto → R (List Val)} {a e : Expr} {es : List Expr} {pos : Pos}
theorem snd_isi {t : Ty} {p p2 : Pos} (g1 : Gl X "isinstance") (m1 : X.mg "isinstance" = none) (g2 : Gl X (tyName t)) (m2 : X.mg (tyName t) = none) (hs : isStar a = false) (ha : PE X a (tE X.K w0 W fa)) :
    PE X (.Call (.Name "isinstance" p) [a, .Name (tyName t) p2] [] pos) (tE X.K w0 W fun ρ S => (fa ρ S).bind fun x S => isiR t x S) := by
  have hn : (Str.ofString (tyName t)) ≠ "__name__" := by cases t <;> decide +kernel
  have hd : ((tyName t : Str) == ("__debug__" : Str)) = false := by cases t <;> decide +kernel
  refine PE.imp (pe_callB (r := rIsi X.K) call_isi g1 m1 (by decide +kernel) (pa_cons ha (pa_cons (pe_bltn (v := .ty (tyName t)) g2 m2 (ty_boot t) rfl hn hd) pa_nil rfl) (star_cons hs _ _)) (by decide +kernel) (by decide +kernel) (star_cons hs _ _) rfl) fun σ H Q ⟨G, as, S, ρ, r0, e0, f⟩ => ⟨G, as, S, ρ, r0, e0, (FinG.bind f).imp ?_⟩
  intro v1 H1 ⟨G1, as1, S1, x, x1, r1, a1, f1⟩
  have f1 : FinG X.K w0 (At X.K) W σ Q G1 as1 H1 (isiR t x S1) := f1
  unfold isiR at f1
  cases h : deref S1 x with
  | none => rw [h] at f1; exact f1.elim
  | some d =>
    rw [h] at f1
    have f1 : FinG X.K w0 (At X.K) W σ Q G1 as1 H1 (.ok (.dat (.bool (isT d t))) S1) := f1
    obtain ⟨ty, nd⟩ := rr_ty r1 (rr_of r1 a1 h)
    exact ⟨v1, .ty (tyName t), _, .type (tyName t), isT d t, rfl, .ty _, ty, kit_ty (kit_is d nd t), same_val r1 f1 (.bl _)⟩
theorem isCell_some {α β : Type} {rel : Hp → List Addr → β → α → Prop} {K : PySem.W.Frag} {σ : L2.St} {Q : β → Hp → Prop} {G H : Hp} {as : List Addr} {x : Val} {S : Sto} {g : Val → Sto → R α} (f : FinG K w0 rel W σ Q G as H ((isCell x S).bind g)) :
    ∃ k, x = .cell k ∧ FinG K w0 rel W σ Q G as H (g (.cell k) S) := by
  unfold isCell at f
  split at f
  · exact ⟨_, rfl, f⟩
  · exact f.elim
theorem snd_app {apos : Pos} (hs : isStar e = false) (hbase : attributeBase a "append" X.env (eval a X.env) = eval a X.env) (hline : (apos.endLine == pos.line) = true)
    (ha : PE X a (tE X.K w0 W fa)) (he : PA X [e] (tA X.K w0 W fs)) : PE X (.Call (.Attribute a "append" apos) [e] [] pos) (tE X.K w0 W fun ρ S => ((fa ρ S).bind isCell).bind fun x S => (fs ρ S).bind fun vs S => appR x vs S) := by
  have hss : (([e] : List Expr).all fun e => !isStar e) = true := by simp [hs]
  refine PE.imp (pe_bm (T := "list") PySem.F.plainAttrs_list PySem.F.slot_list_append PySem.F.type_list_append mt_append ha he hbase (by
    have := star_not hss pos X.env
    simp only [this, Bool.true_and]
    rfl) hline (star_cons hs _ _) rfl) fun σ H Q ⟨G, as, S, ρ, r0, e0, f⟩ => ⟨G, as, S, ρ, r0, e0, ?_⟩
  have f : FinG X.K w0 (At X.K) W σ Q G as H (((fa ρ S).bind isCell).bind fun x S => (fs ρ S).bind fun vs S => appR x vs S) := f
  rw [R.bind_assoc (fa ρ S)] at f
  refine (FinG.bind f).imp ?_
  intro v1 H1 ⟨G1, as1, S1, x, x1, r1, a1, f1⟩
  obtain ⟨k, rfl, f1⟩ := isCell_some f1
  obtain ⟨p, rfl, ep⟩ := a1
  obtain ⟨l1, xs1, g1, g2, g3, g4⟩ := r1.cl k p ep
  refine ⟨Or.inl ⟨rfl, xs1, SqL.of g2⟩, G1, as1, S1, ρ, r1, e0.ext x1, (FinG.bind (rel' := Ats X.K) f1).imp ?_⟩
  intro ws H2 ⟨G2, as2, S2, vs, x2, r2, a2, f2⟩
  have f2 : FinG X.K w0 (At X.K) W σ Q G2 as2 H2 (appR (.cell k) vs S2) := f2
  have ep2 := pre_get x2.pre ep
  obtain ⟨l2, xs2, k1, k2, k3, k4⟩ := r2.cl k p ep2
  cases a2 with
  | nil => exact (show False from f2).elim
  | @cons b v _ _ ab t =>
    cases v with
    | dat d =>
      cases t with
      | nil =>
        have f3 : FinG X.K w0 (At X.K) W σ Q G2 as2 H2 (match S2[k]? with
          | some l => if l.length < LINE then .ok (.dat .none) (S2.set k (l ++ [d])) else .bad
          | none => .bad) := f2
        rw [k1] at f3
        by_cases hl : l2.length < LINE
        · simp only [if_pos hl] at f3
          obtain ⟨r3, x3⟩ := r2.write ep2 (k3.append (.cons ab .nil))
          exact ⟨p, xs2, _, rfl, rfl, k2, by rw [k3.length, ← LINE_eq]; exact hl, f3 _ _ _ _ x3 r3 .non⟩
        · simp only [if_neg hl] at f3; exact f3.elim
      | cons _ _ => exact (show False from f2).elim
    | _ => exact (show False from f2).elim

/-! ### calls of defs -/
theorem ats_perm {K : PySem.W.Frag} {G : Hp} {as : List Addr} {vs : List V} {xs : List Val} (a : Ats K G as vs xs) : ∀ perm : List Nat, Ats K G as (perm.filterMap fun i => vs[i]?) (perm.filterMap fun i => xs[i]?)
  | [] => .nil
  | i :: p => by
    have ih := ats_perm a p
    rw [List.filterMap_cons, List.filterMap_cons]
    have key : ∀ {vs : List V} {xs : List Val} (i : Nat), Ats K G as vs xs → (vs[i]? = none ∧ xs[i]? = none) ∨ ∃ v x, vs[i]? = some v ∧ xs[i]? = some x ∧ At K G as v x := by
      intro vs xs i h
      induction h generalizing i with
      | nil => exact .inl ⟨by simp, by simp⟩
      | cons a _ ih =>
        cases i with
        | zero => exact .inr ⟨_, _, rfl, rfl, a⟩
        | succ i =>
          rcases ih i with ⟨h1, h2⟩ | ⟨v, x, h1, h2, h3⟩
          · exact .inl ⟨by simpa using h1, by simpa using h2⟩
          · exact .inr ⟨v, x, by simpa using h1, by simpa using h2, h3⟩
    rcases key i a with ⟨h1, h2⟩ | ⟨v, x, h1, h2, h3⟩
    · rw [h1, h2]; exact ih
    · rw [h1, h2]; exact .cons h3 ih
theorem ats_app {K : PySem.W.Frag} {G : Hp} {as : List Addr} : ∀ {vs ws : List V} {xs ys : List Val}, Ats K G as vs xs → Ats K G as ws ys → Ats K G as (vs ++ ws) (xs ++ ys)
  | _, _, _, _, .nil, b => b
  | _, _, _, _, .cons x a, b => .cons x (ats_app a b)
theorem ats_ints {K : PySem.W.Frag} {G : Hp} {as : List Addr} : ∀ l : List Int, Ats K G as (l.map V.int) (l.map fun i => Val.dat (.int i))
  | [] => .nil
  | i :: l => .cons (.int i) (ats_ints l)
variable {lvl : Nat} {fad : Addr} {fd : FuncData} {ps ks : List Str} {x : Str} {p : Pos} {perm : List Nat} {dfl : List Int} {nu : Nat} {kws : List Keyword} {C : List Val → Sto → R Val}
/-- the promise, at a call -/
theorem call_fin {σ : L2.St} {Q : VK} {G H : Hp} {as : List Addr} {vs : List V} {xs : List Val} {S : Sto} (r : Rst X.K G as S H) (a : Ats X.K G as vs xs) (f : FinG X.K w0 (At X.K) W σ Q G as H (C xs S)) : spEv X.K w0 C vs H Q (fun c d H' => W c d σ H') :=
  ⟨G, as, S, xs, r, a, by
    cases h : C xs S with
    | ok y S' => rw [h] at f; exact f
    | exc c d S' => rw [h] at f; exact f
    | bad => rw [h] at f; exact f⟩
theorem snd_callK {Cf : Nat → List Val → Sto → R Val} {f : Nat} (F : FnG X.prog X.w X.K X.mg X.base lvl fad fd ps (spEv X.K w0 (Cf f))) (hr : Room lvl X.A) (hgd : X.A.guards = some []) (hg : Gl X x) (hm : X.mg x = some (.ref fad)) (hk : PySem.W.keepIn X.K (.ref fad) = true)
    (sh : ShapeOk X.K fd ps nu ks perm dfl) (tk : Takes X W) (ha : PA X es (tA X.K w0 W fs)) (hkw : PK X kws (tA X.K w0 W fk)) (hall : (backToKw pos (keywordEach kws X.env)).all (·.1.isSome) = true) (hks : (backToKw pos (keywordEach kws X.env)).filterMap (·.1) = ks)
    (hnil : es = [] → ∀ ρ S, fs ρ S = .ok [] S) (hss : (es.all fun e => !isStar e) = true) (hkn : (backToKw pos (keywordEach kws X.env)).any (·.1.isNone) = false) (hdb : (x == ("__debug__" : Str)) = false) :
    PE X (.Call (.Name x p) es kws pos) (tE X.K w0 W fun ρ S => (fs ρ S).bind fun vs S => (fk ρ S).bind fun ws S => callKR Cf f nu ks.length perm dfl vs ws S) := by
  have step : ∀ {σ : L2.St} {Q : VK} {G H G0 H0 : Hp} {as as0 : List Addr} {vs : List V} {xs : List Val} {S : Sto} {ρ : Rho}, Rst X.K G as S H → EnvR X.K G as σ ρ → Ats X.K G as vs xs →
      FinG X.K w0 (At X.K) W σ Q G as H ((fk ρ S).bind fun ws S => callKR Cf f nu ks.length perm dfl xs ws S) →
      tA X.K w0 W fk σ H (fun zs H2 => vs.length = nu ∧ zs.length = ks.length ∧ spEv X.K w0 (Cf f) (perm.filterMap fun i => (vs ++ zs ++ dfl.map V.int)[i]?) H2 Q (fun c d H' => W c d σ H')) := fun {σ Q G H G0 H0 as as0 vs xs S ρ} r e a h => by
    refine ⟨G, as, S, ρ, r, e, (FinG.bind (rel' := Ats X.K) h).imp ?_⟩
    intro zs H2 ⟨G2, as2, S2, ws, x2, r2, a2, f2⟩
    have f2 : FinG X.K w0 (At X.K) W σ Q G2 as2 H2 (callKR Cf f nu ks.length perm dfl xs ws S2) := f2
    unfold callKR at f2
    by_cases hl : xs.length = nu ∧ ws.length = ks.length
    · rw [if_pos hl] at f2
      exact ⟨by rw [ats_len a, hl.1], by rw [ats_len a2, hl.2], call_fin r2 (ats_perm (ats_app (ats_app (Ats.ext x2 a) a2) (ats_ints dfl)) perm) f2⟩
    · rw [if_neg hl] at f2; exact f2.elim
  cases es with
  | nil =>
    refine PE.imp (pe_callG0 (E := fun σ c d H => W c d σ H) F hr hgd hg hm hk sh (fun σ => passAt' tk σ) hkw hall hks (by rw [hkn]; rfl) hdb) fun σ H Q ⟨G, as, S, ρ, r0, e0, h⟩ => ?_
    have h : FinG X.K w0 (At X.K) W σ Q G as H ((fs ρ S).bind fun vs S => (fk ρ S).bind fun ws S => callKR Cf f nu ks.length perm dfl vs ws S) := h
    rw [hnil rfl] at h
    exact step (G0 := G) (H0 := H) (as0 := as) r0 e0 .nil h
  | cons e0 er =>
    rw [List.all_cons, Bool.and_eq_true, Bool.not_eq_true'] at hss
    refine PE.imp (pe_callG (E := fun σ c d H => W c d σ H) F hr hgd hg hm hk sh (fun σ => passAt' tk σ) ha hkw hall hks (star_cons hss.1 _ _) (by rw [star_all (by rw [List.all_cons, hss.1, hss.2]; rfl), hkn]; rfl) hdb) fun σ H Q ⟨G, as, S, ρ, r0, e0, h⟩ => ⟨G, as, S, ρ, r0, e0, (FinG.bind (rel' := Ats X.K) h).imp ?_⟩
    intro vs H1 ⟨G1, as1, S1, xs, x1, r1, a1, f1⟩
    exact step (G0 := G) (H0 := H) (as0 := as) r1 (e0.ext x1) a1 f1
end
end Dw

set_option Elab.async false
set_option linter.all false
set_option maxRecDepth 100000
set_option maxHeartbeats 4000000
/-! Statements. -/
namespace Dw
open PySem PySem.Spec PyProof.Rows L2

section
variable {K : PySem.W.Frag} {w0 : Ew} {α β : Type} {W : WX} {D : Ends} {σ : L2.St} {ρ : Rho} {G G' H H' : Hp} {as as' : List Addr}
theorem FinS.shift {r : SR} (h : FinS K w0 W D G as H r) (x : Ext G as H G' as' H') : FinS K w0 W D G' as' H' r := by
  cases r with
  | nx ρ S => exact fun G1 as1 H1 σ' e r a => h G1 as1 H1 σ' (x.trans e) r a
  | rt v S => exact fun G1 as1 H1 σ' e r a => h G1 as1 H1 σ' (x.trans e) r a
  | bk ρ S => exact fun G1 as1 H1 σ' e r a => h G1 as1 H1 σ' (x.trans e) r a
  | ct ρ S => exact fun G1 as1 H1 σ' e r a => h G1 as1 H1 σ' (x.trans e) r a
  | exc c d ρ S => exact fun G1 as1 H1 σ' dx v e r a h1 h2 => h G1 as1 H1 σ' dx v (x.trans e) r a h1 h2
  | bad => exact h.elim
def StepS (K : PySem.W.Frag) (w0 : Ew) (rel' : Hp → List Addr → β → α → Prop) (W : WX) (D : Ends) (G : Hp) (as : List Addr) (H : Hp) (g : α → Sto → SR) (v : β) (H1 : Hp) : Prop :=
  ∃ G1 as1 S1 x, Ext G as H G1 as1 H1 ∧ Rst K G1 as1 S1 H1 ∧ rel' G1 as1 v x ∧ FinS K w0 W D G1 as1 H1 (g x S1)
theorem FinS.bind {rel' : Hp → List Addr → β → α → Prop} {r : R α} {g : α → Sto → SR} (e0 : EnvR K G as σ ρ) (h : FinS K w0 W D G as H (R.st r ρ g)) : FinG K w0 rel' W σ (StepS K w0 rel' W D G as H g) G as H r := by
  cases r with
  | ok a S => exact fun G1 as1 H1 v e r at_ => ⟨G1, as1, S, a, e, r, at_, FinS.shift h e⟩
  | exc c d S => exact fun G1 as1 H1 dx v e r h1 h2 => h G1 as1 H1 σ dx v e r (e0.ext e) h1 h2
  | bad => exact h
end

section
variable {X : Cx} {w0 : Ew} {W : WX} {fa fb fo fi : Rho → Sto → R Val} {e o i a b c : Expr} {pos p1 p2 : Pos} {ga gb : Rho → Sto → SR} {sa sb : List Stmt} {st : Stmt}
theorem sns_pass : PS X (.Pass pos) (tSx X.K w0 W fun ρ S => .nx ρ S) := PS.imp ps_pass fun D σ H ⟨G, as, S, ρ, r0, e0, f⟩ => f G as H σ Ext.refl r0 e0
theorem snss_nil : PSs X [] (tSx X.K w0 W fun ρ S => .nx ρ S) := PSs.imp pss_nil fun D σ H ⟨G, as, S, ρ, r0, e0, f⟩ => f G as H σ Ext.refl r0 e0
theorem snss_cons (h1 : PS X st (tSx X.K w0 W ga)) (h2 : PSs X sa (tSx X.K w0 W gb)) : PSs X (st :: sa) (tSx X.K w0 W fun ρ S => match ga ρ S with
    | .nx ρ S => gb ρ S
    | x => x) := by
  refine PSs.imp (pss_cons h1 h2) fun D σ H ⟨G, as, S, ρ, r0, e0, f⟩ => ⟨G, as, S, ρ, r0, e0, ?_⟩
  have f : FinS X.K w0 W D G as H (match ga ρ S with
    | .nx ρ S => gb ρ S
    | x => x) := f
  cases h : ga ρ S with
  | nx ρ1 S1 =>
    rw [h] at f
    exact fun G1 as1 H1 σ1 x1 r1 e1 => ⟨G1, as1, S1, ρ1, r1, e1, FinS.shift f x1⟩
  | rt v S1 => rw [h] at f; exact f
  | bk v S1 => rw [h] at f; exact f
  | ct v S1 => rw [h] at f; exact f
  | exc c d ρ1 S1 => rw [h] at f; exact f
  | bad => rw [h] at f; exact f
theorem sns_never : PS X st (tSx X.K w0 W fun _ _ => .bad) := PS.imp ps_never fun D σ H ⟨G, as, S, ρ, r0, e0, f⟩ => f.elim
theorem sns_exp (ha : PE X e (tE X.K w0 W fa)) (hs : swapsWith e none pos.line X.env = pure false) : PS X (.Expr e pos) (tSx X.K w0 W fun ρ S => R.st (fa ρ S) ρ fun _ S => .nx ρ S) := by
  refine PS.imp (ps_expr ha hs) fun D σ H ⟨G, as, S, ρ, r0, e0, f⟩ => ⟨G, as, S, ρ, r0, e0, (FinS.bind e0 f).imp ?_⟩
  intro v H1 ⟨G1, as1, S1, x, x1, r1, a1, f1⟩
  exact f1 G1 as1 H1 σ Ext.refl r1 (e0.ext x1)
theorem sns_ret (ha : PE X e (tE X.K w0 W fa)) : PS X (.Return (some e) pos) (tSx X.K w0 W fun ρ S => R.st (fa ρ S) ρ fun v S => .rt v S) := by
  refine PS.imp (ps_ret ha) fun D σ H ⟨G, as, S, ρ, r0, e0, f⟩ => ⟨G, as, S, ρ, r0, e0, (FinS.bind e0 f).imp ?_⟩
  intro v H1 ⟨G1, as1, S1, x, x1, r1, a1, f1⟩
  exact f1 G1 as1 H1 v Ext.refl r1 a1
theorem sns_if (hc : PT X c (tTB X.K w0 W (bB fa))) (ha : PSs X sa (tSx X.K w0 W ga)) (hb : PSs X sb (tSx X.K w0 W gb)) : PS X (.If c sa sb pos) (tSx X.K w0 W fun ρ S => R.st ((fa ρ S).bind toB) ρ fun k S => if k = true then ga ρ S else gb ρ S) := by
  refine PS.imp (ps_if hc ha hb) fun D σ H ⟨G, as, S, ρ, r0, e0, f⟩ => ⟨G, as, S, ρ, r0, e0, (FinS.bind (rel' := relEq) e0 f).imp ?_⟩
  intro k H1 ⟨G1, as1, S1, x, x1, r1, a1, f1⟩
  obtain rfl : k = x := a1
  cases k with
  | true => exact iteT ⟨G1, as1, S1, ρ, r1, e0.ext x1, f1⟩
  | false => exact iteF ⟨G1, as1, S1, ρ, r1, e0.ext x1, f1⟩
theorem sns_while {n : Nat} (hp : PassesOwn (model X.prog X.w) X.A X.env X.xe) (hc : PT X c (tTB X.K w0 W (bB fa))) (hb : PSs X sa (tSx X.K w0 W ga)) : PS X (.While c sa [] pos) (tSx X.K w0 W fun ρ S => loopW (bB fa) ga n ρ S) := by
  refine PS.imp (ps_while hp hc hb) fun D σ H ⟨G, as, S, ρ, r0, e0, f⟩ => ?_
  refine ⟨fun m σ H => ∃ G as S ρ, Rst X.K G as S H ∧ EnvR X.K G as σ ρ ∧ FinS X.K w0 W D G as H (loopW (bB fa) ga m ρ S), ⟨n, G, as, S, ρ, r0, e0, f⟩, ?_⟩
  intro m σ H ⟨G, as, S, ρ, r0, e0, f⟩
  cases m with
  | zero => exact f.elim
  | succ m =>
    unfold loopW at f
    refine ⟨G, as, S, ρ, r0, e0, ?_⟩
    cases h : bB fa ρ S with
    | bad => simp only [h] at f; exact f.elim
    | exc c d S1 => simp only [h] at f; exact fun G1 as1 H1 dx v x r h1 h2 => f G1 as1 H1 σ dx v x r (e0.ext x) h1 h2
    | ok k S1 =>
      simp only [h] at f
      intro G1 as1 H1 k' x1 r1 ek
      obtain rfl : k' = k := ek
      cases k' with
      | false => exact iteF (f G1 as1 H1 σ x1 r1 (e0.ext x1))
      | true =>
        refine iteT ⟨fun σ' H' => ∃ G as S ρ, Rst X.K G as S H' ∧ EnvR X.K G as σ' ρ ∧ FinS X.K w0 W D G as H' (loopW (bB fa) ga m ρ S), fun σ' H' q => ⟨m, Nat.lt_succ_self m, q⟩, G1, as1, S1, ρ, r1, e0.ext x1, ?_⟩
        simp only at f
        cases h2 : ga ρ S1 with
        | nx ρ2 S2 => simp only [h2] at f; exact fun G2 as2 H2 σ2 x2 r2 e2 => ⟨G2, as2, S2, ρ2, r2, e2, FinS.shift f (x1.trans x2)⟩
        | ct ρ2 S2 => simp only [h2] at f; exact fun G2 as2 H2 σ2 x2 r2 e2 => ⟨G2, as2, S2, ρ2, r2, e2, FinS.shift f (x1.trans x2)⟩
        | bk ρ2 S2 => simp only [h2] at f; exact fun G2 as2 H2 σ2 x2 r2 e2 => f G2 as2 H2 σ2 (x1.trans x2) r2 e2
        | rt v S2 => simp only [h2] at f; exact fun G2 as2 H2 v2 x2 r2 e2 => f G2 as2 H2 v2 (x1.trans x2) r2 e2
        | exc c d ρ2 S2 => simp only [h2] at f; exact fun G2 as2 H2 σ2 dx v x2 r2 e2 => f G2 as2 H2 σ2 dx v (x1.trans x2) r2 e2
        | bad => simp only [h2] at f; exact f.elim
theorem sns_for {t : Tg} {tg iter : Expr} {fs : Rho → Sto → R (List Val)} (hp : PassesOwn (model X.prog X.w) X.A X.env X.xe) (hc : X.calm = true) (hi : PI X tg iter (tI X.K w0 W fs)) (hg : PG X tg (tGt X.K t)) (hb : PSs X sa (tSx X.K w0 W ga))
    (hs : ∀ x, foldedSetIterable iter X.env x = pure x) : PS X (.For tg iter sa [] pos) (tSx X.K w0 W fun ρ S => match fs ρ S with
      | .ok vs S => loopF t ga vs ρ S
      | .exc c d S => .exc c d ρ S
      | .bad => .bad) := by
  refine PS.imp (ps_for hp hc hi hg hb hs) fun D σ H ⟨G, as, S, ρ, r0, e0, f⟩ => ⟨G, as, S, ρ, r0, e0, ?_⟩
  have f : FinS X.K w0 W D G as H (R.st (fs ρ S) ρ fun vs S => loopF t ga vs ρ S) := by
    have f : FinS X.K w0 W D G as H (match fs ρ S with
      | .ok vs S => loopF t ga vs ρ S
      | .exc c d S => .exc c d ρ S
      | .bad => .bad) := f
    cases h : fs ρ S <;> rw [h] at f <;> exact f
  refine (FinS.bind (rel' := Walk X.K) e0 f).imp ?_
  intro J H1 ⟨G1, as1, S1, vs, x1, r1, wk, f1⟩
  refine ⟨fun i m σ2 H2 => m = vs.length - i ∧ i ≤ vs.length ∧ ∃ G2 as2 S2 ρ2, Ext G1 as1 H1 G2 as2 H2 ∧ Rst X.K G2 as2 S2 H2 ∧ EnvR X.K G2 as2 σ2 ρ2 ∧ FinS X.K w0 W D G2 as2 H2 (loopF t ga (vs.drop i) ρ2 S2), ⟨vs.length, rfl, Nat.zero_le _, G1, as1, S1, ρ, Ext.refl, r1, e0.ext x1, by rw [List.drop_zero]; exact f1⟩, ?_⟩
  rintro i m σ2 H2 ⟨rfl, hi', G2, as2, S2, ρ2, x2, r2, e2, f2⟩
  by_cases hlt : i < vs.length
  case neg =>
    have ei : i = vs.length := by omega
    refine .inl ⟨wk.stop i H2 (x2.g.trans r2.same) (by omega), ?_⟩
    rw [ei, List.drop_length] at f2
    exact f2 G2 as2 H2 σ2 Ext.refl r2 e2
  case pos =>
    refine .inr ⟨wk.go i H2 (x2.g.trans r2.same) hlt, fun σ3 H3 => ∃ G3 as3 S3 ρ3, Ext G1 as1 H1 G3 as3 H3 ∧ Rst X.K G3 as3 S3 H3 ∧ EnvR X.K G3 as3 σ3 ρ3 ∧ FinS X.K w0 W D G3 as3 H3 (loopF t ga (vs.drop (i + 1)) ρ3 S3), fun σ3 H3 h => ⟨vs.length - (i + 1), by omega, rfl, hlt, h⟩, fun x H3 hy => ?_⟩
    obtain ⟨G3, y, x3, r3, ey, ax⟩ := wk.yld i H2 x H3 G2 as2 S2 x2.g x2.pre r2 hy hlt
    have ev : vs.drop i = y :: vs.drop (i + 1) := by
      rw [List.drop_eq_getElem_cons hlt]
      rw [List.getElem?_eq_getElem hlt] at ey
      rw [Option.some.inj ey]
    rw [ev] at f2
    unfold loopF at f2
    cases hset : setTg t y ρ2 with
    | none => simp only [hset] at f2; exact f2.elim
    | some ρ' =>
      simp only [hset] at f2
      refine ⟨G3, as2, S2, ρ2, y, ρ', r3, e2.ext x3, ax, hset, fun σ4 e4 _ => ⟨G3, as2, S2, ρ', r3, e4, ?_⟩⟩
      have x13 := x2.trans x3
      cases h2 : ga ρ' S2 with
      | nx ρ5 S5 => simp only [h2] at f2; exact fun G5 as5 H5 σ5 x5 r5 e5 => ⟨G5, as5, S5, ρ5, x13.trans x5, r5, e5, FinS.shift f2 (x3.trans x5)⟩
      | ct ρ5 S5 => simp only [h2] at f2; exact fun G5 as5 H5 σ5 x5 r5 e5 => ⟨G5, as5, S5, ρ5, x13.trans x5, r5, e5, FinS.shift f2 (x3.trans x5)⟩
      | bk ρ5 S5 => simp only [h2] at f2; exact fun G5 as5 H5 σ5 x5 r5 e5 => f2 G5 as5 H5 σ5 (x3.trans x5) r5 e5
      | rt v S5 => simp only [h2] at f2; exact fun G5 as5 H5 v5 x5 r5 e5 => f2 G5 as5 H5 v5 (x3.trans x5) r5 e5
      | exc c d ρ5 S5 => simp only [h2] at f2; exact fun G5 as5 H5 σ5 dx v x5 r5 e5 => f2 G5 as5 H5 σ5 dx v (x3.trans x5) r5 e5
      | bad => simp only [h2] at f2; exact f2.elim
/-! stores -/
theorem sns_asg {t : Tg} {tg : Expr} (ha : PE X e (tE X.K w0 W fa)) (hg : PG X tg (tGt X.K t)) (hs : swapsWithSole [tg] e pos.line X.env = pure false) (hw : swappedStores [tg] e X.env = pure none) (h1 : (assignEach [tg] X.env).map (·.2) = [assign tg X.env]) :
    PS X (.Assign [tg] e pos) (tSx X.K w0 W fun ρ S => R.st (fa ρ S) ρ fun v S => match setTg t v ρ with
      | some ρ => .nx ρ S
      | none => .bad) := by
  refine PS.imp (ps_asg ha hg hs hw h1) fun D σ H ⟨G, as, S, ρ, r0, e0, f⟩ => ⟨G, as, S, ρ, r0, e0, (FinS.bind e0 f).imp ?_⟩
  intro v H1 ⟨G1, as1, S1, x, x1, r1, a1, f1⟩
  cases h : setTg t x ρ with
  | none => simp only [h] at f1; exact f1.elim
  | some ρ' =>
    simp only [h] at f1
    exact ⟨G1, as1, S1, ρ, x, ρ', r1, e0.ext x1, a1, h, fun σ' e' _ => f1 G1 as1 H1 σ' Ext.refl r1 e'⟩
theorem sns_setLc {j : Nat} {y : Str} {py : Pos} {elt tg iter : Expr} {ifs : List Expr} {scope : Scope} {own : List (Str × Nat)} {t : Tg} {fe : Rho → Sto → R Val} {ff : Rho → Sto → R Bool} {fl : Rho → Sto → R (List Val)} (hc : X.calm = true) (hN : X.N.Nodup) (hy : X.N[j]? = some y) (hyl : X.env.scope.names.lookup y = some .local)
    (hsw : swapsWith (.ListComp elt [⟨tg, iter, ifs, 0⟩] scope p1) (some (.Name y py)) pos.line X.env = pure true) (hi : PI X tg iter (tI X.K w0 W fl)) (ok : BlkOk X.N X.env.scope scope own) (hown : ∀ i ∈ tgSlots t, i ∈ own.map (·.2))
    (hg : ∀ (s : Shared) (H : Hp) (C : Addr) (cl : List (Str × Addr)) (fp : List Addr), PG (X.blk s H scope (compEnvC scope cl C X.env) fp) tg (tGt X.K t))
    (ht : ∀ (s : Shared) (H : Hp) (C : Addr) (cl : List (Str × Addr)) (fp : List Addr), PTs (X.blk s H scope (compEnvC scope cl C X.env) fp) ifs (tTB X.K w0 W0 ff))
    (he : ∀ (s : Shared) (H : Hp) (C : Addr) (cl : List (Str × Addr)) (fp : List Addr), PE (X.blk s H scope (compEnvC scope cl C X.env) fp) elt (tE X.K w0 W0 fe)) (hs : ∀ x, foldedSetIterable iter X.env x = pure x) :
    PS X (.Assign [.Name y py] (.ListComp elt [⟨tg, iter, ifs, 0⟩] scope p1) pos) (tSx X.K w0 W fun ρ S => R.st (cpF t (own.map (·.2)) ff fe fl ρ S) ρ fun v S => match setTg (.name j) v ρ with
      | some ρ => .nx ρ S
      | none => .bad) := by
  refine PS.imp (ps_setLc hc hN hy hyl hsw hi ok hg ht he hs) fun D σ H ⟨G, as, S, ρ, r0, e0, f⟩ => ?_
  refine cp_step hown ⟨G, as, S, ρ, r0, e0, (FinS.bind e0 f).imp ?_⟩
  intro v H1 ⟨G1, as1, S1, x, x1, r1, a1, f1⟩
  exact f1 G1 as1 H1 _ Ext.refl r1 ((e0.ext x1).set a1 j)
theorem sns_par {i j : Nat} {x y : Str} {px py pt : Pos} {kt k2 : Nat} (hc : X.calm = true) (hN : X.N.Nodup) (hi : X.N[i]? = some x) (hj : X.N[j]? = some y) (hij : i ≠ j) (hx : X.env.scope.names.lookup x = some .local) (hy : X.env.scope.names.lookup y = some .local)
    (hs1 : isStar a = false) (hs2 : isStar b = false) (ha : PE X a (tE X.K w0 W fa)) (hb : PE X b (tE X.K w0 W fb)) (hw : swappedStores [.Tuple [.Name x px, .Name y py] kt pt] (.Tuple [a, b] k2 p2) X.env = pure (some [x, y])) :
    PS X (.Assign [.Tuple [.Name x px, .Name y py] kt pt] (.Tuple [a, b] k2 p2) pos) (tSx X.K w0 W fun ρ S => R.st (fa ρ S) ρ fun v S => R.st (fb ρ S) ρ fun w S => .nx ((ρ.set i (some v)).set j (some w)) S) := by
  refine PS.imp (ps_par hc hN hi hj hij hx hy (pa_cons ha (pa_cons hb pa_nil (star_cons hs2 _ _)) (star_cons hs1 _ _)) hw rfl) fun D σ H ⟨G, as, S, ρ, r0, e0, f⟩ => ⟨G, as, S, ρ, r0, e0, (FinS.bind e0 f).imp ?_⟩
  intro v H1 ⟨G1, as1, S1, x, x1, r1, a1, f1⟩
  refine ⟨G1, as1, S1, ρ, r1, e0.ext x1, (FinS.bind (e0.ext x1) f1).imp ?_⟩
  intro v2 H2 ⟨G2, as2, S2, y, x2, r2, a2, f2⟩
  exact ⟨v, v2, rfl, f2 G2 as2 H2 _ Ext.refl r2 ((((e0.ext x1).ext x2).set (a1.ext x2) i).set a2 j)⟩
/-- o[i] = v, within a store -/
theorem sub_step {σ : L2.St} {ρ : Rho} {D : Ends} {G H : Hp} {as : List Addr} {S : Sto} {v : V} {d : PyData} {g : Sto → SR} {Cc : Nat → List Val → Sto → R Val} {Gc : List PyData} {xo xi : Ex} (r0 : Rst X.K G as S H) (e0 : EnvR X.K G as σ ρ) (a : Da X.K G v d)
    (f : FinS X.K w0 W D G as H (evSub Cc Gc xo xi d ρ S g)) : tE X.K w0 W (evE Cc Gc xo) σ H fun o H1 => tE X.K w0 W (evE Cc Gc xi) σ H1 fun i H2 => rSetL o i v H2 fun H3 => ∃ G3 as3 S3, Ext G as H G3 as3 H3 ∧ Rst X.K G3 as3 S3 H3 ∧ FinS X.K w0 W D G3 as3 H3 (g S3) := by
  refine ⟨G, as, S, ρ, r0, e0, (FinS.bind e0 f).imp ?_⟩
  intro v1 H1 ⟨G1, as1, S1, x, x1, r1, a1, f1⟩
  refine ⟨G1, as1, S1, ρ, r1, e0.ext x1, (FinS.bind (e0.ext x1) f1).imp ?_⟩
  intro v2 H2 ⟨G2, as2, S2, y, x2, r2, a2, f2⟩
  have a1 := a1.ext x2
  have a := Da.mono (x1.g.trans x2.g) _ _ a
  cases x with
  | cell k =>
    cases y with
    | dat d' =>
      cases d' with
      | int j =>
        obtain ⟨p, rfl, ep⟩ := a1
        cases a2
        obtain ⟨l, xs, h1, h2, h3, h4⟩ := r2.cl k p ep
        simp only [setCell, h1] at f2
        by_cases hj : 0 ≤ j ∧ j < (l.length : Int)
        · simp only [if_pos hj] at f2
          obtain ⟨r3, x3⟩ := r2.write ep (h3.set a j.toNat)
          refine ⟨p, xs, j, j.toNat, rfl, rfl, h2, ?_, G2, as2, _, (x1.trans x2).trans x3, r3, FinS.shift f2 x3⟩
          unfold ixN
          rw [h3.length, if_pos hj.1, if_pos hj.2]
        · simp only [if_neg hj] at f2; exact f2.elim
      | _ => exact f2.elim
    | _ => exact f2.elim
  | _ => exact f2.elim
/-- no slice -/
def noSl : Expr → Bool
  | .Slice _ _ _ _ => false
  | _ => true
theorem pg_sub2 {to ti : TE} {t : TSet} (hn : noSl i = true) (ho : PE X o to) (hi : PE X i ti) (hs : PSet X t) : PG X (.Subscript o i pos) (gSub to ti t) := pg_sub ho hi hs (by
  intro v
  cases i <;> first | rfl | cases hn)
theorem tG_imp {α β : Type} {rel : Hp → List Addr → β → α → Prop} {K : PySem.W.Frag} {w0 : Ew} {W : WX} {f : Rho → Sto → R α} {σ : L2.St} {H : Hp} {Q Q' : β → Hp → Prop} (h : tG K w0 rel W f σ H Q) (k : ∀ v H, Q v H → Q' v H) : tG K w0 rel W f σ H Q' := by
  obtain ⟨G, as, S, ρ, r0, e0, f⟩ := h
  exact ⟨G, as, S, ρ, r0, e0, f.imp k⟩
theorem sns_sub {Cc : Nat → List Val → Sto → R Val} {Gc : List PyData} {xo xi : Ex} (hn : noSl i = true) (he : PE X e (tE X.K w0 W fa)) (ho : PE X o (tE X.K w0 W (evE Cc Gc xo))) (hi : PE X i (tE X.K w0 W (evE Cc Gc xi))) (hs : swapsWithSole [.Subscript o i p1] e pos.line X.env = pure false)
    (hw : swappedStores [.Subscript o i p1] e X.env = pure none) :
    PS X (.Assign [.Subscript o i p1] e pos) (tSx X.K w0 W fun ρ S => R.st (fa ρ S) ρ fun v S => match v with
      | .dat d => evSub Cc Gc xo xi d ρ S fun S => .nx ρ S
      | _ => .bad) := by
  refine PS.imp (ps_asg he (pg_sub2 hn ho hi set_list) hs hw rfl) fun D σ H ⟨G, as, S, ρ, r0, e0, f⟩ => ⟨G, as, S, ρ, r0, e0, (FinS.bind e0 f).imp ?_⟩
  intro v H1 ⟨G1, as1, S1, x, x1, r1, a1, f1⟩
  cases x with
  | dat d =>
    refine (tG_imp (sub_step r1 (e0.ext x1) a1 f1) fun o H2 q => tG_imp q fun i H3 q => ?_)
    obtain ⟨p, xs, k, j, e1, e2, h2, h3, G3, as3, S3, x3, r3, f3⟩ := q
    exact ⟨p, xs, k, j, e1, e2, h2, h3, f3 G3 as3 _ σ Ext.refl r3 ((e0.ext x1).ext x3)⟩
  | _ => exact f1.elim
theorem sns_subn {Cc : Nat → List Val → Sto → R Val} {Gc : List PyData} {xo xi : Ex} {j : Nat} {y : Str} {py pt : Pos} {kt : Nat} (hc : X.calm = true) (hN : X.N.Nodup) (hj : X.N[j]? = some y) (hy : X.env.scope.names.lookup y = some .local) (hn : noSl i = true)
    (he : PE X e (tE X.K w0 W fa)) (ho : PE X o (tE X.K w0 W (evE Cc Gc xo))) (hi : PE X i (tE X.K w0 W (evE Cc Gc xi))) (hs : swapsWithSole [.Tuple [.Subscript o i p1, .Name y py] kt pt] e pos.line X.env = pure false)
    (hw : swappedStores [.Tuple [.Subscript o i p1, .Name y py] kt pt] e X.env = pure none) :
    PS X (.Assign [.Tuple [.Subscript o i p1, .Name y py] kt pt] e pos) (tSx X.K w0 W fun ρ S => R.st (fa ρ S) ρ fun v S => match v with
      | .dat (.tuple [d, d']) => evSub Cc Gc xo xi d ρ S fun S => .nx (ρ.set j (some (.dat d'))) S
      | _ => .bad) := by
  refine PS.imp (ps_asg he (pg_tup (n := 2) hc (pgs_cons (pg_sub2 hn ho hi set_list) (pgs_cons (pg_name hN hj (.inl hy) (.inr hy)) pgs_nil))) hs hw rfl) fun D σ H ⟨G, as, S, ρ, r0, e0, f⟩ => ⟨G, as, S, ρ, r0, e0, (FinS.bind e0 f).imp ?_⟩
  intro v H1 ⟨G1, as1, S1, x, x1, r1, a1, f1⟩
  have a1 : At X.K G1 as1 v x := a1
  dsimp only at f1
  split at f1
  · rename_i d d' heq
    cases a1 with
      | tup e1 e2 =>
        cases e2 with
        | cons q1 e3 =>
          cases e3 with
          | cons q2 e4 =>
            cases e4 with
            | nil =>
              refine ⟨_, _, rfl, Same.seqT r1.same e1, rfl, _, _, rfl, ?_⟩
              refine (tG_imp (sub_step r1 (e0.ext x1) q1 f1) fun o H2 q => tG_imp q fun i H3 q => ?_)
              obtain ⟨p, xs, k, jj, e1, e2, h2, h3, G3, as3, S3, x3, r3, f3⟩ := q
              refine ⟨p, xs, k, jj, e1, e2, h2, h3, _, _, rfl, rfl, ?_⟩
              exact f3 G3 as3 _ _ Ext.refl r3 (((e0.ext x1).ext x3).set (x := .dat _) (Da.mono x3.g _ _ q2) j)
  · exact f1.elim
end
end Dw

set_option Elab.async false
set_option linter.all false
set_option maxRecDepth 100000
set_option maxHeartbeats 4000000
/-! The text and the small language side by side. -/
namespace Dw
open PySem PySem.Spec PyProof.Rows L2

/-- the defs by their places, the constants, how a def may be called -/
structure Dc where
  fns : List Str
  gls : List Str
  shs : List (Nat × Nat × List Str × List Nat × List Int)
structure Kc where
  N : List Str
  sc : Scope
  fn : Str → Bool
def Kc.blk (k : Kc) (scope : Scope) : Kc := { N := k.N, sc := relS scope k.sc, fn := fun x => scope.names.lookup x == some .cell }
def dbg (x : Str) : Bool := x == ("__debug__" : Str)
def visB (sc : Scope) (x : Str) : Bool := match sc.names.lookup x with
  | some .local => true
  | some .cell => true
  | some .free => true
  | _ => false
def locB (k : Kc) (x : Str) : Bool := match k.sc.names.lookup x with
  | some .local => true
  | some .cell => k.fn x
  | _ => false
def glB (k : Kc) (x : Str) : Bool := match k.sc.names.lookup x with
  | some .globalImplicit => true
  | _ => false
def ckNames (k : Kc) : List Nat → List Expr → Bool
  | [], [] => true
  | i :: is, e :: es => (match e with
    | .Name x _ => decide (k.N[i]? = some x) && locB k x
    | _ => false) && ckNames k is es
  | _, _ => false
def ckG (k : Kc) : Tg → Expr → Bool
  | .name i, e => match e with
    | .Name x _ => decide (k.N[i]? = some x) && locB k x
    | _ => false
  | .names is, e => match e with
    | .Tuple es _ _ => ckNames k is es
    | _ => false
def conB : PyData → Const → Bool
  | .none, .none => true
  | .bool a, .bool b => a == b
  | .int a, .int b => decide (a = b)
  | .str a, .str b => decide (a = b)
  | _, _ => false
def plainIx : Expr → Bool
  | .Name _ _ => true
  | .Constant _ _ _ => true
  | .BinOp _ _ _ _ => true
  | .UnaryOp _ _ _ => true
  | .Call _ _ _ _ => true
  | .Subscript _ _ _ => true
  | _ => false
def okIter : Expr → Bool
  | .Set _ _ _ => false
  | _ => true
def noCp : Expr → Bool
  | .ListComp _ _ _ _ => false
  | .SetComp _ _ _ _ => false
  | .DictComp _ _ _ _ _ => false
  | _ => true
def noTup : Expr → Bool
  | .Tuple _ _ _ => false
  | _ => true
def mkOwn (N : List Str) (own : List Nat) : List (Str × Nat) := own.map fun i => ((N[i]?).getD "", i)
def nkB : NameKind → NameKind → Bool := fun a b => decide (a = b)
def blkB (k : Kc) (scope : Scope) (own : List Nat) : Bool :=
  decide (scope.kind = .function) && scope.names.all (fun y => decide (scope.names.lookup y.1 = some y.2)) && own.all (fun i => (k.N[i]?).isSome) &&
  scope.names.all (fun y => !decide (y.2 = .free) || decide (k.sc.names.lookup y.1 = some .cell) || decide (k.sc.names.lookup y.1 = some .free)) &&
  scope.names.all (fun y => !(decide (y.2 = .local) || decide (y.2 = .cell)) || decide (y.1 ∈ (mkOwn k.N own).map (·.1)) || decide (y.1 ∉ k.N))

mutual
def ckE (P : Dc) (k : Kc) : Ex → Expr → Bool
  | .var i, e => match e with
    | .Name x _ => decide (k.N[i]? = some x) && visB k.sc x && !dbg x && !(x == ("__classdict__" : Str))
    | _ => false
  | .con d, e => match e with
    | .Constant c _ _ => conB d c
    | _ => false
  | .glob g, e => match e with
    | .Name x _ => decide (P.gls[g]? = some x) && glB k x && !dbg x
    | _ => false
  | .bin op a b, e => match e with
    | .BinOp ea o eb _ => opC o op && ckE P k a ea && ckE P k b eb
    | _ => false
  | .neg a, e => match e with
    | .UnaryOp .USub ea _ => ckE P k a ea
    | _ => false
  | .cmp op a b, e => match e with
    | .Compare ea [o] [eb] _ => cmpC o op && !behindInMarks o eb && ckE P k a ea && ckE P k b eb
    | _ => false
  | .chn op op' a b c, e => match e with
    | .Compare ea [o, o'] [eb, ec] _ => cmpC o op && cmpC o' op' && !lastMarks [o, o'] [eb, ec] && ckE P k a ea && ckE P k b eb && ckE P k c ec
    | _ => false
  | .isN a, e => match e with
    | .Compare ea [.Is] [.Constant .none _ _] _ => ckE P k a ea
    | _ => false
  | .notN a, e => match e with
    | .Compare ea [.IsNot] [.Constant .none _ _] _ => ckE P k a ea
    | _ => false
  | .not a, e => match e with
    | .UnaryOp .Not ea _ => ckE P k a ea
    | _ => false
  | .and es, e => match e with
    | .BoolOp .And xs _ => !xs.isEmpty && ckL P k es xs
    | _ => false
  | .or es, e => match e with
    | .BoolOp .Or xs _ => !xs.isEmpty && ckL P k es xs
    | _ => false
  | .ife c a b, e => match e with
    | .IfExp ec ea eb _ => tst c && ckE P k c ec && ckE P k a ea && ckE P k b eb
    | _ => false
  | .tup es, e => match e with
    | .Tuple xs _ _ => decide (xs.length ≤ 1000) && ckL P k es xs
    | _ => false
  | .lst es, e => match e with
    | .List xs _ => decide (xs.length ≤ 1000) && ckL P k es xs
    | _ => false
  | .new es, e => match e with
    | .List xs _ => decide (xs.length ≤ 1000) && ckL P k es xs
    | _ => false
  | .idx a b, e => match e with
    | .Subscript ea eb _ => plainIx eb && ckE P k a ea && ckE P k b eb
    | _ => false
  | .sl a lo hi, e => match e with
    | .Subscript ea (.Slice l h none _) _ => ckE P k a ea && ckO P k lo l && ckO P k hi h
    | _ => false
  | .call _ _, _ => false
  | .callK f kws perm dfl es kes, e => match e with
    | .Call (.Name x _) xs ks _ => decide (P.fns[f]? = some x) && glB k x && !dbg x && decide ((f, es.length, kws.map Str.ofString, perm, dfl) ∈ P.shs) && decide (ks.map (·.arg) = (kws.map Str.ofString).map some) && ckL P k es xs && ckK P k kes ks
    | _ => false
  | .blt b es, e => match e with
    | .Call (.Name x _) xs [] _ => decide (x = Str.ofString (bltName b)) && glB k x && !xs.isEmpty && ckL P k es xs
    | _ => false
  | .isi a t, e => match e with
    | .Call (.Name x _) [ea, .Name y _] [] _ => decide (x = ("isinstance" : Str)) && glB k x && decide (y = Str.ofString (tyName t)) && glB k y && !isStar ea && ckE P k a ea
    | _ => false
  | .mth .append o es, e => match e with
    | .Call (.Attribute eo m apos) [ea] [] pos => decide (m = ("append" : Str)) && (match eo with
      | .Name _ _ => true
      | .Subscript _ _ _ => true
      | _ => false) && !isStar ea && decide (apos.endLine = pos.line) && ckE P k o eo && ckL P k es [ea]
    | _ => false
  | .cp e tg it ifs own, x => match x with
    | .ListComp elt [⟨t, iter, cs, 0⟩] scope _ => okIter iter && ckG (k.blk scope) tg t && ckI P k it iter && ckC P (k.blk scope) ifs cs && ckE P (k.blk scope) e elt && blkB k scope own && (tgSlots tg).all (fun i => own.contains i)
    | _ => false
def ckL (P : Dc) (k : Kc) : List Ex → List Expr → Bool
  | [], xs => xs.isEmpty
  | e :: es, xs => match xs with
    | x :: xs => !isStar x && ckE P k e x && ckL P k es xs
    | [] => false
def ckK (P : Dc) (k : Kc) : List Ex → List Keyword → Bool
  | [], xs => xs.isEmpty
  | e :: es, xs => match xs with
    | ⟨_, x, _⟩ :: xs => ckE P k e x && ckK P k es xs
    | [] => false
def ckC (P : Dc) (k : Kc) : List Ex → List Expr → Bool
  | [], xs => xs.isEmpty
  | [c], xs => match xs with
    | [x] => tst c && ckE P k c x
    | _ => false
  | _, _ => false
def ckO (P : Dc) (k : Kc) : Option Ex → Option Expr → Bool
  | none, x => x.isNone
  | some e, x => match x with
    | some x => ckE P k e x
    | none => false
def ckI (P : Dc) (k : Kc) : It → Expr → Bool
  | .val e, x => ckE P k e x
  | .rng1 a, x => match x with
    | .Call (.Name r _) [ea] [] _ => decide (r = ("range" : Str)) && glB k r && !isStar ea && ckE P k a ea
    | _ => false
  | .rng2 a b, x => match x with
    | .Call (.Name r _) [ea, eb] [] _ => decide (r = ("range" : Str)) && glB k r && !isStar ea && !isStar eb && ckE P k a ea && ckE P k b eb
    | _ => false
/-- may be tested -/
def tst : Ex → Bool
  | .ife _ _ _ => false
  | .not a => tst a
  | .and es => tstL es
  | .or es => tstL es
  | _ => true
def tstL : List Ex → Bool
  | [] => true
  | e :: es => tst e && tstL es
end
end Dw

set_option Elab.async false
set_option linter.all false
set_option maxRecDepth 100000
set_option maxHeartbeats 4000000
/-! What is checked is sound: expressions. -/
namespace Dw
open PySem PySem.Spec PyProof.Rows L2

structure Good (P : Dc) (Cf : Nat → List Val → Sto → R Val) (Gc : List PyData) (w0 : Ew) (n : Nat) (X : Cx) (k : Kc) (W : WX) : Prop where
  calm : X.calm = true
  nd : X.N.Nodup
  N : X.N = k.N
  sc : X.env.scope = k.sc
  fn : ∀ x, k.fn x = true → X.fn x = true
  gd : X.A.guards = some []
  room : Room n X.A
  tk : Takes X W
  defs : ∀ (f : Nat) (x : Str), P.fns[f]? = some x → ∃ fad fd ps, FnG X.prog X.w X.K X.mg X.base n fad fd ps (spEv X.K w0 (Cf f)) ∧ X.mg x = some (.ref fad) ∧ PySem.W.keepIn X.K (.ref fad) = true ∧ ∀ nu ks perm dfl, (f, nu, ks, perm, dfl) ∈ P.shs → ShapeOk X.K fd ps nu ks perm dfl
  blts : ∀ b : Blt, X.mg (Str.ofString (bltName b)) = none
  tys : ∀ t : Ty, X.mg (Str.ofString (tyName t)) = none
  isin : X.mg ("isinstance" : Str) = none
  rng : X.mg ("range" : Str) = none
  gls : ∀ (g : Nat) (x : Str), P.gls[g]? = some x → ∃ d v u, Gc[g]? = some d ∧ X.mg x = some u ∧ RelV v u ∧ ∀ G, Da X.K G v d

section
variable {P : Dc} {Cf : Nat → List Val → Sto → R Val} {Gc : List PyData} {w0 : Ew} {n : Nat} {X : Cx} {k : Kc} {W : WX}
theorem takes_no {X : Cx} : Takes X W0 := fun _ _ ⟨_, _, _, _, _, _, _, _, _, _, _, _, _, _, _, _, z⟩ => z.elim
theorem Good.blk (g : Good P Cf Gc w0 n X k W) (s : Shared) (H : Hp) (scope : Scope) (C : Addr) (cl : List (Str × Addr)) (fp : List Addr) : Good P Cf Gc w0 n (X.blk s H scope (compEnvC scope cl C X.env) fp) (k.blk scope) W0 where
  calm := g.calm
  nd := g.nd
  N := g.N
  sc := by
    show relS scope X.env.scope = relS scope k.sc
    rw [g.sc]
  fn := fun x h => h
  gd := g.gd
  room := g.room
  tk := takes_no
  defs := g.defs
  blts := g.blts
  tys := g.tys
  isin := g.isin
  rng := g.rng
  gls := g.gls
theorem Good.gl (g : Good P Cf Gc w0 n X k W) {x : Str} (h : glB k x = true) : Gl X x := by
  show X.env.scope.names.lookup x = _
  rw [g.sc]
  unfold glB at h
  split at h
  · assumption
  · cases h
theorem Good.vis (g : Good P Cf Gc w0 n X k W) {x : Str} (h : visB k.sc x = true) : Vis X.env.scope x := by
  rw [g.sc]
  unfold visB at h
  split at h
  · exact .inl (by assumption)
  · exact .inr (.inl (by assumption))
  · exact .inr (.inr (by assumption))
  · cases h
theorem Good.loc (g : Good P Cf Gc w0 n X k W) {x : Str} (h : locB k x = true) : Loc X.env.scope x ∧ (X.fn x = true ∨ X.env.scope.names.lookup x = some .local) := by
  rw [g.sc]
  unfold locB at h
  split at h
  · exact ⟨.inl (by assumption), .inr (by assumption)⟩
  · exact ⟨.inr (by assumption), .inl (g.fn _ h)⟩
  · cases h
theorem Good.un (g : Good P Cf Gc w0 n X k W) : X.A.units + 100 < cLine := by have := g.room.un; omega
theorem Good.names (g : Good P Cf Gc w0 n X k W) : ∀ (is : List Nat) (es : List Expr), ckNames k is es = true → PGs X es (tGs X.K is) ∧ es.length = is.length ∧ (assignEach es X.env).length = es.length ∧ (assignEach es X.env).findIdx? (·.1) = none
  | [], [], _ => ⟨sngs_nil, rfl, rfl, rfl⟩
  | [], _ :: _, h => by cases h
  | _ :: _, [], h => by cases h
  | i :: is, e :: es, h => by
    unfold ckNames at h
    rw [Bool.and_eq_true] at h
    obtain ⟨h1, h2⟩ := h
    split at h1
    · rename_i x p
      rw [Bool.and_eq_true, decide_eq_true_iff] at h1
      obtain ⟨h1, h3⟩ := h1
      obtain ⟨a, b, c, d⟩ := Good.names g is es h2
      obtain ⟨l1, l2⟩ := g.loc h3
      refine ⟨sngs_cons g.nd (g.N ▸ h1) l1 l2 a, by rw [List.length_cons, List.length_cons, b], ?_, ?_⟩
      · show (assignEach es X.env).length + 1 = es.length + 1
        rw [c]
      · show List.findIdx? (·.1) ((false, _) :: assignEach es X.env) = none
        rw [List.findIdx?_cons, d]
        rfl
    · cases h1
theorem Good.tg (g : Good P Cf Gc w0 n X k W) {t : Tg} {e : Expr} (h : ckG k t e = true) : PG X e (tGt X.K t) := by
  cases t with
  | name i => cases e with
    | Name x p =>
      simp only [ckG, Bool.and_eq_true, decide_eq_true_iff] at h
      obtain ⟨l1, l2⟩ := g.loc h.2
      exact sng_name g.nd (g.N ▸ h.1) l1 l2
    | _ => cases h
  | names is => cases e with
    | Tuple es j p =>
      obtain ⟨a, b, c, d⟩ := g.names is es h
      exact sng_names g.calm a b c d
    | _ => cases h
theorem Good.blkOk (g : Good P Cf Gc w0 n X k W) {scope : Scope} {own : List Nat} (h : blkB k scope own = true) : BlkOk X.N X.env.scope scope (mkOwn X.N own) ∧ (mkOwn X.N own).map (·.2) = own := by
  have e2 : (mkOwn X.N own).map (·.2) = own := by unfold mkOwn; rw [List.map_map]; exact List.map_id' own
  refine ⟨?_, e2⟩
  rw [g.sc, g.N]
  unfold blkB at h
  simp only [Bool.and_eq_true, List.all_eq_true, decide_eq_true_iff, Bool.or_eq_true, Bool.not_eq_true', decide_eq_false_iff_not, Bool.or_eq_false_iff] at h
  obtain ⟨⟨⟨⟨h1, h2⟩, h3⟩, h4⟩, h5⟩ := h
  refine ⟨h1, h2, ?_, ?_, ?_⟩
  · intro p hp
    unfold mkOwn at hp
    rw [List.mem_map] at hp
    obtain ⟨i, hi, rfl⟩ := hp
    have := h3 i hi
    obtain ⟨x, hx⟩ := Option.isSome_iff_exists.mp this
    rw [hx]
    rfl
  · intro y hy e
    rcases h4 y hy with (z | z) | z
    · exact absurd e z
    · exact .inl z
    · exact .inr z
  · intro y hy e
    rcases h5 y hy with (z | z) | z
    · rcases e with e | e
      · exact absurd e z.1
      · exact absurd e z.2
    · exact .inl z
    · exact .inr z
theorem plainIx_ok {b : Expr} (h : plainIx b = true) : PlainIx b := by
  cases b <;> first | (intro o i; rfl) | cases h
theorem okIter_ok {e : Expr} (h : okIter e = true) (env : Env) : ∀ x, foldedSetIterable e env x = pure x := by
  cases e <;> first | (intro x; rfl) | cases h
theorem con_ok {d : PyData} {c : Const} {j : Nat} {pos : Pos} (h : conB d c = true) : PE X (.Constant c j pos) (tE X.K w0 W fun _ S => .ok (.dat d) S) := by
  cases d <;> cases c <;> first | (cases h; done) | skip
  · exact snd_con (t := tC .non) pe_non fun _ => .non
  · rename_i a b
    obtain rfl : a = b := by simpa [conB] using h
    exact snd_con (t := tC .non) pe_bl fun _ => .bl _
  · rename_i a b
    obtain rfl : a = b := by simpa [conB] using h
    exact snd_con (t := tC .non) pe_int fun _ => .int _
  · rename_i a b
    obtain rfl : a = b := by simpa [conB] using h
    exact snd_con (t := tC .non) pe_str fun _ => .str _
theorem evL_len (Cf : Nat → List Val → Sto → R Val) (Gc : List PyData) : ∀ (es : List Ex) (ρ : Rho) (S : Sto) (vs : List Val) (S' : Sto), evL Cf Gc es ρ S = .ok vs S' → vs.length = es.length
  | [], ρ, S, vs, S', h => by
    unfold evL at h
    cases h
    rfl
  | e :: es, ρ, S, vs, S', h => by
    unfold evL at h
    cases h1 : evE Cf Gc e ρ S with
    | bad => rw [h1] at h; cases h
    | exc c d S1 => rw [h1] at h; cases h
    | ok v S1 =>
      rw [h1] at h
      have h : (evL Cf Gc es ρ S1).bind (fun vs S => .ok (v :: vs) S) = .ok vs S' := h
      cases h2 : evL Cf Gc es ρ S1 with
      | bad => rw [h2] at h; cases h
      | exc c d S1 => rw [h2] at h; cases h
      | ok us S2 =>
        rw [h2] at h
        cases h
        rw [List.length_cons, List.length_cons, evL_len Cf Gc es ρ S1 us _ h2]
theorem ckL_len : ∀ (es : List Ex) (xs : List Expr), ckL P k es xs = true → xs.length = es.length ∧ (xs.all fun e => !isStar e) = true
  | [], xs, h => by
    unfold ckL at h
    cases xs with
    | nil => exact ⟨rfl, rfl⟩
    | cons _ _ => cases h
  | e :: es, xs, h => by
    unfold ckL at h
    split at h
    · simp only [Bool.and_eq_true] at h
      obtain ⟨a, b⟩ := ckL_len es _ h.2
      exact ⟨by rw [List.length_cons, List.length_cons, a], by rw [List.all_cons, h.1.1, b]; rfl⟩
    · cases h
theorem pe_bo1 {op : BoolOp} {a : Expr} {pos : Pos} {t : TE} (h : PE X a t) : PE X (.BoolOp op [a] pos) t := ⟨fun pins s σ H Q I q => h.run pins s σ H Q I q⟩
theorem kw_of {kws : List Str} {pos : Pos} : ∀ {ks : List Keyword}, ks.map (·.arg) = kws.map some → ((backToKw pos (keywordEach ks X.env)).all (·.1.isSome) = true) ∧ ((backToKw pos (keywordEach ks X.env)).filterMap (·.1) = kws) ∧ ((backToKw pos (keywordEach ks X.env)).any (·.1.isNone) = false) := by
  intro ks
  induction ks generalizing kws with
  | nil => intro h; cases kws with
    | nil => exact ⟨rfl, rfl, rfl⟩
    | cons _ _ => cases h
  | cons q ks ih =>
    intro h
    cases kws with
    | nil => cases h
    | cons y kws =>
      rw [List.map_cons, List.map_cons, List.cons.injEq] at h
      obtain ⟨a, b, c⟩ := ih h.2
      obtain ⟨qa, qv, qp⟩ := q
      obtain rfl : qa = some y := h.1
      refine ⟨?_, ?_, ?_⟩
      · show (true && (backToKw pos (keywordEach ks X.env)).all _) = true
        rw [a]; rfl
      · show y :: (backToKw pos (keywordEach ks X.env)).filterMap _ = _
        rw [b]
      · show (false || (backToKw pos (keywordEach ks X.env)).any _) = false
        rw [c]; rfl
end
end Dw

set_option Elab.async false
set_option linter.all false
set_option maxRecDepth 100000
set_option maxHeartbeats 4000000
/-! What is checked is sound: expressions, all of them. -/
namespace Dw
open PySem PySem.Spec PyProof.Rows L2

section
variable (P : Dc) (Cf : Nat → List Val → Sto → R Val) (Gc : List PyData) (w0 : Ew) (n : Nat)
/-- a value, and a test where it may be one -/
def OkE (X : Cx) (W : WX) (x : Ex) (e : Expr) : Prop := PE X e (tE X.K w0 W (evE Cf Gc x)) ∧ (tst x = true → PT X e (tTB X.K w0 W (bB (evE Cf Gc x))))
theorem OkE.gen {X : Cx} {W : WX} {x : Ex} {e : Expr} (h : PE X e (tE X.K w0 W (evE Cf Gc x))) (he : ∀ whole, isTrue e X.env whole = (do let v ← whole; standAt e.pos; holding [v] (truthy v))) : OkE Cf Gc w0 X W x e := ⟨h, fun _ => snd_test h he⟩
mutual
theorem ckE_ok : ∀ (x : Ex) (X : Cx) (k : Kc) (W : WX) (e : Expr), Good P Cf Gc w0 n X k W → ckE P k x e = true → OkE Cf Gc w0 X W x e
  | .var i, X, k, W, e, g, h => by
    cases e with
    | Name x p =>
      simp only [ckE, Bool.and_eq_true, decide_eq_true_iff, Bool.not_eq_true'] at h
      exact .gen _ _ _ (snd_var (g.N ▸ h.1.1.1) (g.vis h.1.1.2) h.1.2 h.2) fun _ => rfl
    | _ => simp [ckE] at h
  | .con d, X, k, W, e, g, h => by
    cases e with
    | Constant c j p =>
      simp only [ckE] at h
      exact .gen _ _ _ (con_ok h) fun _ => rfl
    | _ => simp [ckE] at h
  | .glob q, X, k, W, e, g, h => by
    cases e with
    | Name x p =>
      simp only [ckE, Bool.and_eq_true, decide_eq_true_iff, Bool.not_eq_true'] at h
      obtain ⟨d, v, u, h1, h2, h3, h4⟩ := g.gls _ _ h.1.1
      refine .gen _ _ _ (PE.imp (pe_glob (g.gl h.1.2) h2 h3 h.2) fun σ H Q ⟨G, as, S, ρ, r0, e0, f⟩ => ?_) fun _ => rfl
      have f : FinG X.K w0 (At X.K) W σ Q G as H (give (Gc[q]?.map .dat) S) := f
      rw [h1] at f
      exact f G as H v Ext.refl r0 (h4 G)
    | _ => simp [ckE] at h
  | .bin op a b, X, k, W, e, g, h => by
    cases e with
    | BinOp ea o eb p =>
      simp only [ckE, Bool.and_eq_true] at h
      exact .gen _ _ _ (snd_bin h.1.1 (ckE_ok a X k W ea g h.1.2).1 (ckE_ok b X k W eb g h.2).1) fun _ => rfl
    | _ => simp [ckE] at h
  | .neg a, X, k, W, e, g, h => by
    cases e with
    | UnaryOp o ea p => cases o with
      | USub =>
        simp only [ckE] at h
        exact .gen _ _ _ (snd_neg (ckE_ok a X k W ea g h).1) fun _ => rfl
      | _ => simp [ckE] at h
    | _ => simp [ckE] at h
  | .cmp op a b, X, k, W, e, g, h => by
    unfold ckE at h
    split at h
    · simp only [Bool.and_eq_true, Bool.not_eq_true'] at h
      have hu := g.un
      exact ⟨snd_cmp (by omega) h.1.1.1 h.1.1.2 (ckE_ok a X k W _ g h.1.2).1 (ckE_ok b X k W _ g h.2).1, fun _ => snt_cmp (by omega) h.1.1.1 h.1.1.2 (ckE_ok a X k W _ g h.1.2).1 (ckE_ok b X k W _ g h.2).1⟩
    · cases h
  | .chn op op' a b c, X, k, W, e, g, h => by
    unfold ckE at h
    split at h
    · simp only [Bool.and_eq_true, Bool.not_eq_true'] at h
      have hu := g.un
      obtain ⟨⟨⟨⟨⟨h1, h2⟩, h3⟩, ha⟩, hb⟩, hc⟩ := h
      exact ⟨snd_chn (by omega) h1 h2 h3 (ckE_ok a X k W _ g ha).1 (ckE_ok b X k W _ g hb).1 (ckE_ok c X k W _ g hc).1, fun _ => snt_chn (by omega) h1 h2 h3 (ckE_ok a X k W _ g ha).1 (ckE_ok b X k W _ g hb).1 (ckE_ok c X k W _ g hc).1⟩
    · cases h
  | .isN a, X, k, W, e, g, h => by
    unfold ckE at h
    split at h
    · exact ⟨snd_isN (ckE_ok a X k W _ g h).1, fun _ => snt_isN (ckE_ok a X k W _ g h).1⟩
    · cases h
  | .notN a, X, k, W, e, g, h => by
    unfold ckE at h
    split at h
    · exact ⟨snd_notN (ckE_ok a X k W _ g h).1, fun _ => snt_notN (ckE_ok a X k W _ g h).1⟩
    · cases h
  | .not a, X, k, W, e, g, h => by
    unfold ckE at h
    split at h
    · refine ⟨?_, fun ht => snt_not ((ckE_ok a X k W _ g h).2 (by simpa only [tst] using ht))⟩
      exact snd_not (ckE_ok a X k W _ g h).1
    · cases h
  | .and es, X, k, W, e, g, h => by
    unfold ckE at h
    split at h
    · simp only [Bool.and_eq_true, Bool.not_eq_true'] at h
      rename_i xs p
      obtain ⟨a, b⟩ := ckAnd_ok es X k W xs p g h.2 h.1
      exact ⟨a, fun ht => (b (by simpa only [tst] using ht)).pt⟩
    · cases h
  | .or es, X, k, W, e, g, h => by
    unfold ckE at h
    split at h
    · simp only [Bool.and_eq_true, Bool.not_eq_true'] at h
      rename_i xs p
      obtain ⟨a, b⟩ := ckOr_ok es X k W xs p g h.2 h.1
      exact ⟨a, fun ht => (b (by simpa only [tst] using ht)).pt⟩
    · cases h
  | .ife c a b, X, k, W, e, g, h => by
    unfold ckE at h
    split at h
    · simp only [Bool.and_eq_true] at h
      obtain ⟨⟨⟨h1, hc⟩, ha⟩, hb⟩ := h
      exact ⟨snd_ife ((ckE_ok c X k W _ g hc).2 h1) (ckE_ok a X k W _ g ha).1 (ckE_ok b X k W _ g hb).1, fun ht => by simp [tst] at ht⟩
    · cases h
  | .tup es, X, k, W, e, g, h => by
    unfold ckE at h
    split at h
    · simp only [Bool.and_eq_true, decide_eq_true_iff] at h
      obtain ⟨h1, h2⟩ := ckL_len es _ h.2
      exact .gen _ _ _ (snd_tup (ckL_ok es X k W _ g h.2) h.1 fun ρ S vs S' q => (evL_len Cf Gc es ρ S vs S' q).trans h1.symm) fun _ => rfl
    · cases h
  | .lst es, X, k, W, e, g, h => by
    unfold ckE at h
    split at h
    · simp only [Bool.and_eq_true, decide_eq_true_iff] at h
      obtain ⟨h1, h2⟩ := ckL_len es _ h.2
      exact .gen _ _ _ (snd_lst (ckL_ok es X k W _ g h.2) h.1 fun ρ S vs S' q => (evL_len Cf Gc es ρ S vs S' q).trans h1.symm) fun _ => rfl
    · cases h
  | .new es, X, k, W, e, g, h => by
    unfold ckE at h
    split at h
    · simp only [Bool.and_eq_true, decide_eq_true_iff] at h
      obtain ⟨h1, h2⟩ := ckL_len es _ h.2
      exact .gen _ _ _ (snd_new (ckL_ok es X k W _ g h.2) h.1 fun ρ S vs S' q => (evL_len Cf Gc es ρ S vs S' q).trans h1.symm) fun _ => rfl
    · cases h
  | .idx a b, X, k, W, e, g, h => by
    unfold ckE at h
    split at h
    · simp only [Bool.and_eq_true] at h
      exact .gen _ _ _ (snd_idx (plainIx_ok h.1.1) (ckE_ok a X k W _ g h.1.2).1 (ckE_ok b X k W _ g h.2).1) fun _ => rfl
    · cases h
  | .sl a lo hi, X, k, W, e, g, h => by
    unfold ckE at h
    split at h
    · simp only [Bool.and_eq_true] at h
      exact .gen _ _ _ (snd_sl (ckE_ok a X k W _ g h.1.1).1 (ckO_ok lo X k W _ g h.1.2) (ckO_ok hi X k W _ g h.2)) fun _ => rfl
    · cases h
  | .call f es, X, k, W, e, g, h => by simp [ckE] at h
  | .callK f kws perm dfl es kes, X, k, W, e, g, h => by
    unfold ckE at h
    split at h
    · simp only [Bool.and_eq_true, decide_eq_true_iff, Bool.not_eq_true'] at h
      obtain ⟨⟨⟨⟨⟨⟨h1, h2⟩, h3⟩, h4⟩, h5⟩, h6⟩, h7⟩ := h
      rename_i x p xs ks pos
      obtain ⟨fad, fd, ps, F, hm, hk, hs⟩ := g.defs _ _ h1
      obtain ⟨q1, q2⟩ := ckL_len es _ h6
      obtain ⟨k1, k2, k3⟩ := kw_of (X := X) (pos := pos) h5
      have hn : (kws.map Str.ofString).length = kws.length := by rw [List.length_map]
      have main := snd_callK (p := p) (pos := pos) F g.room g.gd (g.gl h2) hm hk (hs _ _ _ _ h4) g.tk (ckL_ok es X k W _ g h6) (ckK_ok kes X k W _ g h7) k1 k2 (fun e ρ S => by
        have : es = [] := by
          rw [e] at q1
          exact List.length_eq_zero_iff.mp q1.symm
        rw [this]
        simp only [evL]) q2 k3 h3
      rw [hn] at main
      exact .gen _ _ _ main fun _ => rfl
    · cases h
  | .blt b es, X, k, W, e, g, h => by
    unfold ckE at h
    split at h
    · simp only [Bool.and_eq_true, decide_eq_true_iff, Bool.not_eq_true'] at h
      obtain ⟨⟨⟨h1, h2⟩, h3⟩, h4⟩ := h
      rename_i x p xs pos
      cases xs with
      | nil => cases h3
      | cons x0 xs =>
        obtain ⟨q1, q2⟩ := ckL_len es _ h4
        rw [List.all_cons, Bool.and_eq_true, Bool.not_eq_true'] at q2
        exact .gen _ _ _ (snd_blt b g.calm g.gd g.un h1 (g.gl h2) (h1 ▸ g.blts b) q2.1 q2.2 (ckL_ok es X k W _ g h4)) fun _ => rfl
    · cases h
  | .isi a t, X, k, W, e, g, h => by
    unfold ckE at h
    split at h
    · simp only [Bool.and_eq_true, decide_eq_true_iff, Bool.not_eq_true'] at h
      obtain ⟨⟨⟨⟨⟨h1, h2⟩, h3⟩, h4⟩, h5⟩, h6⟩ := h
      subst h1 h3
      exact .gen _ _ _ (snd_isi (g.gl h2) g.isin (g.gl h4) (g.tys t) h5 (ckE_ok a X k W _ g h6).1) fun _ => rfl
    · cases h
  | .mth .append o es, X, k, W, e, g, h => by
    unfold ckE at h
    split at h
    · simp only [Bool.and_eq_true, decide_eq_true_iff, Bool.not_eq_true'] at h
      obtain ⟨⟨⟨⟨⟨h1, h2⟩, h3⟩, h4⟩, h5⟩, h6⟩ := h
      subst h1
      refine .gen _ _ _ (snd_app h3 ?_ (by simpa using h4) (ckE_ok o X k W _ g h5).1 (ckL_ok es X k W _ g h6)) fun _ => rfl
      split at h2
      · rfl
      · rfl
      · cases h2
    · cases h
  | .cp e tg it ifs own, X, k, W, x, g, h => by
    unfold ckE at h
    split at h
    · simp only [Bool.and_eq_true, List.all_eq_true] at h
      obtain ⟨⟨⟨⟨⟨⟨h1, h2⟩, h3⟩, h4⟩, h5⟩, h6⟩, h7⟩ := h
      rename_i elt t iter cs scope pos
      obtain ⟨b1, b2⟩ := g.blkOk h6
      have hown : ∀ i ∈ tgSlots tg, i ∈ (mkOwn X.N own).map (·.2) := by
        rw [b2]
        intro i hi
        simpa using h7 i hi
      have main := snd_cp (pos := pos) (W := W) (w0 := w0) g.calm g.nd (ckI_ok it X k W _ _ g h3) b1 hown (fun s H C cl fp => (g.blk s H _ C cl fp).tg h2) (fun s H C cl fp => ckC_ok ifs _ _ _ _ (g.blk s H _ C cl fp) h4) (fun s H C cl fp => (ckE_ok e _ _ _ _ (g.blk s H _ C cl fp) h5).1) (okIter_ok h1 _)
      rw [b2] at main
      exact .gen _ _ _ main fun _ => rfl
    · cases h
theorem ckL_ok : ∀ (es : List Ex) (X : Cx) (k : Kc) (W : WX) (xs : List Expr), Good P Cf Gc w0 n X k W → ckL P k es xs = true → PA X xs (tA X.K w0 W (evL Cf Gc es))
  | [], X, k, W, xs, g, h => by
    unfold ckL at h
    cases xs with
    | nil => exact sna_nil
    | cons _ _ => cases h
  | e :: es, X, k, W, xs, g, h => by
    unfold ckL at h
    split at h
    · simp only [Bool.and_eq_true, Bool.not_eq_true'] at h
      exact sna_cons h.1.1 (ckE_ok e X k W _ g h.1.2).1 (ckL_ok es X k W _ g h.2)
    · cases h
theorem ckK_ok : ∀ (es : List Ex) (X : Cx) (k : Kc) (W : WX) (xs : List Keyword), Good P Cf Gc w0 n X k W → ckK P k es xs = true → PK X xs (tA X.K w0 W (evL Cf Gc es))
  | [], X, k, W, xs, g, h => by
    unfold ckK at h
    cases xs with
    | nil => exact snk_nil
    | cons _ _ => cases h
  | e :: es, X, k, W, xs, g, h => by
    unfold ckK at h
    split at h
    · simp only [Bool.and_eq_true] at h
      exact snk_cons (ckE_ok e X k W _ g h.1).1 (ckK_ok es X k W _ g h.2)
    · cases h
theorem ckAnd_ok : ∀ (es : List Ex) (X : Cx) (k : Kc) (W : WX) (xs : List Expr) (pos : Pos), Good P Cf Gc w0 n X k W → ckL P k es xs = true → xs.isEmpty = false →
    PE X (.BoolOp .And xs pos) (tE X.K w0 W (evAnd Cf Gc es)) ∧ (tstL es = true → PW X (.BoolOp .And xs pos) (tTB X.K w0 W (bB (evAnd Cf Gc es))))
  | [], X, k, W, xs, pos, g, h, hx => by
    unfold ckL at h
    rw [hx] at h
    cases h
  | [a], X, k, W, xs, pos, g, h, hx => by
    unfold ckL at h
    split at h
    · simp only [Bool.and_eq_true] at h
      rename_i x xs
      obtain ⟨q1, q2⟩ := ckL_len [] _ h.2
      obtain rfl := List.length_eq_zero_iff.mp q1
      have ha := ckE_ok a X k W _ g h.1.2
      exact ⟨pe_bo1 ha.1, fun ht => pw_and1 (ha.2 (by simpa [tstL] using ht))⟩
    · cases h
  | a :: b :: r, X, k, W, xs, pos, g, h, hx => by
    unfold ckL at h
    split at h
    · simp only [Bool.and_eq_true] at h
      rename_i x xs
      obtain ⟨q1, q2⟩ := ckL_len (b :: r) _ h.2
      have ha := ckE_ok a X k W _ g h.1.2
      cases xs with
      | nil => cases q1
      | cons y ys =>
        obtain ⟨h3, h4⟩ := ckAnd_ok (b :: r) X k W (y :: ys) pos g h.2 rfl
        refine ⟨snd_and ha.1 h3, fun ht => ?_⟩
        unfold tstL at ht
        rw [Bool.and_eq_true] at ht
        exact snt_and (ha.2 ht.1) (h4 ht.2)
    · cases h
theorem ckOr_ok : ∀ (es : List Ex) (X : Cx) (k : Kc) (W : WX) (xs : List Expr) (pos : Pos), Good P Cf Gc w0 n X k W → ckL P k es xs = true → xs.isEmpty = false →
    PE X (.BoolOp .Or xs pos) (tE X.K w0 W (evOr Cf Gc es)) ∧ (tstL es = true → PW X (.BoolOp .Or xs pos) (tTB X.K w0 W (bB (evOr Cf Gc es))))
  | [], X, k, W, xs, pos, g, h, hx => by
    unfold ckL at h
    rw [hx] at h
    cases h
  | [a], X, k, W, xs, pos, g, h, hx => by
    unfold ckL at h
    split at h
    · simp only [Bool.and_eq_true] at h
      rename_i x xs
      obtain ⟨q1, q2⟩ := ckL_len [] _ h.2
      obtain rfl := List.length_eq_zero_iff.mp q1
      have ha := ckE_ok a X k W _ g h.1.2
      exact ⟨pe_bo1 ha.1, fun ht => pw_or1 (ha.2 (by simpa [tstL] using ht))⟩
    · cases h
  | a :: b :: r, X, k, W, xs, pos, g, h, hx => by
    unfold ckL at h
    split at h
    · simp only [Bool.and_eq_true] at h
      rename_i x xs
      obtain ⟨q1, q2⟩ := ckL_len (b :: r) _ h.2
      have ha := ckE_ok a X k W _ g h.1.2
      cases xs with
      | nil => cases q1
      | cons y ys =>
        obtain ⟨h3, h4⟩ := ckOr_ok (b :: r) X k W (y :: ys) pos g h.2 rfl
        refine ⟨snd_or ha.1 h3, fun ht => ?_⟩
        unfold tstL at ht
        rw [Bool.and_eq_true] at ht
        exact snt_or (ha.2 ht.1) (h4 ht.2)
    · cases h
theorem ckC_ok : ∀ (es : List Ex) (X : Cx) (k : Kc) (W : WX) (xs : List Expr), Good P Cf Gc w0 n X k W → ckC P k es xs = true → PTs X xs (tTB X.K w0 W (evIf Cf Gc es))
  | [], X, k, W, xs, g, h => by
    unfold ckC at h
    cases xs with
    | nil => exact ⟨fun pins s σ H Q I ⟨G, as, S, ρ, r0, e0, f⟩ => pts_nil.run pins s σ H Q I (f G as H true Ext.refl r0 rfl)⟩
    | cons _ _ => cases h
  | [c], X, k, W, xs, g, h => by
    unfold ckC at h
    split at h
    · simp only [Bool.and_eq_true] at h
      exact pts_one ((ckE_ok c X k W _ g h.2).2 h.1)
    · cases h
  | _ :: _ :: _, X, k, W, xs, g, h => by
    unfold ckC at h
    cases h
theorem ckO_ok : ∀ (o : Option Ex) (X : Cx) (k : Kc) (W : WX) (x : Option Expr), Good P Cf Gc w0 n X k W → ckO P k o x = true → PO X x (tO X.K w0 W (evO Cf Gc o))
  | none, X, k, W, x, g, h => by
    unfold ckO at h
    cases x with
    | none => exact sno_none
    | some _ => cases h
  | some e, X, k, W, x, g, h => by
    unfold ckO at h
    split at h
    · exact sno_some (ckE_ok e X k W _ g h).1
    · cases h
theorem ckI_ok : ∀ (i : It) (X : Cx) (k : Kc) (W : WX) (t x : Expr), Good P Cf Gc w0 n X k W → ckI P k i x = true → PI X t x (tI X.K w0 W (evI Cf Gc i))
  | .val e, X, k, W, t, x, g, h => by
    unfold ckI at h
    exact sni_val (ckE_ok e X k W _ g h).1
  | .rng1 a, X, k, W, t, x, g, h => by
    unfold ckI at h
    split at h
    · simp only [Bool.and_eq_true, decide_eq_true_iff, Bool.not_eq_true'] at h
      obtain ⟨⟨⟨h1, h2⟩, h3⟩, h4⟩ := h
      subst h1
      exact sni_rng1 (g.gl h2) g.rng h3 (ckE_ok a X k W _ g h4).1
    · cases h
  | .rng2 a b, X, k, W, t, x, g, h => by
    unfold ckI at h
    split at h
    · simp only [Bool.and_eq_true, decide_eq_true_iff, Bool.not_eq_true'] at h
      obtain ⟨⟨⟨⟨⟨h1, h2⟩, h3⟩, h4⟩, h5⟩, h6⟩ := h
      subst h1
      exact sni_rng2 (g.gl h2) g.rng h3 h4 (ckE_ok a X k W _ g h5).1 (ckE_ok b X k W _ g h6).1
    · cases h
end
end
end Dw

set_option Elab.async false
set_option linter.all false
set_option maxRecDepth 100000
set_option maxHeartbeats 4000000
/-! What is checked is sound: statements. -/
namespace Dw
open PySem PySem.Spec PyProof.Rows L2

def swB (k : Kc) (t : Str) (line vline : Nat) (scope : Scope) : Bool :=
  decide (k.sc.names.lookup t = some .local) && (line == vline) && !(scope.names.any fun (n, k) => n == t && (k == .local || k == .cell))
mutual
def ckS (P : Dc) (k : Kc) : Sx → Stmt → Bool
  | .asg tg e, s => match s with
    | .Assign [t] v pos => ckG k tg t && ckE P k e v && (noTup t || noTup v)
    | _ => false
  | .par i j a b, s => match s with
    | .Assign [.Tuple [.Name x px, .Name y py] _ _] (.Tuple [ea, eb] _ _) _ => decide (k.N[i]? = some x) && decide (k.N[j]? = some y) && decide (i ≠ j) && decide (x ≠ y) && decide (k.sc.names.lookup x = some .local) && decide (k.sc.names.lookup y = some .local) &&
      decide (px.line = py.line) && !isStar ea && !isStar eb && !(foldedForSure 8 ea && foldedForSure 8 eb) && !(constantsAlone 8 ea && constantsAlone 8 eb) && ckE P k a ea && ckE P k b eb
    | _ => false
  | .sub o i e, s => match s with
    | .Assign [.Subscript eo ei _] v _ => noSl ei && ckE P k o eo && ckE P k i ei && ckE P k e v
    | _ => false
  | .subn o i j e, s => match s with
    | .Assign [.Tuple [.Subscript eo ei _, .Name y _] _ _] v _ => decide (k.N[j]? = some y) && decide (k.sc.names.lookup y = some .local) && noSl ei && noTup v && ckE P k o eo && ckE P k i ei && ckE P k e v
    | _ => false
  | .exp e, s => match s with
    | .Expr v _ => noCp v && ckE P k e v
    | _ => false
  | .ret e, s => match s with
    | .Return (some v) _ => ckE P k e v
    | _ => false
  | .ife c a b, s => match s with
    | .If ec sa sb _ => tst c && ckE P k c ec && ckSs P k a sa && ckSs P k b sb
    | _ => false
  | .whl _ c b, s => match s with
    | .While ec sa [] _ => tst c && ckE P k c ec && ckSs P k b sa
    | _ => false
  | .fr tg it b, s => match s with
    | .For t iter sa [] _ => okIter iter && ckG k tg t && ckI P k it iter && ckSs P k b sa
    | _ => false
  | .rai _ _, _ => true
  | .pass, s => match s with
    | .Pass _ => true
    | _ => false
def ckSs (P : Dc) (k : Kc) : List Sx → List Stmt → Bool
  | [], ss => ss.isEmpty
  | x :: xs, ss => match ss with
    | s :: ss => ckS P k x s && ckSs P k xs ss
    | [] => false
end

section
variable {P : Dc} {Cf : Nat → List Val → Sto → R Val} {Gc : List PyData} {w0 : Ew} {n : Nat} {X : Cx} {k : Kc} {W : WX}
/-- what a def's own block has more -/
structure GoodS (P : Dc) (Cf : Nat → List Val → Sto → R Val) (Gc : List PyData) (w0 : Ew) (n : Nat) (X : Cx) (k : Kc) (W : WX) : Prop extends Good P Cf Gc w0 n X k W where
  own : PassesOwn (model X.prog X.w) X.A X.env X.xe
  bk : X.env.blockKind = .function
theorem ck_noSC {x : Ex} {e : Expr} (h : ckE P k x e = true) : (∀ a b c d, e ≠ .SetComp a b c d) ∧ (∀ a b c d f, e ≠ .DictComp a b c d f) := by
  constructor
  · rintro a b c d rfl
    cases x <;> first | (simp [ckE] at h; done) | (rename_i m _ _; cases m; simp [ckE] at h)
  · rintro a b c d f rfl
    cases x <;> first | (simp [ckE] at h; done) | (rename_i m _ _; cases m; simp [ckE] at h)
theorem sw_sole {t v : Expr} {line : Nat} (h1 : (∀ a b c d, v ≠ .SetComp a b c d) ∧ (∀ a b c d f, v ≠ .DictComp a b c d f)) (h2 : (∀ a b c d, v ≠ .ListComp a b c d) ∨ (∀ x p, t ≠ .Name x p)) : swapsWithSole [t] v line X.env = pure false := by
  show swapsWith v (some t) line X.env = _
  cases v with
  | SetComp a b c d => exact absurd rfl (h1.1 a b c d)
  | DictComp a b c d f => exact absurd rfl (h1.2 a b c d f)
  | ListComp a b c d =>
    rcases h2 with h2 | h2
    · exact absurd rfl (h2 a b c d)
    · cases t <;> first | rfl | exact absurd rfl (h2 _ _)
  | _ => rfl
theorem sw_none {v : Expr} {line : Nat} (h : noCp v = true) : swapsWith v none line X.env = pure false := by
  cases v <;> first | rfl | cases h
theorem sw_stores {t v : Expr} (h : (noTup t || noTup v) = true) (ht : ∀ a b, t ≠ .List a b) : swappedStores [t] v X.env = pure none := by
  cases t <;> cases v <;> first | rfl | exact absurd rfl (ht _ _) | cases h
theorem ckG_noList {t : Tg} {e : Expr} (h : ckG k t e = true) : ∀ a b, e ≠ .List a b := by
  rintro a b rfl
  cases t <;> cases h
theorem sw_name (hb : X.env.blockKind = .function) (hs : X.env.scope = k.sc) {elt : Expr} {gs : List Comprehension} {sc : Scope} {vp py : Pos} {y : Str} {line : Nat} : swapsWith (.ListComp elt gs sc vp) (some (.Name y py)) line X.env = pure (swB k y py.line vp.line sc) := by
  show (pure (X.env.blockKind == .function && X.env.scope.names.lookup y == some .local && py.line == vp.line && !(sc.names.any fun (n, k) => n == y && (k == .local || k == .cell))) : Sem Bool) = _
  rw [hb, hs]
  unfold swB
  congr 1
  have e1 : (k.sc.names.lookup y == some NameKind.local) = decide (k.sc.names.lookup y = some .local) := by
    by_cases h : k.sc.names.lookup y = some .local
    · rw [h]; rfl
    · rw [decide_eq_false h]
      simpa using h
  rw [e1]
  rfl
theorem sw_par (hb : X.env.blockKind = .function) {x y : Str} {px py pt p2 : Pos} {kt k2 : Nat} {a b : Expr} (hx : X.env.scope.names.lookup x = some .local) (hy : X.env.scope.names.lookup y = some .local) (hxy : x ≠ y) (hl : px.line = py.line) (ha : isStar a = false) (hb2 : isStar b = false)
    (h1 : (foldedForSure 8 a && foldedForSure 8 b) = false) (h2 : (constantsAlone 8 a && constantsAlone 8 b) = false) : swappedStores [.Tuple [.Name x px, .Name y py] kt pt] (.Tuple [a, b] k2 p2) X.env = pure (some [x, y]) := by
  have kx : X.env.kindOf x = some .local := hx
  have ky : X.env.kindOf y = some .local := hy
  have e3 : ([x, y] : List Str).eraseDups.length = 2 := by
    have : (y == x) = false := by simpa using fun h => hxy h.symm
    simp [List.eraseDups_cons, List.filter, this, List.eraseDups_nil]
  unfold swappedStores
  simp only [hb]
  have hp : (Expr.Name x px).pos.line = py.line := hl
  simp [List.all_cons, h1, h2, List.filterMap, kx, ky, hl, hp, e3]
  rintro (h | h)
  · split at h
    · exact absurd (show true = false from ha) Bool.noConfusion
    · cases h
  · split at h
    · exact absurd (show true = false from hb2) Bool.noConfusion
    · cases h
end
section
variable (P : Dc) (Cf : Nat → List Val → Sto → R Val) (Gc : List PyData) (w0 : Ew) (n : Nat)
theorem asg_ok (tg : Tg) (e : Ex) (X : Cx) (k : Kc) (W : WX) (t v : Expr) (pos : Pos) (g : GoodS P Cf Gc w0 n X k W) (h1 : ckG k tg t = true) (h2 : ckE P k e v = true) (h3 : (noTup t || noTup v) = true) :
    PS X (.Assign [t] v pos) (tSx X.K w0 W (evS Cf Gc (.asg tg e))) := by
  have hw := sw_stores (X := X) h3 (ckG_noList h1)
  have plain : ((∀ a b c d, v ≠ .ListComp a b c d) ∨ (∀ x p, t ≠ .Name x p)) → PS X (.Assign [t] v pos) (tSx X.K w0 W (evS Cf Gc (.asg tg e))) := fun hh =>
    sns_asg (ckE_ok P Cf Gc w0 n e X k W v g.toGood h2).1 (g.tg h1) (sw_sole (ck_noSC h2) hh) hw (by
      cases tg with
      | name i => cases t <;> first | rfl | (exact absurd (show false = true from h1) Bool.noConfusion)
      | names is => cases t <;> first | rfl | (exact absurd (show false = true from h1) Bool.noConfusion))
  cases v with
  | ListComp elt gs sc vp =>
    cases t with
    | Name y py =>
      cases hsw : swB k y py.line vp.line sc with
      | false =>
        refine sns_asg (ckE_ok P Cf Gc w0 n e X k W _ g.toGood h2).1 (g.tg h1) ?_ hw rfl
        show swapsWith (.ListComp elt gs sc vp) (some (.Name y py)) pos.line X.env = pure false
        rw [sw_name g.bk g.sc, hsw]
      | true =>
        cases tg with
        | names is => cases h1
        | name i =>
          simp only [ckG, Bool.and_eq_true, decide_eq_true_iff] at h1
          cases e with
          | cp e tg it ifs own =>
            unfold ckE at h2
            split at h2
            · rename_i elt t iter cs scope vp heq
              cases heq
              simp only [Bool.and_eq_true, List.all_eq_true] at h2
              obtain ⟨⟨⟨⟨⟨⟨q1, q2⟩, q3⟩, q4⟩, q5⟩, q6⟩, q7⟩ := h2
              obtain ⟨b1, b2⟩ := g.blkOk q6
              have hown : ∀ i ∈ tgSlots tg, i ∈ (mkOwn X.N own).map (·.2) := by
                rw [b2]
                intro i hi
                simpa using q7 i hi
              have hyl : X.env.scope.names.lookup y = some .local := by
                rw [g.sc]
                unfold swB at hsw
                simp only [Bool.and_eq_true, decide_eq_true_iff] at hsw
                exact hsw.1.1
              have main := sns_setLc (pos := pos) (W := W) (w0 := w0) g.calm g.nd (g.N ▸ h1.1) hyl (by rw [sw_name g.bk g.sc, hsw]) (ckI_ok P Cf Gc w0 n it X k W _ _ g.toGood q3) b1 hown (fun s H C cl fp => (g.toGood.blk s H _ C cl fp).tg q2) (fun s H C cl fp => ckC_ok P Cf Gc w0 n ifs _ _ _ _ (g.toGood.blk s H _ C cl fp) q4) (fun s H C cl fp => (ckE_ok P Cf Gc w0 n e _ _ _ _ (g.toGood.blk s H _ C cl fp) q5).1) (okIter_ok q1 _)
              rw [b2] at main
              exact main
            · cases h2
          | mth m _ _ => cases m; simp [ckE] at h2
          | _ => simp [ckE] at h2
    | _ => exact plain (.inr fun _ _ => by rintro ⟨⟩)
  | _ => exact plain (.inl fun _ _ _ _ => by rintro ⟨⟩)
mutual
theorem ckS_ok : ∀ (x : Sx) (X : Cx) (k : Kc) (W : WX) (s : Stmt), GoodS P Cf Gc w0 n X k W → ckS P k x s = true → PS X s (tSx X.K w0 W (evS Cf Gc x))
  | .asg tg e, X, k, W, s, g, h => by
    unfold ckS at h
    split at h
    · simp only [Bool.and_eq_true] at h
      exact asg_ok P Cf Gc w0 n tg e X k W _ _ _ g h.1.1 h.1.2 h.2
    · cases h
  | .par i j a b, X, k, W, s, g, h => by
    unfold ckS at h
    split at h
    · simp only [Bool.and_eq_true, decide_eq_true_iff, Bool.not_eq_true'] at h
      obtain ⟨⟨⟨⟨⟨⟨⟨⟨⟨⟨⟨⟨h1, h2⟩, h3⟩, h4⟩, h5⟩, h6⟩, h7⟩, h8⟩, h9⟩, h10⟩, h11⟩, h12⟩, h13⟩ := h
      have l1 := h5
      have l2 := h6
      rw [← g.sc] at l1 l2
      exact sns_par g.calm g.nd (g.N ▸ h1) (g.N ▸ h2) h3 l1 l2 h8 h9 (ckE_ok P Cf Gc w0 n a X k W _ g.toGood h12).1 (ckE_ok P Cf Gc w0 n b X k W _ g.toGood h13).1 (sw_par g.bk l1 l2 h4 h7 h8 h9 h10 h11)
    · cases h
  | .sub o i e, X, k, W, s, g, h => by
    unfold ckS at h
    split at h
    · simp only [Bool.and_eq_true] at h
      obtain ⟨⟨⟨h1, h2⟩, h3⟩, h4⟩ := h
      exact sns_sub h1 (ckE_ok P Cf Gc w0 n e X k W _ g.toGood h4).1 (ckE_ok P Cf Gc w0 n o X k W _ g.toGood h2).1 (ckE_ok P Cf Gc w0 n i X k W _ g.toGood h3).1 (sw_sole (ck_noSC h4) (.inr fun _ _ => by rintro ⟨⟩)) (sw_stores rfl fun _ _ => by rintro ⟨⟩)
    · cases h
  | .subn o i j e, X, k, W, s, g, h => by
    unfold ckS at h
    split at h
    · simp only [Bool.and_eq_true, decide_eq_true_iff] at h
      obtain ⟨⟨⟨⟨⟨⟨h1, h2⟩, h3⟩, h4⟩, h5⟩, h6⟩, h7⟩ := h
      have l1 := h2
      rw [← g.sc] at l1
      exact sns_subn g.calm g.nd (g.N ▸ h1) l1 h3 (ckE_ok P Cf Gc w0 n e X k W _ g.toGood h7).1 (ckE_ok P Cf Gc w0 n o X k W _ g.toGood h5).1 (ckE_ok P Cf Gc w0 n i X k W _ g.toGood h6).1 (sw_sole (ck_noSC h7) (.inr fun _ _ => by rintro ⟨⟩)) (sw_stores (by rw [h4]; simp) fun _ _ => by rintro ⟨⟩)
    · cases h
  | .exp e, X, k, W, s, g, h => by
    unfold ckS at h
    split at h
    · simp only [Bool.and_eq_true] at h
      exact sns_exp (ckE_ok P Cf Gc w0 n e X k W _ g.toGood h.2).1 (sw_none h.1)
    · cases h
  | .ret e, X, k, W, s, g, h => by
    unfold ckS at h
    split at h
    · exact sns_ret (ckE_ok P Cf Gc w0 n e X k W _ g.toGood h).1
    · cases h
  | .ife c a b, X, k, W, s, g, h => by
    unfold ckS at h
    split at h
    · simp only [Bool.and_eq_true] at h
      obtain ⟨⟨⟨h1, h2⟩, h3⟩, h4⟩ := h
      exact sns_if ((ckE_ok P Cf Gc w0 n c X k W _ g.toGood h2).2 h1) (ckSs_ok a X k W _ g h3) (ckSs_ok b X k W _ g h4)
    · cases h
  | .whl m c b, X, k, W, s, g, h => by
    unfold ckS at h
    split at h
    · simp only [Bool.and_eq_true] at h
      obtain ⟨⟨h1, h2⟩, h3⟩ := h
      exact sns_while g.own ((ckE_ok P Cf Gc w0 n c X k W _ g.toGood h2).2 h1) (ckSs_ok b X k W _ g h3)
    · cases h
  | .fr tg it b, X, k, W, s, g, h => by
    unfold ckS at h
    split at h
    · simp only [Bool.and_eq_true] at h
      obtain ⟨⟨⟨h1, h2⟩, h3⟩, h4⟩ := h
      exact sns_for g.own g.calm (ckI_ok P Cf Gc w0 n it X k W _ _ g.toGood h3) (g.tg h2) (ckSs_ok b X k W _ g h4) (okIter_ok h1 _)
    · cases h
  | .rai _ _, X, k, W, s, g, h => sns_never
  | .pass, X, k, W, s, g, h => by
    unfold ckS at h
    split at h
    · exact sns_pass
    · cases h
theorem ckSs_ok : ∀ (xs : List Sx) (X : Cx) (k : Kc) (W : WX) (ss : List Stmt), GoodS P Cf Gc w0 n X k W → ckSs P k xs ss = true → PSs X ss (tSx X.K w0 W (evSs Cf Gc xs))
  | [], X, k, W, ss, g, h => by
    unfold ckSs at h
    cases ss with
    | nil => exact snss_nil
    | cons _ _ => cases h
  | x :: xs, X, k, W, ss, g, h => by
    unfold ckSs at h
    split at h
    · simp only [Bool.and_eq_true] at h
      exact snss_cons (ckS_ok x X k W _ g h.1) (ckSs_ok xs X k W _ g h.2)
    · cases h
end
end
end Dw

set_option Elab.async false
set_option linter.all false
set_option maxRecDepth 100000
set_option maxHeartbeats 4000000
/-! Defs: what is checked of a table of defs is a promise of each. -/
namespace Dw
open PySem PySem.Spec PyProof.Rows L2

section
variable {K : PySem.W.Frag} {w0 : Ew} {G H G1 H1 : Hp} {as as1 : List Addr} {S S1 : Sto}
theorem pre_take (h : as <+: as1) : as1.take as.length = as := by
  obtain ⟨t, rfl⟩ := h
  simp
theorem Ext.cut (x : Ext G as H G1 as1 H1) : Ext G as H G1 as H1 := ⟨x.g, List.prefix_refl _, x.kp, x.th, fun _ h => .inl h, x.gf⟩
theorem Rst.cut (r : Rst K G1 as1 S1 H1) (h : as <+: as1) : Rst K G1 as (S1.take as.length) H1 where
  same := r.same
  len := by
    rw [List.length_take, ← r.len]
    have := h.length_le
    omega
  cl := fun k a e => by
    obtain ⟨l, xs, h1, h2, h3, h4⟩ := r.cl k a (pre_get h e)
    have hk := (List.getElem?_eq_some_iff.mp e).1
    exact ⟨l, xs, by rw [List.getElem?_take_of_lt hk]; exact h1, h2, h3, h4⟩
  nd := by
    obtain ⟨t, rfl⟩ := h
    exact (List.nodup_append.mp r.nd).1
/-- a list made within, handed back, changes no more -/
theorem freeze {k : Nat} {a : Addr} {l : List PyData} (x : Ext G as H G1 as1 H1) (r : Rst K G1 as1 S1 H1) (hk : as.length ≤ k) (ha : as1[k]? = some a) (hl : S1[k]? = some l) :
    ∃ G2, Ext G as H G2 as H1 ∧ Rst K G2 as (S1.take as.length) H1 ∧ Da K G2 (.ref a) (.list l) := by
  obtain ⟨l', xs, h1, h2, h3, h4⟩ := r.cl k a ha
  rw [hl] at h1
  cases h1
  have sg : Same G1 (upd G1 a (.lst xs)) := fun b u e => by rw [upd_ne (ne_of_none e h4)]; exact e
  have rc := r.cut x.pre
  have na : a ∉ as := fun h => by
    obtain ⟨j, hj, e⟩ := List.getElem_of_mem h
    have e2 : as1[j]? = some a := pre_get x.pre (by rw [List.getElem?_eq_getElem hj, e])
    have := nd_ix r.nd ha e2
    omega
  refine ⟨upd G1 a (.lst xs), ⟨x.g.trans sg, List.prefix_refl _, x.kp, x.th, fun _ h => .inl h, fun b o e => ?_⟩, ⟨fun b u e => ?_, rc.len, fun j b e => ?_, rc.nd⟩, .lst upd_same (DaAll.mono sg _ _ h3)⟩
  · by_cases hb : b = a
    · subst hb
      rcases x.fr b (List.mem_of_getElem? ha) with q | q
      · exact absurd q na
      · exact .inr q
    · rw [upd_ne hb] at e; exact x.gf b o e
  · by_cases hb : b = a
    · subst hb; rw [upd_same] at e; cases e; exact h2
    · rw [upd_ne hb] at e; exact r.same b u e
  · obtain ⟨l2, ys, g1, g2, g3, g4⟩ := rc.cl j b e
    have hb : b ≠ a := fun z => na (z ▸ List.mem_of_getElem? e)
    exact ⟨l2, ys, g1, g2, DaAll.mono sg _ _ g3, by rw [upd_ne hb]; exact g4⟩
theorem env_start {vs : List V} {xs : List Val} {N : List Str} (a : Ats K G as vs xs) : EnvR K G as (L2.start N vs) (xs.map some ++ List.replicate (N.length - xs.length) none) := by
  have hl := ats_len a
  refine ⟨by unfold L2.start; simp [hl], fun i x h => ?_⟩
  unfold L2.start
  by_cases hi : i < xs.length
  · rw [List.getElem?_append_left (by rw [List.length_map]; exact hi), List.getElem?_map] at h
    rw [List.getElem?_append_left (by rw [List.length_map, hl]; exact hi), List.getElem?_map]
    have : ∀ {vs : List V} {xs : List Val} {i : Nat} {x : Val}, Ats K G as vs xs → xs[i]? = some x → ∃ v, vs[i]? = some v ∧ At K G as v x := by
      intro vs xs i x a
      induction a generalizing i with
      | nil => intro h; simp at h
      | cons p q ih =>
        intro h
        cases i with
        | zero => simp at h; subst h; exact ⟨_, rfl, p⟩
        | succ i =>
          obtain ⟨v, h1, h2⟩ := ih (i := i) (by simpa using h)
          exact ⟨v, by simpa using h1, h2⟩
    cases hx : xs[i]? with
    | none => rw [hx] at h; cases h
    | some y =>
      rw [hx] at h
      cases h
      obtain ⟨v, h1, h2⟩ := this a hx
      exact ⟨v, by rw [h1]; rfl, h2⟩
  · rw [List.getElem?_append_right (by rw [List.length_map]; omega)] at h
    have := List.mem_of_getElem? h
    rw [List.mem_replicate] at this
    cases this.2
/-- what comes of a body, from what a def hands back -/
theorem fin_back {keep : Bool} {W : WX} {Q : VK} {r : SR} (r0 : Rst K G as S H) (h : FinG K w0 (At K) W [] Q G as H (handBack keep S.length r)) (hW : ∀ c d σ H, W c d [] H → W c d σ H) :
    FinS K w0 W { nx := fun _ H' => Q .non H', rt := Q } G as H r := by
  rw [← r0.len] at h
  cases r with
  | nx ρ S1 =>
    intro G1 as1 H1 σ1 x r1 e1
    cases keep with
    | true => exact h G1 as1 H1 .non x r1 .non
    | false => exact h G1 as H1 .non x.cut (r1.cut x.pre) .non
  | bk _ _ => exact h.elim
  | ct _ _ => exact h.elim
  | bad => exact h.elim
  | exc c d ρ S1 =>
    intro G1 as1 H1 σ1 dx v x r1 e1 h1 h2
    cases keep with
    | true => exact hW _ _ _ _ (h G1 as1 H1 dx v x r1 h1 h2)
    | false => exact hW _ _ _ _ (h G1 as H1 dx v x.cut (r1.cut x.pre) h1 h2)
  | rt v S1 =>
    intro G1 as1 H1 u x r1 a1
    cases v with
    | dat d =>
      cases keep with
      | true => exact h G1 as1 H1 u x r1 a1
      | false => exact h G1 as H1 u x.cut (r1.cut x.pre) a1
    | cell k =>
      cases keep with
      | true => exact h G1 as1 H1 u x r1 a1
      | false =>
        have h : FinG K w0 (At K) W [] Q G as H (if as.length ≤ k then match S1[k]? with
          | some l => .ok (.dat (.list l)) (S1.take as.length)
          | none => .bad else .bad) := h
        by_cases hk : as.length ≤ k
        · rw [if_pos hk] at h
          cases hl : S1[k]? with
          | none => rw [hl] at h; exact h.elim
          | some l =>
            rw [hl] at h
            obtain ⟨a, rfl, ea⟩ := a1
            obtain ⟨G2, x2, r2, d2⟩ := freeze x r1 hk ea hl
            exact h G2 as H1 _ x2 r2 d2
        · rw [if_neg hk] at h; exact h.elim
    | cells ks => cases keep with
      | true => exact h G1 as1 H1 u x r1 a1
      | false => exact h.elim
    | scr l => cases keep with
      | true => exact h G1 as1 H1 u x r1 a1
      | false => exact h.elim
    | fn f => cases keep with
      | true => exact h G1 as1 H1 u x r1 a1
      | false => exact h.elim
end

/-- a def of the text, and what it is in the small language -/
structure Dt where
  name : Str
  st : Stmt
  N : List Str
  ps : List Str
  F : Fd
def scB (N ps : List Str) (sc : Scope) : Bool :=
  decide (sc.kind = .function) && decide (sc.isCoroutine = false) && decide (sc.isGenerator = false) && decide N.Nodup && decide (N.take ps.length = ps) && ps.all (fun x => decide (sc.names.lookup x = some .local) || decide (sc.names.lookup x = some .cell)) && sc.names.all (fun y => !decide (y.2 = .free))
theorem scB_ok {N ps : List Str} {sc : Scope} (h : scB N ps sc = true) : FnScope N ps sc := by
  unfold scB at h
  simp only [Bool.and_eq_true, decide_eq_true_iff, List.all_eq_true, Bool.or_eq_true, Bool.not_eq_true', decide_eq_false_iff_not] at h
  obtain ⟨⟨⟨⟨⟨⟨h1, h2⟩, h3⟩, h4⟩, h5⟩, h6⟩, h7⟩ := h
  exact ⟨h1, h2, h3, h4, h5, h6, h7⟩
def Dt.ok (P : Dc) (d : Dt) : Bool := scB d.N d.ps (defScope d.st) && decide (d.F.np = d.ps.length) && decide (d.F.nn = d.N.length) && ckSs P ⟨d.N, defScope d.st, fun _ => true⟩ d.F.body (defBody d.st)
/-- what stands behind the top -/
structure Behind (D : List Dt) (P : Dc) (Gc : List PyData) (K : PySem.W.Frag) (mg : Str → Option Value) (n0 : List Nat) : Prop where
  defs : ∀ (f : Nat) (d : Dt), D[f]? = some d → f ∈ n0 → ∃ fad fd dvs kws, FunD K d.name d.name (defArgs d.st) (defBody d.st) (defScope d.st) dvs kws fad fd ∧ mg d.name = some (.ref fad) ∧ ∀ nu ks perm dfl, (f, nu, ks, perm, dfl) ∈ P.shs → ShapeOk K fd d.ps nu ks perm dfl
  blts : ∀ b : Blt, mg (Str.ofString (bltName b)) = none
  tys : ∀ t : Ty, mg (Str.ofString (tyName t)) = none
  isin : mg ("isinstance" : Str) = none
  rng : mg ("range" : Str) = none
  gls : ∀ (g : Nat) (x : Str), P.gls[g]? = some x → ∃ d v u, Gc[g]? = some d ∧ mg x = some u ∧ RelV v u ∧ ∀ G, Da K G v d

theorem defs_ok {D : List Dt} {P : Dc} {Gc : List PyData} {Pr : Program} {w : World} {K : PySem.W.Frag} {mg : Str → Option Value} {base : Heap} (w0 : Ew) (hD : ∀ d ∈ D, d.ok P = true) (hP : P.fns = D.map (·.name)) (B : Behind D P Gc K mg (List.range D.length)) :
    ∀ (n f : Nat) (d : Dt), D[f]? = some d → ∀ fad fd dvs kws, FunD K d.name d.name (defArgs d.st) (defBody d.st) (defScope d.st) dvs kws fad fd → FnG Pr w K mg base n fad fd d.ps (spEv K w0 (run (D.map (·.F)) Gc n f)) := by
  intro n
  induction n with
  | zero => exact fun f d hd fad fd dvs kws F => ⟨fun vs H Q E ⟨_, _, _, _, _, _, h⟩ => h.elim, fun A outer s H args us vs Q E _ _ _ _ _ ⟨_, _, _, _, _, _, h⟩ => h.elim⟩
  | succ n ih =>
    intro f d hd fad fd dvs kws F
    have hok := hD d (List.mem_of_getElem? hd)
    unfold Dt.ok at hok
    simp only [Bool.and_eq_true, decide_eq_true_iff] at hok
    obtain ⟨⟨⟨h1, h2⟩, h3⟩, h4⟩ := hok
    have Sc := scB_ok h1
    have hT : (D.map (·.F))[f]? = some d.F := by rw [List.getElem?_map, hd]; rfl
    have unf : ∀ {vs : List V} {H : Hp} {Q : VK} {E : XK}, spEv K w0 (run (D.map (·.F)) Gc (n + 1) f) vs H Q E → ∃ G as S xs, Rst K G as S H ∧ Ats K G as vs xs ∧ xs.length = d.F.np ∧ d.F.np ≤ d.F.nn ∧
        FinG K w0 (At K) (fun c d _ H' => E c d H') [] Q G as H (handBack d.F.keep S.length (evSs (run (D.map (·.F)) Gc n) Gc d.F.body (xs.map some ++ List.replicate (d.F.nn - d.F.np) none) S)) := by
      rintro vs H Q E ⟨G, as, S, xs, r0, a, h⟩
      refine ⟨G, as, S, xs, r0, a, ?_⟩
      unfold run at h
      rw [hT] at h
      dsimp only at h
      by_cases hc : xs.length = d.F.np ∧ d.F.np ≤ d.F.nn
      · rw [if_pos hc] at h
        exact ⟨hc.1, hc.2, h⟩
      · rw [if_neg hc] at h
        exact h.elim
    obtain ⟨oc, od, dV, kV, doc, pm, an, cdv, ct, osl, rfl, lk, hcd, _, _⟩ := F.ex
    refine fn_ofG lk hcd Sc (fun vs H Q E h => ?_) fun A outer s H vs Q E hr hg h => ⟨_, ckSs_ok P (run (D.map (·.F)) Gc n) Gc w0 n d.F.body _ ⟨d.N, defScope d.st, fun _ => true⟩ (fun c d _ H' => E c d H') _ ?_ h4, ?_⟩
    · obtain ⟨G, as, S, xs, r0, a, e1, e2, h⟩ := unf h
      rw [ats_len a, e1, h2]
    · exact
      { calm := rfl
        nd := Sc.nd
        N := rfl
        sc := rfl
        fn := fun _ _ => rfl
        gd := hg
        room := hr
        tk := takes_of rfl rfl rfl rfl
        defs := fun g x hx => by
          rw [hP, List.getElem?_map] at hx
          cases hd' : D[g]? with
          | none => rw [hd'] at hx; cases hx
          | some d' =>
            rw [hd'] at hx
            cases hx
            obtain ⟨fad', fd', dvs', kws', F', m', sh⟩ := B.defs g d' hd' (List.mem_range.mpr (List.getElem?_eq_some_iff.mp hd').1)
            exact ⟨fad', fd', d'.ps, ih g d' hd' fad' fd' dvs' kws' F', m', F'.kp, sh⟩
        blts := B.blts
        tys := B.tys
        isin := B.isin
        rng := B.rng
        gls := B.gls
        own := passes_of rfl
        bk := by
          show (if (defScope d.st).kind.isAnnotationScope then ScopeKind.function else (defScope d.st).kind) = ScopeKind.function
          rw [Sc.kind]
          rfl }
    · obtain ⟨G, as, S, xs, r0, a, e1, e2, h⟩ := unf h
      refine ⟨G, as, S, _, r0, env_start a, fin_back (keep := d.F.keep) r0 ?_ fun _ _ _ _ q => q⟩
      rw [e1, ← h3]
      exact h
end Dw

set_option Elab.async false
set_option linter.all false
set_option maxRecDepth 100000
set_option maxHeartbeats 4000000
/-! The law's own call, from its promise. -/
namespace Dw
open PySem PySem.Spec PyProof.Rows L2

section
variable {P : Program} {w : World} {K : PySem.W.Frag} {mg mb : Str → Option Value} {k : Nat} {la z : Addr} {fd : FuncData} {x : Str} {sp : Sp} {t : Shared} {us : List Value} {ns : List Int}
theorem go_law (inK : K.In t.heap) (gN : t.heap.Ns mainGlobals mg) (bN : t.heap.Ns builtinsNs mb) (bB : ∀ y : Str, y ≠ "__name__" → mb y = bootBuiltins y) (lim : t.heap.NoLimit) (gs : t.gens = #[])
    (oz : t.heap.get? z = some { cls := .type "list", data := .seq us.toArray }) (iz : IntsAre us ns) (lz : ns.length ≤ sizeLine) (rm : Room k callerA)
    (F : ∀ b : Heap, K.In b → b.Ns mainGlobals mg → FnG P w K mg b k la fd [x] sp) (bd : ∀ (s : Shared) (u : Value), BindsTo s fd ⟨[u], []⟩ [(x, u)])
    (told : ∀ H : Hp, SqL K H z (ns.map V.int) → sp [.ref z] H (fun v _ => v = .bl true) fun _ _ _ => False) :
    codeAny (model P w) callerA (.call (.ref la) ⟨[.ref z], []⟩) (fun r s' => r = .ok (.ret (.bool true)) ∧ OldK t.heap s'.heap ∧ s'.os = t.os ∧ AllBare s'.gens) t := by
  have vz := vals_ints iz
  have nz := iz.length
  have main : ∀ H : Hp, (∀ c, H c = none ∨ ∃ o ys, H c = some (.frz o (.lst ys))) → SqL K H z (ns.map V.int) → HOk P w H t.heap → (∀ c, H c ≠ none → c = z) → (H z ≠ none → K.lookup z = none) →
      codeAny (model P w) callerA (.call (.ref la) ⟨[.ref z], []⟩) (fun r s' => r = .ok (.ret (.bool true)) ∧ OldK t.heap s'.heap ∧ s'.os = t.os ∧ AllBare s'.gens) t := by
    intro H frz seqz wk only nk
    have under : ∀ {c : Addr} {o : Obj}, t.heap.get? c = some o → H c = none → (hidT t.heap H).get? c = some o := fun e1 e2 => hidT_get e1 e2
    have nodict : ∀ {c : Addr} {o : Obj} {es : Array DictEntry} {ep : Nat}, t.heap.get? c = some o → o.data = .dict es ep → H c = none := by
      intro c o es ep e1 e2
      by_cases hc : H c = none
      · exact hc
      · obtain rfl := only c hc
        rw [oz] at e1
        cases e1
        have e3 : Data.seq us.toArray _ = Data.dict es ep := e2
        cases e3
    have names : ∀ {c : Addr} {m : Str → Option Value}, t.heap.Ns c m → (hidT t.heap H).Ns c m := fun ⟨o, es, ep, e1, e2, q⟩ => ⟨o, es, ep, under e1 (nodict e1 e2), e2, q⟩
    have kIn : K.In (hidT t.heap H) := by
      intro c o e1
      refine under (inK c o e1) ?_
      by_cases hc : H c = none
      · exact hc
      · obtain rfl := only c hc
        rw [nk hc] at e1
        cases e1
    obtain ⟨ml, l1, l2⟩ := lim
    have md : Mod K mg (hidT t.heap H) := ⟨kIn, names gN, ⟨mb, names bN, bB⟩, ⟨ml, names l1, l2⟩⟩
    have en : Env0 P w K mg (hidT t.heap H) callerA [] t H := ⟨rfl, md, fun c o e1 => of_hidT e1, Nat.le_of_eq (hidT_size _ _), trivial, fun c hc => absurd (show c ∈ ([] : List Addr) from hc) (by simp), wk, .of_eq gs⟩
    have ran := (F _ kIn (names gN)).runs callerA [] t H ⟨[.ref z], []⟩ [.ref z] [.ref z] (fun v _ => v = .bl true) (fun _ _ _ => False) rm rfl en (bd t (.ref z)) (.cons rfl .nil) (told H seqz)
    refine codeAny_mono ran fun r s' q => ?_
    match r, q with
    | .error e, q =>
      obtain ⟨_, _, _, _, _, _, _, _, _, _, _, _, no⟩ := q
      exact no.elim
    | .ok .next, q => exact False.elim q
    | .ok .brk, q => exact False.elim q
    | .ok .cont, q => exact False.elim q
    | .ok (.ret u), ⟨v, H', e1, e2, e3, e4, e5, e6⟩ =>
      have e6 : v = .bl true := e6
      subst e6
      obtain rfl : u = Value.bool true := e5
      refine ⟨rfl, OldK.of_keep fun c o oc => ?_, e1, e2⟩
      rcases frz c with hc | ⟨o2, ys, hc⟩
      · exact e3.keep c o oc hc (by intro y; exact absurd (show c ∈ ([] : List Addr) from y) (by simp)) (by simp)
      · have h2 := e3.frzs c o2 _ hc
        obtain ⟨q1, _⟩ := wk c _ hc
        obtain ⟨q2, _⟩ := e4 c _ h2
        rw [oc] at q1
        cases q1
        exact q2
  cases lk : K.lookup z with
  | some o =>
    have eo := inK z o lk
    rw [oz] at eo
    cases eo
    refine main (fun _ => none) (fun _ => .inl rfl) (.inr ⟨_, us.toArray, _, lk, rfl, rfl, rfl, ?_, by simpa using vz⟩) (fun c u e1 => ?_) (fun c e1 => absurd rfl e1) fun e1 => absurd rfl e1
    · rw [List.size_toArray, nz]
      exact lz
    · have e2 : (none : Option HO) = some u := e1
      cases e2
  | none =>
    have at_ : ∀ c : Addr, c ≠ z → (if c = z then some (HO.frz { cls := .type "list", data := .seq us.toArray } (.lst (ns.map V.int))) else none) = none := fun c hc => if_neg hc
    refine main (fun c => if c = z then some (.frz { cls := .type "list", data := .seq us.toArray } (.lst (ns.map V.int))) else none) (fun c => ?_) (.inl (.inr ⟨_, if_pos rfl⟩)) (fun c u e1 => ?_) (fun c e1 => ?_) fun _ => lk
    · by_cases hc : c = z
      · exact .inr ⟨_, _, if_pos hc⟩
      · exact .inl (at_ c hc)
    · by_cases hc : c = z
      · have e2 := (if_pos hc).symm.trans e1
        cases e2
        subst hc
        exact ⟨oz, by rw [List.length_map]; exact lz, us, _, vz, oz⟩
      · have e2 := (at_ c hc).symm.trans e1
        cases e2
    · by_cases hc : c = z
      · exact hc
      · exact absurd (at_ c hc) e1
end
/-- the goal that the head leaves -/
theorem walk_law {l : PySem.W.OpenLaw} {n k : Nat} {q : Program} {loose : List Str} {XP : (Str → Option Value) → Heap → Prop} {YP : World → Heap → Prop} {d : DefRec} {K : Params → PySem.W.Frag} {sp : World → Sp} {x : Str}
    (hn : l.most = some n) (h2 : n ≤ sizeLine) (nd : d.params.defaults = []) (rm : Room k callerA) (hY : ∀ (w : World) (h : Heap), YP w h → (K w.params).In h)
    (F : ∀ (w : World) (mg : Str → Option Value) (la : Addr) (h : Heap), (K w.params).In h → h.Ns mainGlobals mg → mg d.name = some (.ref la) →
      ∃ fd : FuncData, (∀ (s : Shared) (u : Value), BindsTo s fd ⟨[u], []⟩ [(x, u)]) ∧ ∀ b : Heap, (K w.params).In b → b.Ns mainGlobals mg → FnG l.prog w (K w.params) mg b k la fd [x] (sp w))
    (told : ∀ (w : World) (H : Hp) (z : Addr) (ns : List Int), ns.length ≤ n → SqL (K w.params) H z (ns.map V.int) → sp w [.ref z] H (fun v _ => v = .bl true) fun _ _ _ => False) :
    PySem.W.WalkO q loose XP YP l.row.toRowW d [] (fun f vs => PySem.call f vs) := by
  refine Att.attach_call hn nd ?_
  intro w s0 t mg mb la o pm cd doc z us ns G Y o1 o2 o3 o4 oz iz lz gs
  have inK := hY w _ Y
  obtain ⟨fd, b1, b2⟩ := F w mg la _ inK G.T.g o4
  exact go_law inK G.T.g G.T.b G.T.builtins G.T.nolimit gs oz iz (Nat.le_trans lz h2) rm b2 b1 fun H s => told w H z ns lz s
/-- the law's promise: what its def computes at every script -/
theorem told_law {K : PySem.W.Frag} {w0 : Ew} {H : Hp} {z : Addr} {ns : List Int} {f : List Val → Sto → R Val} (s : SqL K H z (ns.map V.int)) (h : ∃ S, f [.scr (ns.map .int)] [] = .ok (.dat (.bool true)) S) :
    spEv K w0 f [.ref z] H (fun v _ => v = .bl true) (fun _ _ _ => False) := by
  obtain ⟨S, h⟩ := h
  have datI : ∀ l : List Int, DaAll K H (l.map V.int) (l.map PyData.int) := fun l => by
    induction l with
    | nil => exact .nil
    | cons i l ih => exact .cons (.int i) ih
  refine ⟨H, [], [], [.scr (ns.map .int)], ⟨Same.refl _, rfl, fun k a e => by simp at e, by simp⟩, .cons ⟨z, _, rfl, s, datI ns⟩ .nil, ?_⟩
  rw [h]
  intro G1 as1 H1 v x r a
  cases a
  rfl
end Dw

set_option Elab.async false
set_option linter.all false
set_option maxRecDepth 100000
set_option maxHeartbeats 4000000
namespace Dw
open PySem PySem.Spec PyProof.Rows L2
def topS (i : Nat) : Stmt := PySem.Challenge.pw_duewrights_k37_whole_lines.main.body.getD i (.Pass ⟨0, 0, 0, 0⟩)
def F_is_whole : Fd := ⟨1, 1, false, [.ret (.and [(.isi (.var 0) .int), (.not (.isi (.var 0) .bool))])]⟩
def F_is_number : Fd := ⟨3, 3, false, [.ife (.or [(.not (.callK 0 [] [0] [] [(.var 0)] [])), (.and [(.notN (.var 1)), (.cmp .lt (.var 0) (.var 1))])])
    [.ret (.con (.bool false))]
    [],
    .ret (.or [(.isN (.var 2)), (.cmp .le (.var 0) (.var 2))])]⟩
def F_is_tuple_of : Fd := ⟨2, 2, false, [.ret (.and [(.isi (.var 0) .tuple), (.cmp .eq (.blt .len [(.var 0)]) (.var 1))])]⟩
def F_check_number : Fd := ⟨3, 3, false, [.ife (.not (.callK 1 [] [0, 1, 2] [] [(.var 0), (.var 1), (.var 2)] []))
    [.rai 0 (.con .none)]
    []]⟩
def F_is_line_form : Fd := ⟨1, 2, false, [.ife (.or [(.not (.callK 2 [] [0, 1] [] [(.var 0), (.con (.int 3))] [])), (.not (.isi (.idx (.var 0) (.con (.int 0))) .tuple)), (.not (.callK 0 [] [0] [] [(.idx (.var 0) (.con (.int 1)))] [])), (.not (.callK 0 [] [0] [] [(.idx (.var 0) (.con (.int 2)))] []))])
    [.ret (.con (.bool false))]
    [],
    .ret (.and [(.chn .le .le (.con (.int 1)) (.idx (.var 0) (.con (.int 1))) (.blt .len [(.idx (.var 0) (.con (.int 0)))])), (.blt .all1 [(.cp (.callK 0 [] [0] [] [(.var 1)] []) (.name 1) (.val (.idx (.var 0) (.con (.int 0)))) [] [1])])])]⟩
def F_at : Fd := ⟨2, 6, false, [.asg (.names [2, 3, 4]) (.var 0),
    .ife (.cmp .lt (.var 1) (.blt .len [(.var 2)]))
    [.ret (.idx (.var 2) (.var 1))]
    [],
    .asg (.name 5) (.bin .add (.bin .fdiv (.bin .sub (.var 1) (.blt .len [(.var 2)])) (.var 3)) (.con (.int 1))),
    .ret (.bin .add (.idx (.var 2) (.bin .sub (.var 1) (.bin .mul (.var 5) (.var 3)))) (.bin .mul (.var 5) (.var 4)))]⟩
def F_tail_of : Fd := ⟨1, 1, false, [.ret (.bin .sub (.blt .len [(.idx (.var 0) (.con (.int 0)))]) (.idx (.var 0) (.con (.int 1))))]⟩
def F_divisors : Fd := ⟨1, 2, false, [.ret (.cp (.var 1) (.name 1) (.rng2 (.con (.int 1)) (.bin .add (.var 0) (.con (.int 1)))) [(.cmp .eq (.bin .mod (.var 0) (.var 1)) (.con (.int 0)))] [1])]⟩
def F_least_period : Fd := ⟨1, 7, false, [.par 1 2 (.callK 6 [] [0] [] [(.var 0)] []) (.idx (.var 0) (.con (.int 1))),
    .asg (.name 3) (.cp (.bin .sub (.callK 5 [] [0, 1] [] [(.var 0), (.bin .add (.var 5) (.con (.int 1)))] []) (.callK 5 [] [0, 1] [] [(.var 0), (.var 5)] [])) (.name 5) (.rng2 (.var 1) (.bin .add (.var 1) (.var 2))) [] [5]),
    .fr (.name 4) (.val (.callK 7 [] [0] [] [(.var 2)] []))
    [.ife (.blt .all1 [(.cp (.cmp .eq (.idx (.var 3) (.var 6)) (.idx (.var 3) (.bin .sub (.var 6) (.var 4)))) (.name 6) (.rng2 (.var 4) (.var 2)) [] [6])])
    [.ret (.var 4)]
    []],
    .ret (.var 2)]⟩
def F_least : Fd := ⟨1, 5, false, [.par 1 2 (.callK 8 [] [0] [] [(.var 0)] []) (.callK 6 [] [0] [] [(.var 0)] []),
    .asg (.name 3) (.bin .fdiv (.bin .mul (.idx (.var 0) (.con (.int 2))) (.var 1)) (.idx (.var 0) (.con (.int 1)))),
    .whl 100000 (.and [(.cmp .gt (.var 2) (.con (.int 0))), (.cmp .eq (.bin .sub (.callK 5 [] [0, 1] [] [(.var 0), (.bin .add (.bin .sub (.var 2) (.con (.int 1))) (.var 1))] []) (.callK 5 [] [0, 1] [] [(.var 0), (.bin .sub (.var 2) (.con (.int 1)))] [])) (.var 3))])
    [.asg (.name 2) (.bin .sub (.var 2) (.con (.int 1)))],
    .ife (.cmp .gt (.bin .add (.var 2) (.var 1)) (.glob 0))
    [.rai 0 (.con .none)]
    [],
    .ret (.tup [(.blt .tup1 [(.cp (.callK 5 [] [0, 1] [] [(.var 0), (.var 4)] []) (.name 4) (.rng1 (.bin .add (.var 2) (.var 1))) [] [4])]), (.var 1), (.var 3)])]⟩
def F_common_divisor : Fd := ⟨2, 2, false, [.whl 100000 (.cmp .gt (.var 1) (.con (.int 0)))
    [.par 0 1 (.var 1) (.bin .mod (.var 0) (.var 1))],
    .ret (.var 0)]⟩
def F_share : Fd := ⟨1, 2, false, [.asg (.name 1) (.callK 10 [] [0, 1] [] [(.idx (.var 0) (.con (.int 1))), (.blt .abs [(.idx (.var 0) (.con (.int 2)))])] []),
    .ret (.tup [(.bin .fdiv (.idx (.var 0) (.con (.int 2))) (.var 1)), (.bin .fdiv (.idx (.var 0) (.con (.int 1))) (.var 1))])]⟩
def F_check_line : Fd := ⟨1, 1, false, [.ife (.not (.callK 4 [] [0] [] [(.var 0)] []))
    [.rai 0 (.con .none)]
    []]⟩
def F_is_line : Fd := ⟨1, 1, false, [.ret (.callK 4 [] [0] [] [(.var 0)] [])]⟩
def F_line_at : Fd := ⟨2, 2, false, [.exp (.callK 12 [] [0] [] [(.var 0)] []),
    .exp (.callK 3 [] [0, 1, 2] [0, 2000] [(.var 1)] []),
    .ret (.callK 5 [] [0, 1] [] [(.var 0), (.var 1)] [])]⟩
def F_least_line : Fd := ⟨1, 1, false, [.exp (.callK 12 [] [0] [] [(.var 0)] []),
    .ret (.callK 9 [] [0] [] [(.var 0)] [])]⟩
def F_share_of : Fd := ⟨1, 1, false, [.exp (.callK 12 [] [0] [] [(.var 0)] []),
    .ret (.callK 11 [] [0] [] [(.var 0)] [])]⟩
def F__law_well : Fd := ⟨2, 5, true, [.asg (.name 2) (.bin .add (.con (.int 130577)) (.bin .mul (.con (.int 7013)) (.var 1))),
    .fr (.name 3) (.val (.sl (.var 0) none (some (.con (.int 12)))))
    [.asg (.name 2) (.bin .mod (.blt .int1 [(.bin .add (.bin .add (.bin .mul (.var 2) (.con (.int 45281))) (.bin .mod (.blt .int1 [(.var 3)]) (.con (.int 2147483549)))) (.con (.int 19)))]) (.con (.int 2147483563)))],
    .asg (.name 4) (.ife (.cmp .lt (.var 1) (.blt .len [(.var 0)])) (.blt .int1 [(.idx (.var 0) (.var 1))]) (.con (.int 0))),
    .asg (.name 2) (.bin .mod (.blt .int1 [(.bin .add (.bin .add (.bin .mul (.var 2) (.con (.int 41))) (.bin .mul (.bin .mod (.blt .int1 [(.var 4)]) (.con (.int 2147483549))) (.con (.int 15031)))) (.con (.int 5)))]) (.con (.int 2147483563))),
    .ret (.new [(.ife (.or [(.cmp .lt (.var 4) (.con (.int 0))), (.cmp .ge (.var 4) (.bin .pow (.con (.int 10)) (.con (.int 15))))]) (.blt .abs [(.var 4)]) (.con (.int 0))), (.var 2), (.con (.int 0))])]⟩
def F__law_draw : Fd := ⟨2, 4, false, [.ife (.cmp .gt (.idx (.var 0) (.con (.int 0))) (.con (.int 0)))
    [.subn (.var 0) (.con (.int 0)) 3 (.blt .divmod [(.idx (.var 0) (.con (.int 0))), (.var 1)]),
    .ret (.var 3)]
    [],
    .sub (.var 0) (.con (.int 2)) (.bin .add (.idx (.var 0) (.con (.int 2))) (.con (.int 1))),
    .asg (.name 2) (.bin .mod (.blt .int1 [(.bin .add (.bin .add (.bin .mul (.idx (.var 0) (.con (.int 1))) (.con (.int 40037))) (.bin .mul (.con (.int 13001)) (.idx (.var 0) (.con (.int 2))))) (.con (.int 7)))]) (.con (.int 2147483563))),
    .sub (.var 0) (.con (.int 1)) (.bin .mod (.blt .int1 [(.bin .add (.bin .mul (.var 2) (.bin .add (.bin .mod (.blt .int1 [(.var 2)]) (.con (.int 5009))) (.con (.int 20023)))) (.idx (.var 0) (.con (.int 2))))]) (.con (.int 2147483563))),
    .ret (.bin .mod (.blt .int1 [(.bin .fdiv (.idx (.var 0) (.con (.int 1))) (.con (.int 1013)))]) (.var 1))]⟩
def F__law_of : Fd := ⟨2, 2, false, [.ret (.idx (.var 1) (.callK 18 [] [0, 1] [] [(.var 0), (.blt .len [(.var 1)])] []))]⟩
def F__law_same : Fd := ⟨2, 2, false, [.ret (.cmp .eq (.blt .repr [(.var 0)]) (.blt .repr [(.var 1)]))]⟩
def F__law_line_at : Fd := ⟨2, 6, false, [.asg (.names [2, 3, 4]) (.var 0),
    .ife (.cmp .lt (.var 1) (.blt .len [(.var 2)]))
    [.ret (.idx (.var 2) (.var 1))]
    [],
    .asg (.name 5) (.bin .add (.bin .fdiv (.bin .sub (.var 1) (.blt .len [(.var 2)])) (.var 3)) (.con (.int 1))),
    .ret (.bin .add (.idx (.var 2) (.bin .sub (.var 1) (.bin .mul (.var 5) (.var 3)))) (.bin .mul (.var 5) (.var 4)))]⟩
def F__law_is_least : Fd := ⟨1, 8, false, [.asg (.names [1, 2, 3]) (.var 0),
    .ife (.and [(.cmp .gt (.blt .len [(.var 1)]) (.var 2)), (.cmp .eq (.idx (.var 1) (.neg (.con (.int 1)))) (.bin .add (.idx (.var 1) (.bin .sub (.neg (.con (.int 1))) (.var 2))) (.var 3)))])
    [.ret (.con (.bool false))]
    [],
    .fr (.name 4) (.rng2 (.con (.int 1)) (.var 2))
    [.ife (.and [(.cmp .eq (.blt .int1 [(.bin .mod (.var 2) (.var 4))]) (.con (.int 0))), (.cmp .eq (.blt .int1 [(.bin .mod (.bin .mul (.var 3) (.var 4)) (.var 2))]) (.con (.int 0)))])
    [.asg (.name 5) (.bin .fdiv (.bin .mul (.var 3) (.var 4)) (.var 2)),
    .asg (.name 6) (.cp (.callK 21 [] [0, 1] [] [(.var 0), (.bin .add (.blt .len [(.var 1)]) (.var 7))] []) (.name 7) (.rng1 (.var 2)) [] [7]),
    .ife (.cmp .eq (.cp (.var 7) (.name 7) (.rng1 (.var 2)) [(.cmp .ne (.callK 21 [] [0, 1] [] [(.var 0), (.bin .add (.bin .add (.blt .len [(.var 1)]) (.var 7)) (.var 4))] []) (.bin .add (.idx (.var 6) (.var 7)) (.var 5)))] [7]) (.lst []))
    [.ret (.con (.bool false))]
    []]
    []],
    .ret (.con (.bool true))]⟩
def F__law_drawn_line : Fd := ⟨1, 4, false, [.asg (.name 1) (.bin .add (.con (.int 1)) (.callK 18 [] [0, 1] [] [(.var 0), (.con (.int 4))] [])),
    .asg (.name 2) (.blt .tup1 [(.cp (.callK 18 [] [0, 1] [] [(.var 0), (.con (.int 5))] []) (.name 3) (.rng1 (.bin .add (.var 1) (.callK 18 [] [0, 1] [] [(.var 0), (.con (.int 4))] []))) [] [3])]),
    .ret (.tup [(.var 2), (.var 1), (.callK 18 [] [0, 1] [] [(.var 0), (.con (.int 4))] [])])]⟩
def F__law_divisor : Fd := ⟨2, 2, false, [.whl 100000 (.cmp .gt (.var 1) (.con (.int 0)))
    [.par 0 1 (.var 1) (.blt .int1 [(.bin .mod (.var 0) (.var 1))])],
    .ret (.var 0)]⟩
def F__law_right : Fd := ⟨1, 13, false, [.asg (.name 1) (.callK 23 [] [0] [] [(.var 0)] []),
    .asg (.names [2, 3, 4]) (.var 1),
    .ife (.cmp .ne (.blt .repr [(.lst [(.callK 13 [] [0] [] [(.var 1)] []), (.callK 13 ["value"] [0] [] [] [(.var 1)])])]) (.con (.str (Str.ofString "[True, True]"))))
    [.ret (.con (.bool false))]
    [],
    .asg (.name 5) (.callK 15 ["line"] [0] [] [] [(.var 1)]),
    .ife (.or [(.not (.callK 22 [] [0] [] [(.var 5)] [])), (.not (.callK 20 [] [0, 1] [] [(.callK 15 [] [0] [] [(.var 1)] []), (.var 5)] [])), (.not (.callK 20 [] [0, 1] [] [(.callK 15 [] [0] [] [(.var 5)] []), (.var 5)] []))])
    [.ret (.con (.bool false))]
    [],
    .fr (.name 6) (.rng1 (.con (.int 30)))
    [.asg (.name 11) (.callK 21 [] [0, 1] [] [(.var 1), (.var 6)] []),
    .ife (.not (.callK 20 [] [0, 1] [] [(.tup [(.callK 14 [] [0, 1] [] [(.var 1), (.var 6)] []), (.callK 14 ["number"] [0, 1] [] [(.var 1)] [(.var 6)]), (.callK 14 [] [0, 1] [] [(.var 5), (.var 6)] [])]), (.bin .mul (.tup [(.var 11)]) (.con (.int 3)))] []))
    [.ret (.con (.bool false))]
    []],
    .asg (.name 7) (.blt .max2 [(.con (.int 1)), (.callK 24 [] [0, 1] [] [(.var 4), (.var 3)] [])]),
    .asg (.name 8) (.ife (.cmp .gt (.var 4) (.con (.int 0))) (.tup [(.bin .fdiv (.var 4) (.var 7)), (.bin .fdiv (.var 3) (.var 7))]) (.tup [(.con (.int 0)), (.con (.int 1))])),
    .ife (.not (.callK 20 [] [0, 1] [] [(.tup [(.callK 16 [] [0] [] [(.var 1)] []), (.callK 16 ["line"] [0] [] [] [(.var 5)])]), (.tup [(.var 8), (.var 8)])] []))
    [.ret (.con (.bool false))]
    [],
    .asg (.name 9) (.callK 19 [] [0, 1] [] [(.var 0), (.tup [(.con .none), (.tup []), (.tup [(.var 2), (.var 3)]), (.tup [(.var 2), (.con (.int 0)), (.var 4)]), (.tup [(.var 2), (.bin .add (.blt .len [(.var 2)]) (.con (.int 1))), (.var 4)])])] []),
    .asg (.name 10) (.tup [(.var 9), (.lst [(.var 2), (.var 3), (.var 4)]), (.tup [(.blt .lst1 [(.var 2)]), (.var 3), (.var 4)]), (.tup [(.bin .add (.tup [(.con (.bool true))]) (.var 2)), (.var 3), (.var 4)])]),
    .ret (.cmp .eq (.cp (.var 12) (.name 12) (.val (.bin .add (.var 10) (.tup [(.tup [(.var 2), (.con (.bool true)), (.con (.int 0))])]))) [(.cmp .ne (.blt .repr [(.callK 13 [] [0] [] [(.var 12)] [])]) (.con (.str (Str.ofString "False"))))] [12]) (.lst []))]⟩
def F_law : Fd := ⟨1, 4, false, [.asg (.name 1) (.cp (.callK 17 [] [0, 1] [] [(.var 0), (.var 2)] []) (.name 2) (.rng1 (.con (.int 2))) [] [2]),
    .ret (.blt .all1 [(.cp (.callK 25 [] [0] [] [(.idx (.var 1) (.bin .mod (.blt .int1 [(.var 3)]) (.con (.int 2))))] []) (.name 3) (.rng1 (.con (.int 32))) [] [3])])]⟩
def D : List Dt := [⟨Str.ofString "is_whole", topS 1, [Str.ofString "value"], [Str.ofString "value"], F_is_whole⟩,
  ⟨Str.ofString "is_number", topS 2, [Str.ofString "value", Str.ofString "low", Str.ofString "high"], [Str.ofString "value", Str.ofString "low", Str.ofString "high"], F_is_number⟩,
  ⟨Str.ofString "is_tuple_of", topS 3, [Str.ofString "value", Str.ofString "many"], [Str.ofString "value", Str.ofString "many"], F_is_tuple_of⟩,
  ⟨Str.ofString "check_number", topS 11, [Str.ofString "value", Str.ofString "low", Str.ofString "high"], [Str.ofString "value", Str.ofString "low", Str.ofString "high"], F_check_number⟩,
  ⟨Str.ofString "is_line_form", topS 14, [Str.ofString "value", Str.ofString "each"], [Str.ofString "value"], F_is_line_form⟩,
  ⟨Str.ofString "at", topS 15, [Str.ofString "line", Str.ofString "time", Str.ofString "numbers", Str.ofString "period", Str.ofString "growth", Str.ofString "rounds"], [Str.ofString "line", Str.ofString "time"], F_at⟩,
  ⟨Str.ofString "tail_of", topS 16, [Str.ofString "line"], [Str.ofString "line"], F_tail_of⟩,
  ⟨Str.ofString "divisors", topS 17, [Str.ofString "number", Str.ofString "each"], [Str.ofString "number"], F_divisors⟩,
  ⟨Str.ofString "least_period", topS 18, [Str.ofString "line", Str.ofString "start", Str.ofString "period", Str.ofString "steps", Str.ofString "each", Str.ofString "time", Str.ofString "index"], [Str.ofString "line"], F_least_period⟩,
  ⟨Str.ofString "least", topS 19, [Str.ofString "line", Str.ofString "period", Str.ofString "start", Str.ofString "growth", Str.ofString "time"], [Str.ofString "line"], F_least⟩,
  ⟨Str.ofString "common_divisor", topS 20, [Str.ofString "one", Str.ofString "two"], [Str.ofString "one", Str.ofString "two"], F_common_divisor⟩,
  ⟨Str.ofString "share", topS 21, [Str.ofString "line", Str.ofString "many"], [Str.ofString "line"], F_share⟩,
  ⟨Str.ofString "check_line", topS 23, [Str.ofString "value"], [Str.ofString "value"], F_check_line⟩,
  ⟨Str.ofString "is_line", topS 24, [Str.ofString "value"], [Str.ofString "value"], F_is_line⟩,
  ⟨Str.ofString "line_at", topS 25, [Str.ofString "line", Str.ofString "number"], [Str.ofString "line", Str.ofString "number"], F_line_at⟩,
  ⟨Str.ofString "least_line", topS 26, [Str.ofString "line"], [Str.ofString "line"], F_least_line⟩,
  ⟨Str.ofString "share_of", topS 27, [Str.ofString "line"], [Str.ofString "line"], F_share_of⟩,
  ⟨Str.ofString "_law_well", topS 29, [Str.ofString "script", Str.ofString "lap", Str.ofString "stirred", Str.ofString "cell", Str.ofString "own"], [Str.ofString "script", Str.ofString "lap"], F__law_well⟩,
  ⟨Str.ofString "_law_draw", topS 30, [Str.ofString "well", Str.ofString "limit", Str.ofString "stir", Str.ofString "digit"], [Str.ofString "well", Str.ofString "limit"], F__law_draw⟩,
  ⟨Str.ofString "_law_of", topS 31, [Str.ofString "well", Str.ofString "some"], [Str.ofString "well", Str.ofString "some"], F__law_of⟩,
  ⟨Str.ofString "_law_same", topS 32, [Str.ofString "one", Str.ofString "two"], [Str.ofString "one", Str.ofString "two"], F__law_same⟩,
  ⟨Str.ofString "_law_line_at", topS 33, [Str.ofString "line", Str.ofString "time", Str.ofString "numbers", Str.ofString "period", Str.ofString "growth", Str.ofString "laps"], [Str.ofString "line", Str.ofString "time"], F__law_line_at⟩,
  ⟨Str.ofString "_law_is_least", topS 34, [Str.ofString "line", Str.ofString "numbers", Str.ofString "period", Str.ofString "growth", Str.ofString "less", Str.ofString "more", Str.ofString "tail", Str.ofString "k"], [Str.ofString "line"], F__law_is_least⟩,
  ⟨Str.ofString "_law_drawn_line", topS 35, [Str.ofString "well", Str.ofString "period", Str.ofString "numbers", Str.ofString "k"], [Str.ofString "well"], F__law_drawn_line⟩,
  ⟨Str.ofString "_law_divisor", topS 36, [Str.ofString "one", Str.ofString "two"], [Str.ofString "one", Str.ofString "two"], F__law_divisor⟩,
  ⟨Str.ofString "_law_right", topS 37, [Str.ofString "well", Str.ofString "line", Str.ofString "numbers", Str.ofString "period", Str.ofString "growth", Str.ofString "least_v", Str.ofString "time", Str.ofString "divisor", Str.ofString "due", Str.ofString "bad", Str.ofString "bads", Str.ofString "own", Str.ofString "each"], [Str.ofString "well"], F__law_right⟩,
  ⟨Str.ofString "law", topS 38, [Str.ofString "script", Str.ofString "wells", Str.ofString "lap", Str.ofString "k"], [Str.ofString "script"], F_law⟩]
def P : Dc := ⟨D.map (·.name), [Str.ofString "MOST_NUMBERS"], [(0, 1, [], [0], []), (1, 3, [], [0, 1, 2], []), (2, 2, [], [0, 1], []), (6, 1, [], [0], []), (5, 2, [], [0, 1], []), (7, 1, [], [0], []), (8, 1, [], [0], []), (10, 2, [], [0, 1], []), (4, 1, [], [0], []), (12, 1, [], [0], []), (3, 1, [], [0, 1, 2], [0, 2000]), (9, 1, [], [0], []), (11, 1, [], [0], []), (18, 2, [], [0, 1], []), (21, 2, [], [0, 1], []), (23, 1, [], [0], []), (13, 1, [], [0], []), (13, 0, [Str.ofString "value"], [0], []), (15, 0, [Str.ofString "line"], [0], []), (22, 1, [], [0], []), (20, 2, [], [0, 1], []), (15, 1, [], [0], []), (14, 2, [], [0, 1], []), (14, 1, [Str.ofString "number"], [0, 1], []), (24, 2, [], [0, 1], []), (16, 1, [], [0], []), (16, 0, [Str.ofString "line"], [0], []), (19, 2, [], [0, 1], []), (17, 2, [], [0, 1], []), (25, 1, [], [0], [])]⟩
def GL : List PyData := [.int 20000]
theorem tab_ok : (D.all (Dt.ok P)) = true := by decide +kernel
end Dw

set_option Elab.async false
set_option linter.all false
set_option maxRecDepth 100000
set_option maxHeartbeats 4000000
/-! What the defs compute: the evaluator at symbolic values. -/
namespace Dw
open PySem
abbrev TT : List Fd := D.map (·.F)
theorem run_eq {T : List Fd} {Gc : List PyData} {n f : Nat} {vs : List Val} {S : Sto} {F : Fd} (h : T[f]? = some F) (h1 : vs.length = F.np) (h2 : F.np ≤ F.nn) :
    run T Gc (n + 1) f vs S = handBack F.keep S.length (evSs (run T Gc n) Gc F.body (vs.map some ++ List.replicate (F.nn - F.np) none) S) := by
  unfold run
  rw [h]
  exact if_pos ⟨h1, h2⟩
theorem run_rt {T : List Fd} {Gc : List PyData} {n f : Nat} {vs : List Val} {S : Sto} {F : Fd} {d : PyData} {ρ : Rho} {b : List Sx} (h : T[f]? = some F) (h1 : vs.length = F.np) (h2 : F.np ≤ F.nn) (hk : F.keep = false) (hb : F.body = b)
    (hρ : vs.map some ++ List.replicate (F.nn - F.np) none = ρ) (he : evSs (run T Gc n) Gc b ρ S = .rt (.dat d) S) : run T Gc (n + 1) f vs S = .ok (.dat d) S := by
  rw [run_eq h h1 h2, hk, hb, hρ, he]
  show R.ok (Val.dat d) (S.take S.length) = _
  rw [List.take_length]
@[simp] theorem bind_ok {α β : Type} (a : α) (S : Sto) (f : α → Sto → R β) : (R.ok a S).bind f = f a S := id rfl
@[simp] theorem bind_exc {α β : Type} (c : Nat) (d : PyData) (S : Sto) (f : α → Sto → R β) : (R.exc c d S : R α).bind f = .exc c d S := id rfl
@[simp] theorem bind_bad {α β : Type} (f : α → Sto → R β) : (R.bad : R α).bind f = .bad := id rfl
@[simp] theorem calm_ok' {α : Type} (a : α) (S : Sto) : (R.ok a S).calm = .ok a S := id rfl
@[simp] theorem st_ok {α : Type} (a : α) (S : Sto) (ρ : Rho) (f : α → Sto → SR) : (R.ok a S).st ρ f = f a S := id rfl
@[simp] theorem give_some {α : Type} (a : α) (S : Sto) : give (some a) S = .ok a S := id rfl
@[simp] theorem give_none {α : Type} (S : Sto) : give (none : Option α) S = .bad := id rfl
@[simp] theorem toB_ok (b : Bool) (S : Sto) : toB (.dat (.bool b)) S = .ok b S := id rfl
@[simp] theorem toI_ok (b : Int) (S : Sto) : toI (.dat (.int b)) S = .ok b S := id rfl
@[simp] theorem deref_dat (S : Sto) (d : PyData) : deref S (.dat d) = some d := id rfl
@[simp] theorem derefB_dat (S : Sto) (d : PyData) : derefB S (.dat d) = some d := id rfl
@[simp] theorem collect_dat (l : List PyData) : collect (l.map .dat) = some (.dat (.list l)) := by
  have : plains (l.map .dat) = some l := by
    induction l with
    | nil => rfl
    | cons d l ih => simp [plains, ih]
  unfold collect
  rw [this]
theorem compL_dat {f : Val → Sto → R (Option Val)} {S : Sto} {g : Val → PyData} : ∀ {vs : List Val}, (∀ v ∈ vs, f v S = .ok (some (.dat (g v))) S) → compL f vs S = .ok ((vs.map g).map .dat) S
  | [], _ => rfl
  | v :: vs, h => by
    unfold compL
    rw [h v List.mem_cons_self, bind_ok, compL_dat fun w hw => h w (List.mem_cons_of_mem _ hw)]
    rfl
theorem compL_opt {f : Val → Sto → R (Option Val)} {S : Sto} {g : Val → Option PyData} : ∀ {vs : List Val}, (∀ v ∈ vs, f v S = .ok ((g v).map .dat) S) → compL f vs S = .ok ((vs.filterMap g).map .dat) S
  | [], _ => rfl
  | v :: vs, h => by
    unfold compL
    rw [h v List.mem_cons_self, bind_ok, compL_opt fun w hw => h w (List.mem_cons_of_mem _ hw), bind_ok]
    rw [List.filterMap_cons]
    cases g v <;> rfl
theorem setTg_name (i : Nat) (v : Val) (ρ : Rho) : setTg (.name i) v ρ = some (ρ.set i (some v)) := id rfl

section
variable (C : Nat → List Val → Sto → R Val) (G : List PyData) (ρ : Rho) (S : Sto)
@[simp] theorem e_var (i : Nat) : evE C G (.var i) ρ S = (match ρ[i]? with
    | some (some v) => .ok v S
    | _ => .bad) := id rfl
@[simp] theorem e_con (d : PyData) : evE C G (.con d) ρ S = .ok (.dat d) S := id rfl
@[simp] theorem e_glob (g : Nat) : evE C G (.glob g) ρ S = give (G[g]?.map .dat) S := id rfl
@[simp] theorem e_bin (op : Bop) (a b : Ex) : evE C G (.bin op a b) ρ S = (evE C G a ρ S).bind fun x S => (evE C G b ρ S).bind fun y S => binR op x y S := id rfl
@[simp] theorem e_neg (a : Ex) : evE C G (.neg a) ρ S = (evE C G a ρ S).bind negR := id rfl
@[simp] theorem e_cmp (op : Cop) (a b : Ex) : evE C G (.cmp op a b) ρ S = (evE C G a ρ S).bind fun x S => (evE C G b ρ S).bind fun y S => cmpR op x y S := id rfl
@[simp] theorem e_chn (op op' : Cop) (a b c : Ex) : evE C G (.chn op op' a b c) ρ S = (evE C G a ρ S).bind fun x S => (evE C G b ρ S).bind fun y S => ((cmpR op x y S).bind toB).bind fun k S =>
    if k = true then (evE C G c ρ S).bind fun z S => cmpR op' y z S else .ok (.dat (.bool false)) S := id rfl
@[simp] theorem e_isN (a : Ex) : evE C G (.isN a) ρ S = (evE C G a ρ S).bind fun x S => .ok (.dat (.bool (isNone x))) S := id rfl
@[simp] theorem e_notN (a : Ex) : evE C G (.notN a) ρ S = (evE C G a ρ S).bind fun x S => .ok (.dat (.bool (!isNone x))) S := id rfl
@[simp] theorem e_not (a : Ex) : evE C G (.not a) ρ S = ((evE C G a ρ S).bind toB).bind fun c S => .ok (.dat (.bool (!c))) S := id rfl
@[simp] theorem e_and1 (a : Ex) : evAnd C G [a] ρ S = evE C G a ρ S := id rfl
@[simp] theorem e_and2 (a b : Ex) (r : List Ex) : evAnd C G (a :: b :: r) ρ S = ((evE C G a ρ S).bind toB).bind fun k S => if k = true then evAnd C G (b :: r) ρ S else .ok (.dat (.bool false)) S := id rfl
@[simp] theorem e_or1 (a : Ex) : evOr C G [a] ρ S = evE C G a ρ S := id rfl
@[simp] theorem e_or2 (a b : Ex) (r : List Ex) : evOr C G (a :: b :: r) ρ S = ((evE C G a ρ S).bind toB).bind fun k S => if k = true then .ok (.dat (.bool true)) S else evOr C G (b :: r) ρ S := id rfl
@[simp] theorem e_and (es : List Ex) : evE C G (.and es) ρ S = evAnd C G es ρ S := id rfl
@[simp] theorem e_or (es : List Ex) : evE C G (.or es) ρ S = evOr C G es ρ S := id rfl
@[simp] theorem e_ife (c a b : Ex) : evE C G (.ife c a b) ρ S = ((evE C G c ρ S).bind toB).bind fun k S => if k = true then evE C G a ρ S else evE C G b ρ S := id rfl
@[simp] theorem e_tup (es : List Ex) : evE C G (.tup es) ρ S = (evL C G es ρ S).bind tupR := id rfl
@[simp] theorem e_lst (es : List Ex) : evE C G (.lst es) ρ S = (evL C G es ρ S).bind lstR := id rfl
@[simp] theorem e_new (es : List Ex) : evE C G (.new es) ρ S = (evL C G es ρ S).bind newR := id rfl
@[simp] theorem e_idx (a b : Ex) : evE C G (.idx a b) ρ S = (evE C G a ρ S).bind fun x S => (evE C G b ρ S).bind fun y S => idxR x y S := id rfl
@[simp] theorem e_sl (a : Ex) (lo hi : Option Ex) : evE C G (.sl a lo hi) ρ S = (evE C G a ρ S).bind fun x S => (evO C G lo ρ S).bind fun l S => (evO C G hi ρ S).bind fun h S => slR x l h S := id rfl
@[simp] theorem e_call (f : Nat) (kws : List String) (perm : List Nat) (dfl : List Int) (es kes : List Ex) : evE C G (.callK f kws perm dfl es kes) ρ S = (evL C G es ρ S).bind fun vs S => (evL C G kes ρ S).bind fun ws S => callKR C f es.length kws.length perm dfl vs ws S := id rfl
@[simp] theorem e_blt (b : Blt) (es : List Ex) : evE C G (.blt b es) ρ S = (evL C G es ρ S).bind fun vs S => bltR b vs S := id rfl
@[simp] theorem e_isi (a : Ex) (t : Ty) : evE C G (.isi a t) ρ S = (evE C G a ρ S).bind fun x S => isiR t x S := id rfl
@[simp] theorem e_app (o : Ex) (es : List Ex) : evE C G (.mth .append o es) ρ S = ((evE C G o ρ S).bind isCell).bind fun x S => (evL C G es ρ S).bind fun vs S => appR x vs S := id rfl
theorem e_cp (e : Ex) (tg : Tg) (it : It) (ifs : List Ex) (own : List Nat) : evE C G (.cp e tg it ifs own) ρ S = (evI C G it ρ S).bind fun vs S =>
    if vs.length ≤ LINE then
      (compL (fun v S => match setTg tg v (wipeE ρ own) with
        | none => .bad
        | some ρ' => R.calm ((evIf C G ifs ρ' S).bind fun b S => if b = true then (evE C G e ρ' S).bind fun x S => .ok (some x) S else .ok none S)) vs S).bind lstR
    else .bad := id rfl
@[simp] theorem l_nil : evL C G [] ρ S = .ok [] S := id rfl
@[simp] theorem l_cons (e : Ex) (es : List Ex) : evL C G (e :: es) ρ S = (evE C G e ρ S).bind fun v S => (evL C G es ρ S).bind fun vs S => .ok (v :: vs) S := id rfl
@[simp] theorem if_nil : evIf C G [] ρ S = .ok true S := id rfl
@[simp] theorem if_one (c : Ex) : evIf C G [c] ρ S = (evE C G c ρ S).bind toB := id rfl
@[simp] theorem o_none : evO C G none ρ S = .ok none S := id rfl
@[simp] theorem o_some (e : Ex) : evO C G (some e) ρ S = ((evE C G e ρ S).bind toI).bind fun i S => .ok (some i) S := id rfl
@[simp] theorem i_val (e : Ex) : evI C G (.val e) ρ S = (evE C G e ρ S).bind fun x S => give (items x) S := id rfl
@[simp] theorem i_rng1 (a : Ex) : evI C G (.rng1 a) ρ S = ((evE C G a ρ S).bind toI).bind fun i S => give (rangeV 0 i) S := id rfl
@[simp] theorem i_rng2 (a b : Ex) : evI C G (.rng2 a b) ρ S = (evE C G a ρ S).bind fun x S => (evE C G b ρ S).bind fun y S => (toI x S).bind fun i S => (toI y S).bind fun j S => give (rangeV i j) S := id rfl
@[simp] theorem s_nil : evSs C G [] ρ S = .nx ρ S := id rfl
@[simp] theorem s_cons (s : Sx) (r : List Sx) : evSs C G (s :: r) ρ S = (match evS C G s ρ S with
    | .nx ρ S => evSs C G r ρ S
    | x => x) := id rfl
@[simp] theorem s_asg (tg : Tg) (e : Ex) : evS C G (.asg tg e) ρ S = R.st (evE C G e ρ S) ρ fun v S => match setTg tg v ρ with
    | some ρ => .nx ρ S
    | none => .bad := id rfl
@[simp] theorem s_par (i j : Nat) (a b : Ex) : evS C G (.par i j a b) ρ S = R.st (evE C G a ρ S) ρ fun v S => R.st (evE C G b ρ S) ρ fun w S => .nx ((ρ.set i (some v)).set j (some w)) S := id rfl
@[simp] theorem s_exp (e : Ex) : evS C G (.exp e) ρ S = R.st (evE C G e ρ S) ρ fun _ S => .nx ρ S := id rfl
@[simp] theorem s_ret (e : Ex) : evS C G (.ret e) ρ S = R.st (evE C G e ρ S) ρ fun v S => .rt v S := id rfl
@[simp] theorem s_ife (c : Ex) (a b : List Sx) : evS C G (.ife c a b) ρ S = R.st ((evE C G c ρ S).bind toB) ρ fun k S => if k = true then evSs C G a ρ S else evSs C G b ρ S := id rfl
theorem s_whl (n : Nat) (c : Ex) (b : List Sx) : evS C G (.whl n c b) ρ S = loopW (fun ρ S => (evE C G c ρ S).bind toB) (evSs C G b) n ρ S := id rfl
theorem s_fr (tg : Tg) (it : It) (b : List Sx) : evS C G (.fr tg it b) ρ S = (match evI C G it ρ S with
    | .ok vs S => loopF tg (evSs C G b) vs ρ S
    | .exc c d S => .exc c d ρ S
    | .bad => .bad) := id rfl
@[simp] theorem s_sub (o i e : Ex) : evS C G (.sub o i e) ρ S = R.st (evE C G e ρ S) ρ fun v S => match v with
    | .dat d => evSub C G o i d ρ S fun S => .nx ρ S
    | _ => .bad := id rfl
@[simp] theorem s_subn (o i : Ex) (j : Nat) (e : Ex) : evS C G (.subn o i j e) ρ S = R.st (evE C G e ρ S) ρ fun v S => match v with
    | .dat (.tuple [d, d']) => evSub C G o i d ρ S fun S => .nx (ρ.set j (some (.dat d'))) S
    | _ => .bad := id rfl
end
section
variable (a b : Int) (x y : PyData) (l m : List PyData) (S : Sto)
@[simp] theorem b_add : binD .add (.int a) (.int b) = some (.int (a + b)) := id rfl
@[simp] theorem b_sub : binD .sub (.int a) (.int b) = some (.int (a - b)) := id rfl
@[simp] theorem b_mod (h : 0 < b) : binD .mod (.int a) (.int b) = some (.int (a % b)) := by exact if_pos h
@[simp] theorem b_fdiv (h : 0 < b) (h2 : b < 1073741824) : binD .fdiv (.int a) (.int b) = some (.int (a / b)) := by exact if_pos ⟨h, h2⟩
@[simp] theorem b_mul (h : mulOk a b = true) : binD .mul (.int a) (.int b) = some (.int (a * b)) := by exact if_pos h
@[simp] theorem b_addT (h : l.length + m.length ≤ LINE) : binD .add (.tuple l) (.tuple m) = some (.tuple (l ++ m)) := by exact if_pos h
@[simp] theorem c_eq : cmpD .eq (.int a) (.int b) = some (a == b) := id rfl
@[simp] theorem c_ne : cmpD .ne (.int a) (.int b) = some (!(a == b)) := id rfl
@[simp] theorem c_lt : cmpD .lt (.int a) (.int b) = some (decide (a < b)) := id rfl
@[simp] theorem c_le : cmpD .le (.int a) (.int b) = some (decide (a ≤ b)) := id rfl
@[simp] theorem c_gt : cmpD .gt (.int a) (.int b) = some (decide (b < a)) := id rfl
@[simp] theorem c_ge : cmpD .ge (.int a) (.int b) = some (decide (b ≤ a)) := id rfl
@[simp] theorem c_eqS (u v : Str) : cmpD .eq (.str u) (.str v) = some (decide (u = v)) := id rfl
@[simp] theorem c_neS (u v : Str) : cmpD .ne (.str u) (.str v) = some (!decide (u = v)) := id rfl
@[simp] theorem binR_dat (op : Bop) : binR op (.dat x) (.dat y) S = give ((binD op x y).map .dat) S := id rfl
@[simp] theorem cmpR_dat (op : Cop) : cmpR op (.dat x) (.dat y) S = give ((cmpD op x y).map fun c => .dat (.bool c)) S := id rfl
@[simp] theorem idxR_dat : idxR (.dat x) (.dat y) S = give ((idxD x y).map .dat) S := id rfl
@[simp] theorem ix_l : idxD (.list l) (.int a) = nth l a := id rfl
@[simp] theorem ix_t : idxD (.tuple l) (.int a) = nth l a := id rfl
@[simp] theorem isiR_dat (t : Ty) : isiR t (.dat x) S = .ok (.dat (.bool (isT x t))) S := id rfl
@[simp] theorem bltR_1 (k : Blt) : bltR k [.dat x] S = give ((bltD k [x]).map .dat) S := id rfl
@[simp] theorem bltR_2 (k : Blt) : bltR k [.dat x, .dat y] S = give ((bltD k [x, y]).map .dat) S := id rfl
@[simp] theorem bl_lenL : bltD .len [.list l] = some (.int l.length) := id rfl
@[simp] theorem bl_lenT : bltD .len [.tuple l] = some (.int l.length) := id rfl
@[simp] theorem bl_abs : bltD .abs [.int a] = some (.int (if a < 0 then -a else a)) := id rfl
@[simp] theorem bl_max : bltD .max2 [.int a, .int b] = some (.int (if b > a then b else a)) := id rfl
@[simp] theorem bl_int : bltD .int1 [.int a] = some (.int a) := id rfl
@[simp] theorem bl_tupL : bltD .tup1 [.list l] = some (.tuple l) := id rfl
@[simp] theorem bl_lst : bltD .lst1 [.tuple l] = some (.list l) := id rfl
@[simp] theorem bl_all : bltD .all1 [.list l] = (allTrue l).map .bool := id rfl
@[simp] theorem bl_repr (h : reprOk x = true) : bltD .repr [x] = some (.str x.shown) := by exact if_pos h
@[simp] theorem tupR_dat (ds : List PyData) : tupR (ds.map .dat) S = .ok (.dat (.tuple ds)) S := by
  have : plains (ds.map .dat) = some ds := by
    induction ds with
    | nil => rfl
    | cons d l ih => simp [plains, ih]
  unfold tupR
  rw [this]
  rfl
@[simp] theorem tupR_0 : tupR [] S = .ok (.dat (.tuple [])) S := id rfl
@[simp] theorem tupR_1 : tupR [.dat x] S = .ok (.dat (.tuple [x])) S := id rfl
@[simp] theorem tupR_2 : tupR [.dat x, .dat y] S = .ok (.dat (.tuple [x, y])) S := id rfl
@[simp] theorem tupR_3 (z : PyData) : tupR [.dat x, .dat y, .dat z] S = .ok (.dat (.tuple [x, y, z])) S := id rfl
@[simp] theorem lstR_dat (ds : List PyData) : lstR (ds.map .dat) S = .ok (.dat (.list ds)) S := by
  unfold lstR
  rw [collect_dat]
  rfl
@[simp] theorem isNone_int : isNone (.dat (.int a)) = false := id rfl
@[simp] theorem handBack_dat (d : PyData) (n : Nat) : handBack false n (.rt (.dat d) S) = .ok (.dat d) (S.take n) := id rfl
@[simp] theorem handBack_nx (ρ : Rho) (n : Nat) : handBack false n (.nx ρ S) = .ok (.dat .none) (S.take n) := id rfl
@[simp] theorem setTg_names2 (i j : Nat) (d e : PyData) (ρ : Rho) : setTg (.names [i, j]) (.dat (.tuple [d, e])) ρ = some ((ρ.set i (some (.dat d))).set j (some (.dat e))) := id rfl
@[simp] theorem setTg_names3 (i j k : Nat) (d e f : PyData) (ρ : Rho) : setTg (.names [i, j, k]) (.dat (.tuple [d, e, f])) ρ = some (((ρ.set i (some (.dat d))).set j (some (.dat e))).set k (some (.dat f))) := id rfl
@[simp] theorem setTg_name' (i : Nat) (v : Val) (ρ : Rho) : setTg (.name i) v ρ = some (ρ.set i (some v)) := id rfl
@[simp] theorem wipe_1 (i : Nat) (ρ : Rho) : wipeE ρ [i] = ρ.set i none := id rfl
end
theorem mul_ok {a b : Int} (ha : a.natAbs < 2 ^ 1000) (hb : b.natAbs < 2 ^ 1000) : mulOk a b = true := by
  have lg : ∀ n : Nat, n < 2 ^ 1000 → n.log2 ≤ 1000 := fun n h => by
    by_cases h0 : n = 0
    · subst h0; decide
    · exact Nat.le_of_lt ((Nat.log2_lt h0).mpr h)
  unfold mulOk
  have h1 := lg _ ha
  have h2 := lg _ hb
  exact decide_eq_true (by omega)
theorem big1000 {n : Nat} (h : n < 1000000000000) : n < 2 ^ 1000 := Nat.lt_of_lt_of_le h (by decide +kernel)
theorem mul_nat {a b : Nat} (ha : a < 1000000000000) (hb : b < 1000000000000) : mulOk (a : Int) (b : Int) = true := mul_ok (by simpa using big1000 ha) (by simpa using big1000 hb)
theorem line_big {n : Nat} (h : n ≤ 16777216) : n ≤ LINE := h
theorem rangeV_nat (lo hi : Nat) (h : hi < 1000000000000) (h2 : lo < 1000000000000) : rangeV (lo : Int) (hi : Int) = some ((List.range (hi - lo)).map fun (i : Nat) => Val.dat (.int ((lo + i : Nat) : Int))) := by
  unfold rangeV
  rw [if_pos ⟨by omega, by omega, by omega, by omega⟩]
  congr 1
  have : ((hi : Int) - (lo : Int)).toNat = hi - lo := by omega
  rw [this]
  rfl
theorem nth_nat {α : Type} (l : List α) (i : Nat) : nth l (i : Int) = l[i]? := by
  unfold nth
  rw [if_pos (by omega)]
  rfl
theorem nth_nat' {α : Type} (l : List α) {k : Int} (i : Nat) (h : k = i) : nth l k = l[i]? := by rw [h, nth_nat]
theorem allTrue_map {α : Type} (f : α → Bool) : ∀ l : List α, allTrue (l.map fun x => PyData.bool (f x)) = some (l.all f)
  | [] => rfl
  | x :: l => by
    show (allTrue (l.map _)).map (f x && ·) = _
    rw [allTrue_map f l]
    rfl

section
variable {C : Nat → List Val → Sto → R Val} {G : List PyData} {ρ ρ1 : Rho} {S S1 S2 : Sto} {s : Sx} {r : List Sx} {e e1 : Ex} {v w : Val} {tg : Tg} {x : SR} {k : Bool} {a b : List Sx}
theorem s_nx (h : evS C G s ρ S = .nx ρ1 S1) (h2 : evSs C G r ρ1 S1 = x) : evSs C G (s :: r) ρ S = x := by rw [s_cons, h]; exact h2
theorem s_rt (h : evS C G s ρ S = .rt v S1) : evSs C G (s :: r) ρ S = .rt v S1 := by rw [s_cons, h]
theorem a_nx (h : evE C G e ρ S = .ok v S1) (ht : setTg tg v ρ = some ρ1) : evS C G (.asg tg e) ρ S = .nx ρ1 S1 := by rw [s_asg, h, st_ok, ht]
theorem p_nx {i j : Nat} (h : evE C G e ρ S = .ok v S1) (h2 : evE C G e1 ρ S1 = .ok w S2) (ht : (ρ.set i (some v)).set j (some w) = ρ1) : evS C G (.par i j e e1) ρ S = .nx ρ1 S2 := by rw [s_par, h, st_ok, h2, st_ok, ht]
theorem x_nx (h : evE C G e ρ S = .ok v S1) : evS C G (.exp e) ρ S = .nx ρ S1 := by rw [s_exp, h, st_ok]
theorem r_rt (h : evE C G e ρ S = .ok v S1) : evS C G (.ret e) ρ S = .rt v S1 := by rw [s_ret, h, st_ok]
theorem if_t (h : evE C G e ρ S = .ok (.dat (.bool true)) S1) (h2 : evSs C G a ρ S1 = x) : evS C G (.ife e a b) ρ S = x := by rw [s_ife, h, bind_ok, toB_ok, st_ok, if_pos rfl, h2]
theorem if_f (h : evE C G e ρ S = .ok (.dat (.bool false)) S1) (h2 : evSs C G b ρ S1 = x) : evS C G (.ife e a b) ρ S = x := by rw [s_ife, h, bind_ok, toB_ok, st_ok, if_neg (by decide), h2]
theorem f_nx {it : It} {vs : List Val} (h : evI C G it ρ S = .ok vs S1) (h2 : loopF tg (evSs C G b) vs ρ S1 = x) : evS C G (.fr tg it b) ρ S = x := by rw [s_fr, h]; exact h2
end

/-! ### lines -/
abbrev iN (x : Nat) : PyData := .int (x : Int)
/-- a line -/
def ln (N : List Nat) (p g : Nat) : PyData := .tuple [.tuple (N.map iN), iN p, iN g]
structure LW (N : List Nat) (p g : Nat) : Prop where
  p1 : 1 ≤ p
  pl : p ≤ N.length
  lb : N.length ≤ 100
  nb : ∀ x ∈ N, x ≤ 100
  gb : g ≤ 100

theorem r_whole (n : Nat) (d : PyData) (S : Sto) : run TT GL (n + 1) 0 [.dat d] S = .ok (.dat (.bool (isT d .int && !isT d .bool))) S := by
  rw [run_eq (F := F_is_whole) rfl rfl (by decide)]
  simp [F_is_whole]
  cases h : isT d .int <;> simp
theorem r_tupof (n : Nat) (d : PyData) (k : Int) (S : Sto) : run TT GL (n + 1) 2 [.dat d, .dat (.int k)] S = .ok (.dat (.bool (match d with
    | .tuple l => (l.length : Int) == k
    | _ => false))) S := by
  rw [run_eq (F := F_is_tuple_of) rfl rfl (by decide)]
  simp [F_is_tuple_of]
  cases d <;> simp [isT]
theorem callKR_1 (C : Nat → List Val → Sto → R Val) (f : Nat) (v : Val) (S : Sto) : callKR C f 1 0 [0] [] [v] [] S = C f [v] S := id rfl
theorem callKR_2 (C : Nat → List Val → Sto → R Val) (f : Nat) (v w : Val) (S : Sto) : callKR C f 2 0 [0, 1] [] [v, w] [] S = C f [v, w] S := id rfl
theorem r_lineform (n : Nat) {N : List Nat} {p g : Nat} (h : LW N p g) (S : Sto) : run TT GL (n + 2) 4 [.dat (ln N p g)] S = .ok (.dat (.bool true)) S := by
  rw [run_eq (F := F_is_line_form) rfl rfl (by decide)]
  have h1 := h.p1
  have h2 := h.pl
  have h3 := h.lb
  have e0 : nth [PyData.tuple (N.map iN), iN p, iN g] 0 = some (.tuple (N.map iN)) := rfl
  have e1 : nth [PyData.tuple (N.map iN), iN p, iN g] 1 = some (iN p) := rfl
  have e2 : nth [PyData.tuple (N.map iN), iN p, iN g] 2 = some (iN g) := rfl
  have at_ : allTrue (List.map (fun _ => PyData.bool true) (List.map (Val.dat ∘ iN) N)) = some true := by
    have := allTrue_map (fun _ : Val => true) (List.map (Val.dat ∘ iN) N)
    rw [this]
    simp
  simp [F_is_line_form, callKR_1, callKR_2, r_whole, r_tupof, ln, e0, e1, e2, isT]
  have c1 : (1 : Int) ≤ (p : Int) := by omega
  have c2 : (p : Int) ≤ (N.length : Int) := by omega
  simp [c1, c2, e_cp, e0, items]
  rw [if_pos (show N.length ≤ LINE from line_big (by omega))]
  rw [if_pos h2, compL_dat (g := fun _ => PyData.bool true)]
  · have a2 : allTrue (List.map ((fun _ => PyData.bool true) ∘ Val.dat ∘ iN) N) = some true := by rw [← List.map_map]; exact at_
    have a3 : lstR (List.map (Val.dat ∘ (fun _ => PyData.bool true) ∘ Val.dat ∘ iN) N) S = .ok (.dat (.list (List.map ((fun _ => PyData.bool true) ∘ Val.dat ∘ iN) N))) S := by
      rw [← lstR_dat, List.map_map]
    simp [a3, a2]
  · intro v hv
    simp only [List.mem_map] at hv
    obtain ⟨x, hx, rfl⟩ := hv
    simp [callKR_1, r_whole, isT]

/-! ### at -/
def A (N : List Nat) (p g t : Nat) : Nat := if t < N.length then N.getD t 0 else N.getD (t - ((t - N.length) / p + 1) * p) 0 + ((t - N.length) / p + 1) * g
theorem A_ix {p t L : Nat} (h : 1 ≤ p) (h2 : p ≤ L) (ht : L ≤ t) : ((t - L) / p + 1) * p ≤ t ∧ t - ((t - L) / p + 1) * p < L := by
  have h1 := Nat.div_mul_le_self (t - L) p
  have h3 := Nat.lt_div_mul_add (a := t - L) (b := p) h
  rw [Nat.add_mul, Nat.one_mul]
  omega
theorem N_get {N : List Nat} {i : Nat} (h : i < N.length) : (N.map iN)[i]? = some (iN (N.getD i 0)) := by
  rw [List.getElem?_map, List.getElem?_eq_getElem h]
  simp [List.getD_eq_getElem?_getD, List.getElem?_eq_getElem h]
theorem r_at (n : Nat) {N : List Nat} {p g : Nat} (h : LW N p g) {t : Nat} (ht : t < 100000) (S : Sto) : run TT GL (n + 1) 5 [.dat (ln N p g), .dat (.int (t : Int))] S = .ok (.dat (iN (A N p g t))) S := by
  rw [run_eq (F := F_at) rfl rfl (by decide)]
  have h1 := h.p1
  have h2 := h.pl
  have h3 := h.lb
  have h4 := h.gb
  by_cases hl : t < N.length
  · have c1 : (t : Int) < (N.length : Int) := by omega
    have g1 := N_get hl
    simp [F_at, ln, c1, nth_nat, g1, A, hl]
  · have c1 : ¬ (t : Int) < (N.length : Int) := by omega
    obtain ⟨q1, q2⟩ := A_ix h1 h2 (Nat.le_of_not_lt hl)
    have d1 : ((t : Int) - (N.length : Int)) / (p : Int) = (((t - N.length) / p : Nat) : Int) := by
      rw [Int.natCast_ediv]
      congr 1
      omega
    generalize hq : (t - N.length) / p = q at *
    have qb : q < 100000 := by
      have := Nat.div_le_self (t - N.length) p
      omega
    have m1 : mulOk ((q : Int) + 1) (p : Int) = true := mul_nat (a := q + 1) (by omega) (by omega)
    have m2 : mulOk ((q : Int) + 1) (g : Int) = true := mul_nat (a := q + 1) (by omega) (by omega)
    have i1 : (t : Int) - ((q : Int) + 1) * (p : Int) = ((t - (q + 1) * p : Nat) : Int) := by
      push_cast [q1]
      rfl
    have pp : (0 : Int) < (p : Int) := by omega
    have pb : (p : Int) < 1073741824 := by omega
    have g1 := N_get q2
    have pp' : 0 < p := h1
    have f1 : binD .fdiv (.int ((t : Int) - (N.length : Int))) (iN p) = some (.int (q : Int)) := by rw [b_fdiv _ _ pp pb, d1]
    simp [F_at, ln, c1, f1, m1, m2, i1, nth_nat, g1, A, hl, hq]
end Dw

set_option Elab.async false
set_option linter.all false
set_option maxRecDepth 100000
set_option maxHeartbeats 4000000
namespace Dw
open PySem
theorem rangeV_nat' (lo hi : Nat) {a b : Int} (ha : a = lo) (hb : b = hi) (h : hi < 1000000000000) (h2 : lo < 1000000000000) {l : List Val} (hl : l = (List.range (hi - lo)).map fun (i : Nat) => Val.dat (.int ((lo + i : Nat) : Int))) : rangeV a b = some l := by
  rw [ha, hb, rangeV_nat lo hi h h2, hl]
theorem fm_congr {α β : Type} {f g : α → Option β} : ∀ {l : List α}, (∀ x ∈ l, f x = g x) → l.filterMap f = l.filterMap g
  | [], _ => rfl
  | x :: l, h => by
    rw [List.filterMap_cons, List.filterMap_cons, h x List.mem_cons_self, fm_congr fun y hy => h y (List.mem_cons_of_mem _ hy)]
theorem ix_ln0 (N : List Nat) (p g : Nat) : nth [PyData.tuple (N.map iN), iN p, iN g] 0 = some (.tuple (N.map iN)) := rfl
theorem ix_ln1 (N : List Nat) (p g : Nat) : nth [PyData.tuple (N.map iN), iN p, iN g] 1 = some (iN p) := rfl
theorem ix_ln2 (N : List Nat) (p g : Nat) : nth [PyData.tuple (N.map iN), iN p, iN g] 2 = some (iN g) := rfl
theorem r_tail (n : Nat) {N : List Nat} {p g : Nat} (h : LW N p g) (S : Sto) : run TT GL (n + 1) 6 [.dat (ln N p g)] S = .ok (.dat (iN (N.length - p))) S := by
  rw [run_eq (F := F_tail_of) rfl rfl (by decide)]
  have h2 := h.pl
  have e : (N.length : Int) - (p : Int) = ((N.length - p : Nat) : Int) := by omega
  simp [F_tail_of, ln, ix_ln0, ix_ln1, e]
def divs (p : Nat) : List Nat := (List.range p).filterMap fun i => if p % (1 + i) = 0 then some (1 + i) else none
theorem r_divs (n : Nat) {p : Nat} (hp : p ≤ 100) (S : Sto) : run TT GL (n + 1) 7 [.dat (iN p)] S = .ok (.dat (.list ((divs p).map iN))) S := by
  rw [run_eq (F := F_divisors) rfl rfl (by decide)]
  have r1 : rangeV 1 ((p : Int) + 1) = some ((List.range (p + 1 - 1)).map fun (i : Nat) => Val.dat (.int ((1 + i : Nat) : Int))) := rangeV_nat' 1 (p + 1) (by omega) (by omega) (by omega) (by omega) rfl
  simp [F_divisors, e_cp, r1]
  rw [if_pos (show p ≤ LINE from line_big (by omega)), compL_opt (g := fun v => match v with
    | .dat (.int i) => if (p : Int) % i = 0 then some (.int i) else none
    | _ => none)]
  · have e : (List.filterMap (fun v => match v with
      | Val.dat (.int i) => if (p : Int) % i = 0 then some (PyData.int i) else none
      | _ => none) (List.map (fun (i : Nat) => Val.dat (PyData.int (1 + (i : Int)))) (List.range p))) = (divs p).map iN := by
      unfold divs
      rw [List.filterMap_map, List.map_filterMap]
      refine fm_congr fun i hi => ?_
      show (if (p : Int) % (1 + (i : Int)) = 0 then some (PyData.int (1 + (i : Int))) else none) = _
      have c : ((p : Int) % (1 + (i : Int)) = 0) ↔ (p % (1 + i) = 0) := by
        have : (p : Int) % (1 + (i : Int)) = ((p % (1 + i) : Nat) : Int) := by push_cast; rfl
        rw [this]
        omega
      by_cases hc : p % (1 + i) = 0
      · rw [if_pos (c.mpr hc), if_pos hc]
        rfl
      · rw [if_neg (fun z => hc (c.mp z)), if_neg hc]
        rfl
    rw [e, bind_ok, lstR_dat]
    simp
  · intro v hv
    simp only [List.mem_map, List.mem_range] at hv
    obtain ⟨i, hi, rfl⟩ := hv
    have pp : (0 : Int) < 1 + (i : Int) := by omega
    have f1 : binD .mod (iN p) (.int (1 + (i : Int))) = some (.int ((p : Int) % (1 + (i : Int)))) := b_mod _ _ pp
    by_cases hc : (p : Int) % (1 + (i : Int)) = 0
    · simp [f1, hc]
    · simp [f1, hc]
/-- the steps from the tail on are like the ones d before -/
def okd (N : List Nat) (p g d : Nat) : Bool := (List.range (p - d)).all fun i => ((A N p g (N.length - p + (d + i) + 1) : Int) - (A N p g (N.length - p + (d + i)) : Int)) == ((A N p g (N.length - p + i + 1) : Int) - (A N p g (N.length - p + i) : Int))
def lp (N : List Nat) (p g : Nat) : Nat := ((divs p).find? (okd N p g)).getD p
theorem divs_mem {p d : Nat} : d ∈ divs p ↔ 1 ≤ d ∧ d ≤ p ∧ p % d = 0 := by
  unfold divs
  rw [List.mem_filterMap]
  constructor
  · rintro ⟨i, hi, h⟩
    rw [List.mem_range] at hi
    split at h
    · cases h
      exact ⟨by omega, by omega, by assumption⟩
    · cases h
  · rintro ⟨h1, h2, h3⟩
    refine ⟨d - 1, List.mem_range.mpr (by omega), ?_⟩
    have : 1 + (d - 1) = d := by omega
    rw [this, if_pos h3]
/-- a loop that looks for a thing -/
theorem loop_find {body : Rho → Sto → SR} {S : Sto} {i : Nat} {ρ : Rho} {ok : Nat → Bool} : ∀ (l : List Nat), (∀ d ∈ l, body (ρ.set i (some (.dat (iN d)))) S = if ok d = true then .rt (.dat (iN d)) S else .nx (ρ.set i (some (.dat (iN d)))) S) →
    ∀ x, ∃ y, loopF (.name i) body (l.map fun d => .dat (iN d)) (ρ.set i x) S = match l.find? ok with
      | some d => .rt (.dat (iN d)) S
      | none => .nx (ρ.set i y) S
  | [], _, x => ⟨x, rfl⟩
  | d :: l, h, x => by
    obtain ⟨y, hy⟩ := loop_find l (fun e he => h e (List.mem_cons_of_mem _ he)) (some (.dat (iN d)))
    have hd := h d List.mem_cons_self
    refine ⟨y, ?_⟩
    rw [List.map_cons]
    unfold loopF
    rw [setTg_name]
    dsimp only
    rw [List.set_set, hd]
    by_cases c : ok d = true
    · rw [if_pos c, List.find?_cons_of_pos c]
    · rw [if_neg c, List.find?_cons_of_neg c]
      exact hy
def stepsD (N : List Nat) (p g : Nat) : List PyData := (List.range p).map fun i => .int ((A N p g (N.length - p + i + 1) : Int) - (A N p g (N.length - p + i) : Int))
section
variable (n : Nat) {N : List Nat} {p g : Nat} (h : LW N p g) (S : Sto)
abbrev lpE : Ex := .cp (.bin .sub (.callK 5 [] [0, 1] [] [(.var 0), (.bin .add (.var 5) (.con (.int 1)))] []) (.callK 5 [] [0, 1] [] [(.var 0), (.var 5)] [])) (.name 5) (.rng2 (.var 1) (.bin .add (.var 1) (.var 2))) [] [5]
abbrev lpC : Ex := .cp (.cmp .eq (.idx (.var 3) (.var 6)) (.idx (.var 3) (.bin .sub (.var 6) (.var 4)))) (.name 6) (.rng2 (.var 4) (.var 2)) [] [6]
abbrev lpB : List Sx := [.ife (.blt .all1 [lpC]) [.ret (.var 4)] []]
abbrev lpR (N : List Nat) (p g : Nat) (x y : Option Val) : Rho := [some (.dat (ln N p g)), some (.dat (iN (N.length - p))), some (.dat (iN p)), x, y, none, none]
include h in
theorem at_1 {t : Nat} (ht : t < 10000) : run TT GL (n + 1) 5 [.dat (ln N p g), .dat (.int ((t : Int) + 1))] S = .ok (.dat (iN (A N p g (t + 1)))) S := by
  have a := r_at n h (t := t + 1) (by omega) S
  rw [Int.natCast_add, Int.natCast_one] at a
  exact a
include h in
theorem lp_t2 : evE (run TT GL (n + 1)) GL lpE (lpR N p g none none) S = .ok (.dat (.list (stepsD N p g))) S := by
  have h1 := h.p1
  have h2 := h.pl
  have h3 := h.lb
  have r1 : rangeV ((N.length - p : Nat) : Int) (((N.length - p : Nat) : Int) + (p : Int)) = some ((List.range p).map fun (i : Nat) => Val.dat (.int ((N.length - p + i : Nat) : Int))) := rangeV_nat' (N.length - p) (N.length - p + p) (by omega) (by omega) (by omega) (by omega) (by rw [show N.length - p + p - (N.length - p) = p by omega])
  rw [e_cp]
  simp only [i_rng2, e_var, e_bin, List.getElem?_cons_succ, List.getElem?_cons_zero, bind_ok, binR_dat, b_add, Option.map_some, give_some, toI_ok, r1]
  rw [if_pos (show (List.map _ (List.range p)).length ≤ LINE from line_big (by rw [List.length_map, List.length_range]; omega)), compL_dat (g := fun v => match v with
    | .dat (.int i) => .int ((A N p g (i.toNat + 1) : Int) - (A N p g i.toNat : Int))
    | _ => .none)]
  · rw [bind_ok, lstR_dat, List.map_map]
    unfold stepsD
    refine congrArg (fun l => R.ok (Val.dat (PyData.list l)) S) (List.map_congr_left fun i hi => ?_)
    simp only [Function.comp, Int.toNat_natCast]
  · intro v hv
    simp only [List.mem_map, List.mem_range] at hv
    obtain ⟨i, hi, rfl⟩ := hv
    have a1 := at_1 n h S (t := N.length - p + i) (by omega)
    have a2 := r_at n h (t := N.length - p + i) (by omega) S
    simp only [setTg_name', wipe_1, List.set_cons_succ, List.set_cons_zero, if_nil, bind_ok, if_true, e_bin, e_call, l_cons, l_nil, e_var, e_con, List.getElem?_cons_succ, List.getElem?_cons_zero, binR_dat, b_add, b_sub, Option.map_some, give_some, List.length_cons, List.length_nil, Nat.zero_add, Nat.reduceAdd, callKR_2, a1, a2, calm_ok', Int.toNat_natCast]
include h in
theorem lp_c {d : Nat} (d1 : 1 ≤ d) (d2 : d ≤ p) : evE (run TT GL (n + 1)) GL lpC (lpR N p g (some (.dat (.list (stepsD N p g)))) (some (.dat (iN d)))) S =
    .ok (.dat (.list ((List.range (p - d)).map fun i => .bool (((A N p g (N.length - p + (d + i) + 1) : Int) - (A N p g (N.length - p + (d + i)) : Int)) == ((A N p g (N.length - p + i + 1) : Int) - (A N p g (N.length - p + i) : Int)))))) S := by
  have h2 := h.pl
  have h3 := h.lb
  have r2 : rangeV (d : Int) (p : Int) = some ((List.range (p - d)).map fun (i : Nat) => Val.dat (.int ((d + i : Nat) : Int))) := rangeV_nat' d p rfl rfl (by omega) (by omega) rfl
  rw [e_cp]
  simp only [i_rng2, e_var, List.getElem?_cons_succ, List.getElem?_cons_zero, bind_ok, toI_ok, r2, give_some]
  rw [if_pos (show (List.map _ (List.range (p - d))).length ≤ LINE from line_big (by rw [List.length_map, List.length_range]; omega)), compL_dat (g := fun v => match v with
    | .dat (.int j) => .bool (((A N p g (N.length - p + (d + (j.toNat - d)) + 1) : Int) - (A N p g (N.length - p + (d + (j.toNat - d))) : Int)) == ((A N p g (N.length - p + (j.toNat - d) + 1) : Int) - (A N p g (N.length - p + (j.toNat - d)) : Int)))
    | _ => .none)]
  · rw [bind_ok, lstR_dat, List.map_map]
    refine congrArg (fun l => R.ok (Val.dat (PyData.list l)) S) (List.map_congr_left fun i hi => ?_)
    simp only [Function.comp, Int.toNat_natCast, Nat.add_sub_cancel_left]
  · intro v hv
    simp only [List.mem_map, List.mem_range] at hv
    obtain ⟨i, hi, rfl⟩ := hv
    have g1 : nth (stepsD N p g) ((d + i : Nat) : Int) = some (.int ((A N p g (N.length - p + (d + i) + 1) : Int) - (A N p g (N.length - p + (d + i)) : Int))) := by
      rw [nth_nat]
      unfold stepsD
      rw [List.getElem?_map, List.getElem?_range (by omega), Option.map_some]
    have g2 : nth (stepsD N p g) (((d + i : Nat) : Int) - (d : Int)) = some (.int ((A N p g (N.length - p + i + 1) : Int) - (A N p g (N.length - p + i) : Int))) := by
      rw [nth_nat' _ i (by omega)]
      unfold stepsD
      rw [List.getElem?_map, List.getElem?_range (by omega), Option.map_some]
    simp only [setTg_name', wipe_1, List.set_cons_succ, List.set_cons_zero, if_nil, bind_ok, if_true, e_cmp, e_idx, e_bin, e_var, List.getElem?_cons_succ, List.getElem?_cons_zero, binR_dat, b_sub, Option.map_some, give_some, idxR_dat, ix_l, g1, g2, cmpR_dat, c_eq, Int.toNat_natCast, Nat.add_sub_cancel_left, calm_ok']
theorem okd_def (d : Nat) : (List.range (p - d)).all (fun i => ((A N p g (N.length - p + (d + i) + 1) : Int) - (A N p g (N.length - p + (d + i)) : Int)) == ((A N p g (N.length - p + i + 1) : Int) - (A N p g (N.length - p + i) : Int))) = okd N p g d := by unfold okd; rfl
include h in
theorem lp_body {d : Nat} (d1 : 1 ≤ d) (d2 : d ≤ p) : evSs (run TT GL (n + 1)) GL lpB (lpR N p g (some (.dat (.list (stepsD N p g)))) (some (.dat (iN d)))) S =
    if okd N p g d = true then .rt (.dat (iN d)) S else .nx (lpR N p g (some (.dat (.list (stepsD N p g)))) (some (.dat (iN d)))) S := by
  rw [s_cons, s_ife, e_blt, l_cons, lp_c n h S d1 d2, bind_ok, l_nil, bind_ok, bind_ok, bltR_1, bl_all, allTrue_map, okd_def]
  cases hk : okd N p g d <;> simp
theorem items_nat (l : List Nat) : items (.dat (.list (l.map iN))) = some (l.map fun d => .dat (iN d)) := by
  show some (List.map Val.dat (l.map iN)) = _
  rw [List.map_map]
  rfl
include h in
theorem lp_t0 : evE (run TT GL (n + 1)) GL (.callK 6 [] [0] [] [(.var 0)] []) [some (.dat (ln N p g)), none, none, none, none, none, none] S = .ok (.dat (iN (N.length - p))) S := by
  simp [callKR_1, r_tail, h]
theorem lp_t1 : evE (run TT GL (n + 1)) GL (.idx (.var 0) (.con (.int 1))) [some (.dat (ln N p g)), none, none, none, none, none, none] S = .ok (.dat (iN p)) S := by
  simp [ln, ix_ln1]
include h in
theorem lp_t3 : evE (run TT GL (n + 1)) GL (.callK 7 [] [0] [] [(.var 2)] []) (lpR N p g (some (.dat (.list (stepsD N p g)))) none) S = .ok (.dat (.list ((divs p).map iN))) S := by
  have h3 := h.lb
  have h2 := h.pl
  have q := r_divs n (p := p) (by omega) S
  simp [callKR_1, q]
theorem lpR_set (x y z : Option Val) : (lpR N p g x y).set 4 z = lpR N p g x z := rfl
include h in
theorem lp_loop : ∃ y, loopF (.name 4) (evSs (run TT GL (n + 1)) GL lpB) ((divs p).map fun d => .dat (iN d)) (lpR N p g (some (.dat (.list (stepsD N p g)))) none) S = match (divs p).find? (okd N p g) with
      | some d => .rt (.dat (iN d)) S
      | none => .nx (lpR N p g (some (.dat (.list (stepsD N p g)))) y) S := by
  obtain ⟨y, hy⟩ := loop_find (i := 4) (ρ := lpR N p g (some (.dat (.list (stepsD N p g)))) none) (body := evSs (run TT GL (n + 1)) GL lpB) (S := S) (ok := okd N p g) (divs p) (fun d hd => by
    obtain ⟨d1, d2, _⟩ := divs_mem.mp hd
    rw [lpR_set]
    exact lp_body n h S d1 d2) none
  refine ⟨y, ?_⟩
  rw [lpR_set] at hy
  rw [hy]
  cases (divs p).find? (okd N p g) with
  | some d => rfl
  | none => rw [lpR_set]
theorem F8_eq : F_least_period = ⟨1, 7, false, [.par 1 2 (.callK 6 [] [0] [] [(.var 0)] []) (.idx (.var 0) (.con (.int 1))), .asg (.name 3) lpE, .fr (.name 4) (.val (.callK 7 [] [0] [] [(.var 2)] [])) lpB, .ret (.var 2)]⟩ := rfl
include h in
theorem lp_tail : evSs (run TT GL (n + 1)) GL [.fr (.name 4) (.val (.callK 7 [] [0] [] [(.var 2)] [])) lpB, .ret (.var 2)] (lpR N p g (some (.dat (.list (stepsD N p g)))) none) S = .rt (.dat (iN (lp N p g))) S := by
  obtain ⟨y, hy⟩ := lp_loop n h S
  have hi : evI (run TT GL (n + 1)) GL (.val (.callK 7 [] [0] [] [(.var 2)] [])) (lpR N p g (some (.dat (.list (stepsD N p g)))) none) S = .ok ((divs p).map fun d => .dat (iN d)) S := by
    rw [i_val, lp_t3 n h S, bind_ok, items_nat, give_some]
  unfold lp
  cases hf : (divs p).find? (okd N p g) with
  | some d =>
    rw [hf] at hy
    exact s_rt (f_nx hi hy)
  | none =>
    rw [hf] at hy
    exact s_nx (f_nx hi hy) (s_rt (r_rt (by rw [e_var]; rfl)))
include h in
theorem lp_e2 : evSs (run TT GL (n + 1)) GL [.par 1 2 (.callK 6 [] [0] [] [(.var 0)] []) (.idx (.var 0) (.con (.int 1))), .asg (.name 3) lpE, .fr (.name 4) (.val (.callK 7 [] [0] [] [(.var 2)] [])) lpB, .ret (.var 2)] [some (.dat (ln N p g)), none, none, none, none, none, none] S = .rt (.dat (iN (lp N p g))) S :=
  s_nx (p_nx (lp_t0 n h S) (lp_t1 n S) rfl) (s_nx (a_nx (lp_t2 n h S) rfl) (lp_tail n h S))
include h in
theorem r_lp : run TT GL (n + 2) 8 [.dat (ln N p g)] S = .ok (.dat (iN (lp N p g))) S :=
  run_rt (F := F_least_period) rfl rfl (by decide) rfl rfl rfl (lp_e2 n h S)
end
end Dw

set_option Elab.async false
set_option linter.all false
set_option maxRecDepth 100000
set_option maxHeartbeats 4000000
namespace Dw
open PySem
theorem w_true {test : Rho → Sto → R Bool} {body : Rho → Sto → SR} {n : Nat} {ρ ρ1 : Rho} {S S1 S2 : Sto} {x : SR} (ht : test ρ S = .ok true S1) (hb : body ρ S1 = .nx ρ1 S2) (h : loopW test body n ρ1 S2 = x) : loopW test body (n + 1) ρ S = x := by
  unfold loopW
  rw [ht]
  simp only [hb]
  exact h
theorem w_false {test : Rho → Sto → R Bool} {body : Rho → Sto → SR} {n : Nat} {ρ : Rho} {S S1 : Sto} (ht : test ρ S = .ok false S1) : loopW test body (n + 1) ρ S = .nx ρ S1 := by
  unfold loopW
  rw [ht]
theorem e_call1 {C : Nat → List Val → Sto → R Val} {G : List PyData} {ρ : Rho} {S S1 S2 : Sto} {f : Nat} {e : Ex} {v w : Val} (h : evE C G e ρ S = .ok v S1) (h2 : C f [v] S1 = .ok w S2) : evE C G (.callK f [] [0] [] [e] []) ρ S = .ok w S2 := by
  rw [e_call, l_cons, h, bind_ok, l_nil, bind_ok, bind_ok, l_nil, bind_ok]
  exact (callKR_1 C f v S1).trans h2
theorem e_call2 {C : Nat → List Val → Sto → R Val} {G : List PyData} {ρ : Rho} {S S1 S2 S3 : Sto} {f : Nat} {e e' : Ex} {v v' w : Val} (h : evE C G e ρ S = .ok v S1) (h' : evE C G e' ρ S1 = .ok v' S2) (h2 : C f [v, v'] S2 = .ok w S3) : evE C G (.callK f [] [0, 1] [] [e, e'] []) ρ S = .ok w S3 := by
  rw [e_call, l_cons, h, bind_ok, l_cons, h', bind_ok, l_nil, bind_ok, bind_ok, bind_ok, l_nil, bind_ok]
  exact (callKR_2 C f v v' S2).trans h2
theorem v_ok {C : Nat → List Val → Sto → R Val} {G : List PyData} {ρ : Rho} {S : Sto} {i : Nat} {v : Val} (h : ρ[i]? = some (some v)) : evE C G (.var i) ρ S = .ok v S := by
  rw [e_var, h]
theorem bin_ok {C : Nat → List Val → Sto → R Val} {G : List PyData} {ρ : Rho} {S S1 S2 : Sto} {op : Bop} {a b : Ex} {x y z : PyData} (h : evE C G a ρ S = .ok (.dat x) S1) (h' : evE C G b ρ S1 = .ok (.dat y) S2) (h2 : binD op x y = some z) : evE C G (.bin op a b) ρ S = .ok (.dat z) S2 := by
  rw [e_bin, h, bind_ok, h', bind_ok, binR_dat, h2]
  rfl
theorem cmp_ok {C : Nat → List Val → Sto → R Val} {G : List PyData} {ρ : Rho} {S S1 S2 : Sto} {op : Cop} {a b : Ex} {x y : PyData} {z : Bool} (h : evE C G a ρ S = .ok (.dat x) S1) (h' : evE C G b ρ S1 = .ok (.dat y) S2) (h2 : cmpD op x y = some z) : evE C G (.cmp op a b) ρ S = .ok (.dat (.bool z)) S2 := by
  rw [e_cmp, h, bind_ok, h', bind_ok, cmpR_dat, h2]
  rfl
theorem idx_ok {C : Nat → List Val → Sto → R Val} {G : List PyData} {ρ : Rho} {S S1 S2 : Sto} {a b : Ex} {x y z : PyData} (h : evE C G a ρ S = .ok (.dat x) S1) (h' : evE C G b ρ S1 = .ok (.dat y) S2) (h2 : idxD x y = some z) : evE C G (.idx a b) ρ S = .ok (.dat z) S2 := by
  rw [e_idx, h, bind_ok, h', bind_ok, idxR_dat, h2]
  rfl
theorem blt1_ok {C : Nat → List Val → Sto → R Val} {G : List PyData} {ρ : Rho} {S S1 : Sto} {k : Blt} {a : Ex} {x z : PyData} (h : evE C G a ρ S = .ok (.dat x) S1) (h2 : bltD k [x] = some z) : evE C G (.blt k [a]) ρ S = .ok (.dat z) S1 := by
  rw [e_blt, l_cons, h, bind_ok, l_nil, bind_ok, bind_ok, bltR_1, h2]
  rfl
theorem and2_t {C : Nat → List Val → Sto → R Val} {G : List PyData} {ρ : Rho} {S S1 : Sto} {a b : Ex} {r : List Ex} {x : R Val} (h : evE C G a ρ S = .ok (.dat (.bool true)) S1) (h2 : evAnd C G (b :: r) ρ S1 = x) : evAnd C G (a :: b :: r) ρ S = x := by
  rw [e_and2, h, bind_ok, toB_ok, bind_ok, if_pos rfl, h2]
theorem and2_f {C : Nat → List Val → Sto → R Val} {G : List PyData} {ρ : Rho} {S S1 : Sto} {a b : Ex} {r : List Ex} (h : evE C G a ρ S = .ok (.dat (.bool false)) S1) : evAnd C G (a :: b :: r) ρ S = .ok (.dat (.bool false)) S1 := by
  rw [e_and2, h, bind_ok, toB_ok, bind_ok, if_neg (by decide)]

def down (N : List Nat) (p g d c : Nat) : Nat → Nat
  | 0 => 0
  | s + 1 => if ((A N p g (s + d) : Int) - (A N p g s : Int) == (c : Int)) = true then down N p g d c s else s + 1
theorem down_le (N : List Nat) (p g d c : Nat) : ∀ s, down N p g d c s ≤ s
  | 0 => Nat.le_refl _
  | s + 1 => by
    unfold down
    split
    · exact Nat.le_succ_of_le (down_le N p g d c s)
    · exact Nat.le_refl _
section
variable (n : Nat) {N : List Nat} {p g : Nat} (h : LW N p g) (S : Sto)
abbrev leR (N : List Nat) (p g d s c : Nat) : Rho := [some (.dat (ln N p g)), some (.dat (iN d)), some (.dat (iN s)), some (.dat (iN c)), none]
abbrev leT : Ex := .and [(.cmp .gt (.var 2) (.con (.int 0))), (.cmp .eq (.bin .sub (.callK 5 [] [0, 1] [] [(.var 0), (.bin .add (.bin .sub (.var 2) (.con (.int 1))) (.var 1))] []) (.callK 5 [] [0, 1] [] [(.var 0), (.bin .sub (.var 2) (.con (.int 1)))] [])) (.var 3))]
abbrev leB : List Sx := [.asg (.name 2) (.bin .sub (.var 2) (.con (.int 1)))]
abbrev leC : Ex := .cp (.callK 5 [] [0, 1] [] [(.var 0), (.var 4)] []) (.name 4) (.rng1 (.bin .add (.var 2) (.var 1))) [] [4]
include h in
theorem le_test {d s c : Nat} (hd : d ≤ 100) (hs : s < 1000) : (evE (run TT GL (n + 1)) GL leT (leR N p g d (s + 1) c) S).bind toB = .ok ((A N p g (s + d) : Int) - (A N p g s : Int) == (c : Int)) S := by
  have a1 := r_at n h (t := s + d) (by omega) S
  have a2 := r_at n h (t := s) (by omega) S
  have i1 : binD .sub (iN (s + 1)) (.int 1) = some (iN s) := by
    rw [b_sub]
    congr 2
    omega
  have t1 : evE (run TT GL (n + 1)) GL (.bin .sub (.var 2) (.con (.int 1))) (leR N p g d (s + 1) c) S = .ok (.dat (iN s)) S := bin_ok (v_ok rfl) (e_con _ _ _ _ _) i1
  have t2 : evE (run TT GL (n + 1)) GL (.bin .add (.bin .sub (.var 2) (.con (.int 1))) (.var 1)) (leR N p g d (s + 1) c) S = .ok (.dat (iN (s + d))) S := bin_ok t1 (v_ok rfl) (by rw [b_add]; rfl)
  have g1 : evE (run TT GL (n + 1)) GL (.cmp .gt (.var 2) (.con (.int 0))) (leR N p g d (s + 1) c) S = .ok (.dat (.bool true)) S := cmp_ok (v_ok rfl) (e_con _ _ _ _ _) (by rw [c_gt]; congr 1; simp)
  have g2 : evE (run TT GL (n + 1)) GL (.cmp .eq (.bin .sub (.callK 5 [] [0, 1] [] [(.var 0), (.bin .add (.bin .sub (.var 2) (.con (.int 1))) (.var 1))] []) (.callK 5 [] [0, 1] [] [(.var 0), (.bin .sub (.var 2) (.con (.int 1)))] [])) (.var 3)) (leR N p g d (s + 1) c) S = .ok (.dat (.bool ((A N p g (s + d) : Int) - (A N p g s : Int) == (c : Int)))) S :=
    cmp_ok (bin_ok (e_call2 (v_ok rfl) t2 a1) (e_call2 (v_ok rfl) t1 a2) (b_sub _ _)) (v_ok rfl) (c_eq _ _)
  rw [e_and, and2_t g1 ((e_and1 _ _ _ _ _).trans g2), bind_ok, toB_ok]
theorem le_test0 {C : Nat → List Val → Sto → R Val} {d c : Nat} : (evE C GL leT (leR N p g d 0 c) S).bind toB = .ok false S := by
  have g1 : evE C GL (.cmp .gt (.var 2) (.con (.int 0))) (leR N p g d 0 c) S = .ok (.dat (.bool false)) S := cmp_ok (v_ok rfl) (e_con _ _ _ _ _) (by rw [c_gt]; rfl)
  rw [e_and, and2_f g1, bind_ok, toB_ok]
include h in
theorem le_loop {d c : Nat} (hd : d ≤ 100) : ∀ (s m : Nat), s < m → s < 1000 → loopW (fun ρ S => (evE (run TT GL (n + 1)) GL leT ρ S).bind toB) (evSs (run TT GL (n + 1)) GL leB) m (leR N p g d s c) S = .nx (leR N p g d (down N p g d c s) c) S
  | 0, m, hm, _ => by
    obtain ⟨m, rfl⟩ : ∃ k, m = k + 1 := ⟨m - 1, by omega⟩
    exact w_false (le_test0 S)
  | s + 1, m, hm, hs => by
    obtain ⟨m, rfl⟩ : ∃ k, m = k + 1 := ⟨m - 1, by omega⟩
    have ht := le_test n h S (c := c) hd (s := s) (by omega)
    unfold down
    by_cases hk : ((A N p g (s + d) : Int) - (A N p g s : Int) == (c : Int)) = true
    · rw [if_pos hk]
      rw [hk] at ht
      have i1 : binD .sub (iN (s + 1)) (.int 1) = some (iN s) := by
        rw [b_sub]
        congr 2
        omega
      exact w_true ht (s_nx (a_nx (bin_ok (v_ok rfl) (e_con _ _ _ _ _) i1) rfl) (s_nil _ _ _ _)) (le_loop hd s m (by omega) (by omega))
    · rw [if_neg hk]
      rw [Bool.not_eq_true] at hk
      rw [hk] at ht
      exact w_false ht
include h in
theorem le_c {d s c : Nat} (hd : d ≤ 100) (hs : s < 1000) : evE (run TT GL (n + 1)) GL leC (leR N p g d s c) S = .ok (.dat (.list (((List.range (s + d)).map (A N p g)).map iN))) S := by
  have r2 : rangeV 0 ((s : Int) + (d : Int)) = some ((List.range (s + d)).map fun (i : Nat) => Val.dat (iN i)) := rangeV_nat' 0 (s + d) (by omega) (by omega) (by omega) (by omega) (by simp)
  have hi : evI (run TT GL (n + 1)) GL (.rng1 (.bin .add (.var 2) (.var 1))) (leR N p g d s c) S = .ok ((List.range (s + d)).map fun (i : Nat) => Val.dat (iN i)) S := by
    rw [i_rng1, bin_ok (z := .int ((s : Int) + (d : Int))) (v_ok rfl) (v_ok rfl) (b_add _ _), bind_ok, toI_ok, bind_ok, r2, give_some]
  rw [e_cp, hi, bind_ok]
  rw [if_pos (show (List.map _ (List.range (s + d))).length ≤ LINE from line_big (by rw [List.length_map, List.length_range]; omega)), compL_dat (g := fun v => match v with
    | .dat (.int j) => iN (A N p g j.toNat)
    | _ => .none)]
  · rw [bind_ok, lstR_dat, List.map_map, List.map_map]
    refine congrArg (fun l => R.ok (Val.dat (PyData.list l)) S) (List.map_congr_left fun i hi => ?_)
    simp only [Function.comp, Int.toNat_natCast]
  · intro v hv
    simp only [List.mem_map, List.mem_range] at hv
    obtain ⟨i, hi, rfl⟩ := hv
    have a := r_at n h (t := i) (by omega) S
    rw [setTg_name]
    simp only [wipe_1, List.set_cons_succ, List.set_cons_zero, if_nil, bind_ok, if_true]
    rw [e_call2 (v_ok rfl) (v_ok rfl) a, bind_ok, calm_ok']
    simp only [Int.toNat_natCast]
/-- the least line -/
def lD (N : List Nat) (p g : Nat) : Nat := lp N p g
def lG (N : List Nat) (p g : Nat) : Nat := g * lp N p g / p
def lS (N : List Nat) (p g : Nat) : Nat := down N p g (lD N p g) (lG N p g) (N.length - p)
def lN (N : List Nat) (p g : Nat) : List Nat := (List.range (lS N p g + lD N p g)).map (A N p g)
theorem lp_mem (N : List Nat) {p : Nat} (g : Nat) (hp : 1 ≤ p) : lp N p g ∈ divs p := by
  unfold lp
  cases hf : (divs p).find? (okd N p g) with
  | some d => exact List.mem_of_find?_eq_some hf
  | none => exact divs_mem.mpr ⟨hp, Nat.le_refl _, Nat.mod_self _⟩
include h in
theorem r_least : run TT GL (n + 3) 9 [.dat (ln N p g)] S = .ok (.dat (ln (lN N p g) (lD N p g) (lG N p g))) S := by
  have h1 := h.p1
  have h2 := h.pl
  have h3 := h.lb
  have h4 := h.gb
  obtain ⟨d1, d2, d3⟩ := divs_mem.mp (lp_mem N g h1)
  have t0 : evE (run TT GL (n + 2)) GL (.callK 8 [] [0] [] [(.var 0)] []) [some (.dat (ln N p g)), none, none, none, none] S = .ok (.dat (iN (lp N p g))) S := e_call1 (v_ok rfl) (r_lp n h S)
  have t1 : evE (run TT GL (n + 2)) GL (.callK 6 [] [0] [] [(.var 0)] []) [some (.dat (ln N p g)), none, none, none, none] S = .ok (.dat (iN (N.length - p))) S := e_call1 (v_ok rfl) (r_tail (n + 1) h S)
  have m1 : mulOk (g : Int) (lp N p g : Int) = true := mul_nat (by omega) (by omega)
  have q1 : binD .fdiv (.int ((g : Int) * (lp N p g : Int))) (iN p) = some (iN (lG N p g)) := by
    rw [b_fdiv _ _ (by omega) (by omega)]
    unfold lG iN
    rw [Int.natCast_ediv, Int.natCast_mul]
  have t2 : evE (run TT GL (n + 2)) GL (.bin .fdiv (.bin .mul (.idx (.var 0) (.con (.int 2))) (.var 1)) (.idx (.var 0) (.con (.int 1)))) [some (.dat (ln N p g)), some (.dat (iN (lp N p g))), some (.dat (iN (N.length - p))), none, none] S = .ok (.dat (iN (lG N p g))) S :=
    bin_ok (bin_ok (idx_ok (v_ok rfl) (e_con _ _ _ _ _) (ix_ln2 N p g)) (v_ok rfl) (b_mul _ _ m1)) (idx_ok (v_ok rfl) (e_con _ _ _ _ _) (ix_ln1 N p g)) q1
  have lo := le_loop (n + 1) h S (d := lp N p g) (c := lG N p g) (by omega) (N.length - p) 100000 (by omega) (by omega)
  have sb : lS N p g ≤ N.length - p := down_le _ _ _ _ _ _
  have t3 : evE (run TT GL (n + 2)) GL (.cmp .gt (.bin .add (.var 2) (.var 1)) (.glob 0)) (leR N p g (lp N p g) (lS N p g) (lG N p g)) S = .ok (.dat (.bool false)) S :=
    cmp_ok (bin_ok (z := .int ((lS N p g : Int) + (lp N p g : Int))) (v_ok rfl) (v_ok rfl) (b_add _ _)) (show evE _ _ (.glob 0) _ _ = .ok (.dat (.int 20000)) S from e_glob _ _ _ _ _) (by rw [c_gt]; congr 1; simp; omega)
  have t4 : evE (run TT GL (n + 2)) GL (.tup [(.blt .tup1 [leC]), (.var 1), (.var 3)]) (leR N p g (lp N p g) (lS N p g) (lG N p g)) S = .ok (.dat (ln (lN N p g) (lD N p g) (lG N p g))) S := by
    rw [e_tup, l_cons, blt1_ok (le_c (n + 1) h S (by omega) (by omega)) (bl_tupL _), bind_ok, l_cons, v_ok rfl, bind_ok, l_cons, v_ok rfl, bind_ok, l_nil, bind_ok, bind_ok, bind_ok, bind_ok, tupR_3]
    rfl
  exact run_rt (F := F_least) (by rfl) (by rfl) (by decide) (by rfl) (by rfl) (by rfl) (s_nx (p_nx t0 t1 (by rfl)) (s_nx (a_nx t2 (by rfl)) (s_nx ((s_whl _ _ _ _ _ _ _).trans lo) (s_nx (if_f t3 (s_nil _ _ _ _)) (s_rt (r_rt t4))))))
end
end Dw

set_option Elab.async false
set_option linter.all false
set_option maxRecDepth 100000
set_option maxHeartbeats 4000000
/-! Lines: the mathematics. -/
namespace Dw
section
variable {N : List Nat} {p g : Nat} (p1 : 1 ≤ p) (pl : p ≤ N.length)
theorem A_lt {t : Nat} (h : t < N.length) : A N p g t = N.getD t 0 := if_pos h
include p1 pl in
theorem A_step {t : Nat} (h : N.length ≤ t + p) : A N p g (t + p) = A N p g t + g := by
  unfold A
  rw [if_neg (by omega)]
  by_cases ht : t < N.length
  · have e : (t + p - N.length) / p = 0 := Nat.div_eq_of_lt (by omega)
    rw [if_pos ht, e]
    have : t + p - (0 + 1) * p = t := by omega
    rw [this, Nat.zero_add, Nat.one_mul]
  · have e : (t + p - N.length) / p = (t - N.length) / p + 1 := by
      have : t + p - N.length = (t - N.length) + p := by omega
      rw [this, Nat.add_div_right _ p1]
    obtain ⟨q1, q2⟩ := A_ix p1 pl (Nat.le_of_not_lt ht)
    rw [if_neg ht, e]
    generalize (t - N.length) / p = q at *
    have e2 : t + p - (q + 1 + 1) * p = t - (q + 1) * p := by
      rw [Nat.add_mul (q + 1) 1 p]
      omega
    rw [e2, Nat.add_mul (q + 1) 1 g]
    omega
/-- a step -/
def st (N : List Nat) (p g t : Nat) : Int := (A N p g (t + 1) : Int) - (A N p g t : Int)
include p1 pl in
theorem st_p {t : Nat} (h : N.length - p ≤ t) : st N p g (t + p) = st N p g t := by
  unfold st
  have e1 := A_step (g := g) p1 pl (t := t) (by omega)
  have e2 := A_step (g := g) p1 pl (t := t + 1) (by omega)
  rw [show t + p + 1 = t + 1 + p by omega, e1, e2]
  omega
theorem okd_iff {d : Nat} : okd N p g d = true ↔ ∀ i, i < p - d → st N p g (N.length - p + (d + i)) = st N p g (N.length - p + i) := by
  unfold okd st
  rw [List.all_eq_true]
  constructor
  · intro h i hi
    have := h i (List.mem_range.mpr hi)
    simpa using this
  · intro h i hi
    have := h i (List.mem_range.mp hi)
    simpa using this
include p1 pl in
theorem st_d {d : Nat} (d1 : 1 ≤ d) (d2 : d ≤ p) (d3 : p % d = 0) (ok : okd N p g d = true) : ∀ t, N.length - p ≤ t → st N p g (t + d) = st N p g t := by
  rw [okd_iff] at ok
  have chain : ∀ (j m : Nat), j + m * d < p → st N p g (N.length - p + (j + m * d)) = st N p g (N.length - p + j) := by
    intro j m
    induction m with
    | zero => intro _; rw [Nat.zero_mul, Nat.add_zero]
    | succ m ih =>
      intro h
      rw [Nat.succ_mul] at h ⊢
      rw [show j + (m * d + d) = d + (j + m * d) by omega, ok (j + m * d) (by omega)]
      exact ih (by omega)
  intro t
  induction t using Nat.strongRecOn with
  | _ t ih =>
    intro ht
    by_cases h1 : t < N.length - p + (p - d)
    · have := ok (t - (N.length - p)) (by omega)
      rw [show N.length - p + (d + (t - (N.length - p))) = t + d by omega, show N.length - p + (t - (N.length - p)) = t by omega] at this
      exact this
    · by_cases h2 : N.length - p + p ≤ t
      · have i1 := ih (t - p) (by omega) (by omega)
        have e1 := st_p (g := g) p1 pl (t := t - p) (by omega)
        have e2 := st_p (g := g) p1 pl (t := t - p + d) (by omega)
        rw [show t - p + p = t by omega] at e1
        rw [show t - p + d + p = t + d by omega] at e2
        rw [e1, e2, i1]
      · have hk : (p / d - 1) * d = p - d := by
          have := Nat.div_add_mod p d
          rw [d3, Nat.add_zero, Nat.mul_comm] at this
          rw [Nat.sub_mul, this, Nat.one_mul]
        have c := chain (t + d - (N.length - p) - p) (p / d - 1) (by rw [hk]; omega)
        rw [hk] at c
        have e2 := st_p (g := g) p1 pl (t := N.length - p + (t + d - (N.length - p) - p)) (by omega)
        rw [show N.length - p + (t + d - (N.length - p) - p) + p = t + d by omega] at e2
        rw [show N.length - p + (t + d - (N.length - p) - p + (p - d)) = t by omega] at c
        rw [e2, c]
theorem up_const {d s0 : Nat} (h : ∀ t, s0 ≤ t → st N p g (t + d) = st N p g t) : ∀ t, s0 ≤ t → (A N p g (t + d) : Int) - A N p g t = (A N p g (s0 + d) : Int) - A N p g s0 := by
  intro t ht
  obtain ⟨k, rfl⟩ : ∃ k, t = s0 + k := ⟨t - s0, by omega⟩
  clear ht
  induction k with
  | zero => rfl
  | succ k ih =>
    have e := h (s0 + k) (by omega)
    unfold st at e
    rw [show s0 + k + d + 1 = s0 + (k + 1) + d by omega] at e
    rw [show s0 + k + 1 = s0 + (k + 1) by omega] at e
    omega
theorem up_many {d s0 : Nat} {c : Int} (h : ∀ t, s0 ≤ t → (A N p g (t + d) : Int) - A N p g t = c) : ∀ (m t : Nat), s0 ≤ t → (A N p g (t + m * d) : Int) = A N p g t + m * c
  | 0, t, _ => by simp
  | m + 1, t, ht => by
    have ih := up_many h m t ht
    have e := h (t + m * d) (by omega)
    rw [Nat.succ_mul, ← Nat.add_assoc]
    push_cast
    rw [Int.add_mul]
    omega
include p1 pl in
/-- L1 -/
theorem up_d {d : Nat} (d1 : 1 ≤ d) (d2 : d ≤ p) (d3 : p % d = 0) (ok : okd N p g d = true) : g * d / p * p = g * d ∧ ∀ t, N.length - p ≤ t → A N p g (t + d) = A N p g t + g * d / p := by
  have h := up_const (st_d p1 pl d1 d2 d3 ok)
  generalize hc : (A N p g (N.length - p + d) : Int) - A N p g (N.length - p) = c at h
  have m := up_many h (p / d) (N.length - p) (Nat.le_refl _)
  have hk : p / d * d = p := by
    have := Nat.div_add_mod p d
    rw [d3, Nat.add_zero, Nat.mul_comm] at this
    exact this
  have e := A_step (g := g) p1 pl (t := N.length - p) (by omega)
  rw [hk, e] at m
  have kp : 1 ≤ p / d := Nat.div_pos d2 d1
  have gc : (g : Int) = (p / d : Nat) * c := by push_cast at m ⊢; omega
  have c0 : 0 ≤ c := by
    rcases Int.lt_or_le c 0 with z | z
    · exfalso
      have : (p / d : Nat) * c < 0 := Int.mul_neg_of_pos_of_neg (by omega) z
      omega
    · exact z
  obtain ⟨c', rfl⟩ := Int.eq_ofNat_of_zero_le c0
  have gn : g = p / d * c' := by exact_mod_cast gc
  have gd : g * d = c' * p := by
    rw [gn]
    calc p / d * c' * d = c' * (p / d * d) := by rw [Nat.mul_comm (p / d) c', Nat.mul_assoc]
      _ = c' * p := by rw [hk]
  have q : g * d / p = c' := by rw [gd, Nat.mul_div_cancel _ p1]
  refine ⟨by rw [q, gd], fun t ht => ?_⟩
  have := h t ht
  rw [q]
  omega
theorem divs_pair (p : Nat) : (divs p).Pairwise (· < ·) := by
  unfold divs
  refine List.Pairwise.filterMap _ (fun a a' h b hb b' hb' => ?_) List.pairwise_lt_range
  split at hb
  · cases hb
    split at hb'
    · cases hb'
      omega
    · cases hb'
  · cases hb
include p1 in
theorem lp_ok : okd N p g (lp N p g) = true := by
  unfold lp
  cases hf : (divs p).find? (okd N p g) with
  | some d => exact List.find?_some hf
  | none =>
    show okd N p g p = true
    rw [okd_iff]
    intro i hi
    omega
theorem lp_min {d : Nat} (hd : d ∈ divs p) (hl : d < lp N p g) : okd N p g d = false := by
  unfold lp at hl
  cases hf : (divs p).find? (okd N p g) with
  | none =>
    rw [List.find?_eq_none] at hf
    simpa using hf d hd
  | some e =>
    rw [hf] at hl
    have hl : d < e := hl
    rw [List.find?_eq_some_iff_append] at hf
    obtain ⟨_, as, bs, e1, e2⟩ := hf
    have pw := divs_pair p
    rw [e1] at hd pw
    rcases List.mem_append.mp hd with q | q
    · simpa using e2 d q
    · rcases List.mem_cons.mp q with q | q
      · omega
      · have := (List.pairwise_append.mp pw).2.1
        rw [List.pairwise_cons] at this
        have := this.1 d q
        omega
theorem down_up {d c : Nat} : ∀ s0, (∀ t, s0 ≤ t → A N p g (t + d) = A N p g t + c) → ∀ t, down N p g d c s0 ≤ t → A N p g (t + d) = A N p g t + c
  | 0, h => h
  | s + 1, h => by
    unfold down
    split
    · rename_i hk
      refine down_up s fun t ht => ?_
      by_cases e : t = s
      · subst e
        have hk := eq_of_beq hk
        omega
      · exact h t (by omega)
    · exact h
theorem down_end {d c : Nat} : ∀ s0, down N p g d c s0 = 0 ∨ ∃ k, down N p g d c s0 = k + 1 ∧ A N p g (k + d) ≠ A N p g k + c
  | 0 => .inl rfl
  | s + 1 => by
    unfold down
    split
    · exact down_end s
    · rename_i hk
      refine .inr ⟨s, rfl, fun e => hk ?_⟩
      rw [e]
      simp
      omega
end
/-! the least line -/
section
variable {N : List Nat} {p g : Nat} (h : LW N p g)
include h in
theorem l_d : 1 ≤ lD N p g ∧ lD N p g ≤ p ∧ p % lD N p g = 0 := divs_mem.mp (lp_mem N g h.p1)
include h in
theorem l_up : ∀ t, lS N p g ≤ t → A N p g (t + lD N p g) = A N p g t + lG N p g := by
  obtain ⟨d1, d2, d3⟩ := l_d h
  exact down_up _ (up_d h.p1 h.pl d1 d2 d3 (lp_ok h.p1)).2
include h in
theorem l_gd : lG N p g * p = g * lD N p g := by
  obtain ⟨d1, d2, d3⟩ := l_d h
  exact (up_d h.p1 h.pl d1 d2 d3 (lp_ok h.p1)).1
theorem l_len : (lN N p g).length = lS N p g + lD N p g := by unfold lN; rw [List.length_map, List.length_range]
theorem l_get {t : Nat} (ht : t < lS N p g + lD N p g) : (lN N p g).getD t 0 = A N p g t := by
  unfold lN
  rw [List.getD_eq_getElem?_getD, List.getElem?_map, List.getElem?_range ht]
  rfl
include h in
theorem l_le : lS N p g + lD N p g ≤ N.length := by
  have h1 := down_le N p g (lD N p g) (lG N p g) (N.length - p)
  obtain ⟨d1, d2, d3⟩ := l_d h
  have := h.pl
  unfold lS
  omega
include h in
theorem l_LW : LW (lN N p g) (lD N p g) (lG N p g) := by
  obtain ⟨d1, d2, d3⟩ := l_d h
  have hle := l_le h
  refine ⟨d1, by rw [l_len]; omega, by rw [l_len]; exact Nat.le_trans hle h.lb, fun x hx => ?_, ?_⟩
  · unfold lN at hx
    rw [List.mem_map] at hx
    obtain ⟨t, ht, rfl⟩ := hx
    rw [List.mem_range] at ht
    have htl : t < N.length := by omega
    rw [A_lt htl]
    have : N.getD t 0 ∈ N := by
      rw [List.getD_eq_getElem?_getD, List.getElem?_eq_getElem htl]
      exact List.getElem_mem htl
    exact h.nb _ this
  · unfold lG
    have := h.gb
    have : g * lp N p g / p ≤ g := by
      refine Nat.div_le_of_le_mul ?_
      rw [Nat.mul_comm p g]
      exact Nat.mul_le_mul_left g d2
    omega
include h in
theorem l_A : ∀ t, A (lN N p g) (lD N p g) (lG N p g) t = A N p g t := by
  intro t
  induction t using Nat.strongRecOn with
  | _ t ih =>
    obtain ⟨d1, d2, d3⟩ := l_d h
    by_cases ht : t < lS N p g + lD N p g
    · rw [A_lt (by rw [l_len]; exact ht), l_get ht]
    · have L := l_LW h
      have e := A_step (g := lG N p g) L.p1 L.pl (t := t - lD N p g) (by rw [l_len]; omega)
      have e2 := l_up h (t - lD N p g) (by omega)
      rw [show t - lD N p g + lD N p g = t by omega] at e e2
      rw [e, e2, ih (t - lD N p g) (by omega)]
include h in
theorem l_none {d' : Nat} (h1 : d' ∈ divs (lD N p g)) (h2 : d' < lD N p g) (h3 : ∀ t, lS N p g ≤ t → st N p g (t + d') = st N p g t) : False := by
  obtain ⟨d1, d2, d3⟩ := l_d h
  obtain ⟨e1, e2, e3⟩ := divs_mem.mp h1
  have hm : d' ∈ divs p := divs_mem.mpr ⟨e1, by omega, Nat.mod_eq_zero_of_dvd (Nat.dvd_trans (Nat.dvd_of_mod_eq_zero e3) (Nat.dvd_of_mod_eq_zero d3))⟩
  have ok : okd N p g d' = true := by
    rw [okd_iff]
    intro i hi
    have hs := down_le N p g (lD N p g) (lG N p g) (N.length - p)
    have := h3 (N.length - p + i) (by unfold lS; omega)
    rw [show N.length - p + i + d' = N.length - p + (d' + i) by omega] at this
    exact this
  rw [lp_min hm h2] at ok
  cases ok
theorem st_l (h : LW N p g) (t : Nat) : st (lN N p g) (lD N p g) (lG N p g) t = st N p g t := by
  unfold st
  rw [l_A h, l_A h]
include h in
theorem ll_D : lD (lN N p g) (lD N p g) (lG N p g) = lD N p g := by
  have L := l_LW h
  obtain ⟨d1, d2, d3⟩ := l_d L
  rcases Nat.lt_or_ge (lD (lN N p g) (lD N p g) (lG N p g)) (lD N p g) with z | z
  · exfalso
    refine l_none h (d' := lD (lN N p g) (lD N p g) (lG N p g)) (divs_mem.mpr ⟨d1, d2, d3⟩) z fun t ht => ?_
    have := st_d L.p1 L.pl d1 d2 d3 (lp_ok L.p1) t (by rw [l_len]; omega)
    rw [st_l h, st_l h] at this
    exact this
  · omega
include h in
theorem ll_G : lG (lN N p g) (lD N p g) (lG N p g) = lG N p g := by
  have L := l_LW h
  have e := l_gd L
  rw [ll_D h] at e
  exact Nat.eq_of_mul_eq_mul_right L.p1 e
include h in
theorem ll_S : lS (lN N p g) (lD N p g) (lG N p g) = lS N p g := by
  have e1 := ll_D h
  have e2 := ll_G h
  unfold lS
  rw [e1, e2, l_len]
  rw [Nat.add_sub_cancel]
  have key : ∀ s, down (lN N p g) (lD N p g) (lG N p g) (lD N p g) (lG N p g) s = down N p g (lD N p g) (lG N p g) s := by
    intro s
    induction s with
    | zero => rfl
    | succ s ih =>
      unfold down
      rw [l_A h, l_A h, ih]
  rw [key]
  rcases down_end (N := N) (p := p) (g := g) (d := lD N p g) (c := lG N p g) (N.length - p) with q | ⟨k, q1, q2⟩
  · show down _ _ _ _ _ (lS N p g) = lS N p g
    have q : lS N p g = 0 := q
    rw [q]
    rfl
  · show down _ _ _ _ _ (lS N p g) = lS N p g
    have q1 : lS N p g = k + 1 := q1
    rw [q1]
    unfold down
    rw [if_neg]
    intro hk
    have := eq_of_beq hk
    omega
include h in
theorem ll_N : lN (lN N p g) (lD N p g) (lG N p g) = lN N p g := by
  unfold lN
  have e1 := ll_S h
  have e2 := ll_D h
  unfold lN at e1 e2
  rw [e1, e2]
  refine List.map_congr_left fun t _ => ?_
  exact l_A h t
end
end Dw

set_option Elab.async false
set_option linter.all false
set_option maxRecDepth 100000
set_option maxHeartbeats 4000000
/-! What may be shown; the rest of the defs. -/
namespace Dw
open PySem
/-- data of which repr() and == can be asked -/
structure Nice (m k : Nat) (d : PyData) : Prop where
  lay : d.canLay0 = true
  dp : d.depth ≤ k
  wt : d.weight ≤ m
  sh : d.intsShort 13 = true
  sw : d.showable = true
theorem Nice.mono {m k m' k' : Nat} {d : PyData} (h : Nice m k d) (h1 : m ≤ m') (h2 : k ≤ k') : Nice m' k' d := ⟨h.lay, Nat.le_trans h.dp h2, Nat.le_trans h.wt h1, h.sh, h.sw⟩
theorem nice_all {m k : Nat} : ∀ {l : List PyData}, (∀ d ∈ l, Nice m k d) → PyData.canLayAll0 l = true ∧ PyData.depthAll l ≤ k ∧ PyData.weightAll l ≤ l.length * (m + 1) ∧ PyData.intsShortAll 13 l = true ∧ PyData.showableAll l = true
  | [], _ => ⟨by simp [PyData.canLayAll0], by simp [PyData.depthAll], by simp [PyData.weightAll], by simp [PyData.intsShortAll], by simp [PyData.showableAll]⟩
  | d :: l, h => by
    obtain ⟨a, b, c, e, f⟩ := nice_all fun x hx => h x (List.mem_cons_of_mem _ hx)
    have hd := h d List.mem_cons_self
    have h3 := hd.wt
    have h4 := hd.dp
    refine ⟨by simp [PyData.canLayAll0, hd.lay, a], by simp [PyData.depthAll]; omega, ?_, by simp [PyData.intsShortAll, hd.sh, e], by simp [PyData.showableAll, hd.sw, f]⟩
    simp only [PyData.weightAll, List.length_cons, Nat.succ_mul]
    omega
theorem nice_tup {m k : Nat} {l : List PyData} (h : ∀ d ∈ l, Nice m k d) : Nice (l.length * (m + 1)) (k + 1) (.tuple l) := by
  obtain ⟨a, b, c, e, f⟩ := nice_all h
  exact ⟨by simpa [PyData.canLay0] using a, by simp only [PyData.depth]; omega, by simpa [PyData.weight] using c, by simpa [PyData.intsShort] using e, by simpa [PyData.showable] using f⟩
theorem nice_lst {m k : Nat} {l : List PyData} (h : ∀ d ∈ l, Nice m k d) : Nice (l.length * (m + 1)) (k + 1) (.list l) := by
  obtain ⟨a, b, c, e, f⟩ := nice_all h
  exact ⟨by simpa [PyData.canLay0] using a, by simp only [PyData.depth]; omega, by simpa [PyData.weight] using c, by simpa [PyData.intsShort] using e, by simpa [PyData.showable] using f⟩
theorem nice_int {n : Nat} (h : n < 1000000000000) : Nice 41 0 (iN n) := by
  have hl : n.log2 ≤ 40 := by
    by_cases h0 : n = 0
    · subst h0; decide
    · have : n.log2 < 41 := (Nat.log2_lt h0).mpr (by omega)
      omega
  have hs := PyData.intsShortAll_ints [(n : Int)] (fun m hm => by
    rw [List.mem_singleton] at hm
    subst hm
    simpa using h)
  refine ⟨by simp [PyData.canLay0], by simp [PyData.depth], ?_, by simpa [PyData.intsShortAll] using hs, ?_⟩
  · simp only [PyData.weight]
    split
    · omega
    · rw [Int.natAbs_natCast]; omega
  · simp only [PyData.showable, Int.natAbs_natCast, decide_eq_true_iff]
    omega
theorem nice_bool (b : Bool) : Nice 0 0 (.bool b) := ⟨by simp [PyData.canLay0], by simp [PyData.depth], by simp [PyData.weight], by simp [PyData.intsShort], by simp [PyData.showable]⟩
theorem Nice.repr {m k : Nat} {d : PyData} (h : Nice m k d) (h1 : m ≤ 1048576) (h2 : k ≤ 50) : reprOk d = true := by
  have hl : d.layable0 = true := by
    have e : (2 : Nat) ^ 20 = 1048576 := by decide
    have a := h.dp
    have b := h.wt
    unfold PyData.layable0
    rw [h.lay, e, decide_eq_true (show d.depth ≤ 64 by omega), decide_eq_true (show d.weight ≤ 1048576 by omega)]
    rfl
  have s := PyProof.Rows.shown_le13 hl h.sh
  have a := h.dp
  unfold reprOk
  rw [h.sw, PyData.hasDict_of_canLay d h.lay, decide_eq_true (show d.depth ≤ 50 by omega), decide_eq_true (show d.shown.length ≤ LINE from line_big (by omega))]
  rfl
theorem Nice.shape {m k : Nat} {d : PyData} (h : Nice m k d) (h2 : k ≤ 50) : SeqAt.shaped d = true := by
  have a := h.dp
  unfold SeqAt.shaped
  rw [h.lay, decide_eq_true (show d.depth ≤ 64 by omega)]
  rfl
theorem mem3 {P : PyData → Prop} {a b c : PyData} (h1 : P a) (h2 : P b) (h3 : P c) : ∀ d ∈ [a, b, c], P d := by
  intro d hd
  rcases List.mem_cons.mp hd with rfl | hd
  · exact h1
  · rcases List.mem_cons.mp hd with rfl | hd
    · exact h2
    · rw [List.mem_singleton] at hd
      exact hd ▸ h3
theorem nice_ln {N : List Nat} {p g : Nat} (h : LW N p g) : Nice 100000 2 (ln N p g) := by
  have h1 := h.pl
  have h2 := h.lb
  have h3 := h.gb
  have a : Nice ((N.map iN).length * (41 + 1)) 1 (.tuple (N.map iN)) := nice_tup fun d hd => by
    rw [List.mem_map] at hd
    obtain ⟨x, hx, rfl⟩ := hd
    have := h.nb x hx
    exact nice_int (by omega)
  rw [List.length_map] at a
  have b := nice_tup (m := 10000) (k := 1) (l := [.tuple (N.map iN), iN p, iN g]) (mem3 (a.mono (by omega) (by omega)) ((nice_int (by omega)).mono (by omega) (by omega)) ((nice_int (by omega)).mono (by omega) (by omega)))
  exact b.mono (by show 3 * (10000 + 1) ≤ 100000; omega) (by omega)

section
variable (n : Nat) {N : List Nat} {p g : Nat} (h : LW N p g) (S : Sto)
theorem r_same {d : PyData} (hd : reprOk d = true) : run TT GL (n + 1) 20 [.dat d, .dat d] S = .ok (.dat (.bool true)) S :=
  run_rt (F := F__law_same) (by rfl) (by rfl) (by decide) (by rfl) (by rfl) (by rfl) (s_rt (r_rt (cmp_ok (blt1_ok (v_ok rfl) (bl_repr _ hd)) (blt1_ok (v_ok rfl) (bl_repr _ hd)) (by rw [c_eqS]; simp))))
theorem r_isline {d : PyData} {b : Bool} (hd : run TT GL (n + 2) 4 [.dat d] S = .ok (.dat (.bool b)) S) : run TT GL (n + 3) 13 [.dat d] S = .ok (.dat (.bool b)) S :=
  run_rt (F := F_is_line) (by rfl) (by rfl) (by decide) (by rfl) (by rfl) (by rfl) (s_rt (r_rt (e_call1 (v_ok rfl) hd)))
theorem not_ok {C : Nat → List Val → Sto → R Val} {G : List PyData} {ρ : Rho} {S S1 : Sto} {e : Ex} {b : Bool} (h : evE C G e ρ S = .ok (.dat (.bool b)) S1) : evE C G (.not e) ρ S = .ok (.dat (.bool (!b))) S1 := by
  rw [e_not, h, bind_ok, toB_ok, bind_ok]
theorem run_nx {T : List Fd} {Gc : List PyData} {n f : Nat} {vs : List Val} {S : Sto} {F : Fd} {ρ ρ1 : Rho} {b : List Sx} (h : T[f]? = some F) (h1 : vs.length = F.np) (h2 : F.np ≤ F.nn) (hk : F.keep = false) (hb : F.body = b)
    (hρ : vs.map some ++ List.replicate (F.nn - F.np) none = ρ) (he : evSs (run T Gc n) Gc b ρ S = .nx ρ1 S) : run T Gc (n + 1) f vs S = .ok (.dat .none) S := by
  rw [run_eq h h1 h2, hk, hb, hρ, he]
  show R.ok (Val.dat .none) (S.take S.length) = _
  rw [List.take_length]
include h in
theorem r_checkline : run TT GL (n + 3) 12 [.dat (ln N p g)] S = .ok (.dat .none) S :=
  run_nx (F := F_check_line) (by rfl) (by rfl) (by decide) (by rfl) (by rfl) (by rfl) (s_nx (if_f (not_ok (e_call1 (v_ok rfl) (r_lineform n h S))) (s_nil _ _ _ _)) (s_nil _ _ _ _))
theorem r_number {t : Nat} (ht : t ≤ 2000) : run TT GL (n + 2) 1 [.dat (iN t), .dat (.int 0), .dat (.int 2000)] S = .ok (.dat (.bool true)) S := by
  have w : run TT GL (n + 1) 0 [.dat (iN t)] S = .ok (.dat (.bool true)) S := r_whole n (iN t) S
  have e1 : evE (run TT GL (n + 1)) GL (.or [(.not (.callK 0 [] [0] [] [(.var 0)] [])), (.and [(.notN (.var 1)), (.cmp .lt (.var 0) (.var 1))])]) [some (.dat (iN t)), some (.dat (.int 0)), some (.dat (.int 2000))] S = .ok (.dat (.bool false)) S := by
    have a := not_ok (e_call1 (C := run TT GL (n + 1)) (G := GL) (ρ := [some (.dat (iN t)), some (.dat (.int 0)), some (.dat (.int 2000))]) (e := .var 0) (v_ok rfl) w)
    have b : evE (run TT GL (n + 1)) GL (.cmp .lt (.var 0) (.var 1)) [some (.dat (iN t)), some (.dat (.int 0)), some (.dat (.int 2000))] S = .ok (.dat (.bool false)) S := cmp_ok (v_ok rfl) (v_ok rfl) (by rw [c_lt, decide_eq_false (show ¬ (t : Int) < 0 by omega)])
    rw [e_or, e_or2, a, bind_ok, toB_ok, bind_ok, if_neg (by decide), e_or1, e_and, e_and2, e_notN, v_ok rfl, bind_ok]
    rw [show (!isNone (Val.dat (.int 0))) = true from rfl, bind_ok, toB_ok, bind_ok, if_pos rfl, e_and1, b]
  have e2 : evE (run TT GL (n + 1)) GL (.or [(.isN (.var 2)), (.cmp .le (.var 0) (.var 2))]) [some (.dat (iN t)), some (.dat (.int 0)), some (.dat (.int 2000))] S = .ok (.dat (.bool true)) S := by
    have b : evE (run TT GL (n + 1)) GL (.cmp .le (.var 0) (.var 2)) [some (.dat (iN t)), some (.dat (.int 0)), some (.dat (.int 2000))] S = .ok (.dat (.bool true)) S := cmp_ok (v_ok rfl) (v_ok rfl) (by rw [c_le]; congr 1; simp; try omega)
    rw [e_or, e_or2, e_isN, v_ok rfl, bind_ok]
    rw [show isNone (Val.dat (.int 2000)) = false from rfl, bind_ok, toB_ok, bind_ok, if_neg (by decide), e_or1, b]
  exact run_rt (F := F_is_number) (by rfl) (by rfl) (by decide) (by rfl) (by rfl) (by rfl) (s_nx (if_f e1 (s_nil _ _ _ _)) (s_rt (r_rt e2)))
theorem e_call3 {C : Nat → List Val → Sto → R Val} {G : List PyData} {ρ : Rho} {S : Sto} {f : Nat} {a b c : Ex} {u v w x : Val} (h1 : evE C G a ρ S = .ok u S) (h2 : evE C G b ρ S = .ok v S) (h3 : evE C G c ρ S = .ok w S) (h : C f [u, v, w] S = .ok x S) : evE C G (.callK f [] [0, 1, 2] [] [a, b, c] []) ρ S = .ok x S := by
  rw [e_call, l_cons, h1, bind_ok, l_cons, h2, bind_ok, l_cons, h3, bind_ok, l_nil, bind_ok, bind_ok, bind_ok, bind_ok, l_nil, bind_ok]
  exact (show callKR C f 3 0 [0, 1, 2] [] [u, v, w] [] S = C f [u, v, w] S from rfl).trans h
theorem r_checknum {t : Nat} (ht : t ≤ 2000) : run TT GL (n + 3) 3 [.dat (iN t), .dat (.int 0), .dat (.int 2000)] S = .ok (.dat .none) S :=
  run_nx (F := F_check_number) (by rfl) (by rfl) (by decide) (by rfl) (by rfl) (by rfl) (s_nx (if_f (not_ok (e_call3 (v_ok rfl) (v_ok rfl) (v_ok rfl) (r_number n S ht))) (s_nil _ _ _ _)) (s_nil _ _ _ _))
theorem e_callD {C : Nat → List Val → Sto → R Val} {G : List PyData} {ρ : Rho} {S : Sto} {f : Nat} {a : Ex} {u x : Val} (h1 : evE C G a ρ S = .ok u S) (h : C f [u, .dat (.int 0), .dat (.int 2000)] S = .ok x S) : evE C G (.callK f [] [0, 1, 2] [0, 2000] [a] []) ρ S = .ok x S := by
  rw [e_call, l_cons, h1, bind_ok, l_nil, bind_ok, bind_ok, l_nil, bind_ok]
  exact (show callKR C f 1 0 [0, 1, 2] [0, 2000] [u] [] S = C f [u, .dat (.int 0), .dat (.int 2000)] S from rfl).trans h
include h in
theorem r_lineat {t : Nat} (ht : t ≤ 2000) : run TT GL (n + 4) 14 [.dat (ln N p g), .dat (iN t)] S = .ok (.dat (iN (A N p g t))) S :=
  run_rt (F := F_line_at) (by rfl) (by rfl) (by decide) (by rfl) (by rfl) (by rfl) (s_nx (x_nx (e_call1 (v_ok rfl) (r_checkline n h S))) (s_nx (x_nx (e_callD (v_ok rfl) (r_checknum n S ht))) (s_rt (r_rt (e_call2 (v_ok rfl) (v_ok rfl) (r_at (n + 2) h (by omega) S))))))
include h in
theorem r_leastline : run TT GL (n + 4) 15 [.dat (ln N p g)] S = .ok (.dat (ln (lN N p g) (lD N p g) (lG N p g))) S :=
  run_rt (F := F_least_line) (by rfl) (by rfl) (by decide) (by rfl) (by rfl) (by rfl) (s_nx (x_nx (e_call1 (v_ok rfl) (r_checkline n h S))) (s_rt (r_rt (e_call1 (v_ok rfl) (r_least n h S)))))
include h in
theorem r_lat {t : Nat} (ht : t < 100000) : run TT GL (n + 1) 21 [.dat (ln N p g), .dat (.int (t : Int))] S = .ok (.dat (iN (A N p g t))) S := by
  have e := r_at n h ht S
  rw [run_eq (F := F_at) (by rfl) (by rfl) (by decide)] at e
  rw [run_eq (F := F__law_line_at) (by rfl) (by rfl) (by decide)]
  exact e
/-! the common divisor -/
theorem gcd_loop {C : Nat → List Val → Sto → R Val} {body : List Sx} (hb : ∀ a b : Nat, 0 < b → evSs C GL body [some (.dat (iN a)), some (.dat (iN b))] S = .nx [some (.dat (iN b)), some (.dat (iN (a % b)))] S) : ∀ (b a m : Nat), b < m →
    loopW (fun ρ S => (evE C GL (.cmp .gt (.var 1) (.con (.int 0))) ρ S).bind toB) (evSs C GL body) m [some (.dat (iN a)), some (.dat (iN b))] S = .nx [some (.dat (iN (Nat.gcd a b))), some (.dat (iN 0))] S := by
  intro b
  induction b using Nat.strongRecOn with
  | _ b ih =>
    intro a m hm
    obtain ⟨m, rfl⟩ : ∃ k, m = k + 1 := ⟨m - 1, by omega⟩
    have ht : (evE C GL (.cmp .gt (.var 1) (.con (.int 0))) [some (.dat (iN a)), some (.dat (iN b))] S).bind toB = .ok (decide (0 < b)) S := by
      rw [cmp_ok (z := decide (0 < b)) (v_ok rfl) (e_con _ _ _ _ _) (by rw [c_gt]; congr 1; simp), bind_ok, toB_ok]
    by_cases h0 : 0 < b
    · rw [decide_eq_true h0] at ht
      refine w_true ht (hb a b h0) ?_
      have hlt := Nat.mod_lt a h0
      rw [ih (a % b) hlt b m (by omega)]
      rw [Nat.gcd_comm a b, Nat.gcd_rec b a, Nat.gcd_comm (a % b) b]
    · obtain rfl : b = 0 := by omega
      rw [decide_eq_false h0] at ht
      rw [Nat.gcd_zero_right]
      exact w_false ht
theorem mod_nat {a b : Nat} (hb : 0 < b) : binD .mod (iN a) (iN b) = some (iN (a % b)) := by
  rw [b_mod _ _ (by omega)]
  unfold iN
  rw [Int.natCast_emod]
theorem div_nat {a b : Nat} (hb : 0 < b) (h2 : b < 1073741824) : binD .fdiv (iN a) (iN b) = some (iN (a / b)) := by
  rw [b_fdiv _ _ (by omega) (by omega)]
  unfold iN
  rw [Int.natCast_ediv]
theorem r_gcd {a b : Nat} (hb : b < 1000) : run TT GL (n + 1) 10 [.dat (iN a), .dat (iN b)] S = .ok (.dat (iN (Nat.gcd a b))) S :=
  run_rt (F := F_common_divisor) (by rfl) (by rfl) (by decide) (by rfl) (by rfl) (by rfl) (s_nx ((s_whl _ _ _ _ _ _ _).trans (gcd_loop S (fun a b h0 => s_nx (p_nx (v_ok rfl) (bin_ok (v_ok rfl) (v_ok rfl) (mod_nat h0)) rfl) (s_nil _ _ _ _)) b a 100000 (by omega))) (s_rt (r_rt (v_ok rfl))))
theorem r_div {a b : Nat} (hb : b < 1000) : run TT GL (n + 1) 24 [.dat (iN a), .dat (iN b)] S = .ok (.dat (iN (Nat.gcd a b))) S :=
  run_rt (F := F__law_divisor) (by rfl) (by rfl) (by decide) (by rfl) (by rfl) (by rfl) (s_nx ((s_whl _ _ _ _ _ _ _).trans (gcd_loop S (fun a b h0 => s_nx (p_nx (v_ok rfl) (blt1_ok (bin_ok (v_ok rfl) (v_ok rfl) (mod_nat h0)) (bl_int _)) rfl) (s_nil _ _ _ _)) b a 100000 (by omega))) (s_rt (r_rt (v_ok rfl))))
def shr (p g : Nat) : PyData := .tuple [iN (g / Nat.gcd p g), iN (p / Nat.gcd p g)]
include h in
theorem r_share : run TT GL (n + 2) 11 [.dat (ln N p g)] S = .ok (.dat (shr p g)) S := by
  have h1 := h.p1
  have h2 := h.pl
  have h3 := h.lb
  have h4 := h.gb
  have gp : 0 < Nat.gcd p g := Nat.gcd_pos_of_pos_left g h1
  have gb : Nat.gcd p g ≤ p := Nat.gcd_le_left g h1
  have t0 : evE (run TT GL (n + 1)) GL (.callK 10 [] [0, 1] [] [(.idx (.var 0) (.con (.int 1))), (.blt .abs [(.idx (.var 0) (.con (.int 2)))])] []) [some (.dat (ln N p g)), none] S = .ok (.dat (iN (Nat.gcd p g))) S :=
    e_call2 (idx_ok (v_ok rfl) (e_con _ _ _ _ _) (ix_ln1 N p g)) (blt1_ok (z := iN g) (idx_ok (v_ok rfl) (e_con _ _ _ _ _) (ix_ln2 N p g)) (by rw [bl_abs, if_neg (by omega)])) (r_gcd n S (by omega))
  have t1 : evE (run TT GL (n + 1)) GL (.tup [(.bin .fdiv (.idx (.var 0) (.con (.int 2))) (.var 1)), (.bin .fdiv (.idx (.var 0) (.con (.int 1))) (.var 1))]) [some (.dat (ln N p g)), some (.dat (iN (Nat.gcd p g)))] S = .ok (.dat (shr p g)) S := by
    have q1 : evE (run TT GL (n + 1)) GL (.bin .fdiv (.idx (.var 0) (.con (.int 2))) (.var 1)) [some (.dat (ln N p g)), some (.dat (iN (Nat.gcd p g)))] S = .ok (.dat (iN (g / Nat.gcd p g))) S := bin_ok (idx_ok (v_ok rfl) (e_con _ _ _ _ _) (ix_ln2 N p g)) (v_ok rfl) (div_nat gp (by omega))
    have q2 : evE (run TT GL (n + 1)) GL (.bin .fdiv (.idx (.var 0) (.con (.int 1))) (.var 1)) [some (.dat (ln N p g)), some (.dat (iN (Nat.gcd p g)))] S = .ok (.dat (iN (p / Nat.gcd p g))) S := bin_ok (idx_ok (v_ok rfl) (e_con _ _ _ _ _) (ix_ln1 N p g)) (v_ok rfl) (div_nat gp (by omega))
    rw [e_tup, l_cons, q1, bind_ok, l_cons, q2, bind_ok, l_nil, bind_ok, bind_ok, bind_ok, tupR_2]
    rfl
  exact run_rt (F := F_share) (by rfl) (by rfl) (by decide) (by rfl) (by rfl) (by rfl) (s_nx (a_nx t0 (by rfl)) (s_rt (r_rt t1)))
include h in
theorem r_shareof : run TT GL (n + 4) 16 [.dat (ln N p g)] S = .ok (.dat (shr p g)) S :=
  run_rt (F := F_share_of) (by rfl) (by rfl) (by decide) (by rfl) (by rfl) (by rfl) (s_nx (x_nx (e_call1 (v_ok rfl) (r_checkline n h S))) (s_rt (r_rt (e_call1 (v_ok rfl) (r_share (n + 1) h S)))))
end
end Dw

set_option Elab.async false
set_option linter.all false
set_option maxRecDepth 100000
set_option maxHeartbeats 4000000
/-! _law_is_least. -/
namespace Dw
open PySem
theorem nth_neg {α : Type} (l : List α) {i : Int} (j : Nat) (h : i < 0) (hj : i + l.length = j) : nth l i = l[j]? := by
  unfold nth
  rw [if_neg (by omega), if_pos (by omega), hj]
  rfl
theorem loop_inv {body : Rho → Sto → SR} {S : Sto} {i : Nat} {I : Rho → Prop} : ∀ (vs : List Val) (ρ : Rho), I ρ → (∀ v ∈ vs, ∀ ρ, I ρ → ∃ ρ', body (ρ.set i (some v)) S = .nx ρ' S ∧ I ρ') → ∃ ρ', loopF (.name i) body vs ρ S = .nx ρ' S ∧ I ρ'
  | [], ρ, h, _ => ⟨ρ, rfl, h⟩
  | v :: vs, ρ, h, hb => by
    obtain ⟨ρ1, e1, h1⟩ := hb v List.mem_cons_self ρ h
    obtain ⟨ρ2, e2, h2⟩ := loop_inv vs ρ1 h1 fun w hw => hb w (List.mem_cons_of_mem _ hw)
    refine ⟨ρ2, ?_, h2⟩
    unfold loopF
    rw [setTg_name]
    simp only [e1]
    exact e2
theorem neg_ok {C : Nat → List Val → Sto → R Val} {G : List PyData} {ρ : Rho} {S S1 : Sto} {a : Ex} {i : Int} (h : evE C G a ρ S = .ok (.dat (.int i)) S1) : evE C G (.neg a) ρ S = .ok (.dat (.int (-i))) S1 := by
  rw [e_neg, h, bind_ok]
  rfl
theorem eq_shaped {a b : List PyData} (h1 : SeqAt.shaped (.list a) = true) (h2 : SeqAt.shaped (.list b) = true) : cmpD .eq (.list a) (.list b) = some (PyData.eqv (.list a) (.list b)) := by
  show (if SeqAt.shaped (.list a) = true ∧ SeqAt.shaped (.list b) = true then some (PyData.eqv (.list a) (.list b)) else none) = _
  rw [if_pos ⟨h1, h2⟩]
theorem nice_nats {l : List Nat} (hl : ∀ x ∈ l, x < 1000000000000) : SeqAt.shaped (.list (l.map iN)) = true :=
  Nice.shape (k := 1) (nice_lst (m := 41) (k := 0) fun d hd => by
    rw [List.mem_map] at hd
    obtain ⟨x, hx, rfl⟩ := hd
    exact nice_int (hl x hx)) (by omega)
theorem lst0 {C : Nat → List Val → Sto → R Val} {G : List PyData} {ρ : Rho} {S : Sto} : evE C G (.lst []) ρ S = .ok (.dat (.list [])) S := by
  rw [e_lst, l_nil, bind_ok]
  rfl
/-- a comprehension over range(p) that makes numbers -/
theorem cp_nats {C : Nat → List Val → Sto → R Val} {G : List PyData} {ρ : Rho} {S : Sto} {e : Ex} {i : Nat} {it : It} {p : Nat} {f : Nat → Nat} (hp : p ≤ 1000) (hi : evI C G it ρ S = .ok ((List.range p).map fun k => Val.dat (iN k)) S)
    (he : ∀ k, k < p → evE C G e ((ρ.set i none).set i (some (.dat (iN k)))) S = .ok (.dat (iN (f k))) S) : evE C G (.cp e (.name i) it [] [i]) ρ S = .ok (.dat (.list (((List.range p).map f).map iN))) S := by
  rw [e_cp, hi, bind_ok]
  rw [if_pos (show (List.map _ (List.range p)).length ≤ LINE from line_big (by rw [List.length_map, List.length_range]; omega)), compL_dat (g := fun v => match v with
    | .dat (.int j) => iN (f j.toNat)
    | _ => .none)]
  · rw [bind_ok, lstR_dat, List.map_map, List.map_map]
    refine congrArg (fun l => R.ok (Val.dat (PyData.list l)) S) (List.map_congr_left fun i hi => ?_)
    simp only [Function.comp, Int.toNat_natCast]
  · intro v hv
    simp only [List.mem_map, List.mem_range] at hv
    obtain ⟨k, hk, rfl⟩ := hv
    rw [setTg_name]
    simp only [wipe_1, if_nil, bind_ok, if_true]
    rw [he k hk, bind_ok, calm_ok']
    simp only [Int.toNat_natCast]
/-- .. that picks some of them -/
theorem cp_pick {C : Nat → List Val → Sto → R Val} {G : List PyData} {ρ : Rho} {S : Sto} {e c : Ex} {i : Nat} {it : It} {p : Nat} {q : Nat → Bool} (hp : p ≤ 1000) (hi : evI C G it ρ S = .ok ((List.range p).map fun k => Val.dat (iN k)) S)
    (hc : ∀ k, k < p → evE C G c ((ρ.set i none).set i (some (.dat (iN k)))) S = .ok (.dat (.bool (q k))) S)
    (he : ∀ k, k < p → evE C G e ((ρ.set i none).set i (some (.dat (iN k)))) S = .ok (.dat (iN k)) S) : evE C G (.cp e (.name i) it [c] [i]) ρ S = .ok (.dat (.list (((List.range p).filter q).map iN))) S := by
  rw [e_cp, hi, bind_ok]
  rw [if_pos (show (List.map _ (List.range p)).length ≤ LINE from line_big (by rw [List.length_map, List.length_range]; omega)), compL_opt (g := fun v => match v with
    | .dat (.int j) => if q j.toNat = true then some (iN j.toNat) else none
    | _ => none)]
  · rw [bind_ok, lstR_dat, List.filterMap_map]
    refine congrArg (fun l => R.ok (Val.dat (PyData.list l)) S) ?_
    have : ∀ l : List Nat, List.filterMap ((fun v => match v with
      | Val.dat (.int j) => if q j.toNat = true then some (iN j.toNat) else none
      | _ => none) ∘ fun k : Nat => Val.dat (iN k)) l = (l.filter q).map iN := by
      intro l
      induction l with
      | nil => rfl
      | cons x l ih =>
        rw [List.filterMap_cons]
        simp only [Function.comp, Int.toNat_natCast]
        by_cases hq : q x = true
        · rw [if_pos hq, List.filter_cons_of_pos hq, List.map_cons, ← ih]
        · rw [if_neg hq, List.filter_cons_of_neg hq, ← ih]
    exact this _
  · intro v hv
    simp only [List.mem_map, List.mem_range] at hv
    obtain ⟨k, hk, rfl⟩ := hv
    rw [setTg_name]
    simp only [wipe_1, if_one]
    rw [hc k hk, bind_ok, toB_ok, bind_ok]
    simp only [Int.toNat_natCast]
    by_cases hq : q k = true
    · rw [if_pos hq, if_pos hq, he k hk, bind_ok, calm_ok']
      rfl
    · rw [if_neg hq, if_neg hq, calm_ok']
      rfl
theorem rng1_nat {C : Nat → List Val → Sto → R Val} {G : List PyData} {ρ : Rho} {S : Sto} {e : Ex} {p : Nat} (hp : p < 1000000000) (h : evE C G e ρ S = .ok (.dat (iN p)) S) : evI C G (.rng1 e) ρ S = .ok ((List.range p).map fun k => Val.dat (iN k)) S := by
  rw [i_rng1, h, bind_ok, toI_ok, bind_ok, rangeV_nat' 0 p (a := 0) (b := (p : Int)) rfl rfl (by omega) (by omega) rfl, give_some]
  simp
section
variable (n : Nat) {N : List Nat} {p g : Nat} (h : LW N p g) (S : Sto)
abbrev ilR (N : List Nat) (p g : Nat) (x4 x5 x6 x7 : Option Val) : Rho := [some (.dat (ln N p g)), some (.dat (.tuple (N.map iN))), some (.dat (iN p)), some (.dat (iN g)), x4, x5, x6, x7]
theorem len_ok {C : Nat → List Val → Sto → R Val} {G : List PyData} {ρ : Rho} {S : Sto} {i : Nat} {N : List Nat} (h : ρ[i]? = some (some (.dat (.tuple (N.map iN))))) : evE C G (.blt .len [(.var i)]) ρ S = .ok (.dat (iN N.length)) S :=
  blt1_ok (v_ok h) (by rw [bl_lenT, List.length_map])
abbrev ilC2 : Ex := .cmp .eq (.blt .int1 [(.bin .mod (.bin .mul (.var 3) (.var 4)) (.var 2))]) (.con (.int 0))
abbrev ilB : List Sx := [.ife (.and [(.cmp .eq (.blt .int1 [(.bin .mod (.var 2) (.var 4))]) (.con (.int 0))), (.cmp .eq (.blt .int1 [(.bin .mod (.bin .mul (.var 3) (.var 4)) (.var 2))]) (.con (.int 0)))])
    [.asg (.name 5) (.bin .fdiv (.bin .mul (.var 3) (.var 4)) (.var 2)),
    .asg (.name 6) (.cp (.callK 21 [] [0, 1] [] [(.var 0), (.bin .add (.blt .len [(.var 1)]) (.var 7))] []) (.name 7) (.rng1 (.var 2)) [] [7]),
    .ife (.cmp .eq (.cp (.var 7) (.name 7) (.rng1 (.var 2)) [(.cmp .ne (.callK 21 [] [0, 1] [] [(.var 0), (.bin .add (.bin .add (.blt .len [(.var 1)]) (.var 7)) (.var 4))] []) (.bin .add (.idx (.var 6) (.var 7)) (.var 5)))] [7]) (.lst []))
    [.ret (.con (.bool false))]
    []]
    []]
theorem add_nat (a b : Nat) : binD .add (iN a) (iN b) = some (iN (a + b)) := by
  rw [b_add]
  unfold iN
  rw [Int.natCast_add]
theorem mul_nat' {a b : Nat} (ha : a < 1000000000000) (hb : b < 1000000000000) : binD .mul (iN a) (iN b) = some (iN (a * b)) := by
  rw [b_mul _ _ (mul_nat ha hb)]
  unfold iN
  rw [Int.natCast_mul]
theorem eq0_nat (a : Nat) : cmpD .eq (iN a) (.int 0) = some (decide (a = 0)) := by
  rw [c_eq]
  congr 1
  by_cases h : a = 0
  · subst h; rfl
  · rw [decide_eq_false h]
    simpa using h
include h in
theorem il_body (h2 : ∀ less, 1 ≤ less → less < p → p % less = 0 → g * less % p = 0 → ∃ k, k < p ∧ A N p g (N.length + k + less) ≠ A N p g (N.length + k) + g * less / p) {less : Nat} (l1 : 1 ≤ less) (l2 : less < p) (x5 x6 x7 : Option Val) :
    ∃ y5 y6, evSs (run TT GL (n + 1)) GL ilB (ilR N p g (some (.dat (iN less))) x5 x6 x7) S = .nx (ilR N p g (some (.dat (iN less))) y5 y6 x7) S := by
  have p1 := h.p1
  have pl := h.pl
  have lb := h.lb
  have gb := h.gb
  have c1 : evE (run TT GL (n + 1)) GL (.cmp .eq (.blt .int1 [(.bin .mod (.var 2) (.var 4))]) (.con (.int 0))) (ilR N p g (some (.dat (iN less))) x5 x6 x7) S = .ok (.dat (.bool (decide (p % less = 0)))) S :=
    cmp_ok (blt1_ok (bin_ok (v_ok rfl) (v_ok rfl) (mod_nat l1)) (bl_int _)) (e_con _ _ _ _ _) (eq0_nat _)
  have c2 : evE (run TT GL (n + 1)) GL (.cmp .eq (.blt .int1 [(.bin .mod (.bin .mul (.var 3) (.var 4)) (.var 2))]) (.con (.int 0))) (ilR N p g (some (.dat (iN less))) x5 x6 x7) S = .ok (.dat (.bool (decide (g * less % p = 0)))) S :=
    cmp_ok (blt1_ok (bin_ok (bin_ok (v_ok rfl) (v_ok rfl) (mul_nat' (by omega) (by omega))) (v_ok rfl) (mod_nat p1)) (bl_int _)) (e_con _ _ _ _ _) (eq0_nat _)
  by_cases k1 : p % less = 0
  · rw [decide_eq_true k1] at c1
    by_cases k2 : g * less % p = 0
    · rw [decide_eq_true k2] at c2
      have cc := (e_and (run TT GL (n + 1)) GL (ilR N p g (some (.dat (iN less))) x5 x6 x7) S _).trans (and2_t c1 ((e_and1 _ _ _ _ _).trans c2))
      have t5 : evE (run TT GL (n + 1)) GL (.bin .fdiv (.bin .mul (.var 3) (.var 4)) (.var 2)) (ilR N p g (some (.dat (iN less))) x5 x6 x7) S = .ok (.dat (iN (g * less / p))) S :=
        bin_ok (bin_ok (v_ok rfl) (v_ok rfl) (mul_nat' (by omega) (by omega))) (v_ok rfl) (div_nat p1 (by omega))
      have t6 : evE (run TT GL (n + 1)) GL (.cp (.callK 21 [] [0, 1] [] [(.var 0), (.bin .add (.blt .len [(.var 1)]) (.var 7))] []) (.name 7) (.rng1 (.var 2)) [] [7]) (ilR N p g (some (.dat (iN less))) (some (.dat (iN (g * less / p)))) x6 x7) S = .ok (.dat (.list (((List.range p).map fun k => A N p g (N.length + k)).map iN))) S :=
        cp_nats (by omega) (rng1_nat (by omega) (v_ok rfl)) fun k hk => e_call2 (v_ok rfl) (bin_ok (len_ok rfl) (v_ok rfl) (add_nat _ _)) (r_lat n h S (by omega))
      have t7 : evE (run TT GL (n + 1)) GL (.cp (.var 7) (.name 7) (.rng1 (.var 2)) [(.cmp .ne (.callK 21 [] [0, 1] [] [(.var 0), (.bin .add (.bin .add (.blt .len [(.var 1)]) (.var 7)) (.var 4))] []) (.bin .add (.idx (.var 6) (.var 7)) (.var 5)))] [7]) (ilR N p g (some (.dat (iN less))) (some (.dat (iN (g * less / p)))) (some (.dat (.list (((List.range p).map fun k => A N p g (N.length + k)).map iN)))) x7) S = .ok (.dat (.list (((List.range p).filter fun k => !((A N p g (N.length + k + less) : Int) == ((A N p g (N.length + k) + g * less / p : Nat) : Int))).map iN))) S := by
        refine cp_pick (by omega) (rng1_nat (by omega) (v_ok rfl)) (fun k hk => ?_) fun k hk => v_ok rfl
        have g1 : nth (((List.range p).map fun k => A N p g (N.length + k)).map iN) (k : Int) = some (iN (A N p g (N.length + k))) := by
          rw [nth_nat, List.getElem?_map, List.getElem?_map, List.getElem?_range hk, Option.map_some, Option.map_some]
        exact cmp_ok (e_call2 (v_ok rfl) (bin_ok (bin_ok (len_ok rfl) (v_ok rfl) (add_nat _ _)) (v_ok rfl) (add_nat _ _)) (r_lat n h S (by omega))) (bin_ok (idx_ok (v_ok rfl) (v_ok rfl) ((ix_l _ _).trans g1)) (v_ok rfl) (add_nat _ _)) (c_ne _ _)
      obtain ⟨k0, hk0, hne⟩ := h2 less l1 l2 k1 k2
      have e8 : PyData.eqv (.list (((List.range p).filter fun k => !((A N p g (N.length + k + less) : Int) == ((A N p g (N.length + k) + g * less / p : Nat) : Int))).map iN)) (.list []) = false := by
        have hm : k0 ∈ (List.range p).filter fun k => !((A N p g (N.length + k + less) : Int) == ((A N p g (N.length + k) + g * less / p : Nat) : Int)) := by
          rw [List.mem_filter]
          refine ⟨List.mem_range.mpr hk0, ?_⟩
          have : ¬ ((A N p g (N.length + k0 + less) : Int) = ((A N p g (N.length + k0) + g * less / p : Nat) : Int)) := by omega
          simpa using this
        cases hl : (List.range p).filter fun k => !((A N p g (N.length + k + less) : Int) == ((A N p g (N.length + k) + g * less / p : Nat) : Int)) with
        | nil => rw [hl] at hm; cases hm
        | cons a l => simp [PyData.eqv, PyData.eqvAll]
      have t8 := cmp_ok (op := .eq) t7 lst0 ((eq_shaped (nice_nats fun x hx => by
        rw [List.mem_filter, List.mem_range] at hx
        omega) (by decide +kernel)).trans (congrArg some e8))
      exact ⟨_, _, s_nx (if_t cc (s_nx (a_nx t5 rfl) (s_nx (a_nx t6 rfl) (s_nx (if_f t8 (s_nil _ _ _ _)) (s_nil _ _ _ _))))) (s_nil _ _ _ _)⟩
    · rw [decide_eq_false k2] at c2
      have cc := (e_and (run TT GL (n + 1)) GL (ilR N p g (some (.dat (iN less))) x5 x6 x7) S _).trans (and2_t c1 ((e_and1 _ _ _ _ _).trans c2))
      exact ⟨_, _, s_nx (if_f cc (s_nil _ _ _ _)) (s_nil _ _ _ _)⟩
  · rw [decide_eq_false k1] at c1
    have cc := (e_and (run TT GL (n + 1)) GL (ilR N p g (some (.dat (iN less))) x5 x6 x7) S _).trans (and2_f (b := ilC2) (r := []) c1)
    exact ⟨_, _, s_nx (if_f cc (s_nil _ _ _ _)) (s_nil _ _ _ _)⟩
include h in
theorem r_isleast (h1 : N.length = p ∨ ∃ k, N.length = p + k + 1 ∧ N.getD (p + k) 0 ≠ N.getD k 0 + g)
    (h2 : ∀ less, 1 ≤ less → less < p → p % less = 0 → g * less % p = 0 → ∃ k, k < p ∧ A N p g (N.length + k + less) ≠ A N p g (N.length + k) + g * less / p) : run TT GL (n + 2) 22 [.dat (ln N p g)] S = .ok (.dat (.bool true)) S := by
  have p1 := h.p1
  have pl := h.pl
  have lb := h.lb
  have t1 : evE (run TT GL (n + 1)) GL (.and [(.cmp .gt (.blt .len [(.var 1)]) (.var 2)), (.cmp .eq (.idx (.var 1) (.neg (.con (.int 1)))) (.bin .add (.idx (.var 1) (.bin .sub (.neg (.con (.int 1))) (.var 2))) (.var 3)))]) (ilR N p g none none none none) S = .ok (.dat (.bool false)) S := by
    rcases h1 with e | ⟨k, e, hne⟩
    · have a : evE (run TT GL (n + 1)) GL (.cmp .gt (.blt .len [(.var 1)]) (.var 2)) (ilR N p g none none none none) S = .ok (.dat (.bool false)) S :=
        cmp_ok (len_ok rfl) (v_ok rfl) (by rw [c_gt, decide_eq_false (show ¬ (p : Int) < (N.length : Int) by omega)])
      rw [e_and, and2_f a]
    · have a : evE (run TT GL (n + 1)) GL (.cmp .gt (.blt .len [(.var 1)]) (.var 2)) (ilR N p g none none none none) S = .ok (.dat (.bool true)) S :=
        cmp_ok (len_ok rfl) (v_ok rfl) (by rw [c_gt, decide_eq_true (show (p : Int) < (N.length : Int) by omega)])
      have g1 : nth (N.map iN) (-1) = some (iN (N.getD (p + k) 0)) := by
        rw [nth_neg _ (p + k) (by omega) (by rw [List.length_map]; omega), N_get (by omega)]
      have g2 : nth (N.map iN) (-1 - (p : Int)) = some (iN (N.getD k 0)) := by
        rw [nth_neg _ k (by omega) (by rw [List.length_map]; omega), N_get (by omega)]
      have b : evE (run TT GL (n + 1)) GL (.cmp .eq (.idx (.var 1) (.neg (.con (.int 1)))) (.bin .add (.idx (.var 1) (.bin .sub (.neg (.con (.int 1))) (.var 2))) (.var 3))) (ilR N p g none none none none) S = .ok (.dat (.bool false)) S :=
        cmp_ok (idx_ok (v_ok rfl) (neg_ok (e_con _ _ _ _ _)) ((ix_t _ _).trans g1)) (bin_ok (idx_ok (v_ok rfl) (bin_ok (neg_ok (e_con _ _ _ _ _)) (v_ok rfl) (b_sub _ _)) ((ix_t _ _).trans g2)) (v_ok rfl) (add_nat _ _)) (by
          rw [c_eq]
          congr 1
          simp only [beq_eq_false_iff_ne]
          omega)
      rw [e_and, and2_t a ((e_and1 _ _ _ _ _).trans b)]
  have hv : evI (run TT GL (n + 1)) GL (.rng2 (.con (.int 1)) (.var 2)) (ilR N p g none none none none) S = .ok ((List.range (p - 1)).map fun (i : Nat) => Val.dat (.int ((1 + i : Nat) : Int))) S := by
    rw [i_rng2, e_con, bind_ok, v_ok rfl, bind_ok, toI_ok, bind_ok, toI_ok, bind_ok, rangeV_nat' 1 p (a := 1) (b := (p : Int)) rfl rfl (by omega) (by omega) rfl, give_some]
  obtain ⟨ρ', e1, ⟨x4, x5, x6, x7, rfl⟩⟩ := loop_inv (body := evSs (run TT GL (n + 1)) GL ilB) (S := S) (i := 4) (I := fun ρ => ∃ x4 x5 x6 x7, ρ = ilR N p g x4 x5 x6 x7) ((List.range (p - 1)).map fun (i : Nat) => Val.dat (.int ((1 + i : Nat) : Int))) (ilR N p g none none none none) ⟨_, _, _, _, rfl⟩ (fun v hv ρ hρ => by
    obtain ⟨x4, x5, x6, x7, rfl⟩ := hρ
    simp only [List.mem_map, List.mem_range] at hv
    obtain ⟨i, hi, rfl⟩ := hv
    obtain ⟨y5, y6, e⟩ := il_body n h S h2 (less := 1 + i) (by omega) (by omega) x5 x6 x7
    exact ⟨_, e, _, _, _, _, rfl⟩)
  have t0 : setTg (.names [1, 2, 3]) (.dat (ln N p g)) [some (.dat (ln N p g)), none, none, none, none, none, none, none] = some (ilR N p g none none none none) := rfl
  exact run_rt (F := F__law_is_least) (by rfl) (by rfl) (by decide) (by rfl) (by rfl) (by rfl) (s_nx (a_nx (v_ok (by rfl)) t0) (s_nx (if_f t1 (s_nil _ _ _ _)) (s_nx (f_nx hv e1) (s_rt (r_rt (e_con _ _ _ _ _))))))
end
section
variable (n : Nat) {N : List Nat} {p g : Nat} (h : LW N p g) (S : Sto)
include h in
theorem l_isleast : run TT GL (n + 2) 22 [.dat (ln (lN N p g) (lD N p g) (lG N p g))] S = .ok (.dat (.bool true)) S := by
  obtain ⟨d1, d2, d3⟩ := l_d h
  have L := l_LW h
  have up := l_up h
  refine r_isleast n L S ?_ fun less l1 l2 l3 l4 => ?_
  · rcases down_end (N := N) (p := p) (g := g) (d := lD N p g) (c := lG N p g) (N.length - p) with q | ⟨k, q1, q2⟩
    · left
      have q : lS N p g = 0 := q
      rw [l_len, q]
      omega
    · right
      have q1 : lS N p g = k + 1 := q1
      refine ⟨k, by rw [l_len, q1]; omega, ?_⟩
      rw [l_get (by omega), l_get (by omega), Nat.add_comm (lD N p g) k]
      exact q2
  · refine Classical.byContradiction fun hn => ?_
    have hb : ∀ k, k < lD N p g → A N p g (lS N p g + lD N p g + k + less) = A N p g (lS N p g + lD N p g + k) + lG N p g * less / lD N p g := by
      intro k hk
      refine Classical.byContradiction fun z => hn ⟨k, hk, ?_⟩
      rw [l_A h, l_A h, l_len]
      exact z
    have all : ∀ t, lS N p g ≤ t → A N p g (t + less) = A N p g t + lG N p g * less / lD N p g := by
      intro t
      induction t using Nat.strongRecOn with
      | _ t ih =>
        intro ht
        by_cases h1 : t < lS N p g + lD N p g
        · have := hb (t - lS N p g) (by omega)
          rw [show lS N p g + lD N p g + (t - lS N p g) + less = t + less + lD N p g by omega, show lS N p g + lD N p g + (t - lS N p g) = t + lD N p g by omega] at this
          have u1 := up (t + less) (by omega)
          have u2 := up t ht
          omega
        · have i := ih (t - lD N p g) (by omega) (by omega)
          have u1 := up (t - lD N p g + less) (by omega)
          have u2 := up (t - lD N p g) (by omega)
          rw [show t - lD N p g + less + lD N p g = t + less by omega] at u1
          rw [show t - lD N p g + lD N p g = t by omega] at u2
          omega
    refine l_none h (d' := less) (divs_mem.mpr ⟨l1, by omega, l3⟩) l2 fun t ht => ?_
    unfold st
    have a1 := all t ht
    have a2 := all (t + 1) (by omega)
    rw [show t + 1 + less = t + less + 1 by omega] at a2
    omega
end
end Dw

set_option Elab.async false
set_option linter.all false
set_option maxRecDepth 100000
set_option maxHeartbeats 4000000
/-! The draws. -/
namespace Dw
open PySem
/-- the well at place k: its digits, what is stirred, how often -/
def Wl (S : Sto) (k B : Nat) : Prop := ∃ a b c : Nat, S[k]? = some [iN a, iN b, iN c] ∧ b < 2147483563 ∧ c ≤ B
/-- nothing but the place k has changed -/
structure Upd (S S' : Sto) (k : Nat) : Prop where
  len : S'.length = S.length
  oth : ∀ j, j ≠ k → S'[j]? = S[j]?
theorem Upd.refl (S : Sto) (k : Nat) : Upd S S k := ⟨rfl, fun _ _ => rfl⟩
theorem Upd.trans {S S1 S2 : Sto} {k : Nat} (a : Upd S S1 k) (b : Upd S1 S2 k) : Upd S S2 k := ⟨b.len.trans a.len, fun j h => (b.oth j h).trans (a.oth j h)⟩
theorem Upd.set (S : Sto) (k : Nat) (l : List PyData) : Upd S (S.set k l) k := ⟨List.length_set, fun j h => List.getElem?_set_ne (Ne.symm h)⟩
theorem Wl.mono {S : Sto} {k B B' : Nat} (h : Wl S k B) (h2 : B ≤ B') : Wl S k B' := by
  obtain ⟨a, b, c, h1, h3, h4⟩ := h
  exact ⟨a, b, c, h1, h3, by omega⟩
theorem Wl.oth {S S' : Sto} {k j B : Nat} (h : Wl S j B) (u : Upd S S' k) (hj : j ≠ k) : Wl S' j B := by
  obtain ⟨a, b, c, h1, h3, h4⟩ := h
  exact ⟨a, b, c, by rw [u.oth j hj]; exact h1, h3, h4⟩
theorem run_rtS {T : List Fd} {Gc : List PyData} {n f : Nat} {vs : List Val} {S S' : Sto} {F : Fd} {d : PyData} {ρ : Rho} {b : List Sx} (h : T[f]? = some F) (h1 : vs.length = F.np) (h2 : F.np ≤ F.nn) (hk : F.keep = false) (hb : F.body = b)
    (hρ : vs.map some ++ List.replicate (F.nn - F.np) none = ρ) (he : evSs (run T Gc n) Gc b ρ S = .rt (.dat d) S') (hl : S'.length = S.length) : run T Gc (n + 1) f vs S = .ok (.dat d) S' := by
  rw [run_eq h h1 h2, hk, hb, hρ, he]
  show R.ok (Val.dat d) (S'.take S.length) = _
  rw [← hl, List.take_length]
section
variable {C : Nat → List Val → Sto → R Val} {G : List PyData} {ρ ρ1 : Rho} {S S1 S2 S3 : Sto} {a b o i e : Ex} {k : Nat} {l : List PyData} {z d : PyData}
theorem cidx_ok {j : Int} (h : evE C G a ρ S = .ok (.cell k) S1) (h' : evE C G b ρ S1 = .ok (.dat (.int j)) S2) (hk : S2[k]? = some l) (hz : nth l j = some z) : evE C G (.idx a b) ρ S = .ok (.dat z) S2 := by
  rw [e_idx, h, bind_ok, h', bind_ok]
  have e1 : deref S2 (.cell k) = some (.list l) := by
    show (S2[k]?).map PyData.list = _
    rw [hk]
    rfl
  have e2 : idxR (.cell k) (.dat (.int j)) S2 = give ((idxD (.list l) (.int j)).map .dat) S2 := by
    show (match deref S2 (.cell k), deref S2 (.dat (.int j)) with
      | some x, some y => give ((idxD x y).map Val.dat) S2
      | _, _ => .bad) = _
    rw [e1]
    rfl
  rw [e2, ix_l, hz]
  rfl
theorem sub_nx {j : Int} {l' : List PyData} (h0 : evE C G e ρ S = .ok (.dat d) S1) (h : evE C G o ρ S1 = .ok (.cell k) S2) (h' : evE C G i ρ S2 = .ok (.dat (.int j)) S3) (hk : S3[k]? = some l) (h1 : 0 ≤ j ∧ j < l.length) (hl : l.set j.toNat d = l') :
    evS C G (.sub o i e) ρ S = .nx ρ (S3.set k l') := by
  rw [s_sub, h0, st_ok]
  simp only [evSub]
  rw [h, st_ok, h', st_ok]
  simp only [setCell, hk]
  rw [if_pos h1, hl]
theorem subn_nx {j : Int} {m : Nat} {d2 : PyData} {l' : List PyData} (h0 : evE C G e ρ S = .ok (.dat (.tuple [d, d2])) S1) (h : evE C G o ρ S1 = .ok (.cell k) S2) (h' : evE C G i ρ S2 = .ok (.dat (.int j)) S3) (hk : S3[k]? = some l) (h1 : 0 ≤ j ∧ j < l.length) (hl : l.set j.toNat d = l')
    (hρ : ρ.set m (some (.dat d2)) = ρ1) : evS C G (.subn o i m e) ρ S = .nx ρ1 (S3.set k l') := by
  rw [s_subn, h0, st_ok]
  simp only [evSub]
  rw [h, st_ok, h', st_ok]
  simp only [setCell, hk]
  rw [if_pos h1, hl, hρ]
end
theorem set_same {S : Sto} {k : Nat} {l l' : List PyData} (h : S[k]? = some l) : (S.set k l')[k]? = some l' := List.getElem?_set_self (List.getElem?_eq_some_iff.mp h).1
theorem r_draw (n : Nat) {S : Sto} {k B m : Nat} (w : Wl S k B) (hB : B < 1000000) (m1 : 1 ≤ m) (m2 : m ≤ 1000) :
    ∃ r S', run TT GL (n + 1) 18 [.cell k, .dat (iN m)] S = .ok (.dat (iN r)) S' ∧ r < m ∧ Wl S' k (B + 1) ∧ Upd S S' k := by
  obtain ⟨a, b, c, hk, hb, hc⟩ := w
  have i0 : nth [iN a, iN b, iN c] 0 = some (iN a) := rfl
  have tst : evE (run TT GL n) GL (.cmp .gt (.idx (.var 0) (.con (.int 0))) (.con (.int 0))) [some (.cell k), some (.dat (iN m)), none, none] S = .ok (.dat (.bool (decide (0 < a)))) S :=
    cmp_ok (cidx_ok (v_ok rfl) (e_con _ _ _ _ _) hk i0) (e_con _ _ _ _ _) (by rw [c_gt]; congr 1; simp)
  by_cases h0 : 0 < a
  · rw [decide_eq_true h0] at tst
    have dm : evE (run TT GL n) GL (.blt .divmod [(.idx (.var 0) (.con (.int 0))), (.var 1)]) [some (.cell k), some (.dat (iN m)), none, none] S = .ok (.dat (.tuple [iN (a / m), iN (a % m)])) S := by
      rw [e_blt, l_cons, cidx_ok (v_ok rfl) (e_con _ _ _ _ _) hk i0, bind_ok, l_cons, v_ok rfl, bind_ok, l_nil, bind_ok, bind_ok, bind_ok, bltR_2]
      have : bltD .divmod [iN a, iN m] = some (.tuple [iN (a / m), iN (a % m)]) := by
        show (if 0 < (m : Int) ∧ (m : Int) < 1073741824 then some (PyData.tuple [.int ((a : Int) / (m : Int)), .int ((a : Int) % (m : Int))]) else none) = _
        rw [if_pos ⟨by omega, by omega⟩]
        unfold iN
        rw [Int.natCast_ediv, Int.natCast_emod]
      rw [this]
      rfl
    refine ⟨a % m, S.set k [iN (a / m), iN b, iN c], ?_, Nat.mod_lt _ m1, ⟨a / m, b, c, set_same hk, hb, by omega⟩, Upd.set _ _ _⟩
    exact run_rtS (F := F__law_draw) (by rfl) (by rfl) (by decide) (by rfl) (by rfl) (by rfl)
      (s_rt (if_t tst (s_nx (subn_nx (l' := [iN (a / m), iN b, iN c]) dm (v_ok rfl) (e_con _ _ _ _ _) hk ⟨by decide, by simp⟩ rfl rfl) (s_rt (r_rt (v_ok rfl)))))) List.length_set
  · rw [decide_eq_false h0] at tst
    have i1 : nth [iN a, iN b, iN (c + 1)] 1 = some (iN b) := rfl
    have i2 : nth [iN a, iN b, iN c] 2 = some (iN c) := rfl
    have i2' : nth [iN a, iN b, iN (c + 1)] 2 = some (iN (c + 1)) := rfl
    have k1 : (S.set k [iN a, iN b, iN (c + 1)])[k]? = some [iN a, iN b, iN (c + 1)] := set_same hk
    have t1 : evE (run TT GL n) GL (.bin .add (.idx (.var 0) (.con (.int 2))) (.con (.int 1))) [some (.cell k), some (.dat (iN m)), none, none] S = .ok (.dat (iN (c + 1))) S :=
      bin_ok (cidx_ok (v_ok rfl) (e_con _ _ _ _ _) hk i2) (e_con _ _ _ _ _) (add_nat c 1)
    have t2 : evE (run TT GL n) GL (.bin .mod (.blt .int1 [(.bin .add (.bin .add (.bin .mul (.idx (.var 0) (.con (.int 1))) (.con (.int 40037))) (.bin .mul (.con (.int 13001)) (.idx (.var 0) (.con (.int 2))))) (.con (.int 7)))]) (.con (.int 2147483563))) [some (.cell k), some (.dat (iN m)), none, none] (S.set k [iN a, iN b, iN (c + 1)]) = .ok (.dat (iN ((b * 40037 + 13001 * (c + 1) + 7) % 2147483563))) (S.set k [iN a, iN b, iN (c + 1)]) :=
      bin_ok (blt1_ok (bin_ok (bin_ok (bin_ok (cidx_ok (v_ok rfl) (e_con _ _ _ _ _) k1 i1) (e_con _ _ _ _ _) (mul_nat' (a := b) (b := 40037) (by omega) (by omega))) (bin_ok (e_con _ _ _ _ _) (cidx_ok (v_ok rfl) (e_con _ _ _ _ _) k1 i2') (mul_nat' (a := 13001) (b := c + 1) (by omega) (by omega))) (add_nat _ _)) (e_con _ _ _ _ _) (add_nat _ 7)) (bl_int _)) (e_con _ _ _ _ _) (mod_nat (b := 2147483563) (by omega))
    generalize hs : (b * 40037 + 13001 * (c + 1) + 7) % 2147483563 = s at t2
    have sb : s < 2147483563 := by rw [← hs]; exact Nat.mod_lt _ (by omega)
    have t3 : evE (run TT GL n) GL (.bin .mod (.blt .int1 [(.bin .add (.bin .mul (.var 2) (.bin .add (.bin .mod (.blt .int1 [(.var 2)]) (.con (.int 5009))) (.con (.int 20023)))) (.idx (.var 0) (.con (.int 2))))]) (.con (.int 2147483563))) [some (.cell k), some (.dat (iN m)), some (.dat (iN s)), none] (S.set k [iN a, iN b, iN (c + 1)]) = .ok (.dat (iN ((s * (s % 5009 + 20023) + (c + 1)) % 2147483563))) (S.set k [iN a, iN b, iN (c + 1)]) :=
      bin_ok (blt1_ok (bin_ok (bin_ok (v_ok rfl) (bin_ok (bin_ok (blt1_ok (v_ok rfl) (bl_int _)) (e_con _ _ _ _ _) (mod_nat (b := 5009) (by omega))) (e_con _ _ _ _ _) (add_nat _ 20023)) (mul_nat' (by omega) (by have := Nat.mod_lt s (show 0 < 5009 by omega); omega))) (cidx_ok (v_ok rfl) (e_con _ _ _ _ _) k1 i2') (add_nat _ _)) (bl_int _)) (e_con _ _ _ _ _) (mod_nat (b := 2147483563) (by omega))
    generalize hs2 : (s * (s % 5009 + 20023) + (c + 1)) % 2147483563 = s2 at t3
    have sb2 : s2 < 2147483563 := by rw [← hs2]; exact Nat.mod_lt _ (by omega)
    have k2 : ((S.set k [iN a, iN b, iN (c + 1)]).set k [iN a, iN s2, iN (c + 1)])[k]? = some [iN a, iN s2, iN (c + 1)] := set_same k1
    have j1 : nth [iN a, iN s2, iN (c + 1)] 1 = some (iN s2) := rfl
    have t4 : evE (run TT GL n) GL (.bin .mod (.blt .int1 [(.bin .fdiv (.idx (.var 0) (.con (.int 1))) (.con (.int 1013)))]) (.var 1)) [some (.cell k), some (.dat (iN m)), some (.dat (iN s)), none] ((S.set k [iN a, iN b, iN (c + 1)]).set k [iN a, iN s2, iN (c + 1)]) = .ok (.dat (iN (s2 / 1013 % m))) ((S.set k [iN a, iN b, iN (c + 1)]).set k [iN a, iN s2, iN (c + 1)]) :=
      bin_ok (blt1_ok (bin_ok (cidx_ok (v_ok rfl) (e_con _ _ _ _ _) k2 j1) (e_con _ _ _ _ _) (div_nat (b := 1013) (by omega) (by omega))) (bl_int _)) (v_ok rfl) (mod_nat m1)
    refine ⟨s2 / 1013 % m, (S.set k [iN a, iN b, iN (c + 1)]).set k [iN a, iN s2, iN (c + 1)], ?_, Nat.mod_lt _ m1, ⟨a, s2, c + 1, k2, sb2, by omega⟩, (Upd.set _ _ _).trans (Upd.set _ _ _)⟩
    exact run_rtS (F := F__law_draw) (by rfl) (by rfl) (by decide) (by rfl) (by rfl) (by rfl)
      (s_nx (if_f tst (s_nil _ _ _ _)) (s_nx (sub_nx (l' := [iN a, iN b, iN (c + 1)]) t1 (v_ok rfl) (e_con _ _ _ _ _) hk ⟨by decide, by simp⟩ rfl) (s_nx (a_nx t2 rfl) (s_nx (sub_nx (l' := [iN a, iN s2, iN (c + 1)]) t3 (v_ok rfl) (e_con _ _ _ _ _) k1 ⟨by decide, by simp⟩ rfl) (s_rt (r_rt t4)))))) (by rw [List.length_set, List.length_set])
/-- turns that draw -/
theorem compL_draw {f : Val → Sto → R (Option Val)} {I : Nat → Sto → Prop} {Q : Nat → Prop} {u : Nat} : ∀ (vs : List Val) (B : Nat) (S : Sto), I B S → (∀ v ∈ vs, ∀ B' S, B' ≤ B + u * vs.length → I B' S → ∃ r S', f v S = .ok (some (.dat (iN r))) S' ∧ Q r ∧ I (B' + u) S') →
    ∃ (rs : List Nat) (S' : Sto), compL f vs S = .ok ((rs.map iN).map .dat) S' ∧ rs.length = vs.length ∧ (∀ r ∈ rs, Q r) ∧ I (B + u * vs.length) S'
  | [], B, S, h, _ => ⟨[], S, rfl, rfl, by simp, by simpa using h⟩
  | v :: vs, B, S, h, hf => by
    obtain ⟨r, S1, e1, q1, i1⟩ := hf v List.mem_cons_self B S (by omega) h
    have em : u * (v :: vs).length = u * vs.length + u := by rw [List.length_cons, Nat.mul_succ]
    obtain ⟨rs, S2, e2, l2, q2, i2⟩ := compL_draw vs (B + u) S1 i1 fun w hw B' S hB hI => hf w (List.mem_cons_of_mem _ hw) B' S (by omega) hI
    refine ⟨r :: rs, S2, ?_, by rw [List.length_cons, List.length_cons, l2], ?_, ?_⟩
    · unfold compL
      rw [e1, bind_ok, e2, bind_ok]
      rfl
    · intro x hx
      rcases List.mem_cons.mp hx with rfl | hx
      · exact q1
      · exact q2 x hx
    · rw [em, show B + (u * vs.length + u) = B + u + u * vs.length by omega]
      exact i2
theorem cp_run {C : Nat → List Val → Sto → R Val} {G : List PyData} {ρ : Rho} {S S1 S2 : Sto} {e : Ex} {tg : Tg} {it : It} {ifs : List Ex} {own : List Nat} {vs : List Val} {ds : List PyData} (hi : evI C G it ρ S = .ok vs S1) (hl : vs.length ≤ 16777216)
    (hc : compL (turnF tg own (evIf C G ifs) (evE C G e) ρ) vs S1 = .ok (ds.map .dat) S2) : evE C G (.cp e tg it ifs own) ρ S = .ok (.dat (.list ds)) S2 := by
  have e0 : evE C G (.cp e tg it ifs own) ρ S = cpF tg own (evIf C G ifs) (evE C G e) (evI C G it) ρ S := rfl
  rw [e0]
  unfold cpF
  rw [hi, bind_ok, if_pos (show vs.length ≤ LINE from line_big hl), hc, bind_ok, lstR_dat]
theorem turn_some {t : Tg} {own : List Nat} {ff : Rho → Sto → R Bool} {fe : Rho → Sto → R Val} {ρ ρ' : Rho} {v x : Val} {S S1 S2 : Sto} (ht : setTg t v (wipeE ρ own) = some ρ') (hf : ff ρ' S = .ok true S1) (he : fe ρ' S1 = .ok x S2) : turnF t own ff fe ρ v S = .ok (some x) S2 := by
  unfold turnF
  rw [ht]
  simp only [hf, bind_ok, if_true, he, calm_ok']
theorem turn_none {t : Tg} {own : List Nat} {ff : Rho → Sto → R Bool} {fe : Rho → Sto → R Val} {ρ ρ' : Rho} {v : Val} {S S1 : Sto} (ht : setTg t v (wipeE ρ own) = some ρ') (hf : ff ρ' S = .ok false S1) : turnF t own ff fe ρ v S = .ok none S1 := by
  unfold turnF
  rw [ht]
  simp only [hf, bind_ok, calm_ok']
  rfl
theorem r_drawn (n : Nat) {S : Sto} {k B : Nat} (w : Wl S k B) (hB : B < 900000) :
    ∃ N p g S', run TT GL (n + 2) 23 [.cell k] S = .ok (.dat (ln N p g)) S' ∧ LW N p g ∧ p ≤ 4 ∧ N.length ≤ 7 ∧ Wl S' k (B + 10) ∧ Upd S S' k := by
  obtain ⟨a, S1, e1, a1, w1, u1⟩ := r_draw n w (m := 4) (by omega) (by omega) (by omega)
  obtain ⟨b, S2, e2, b1, w2, u2⟩ := r_draw n w1 (m := 4) (by omega) (by omega) (by omega)
  have t1 : evE (run TT GL (n + 1)) GL (.bin .add (.con (.int 1)) (.callK 18 [] [0, 1] [] [(.var 0), (.con (.int 4))] [])) [some (.cell k), none, none, none] S = .ok (.dat (iN (1 + a))) S1 :=
    bin_ok (e_con _ _ _ _ _) (e_call2 (v_ok rfl) (e_con _ _ _ _ _) e1) (add_nat 1 a)
  have t2 : evE (run TT GL (n + 1)) GL (.bin .add (.var 1) (.callK 18 [] [0, 1] [] [(.var 0), (.con (.int 4))] [])) [some (.cell k), some (.dat (iN (1 + a))), none, none] S1 = .ok (.dat (iN (1 + a + b))) S2 :=
    bin_ok (v_ok rfl) (e_call2 (v_ok rfl) (e_con _ _ _ _ _) e2) (add_nat _ _)
  have hi : evI (run TT GL (n + 1)) GL (.rng1 (.bin .add (.var 1) (.callK 18 [] [0, 1] [] [(.var 0), (.con (.int 4))] []))) [some (.cell k), some (.dat (iN (1 + a))), none, none] S1 = .ok ((List.range (1 + a + b)).map fun k => Val.dat (iN k)) S2 := by
    rw [i_rng1, t2, bind_ok, toI_ok, bind_ok, rangeV_nat' 0 (1 + a + b) (a := 0) (b := ((1 + a + b : Nat) : Int)) rfl rfl (by omega) (by omega) rfl, give_some]
    simp
  obtain ⟨N, S3, e3, l3, q3, i3⟩ := compL_draw (f := turnF (.name 3) [3] (evIf (run TT GL (n + 1)) GL []) (evE (run TT GL (n + 1)) GL (.callK 18 [] [0, 1] [] [(.var 0), (.con (.int 5))] [])) [some (.cell k), some (.dat (iN (1 + a))), none, none])
    (I := fun B' S => Wl S k B' ∧ Upd S2 S k) (Q := fun r => r < 5) (u := 1) ((List.range (1 + a + b)).map fun k => Val.dat (iN k)) (B + 2) S2 ⟨w2, Upd.refl _ _⟩ (fun v hv B' S hB' ⟨hw, hu⟩ => by
      rw [List.length_map, List.length_range] at hB'
      obtain ⟨r, S', e, r1, w', u'⟩ := r_draw n hw (m := 5) (by omega) (by omega) (by omega)
      refine ⟨r, S', ?_, r1, w', hu.trans u'⟩
      exact turn_some (ρ' := [some (.cell k), some (.dat (iN (1 + a))), none, some v]) rfl (if_nil _ _ _ _) (e_call2 (v_ok rfl) (e_con _ _ _ _ _) e))
  rw [List.length_map, List.length_range] at l3
  rw [List.length_map, List.length_range] at i3
  have t3 : evE (run TT GL (n + 1)) GL (.cp (.callK 18 [] [0, 1] [] [(.var 0), (.con (.int 5))] []) (.name 3) (.rng1 (.bin .add (.var 1) (.callK 18 [] [0, 1] [] [(.var 0), (.con (.int 4))] []))) [] [3]) [some (.cell k), some (.dat (iN (1 + a))), none, none] S1 = .ok (.dat (.list (N.map iN))) S3 := by
    exact cp_run hi (by rw [List.length_map, List.length_range]; omega) e3
  obtain ⟨c, S4, e4, c1, w4, u4⟩ := r_draw n i3.1 (m := 4) (by omega) (by omega) (by omega)
  have t4 : evE (run TT GL (n + 1)) GL (.tup [(.var 2), (.var 1), (.callK 18 [] [0, 1] [] [(.var 0), (.con (.int 4))] [])]) [some (.cell k), some (.dat (iN (1 + a))), some (.dat (.tuple (N.map iN))), none] S3 = .ok (.dat (ln N (1 + a) c)) S4 := by
    have q := e_call2 (C := run TT GL (n + 1)) (G := GL) (ρ := [some (.cell k), some (.dat (iN (1 + a))), some (.dat (.tuple (N.map iN))), none]) (e := .var 0) (e' := .con (.int 4)) (v_ok rfl) (e_con _ _ _ _ _) e4
    rw [e_tup, l_cons, v_ok rfl, bind_ok, l_cons, v_ok rfl, bind_ok, l_cons, q, bind_ok, l_nil, bind_ok, bind_ok, bind_ok, bind_ok, tupR_3]
    rfl
  refine ⟨N, 1 + a, c, S4, ?_, ⟨by omega, by omega, by omega, fun x hx => by have := q3 x hx; omega, by omega⟩, by omega, by omega, w4.mono (by omega), ((u1.trans u2).trans i3.2).trans u4⟩
  exact run_rtS (F := F__law_drawn_line) (by rfl) (by rfl) (by decide) (by rfl) (by rfl) (by rfl)
    (s_nx (a_nx t1 (by rfl)) (s_nx (a_nx (blt1_ok t3 (bl_tupL _)) (by rfl)) (s_rt (r_rt t4)))) (((u1.trans u2).trans i3.2).trans u4).len
end Dw

set_option Elab.async false
set_option linter.all false
set_option maxRecDepth 100000
set_option maxHeartbeats 4000000
/-! What is no line. -/
namespace Dw
open PySem
section
variable {C : Nat → List Val → Sto → R Val} {G : List PyData} {ρ : Rho} {S S1 : Sto} {a b : Ex} {r : List Ex} {x : R Val}
theorem or2_t (h : evE C G a ρ S = .ok (.dat (.bool true)) S1) : evOr C G (a :: b :: r) ρ S = .ok (.dat (.bool true)) S1 := by
  rw [e_or2, h, bind_ok, toB_ok, bind_ok, if_pos rfl]
theorem or2_f (h : evE C G a ρ S = .ok (.dat (.bool false)) S1) (h2 : evOr C G (b :: r) ρ S1 = x) : evOr C G (a :: b :: r) ρ S = x := by
  rw [e_or2, h, bind_ok, toB_ok, bind_ok, if_neg (by decide), h2]
theorem isi_ok {d : PyData} {t : Ty} (h : evE C G a ρ S = .ok (.dat d) S1) : evE C G (.isi a t) ρ S = .ok (.dat (.bool (isT d t))) S1 := by
  rw [e_isi, h, bind_ok, isiR_dat]
end
abbrev lfO1 : Ex := .not (.callK 2 [] [0, 1] [] [(.var 0), (.con (.int 3))] [])
abbrev lfO2 : Ex := .not (.isi (.idx (.var 0) (.con (.int 0))) .tuple)
abbrev lfO3 : Ex := .not (.callK 0 [] [0] [] [(.idx (.var 0) (.con (.int 1)))] [])
abbrev lfO4 : Ex := .not (.callK 0 [] [0] [] [(.idx (.var 0) (.con (.int 2)))] [])
abbrev lfCp : Ex := .cp (.callK 0 [] [0] [] [(.var 1)] []) (.name 1) (.val (.idx (.var 0) (.con (.int 0)))) [] [1]
abbrev lfCh : Ex := .chn .le .le (.con (.int 1)) (.idx (.var 0) (.con (.int 1))) (.blt .len [(.idx (.var 0) (.con (.int 0)))])
section
variable (n : Nat) (S : Sto)
theorem lf_early {d : PyData} (h : evE (run TT GL (n + 1)) GL (.or [lfO1, lfO2, lfO3, lfO4]) [some (.dat d), none] S = .ok (.dat (.bool true)) S) : run TT GL (n + 2) 4 [.dat d] S = .ok (.dat (.bool false)) S :=
  run_rt (F := F_is_line_form) (by rfl) (by rfl) (by decide) (by rfl) (by rfl) (by rfl) (s_rt (if_t h (s_rt (r_rt (e_con _ _ _ _ _)))))
theorem lf_o1 (d : PyData) : evE (run TT GL (n + 1)) GL lfO1 [some (.dat d), none] S = .ok (.dat (.bool (!(match d with
    | .tuple l => (l.length : Int) == 3
    | _ => false)))) S := not_ok (e_call2 (v_ok rfl) (e_con _ _ _ _ _) (r_tupof n d 3 S))
theorem lf_a {d : PyData} (h : (match d with
    | .tuple l => (l.length : Int) == 3
    | _ => false) = false) : run TT GL (n + 2) 4 [.dat d] S = .ok (.dat (.bool false)) S := by
  refine lf_early n S ?_
  have a := lf_o1 n S d
  rw [h] at a
  rw [e_or, or2_t a]
theorem lf_o1' (x y z : PyData) : evE (run TT GL (n + 1)) GL lfO1 [some (.dat (.tuple [x, y, z])), none] S = .ok (.dat (.bool false)) S := lf_o1 n S (.tuple [x, y, z])
theorem lf_i0 {C : Nat → List Val → Sto → R Val} (x y z : PyData) : evE C GL (.idx (.var 0) (.con (.int 0))) [some (.dat (.tuple [x, y, z])), none] S = .ok (.dat x) S := idx_ok (v_ok rfl) (e_con _ _ _ _ _) rfl
theorem lf_i1 {C : Nat → List Val → Sto → R Val} (x y z : PyData) : evE C GL (.idx (.var 0) (.con (.int 1))) [some (.dat (.tuple [x, y, z])), none] S = .ok (.dat y) S := idx_ok (v_ok rfl) (e_con _ _ _ _ _) rfl
theorem lf_i2 {C : Nat → List Val → Sto → R Val} (x y z : PyData) : evE C GL (.idx (.var 0) (.con (.int 2))) [some (.dat (.tuple [x, y, z])), none] S = .ok (.dat z) S := idx_ok (v_ok rfl) (e_con _ _ _ _ _) rfl
theorem lf_b {x : PyData} (y z : PyData) (h : isT x .tuple = false) : run TT GL (n + 2) 4 [.dat (.tuple [x, y, z])] S = .ok (.dat (.bool false)) S := by
  refine lf_early n S ?_
  have b := not_ok (isi_ok (t := .tuple) (lf_i0 (C := run TT GL (n + 1)) S x y z))
  rw [h] at b
  rw [e_or, or2_f (lf_o1' n S x y z) (or2_t b)]
theorem lf_c (l : List PyData) (b : Bool) (z : PyData) : run TT GL (n + 2) 4 [.dat (.tuple [.tuple l, .bool b, z])] S = .ok (.dat (.bool false)) S := by
  refine lf_early n S ?_
  have a := not_ok (isi_ok (t := .tuple) (lf_i0 (C := run TT GL (n + 1)) S (.tuple l) (.bool b) z))
  have c := not_ok (e_call1 (lf_i1 (C := run TT GL (n + 1)) S (.tuple l) (.bool b) z) (r_whole n (.bool b) S))
  rw [e_or, or2_f (lf_o1' n S _ _ z) (or2_f a (or2_t c))]
theorem lf_or (l : List PyData) (p g : Nat) : evE (run TT GL (n + 1)) GL (.or [lfO1, lfO2, lfO3, lfO4]) [some (.dat (.tuple [.tuple l, iN p, iN g])), none] S = .ok (.dat (.bool false)) S := by
  have a := not_ok (isi_ok (t := .tuple) (lf_i0 (C := run TT GL (n + 1)) S (.tuple l) (iN p) (iN g)))
  have b := not_ok (e_call1 (lf_i1 (C := run TT GL (n + 1)) S (.tuple l) (iN p) (iN g)) (r_whole n (iN p) S))
  have c := not_ok (e_call1 (lf_i2 (C := run TT GL (n + 1)) S (.tuple l) (iN p) (iN g)) (r_whole n (iN g) S))
  rw [e_or, or2_f (lf_o1' n S _ _ _) (or2_f a (or2_f b ((e_or1 _ _ _ _ _).trans c)))]
  rfl
theorem lf_late {l : List PyData} {p g : Nat} (h : evAnd (run TT GL (n + 1)) GL [lfCh, (.blt .all1 [lfCp])] [some (.dat (.tuple [.tuple l, iN p, iN g])), none] S = .ok (.dat (.bool false)) S) : run TT GL (n + 2) 4 [.dat (.tuple [.tuple l, iN p, iN g])] S = .ok (.dat (.bool false)) S :=
  run_rt (F := F_is_line_form) (by rfl) (by rfl) (by decide) (by rfl) (by rfl) (by rfl) (s_nx (if_f (lf_or n S l p g) (s_nil _ _ _ _)) (s_rt (r_rt ((e_and _ _ _ _ _).trans h))))
theorem lf_ch (l : List PyData) (p g : Nat) : evE (run TT GL (n + 1)) GL lfCh [some (.dat (.tuple [.tuple l, iN p, iN g])), none] S = .ok (.dat (.bool (decide (1 ≤ p) && decide (p ≤ l.length)))) S := by
  have len : evE (run TT GL (n + 1)) GL (.blt .len [(.idx (.var 0) (.con (.int 0)))]) [some (.dat (.tuple [.tuple l, iN p, iN g])), none] S = .ok (.dat (iN l.length)) S := blt1_ok (lf_i0 S _ _ _) (bl_lenT _)
  rw [e_chn, e_con, bind_ok, lf_i1, bind_ok, cmpR_dat, c_le]
  show ((R.ok (Val.dat (.bool (decide ((1 : Int) ≤ (p : Int))))) S).bind toB).bind _ = _
  rw [bind_ok, toB_ok, bind_ok]
  by_cases h : 1 ≤ p
  · rw [decide_eq_true (show (1 : Int) ≤ (p : Int) by omega), if_pos rfl, len, bind_ok, cmpR_dat, c_le, decide_eq_true h]
    show R.ok (Val.dat (.bool (decide ((p : Int) ≤ (l.length : Int))))) S = _
    congr 3
    by_cases h2 : p ≤ l.length
    · rw [decide_eq_true h2, decide_eq_true (show (p : Int) ≤ (l.length : Int) by omega)]; rfl
    · rw [decide_eq_false h2, decide_eq_false (show ¬ (p : Int) ≤ (l.length : Int) by omega)]; rfl
  · rw [decide_eq_false (show ¬ (1 : Int) ≤ (p : Int) by omega), if_neg (by decide), decide_eq_false h]
    rfl
theorem lf_e {l : List PyData} {p g : Nat} (h : (decide (1 ≤ p) && decide (p ≤ l.length)) = false) : run TT GL (n + 2) 4 [.dat (.tuple [.tuple l, iN p, iN g])] S = .ok (.dat (.bool false)) S := by
  refine lf_late n S ?_
  have a := lf_ch n S l p g
  rw [h] at a
  rw [and2_f a]
theorem lf_f {N : List Nat} {p g : Nat} (h1 : 1 ≤ p) (h2 : p ≤ N.length) (h3 : N.length ≤ 100) : run TT GL (n + 2) 4 [.dat (.tuple [.tuple (.bool true :: N.map iN), iN p, iN g])] S = .ok (.dat (.bool false)) S := by
  refine lf_late n S ?_
  have a := lf_ch n S (.bool true :: N.map iN) p g
  rw [decide_eq_true h1, decide_eq_true (show p ≤ (PyData.bool true :: N.map iN).length by rw [List.length_cons, List.length_map]; omega)] at a
  have hi : evI (run TT GL (n + 1)) GL (.val (.idx (.var 0) (.con (.int 0)))) [some (.dat (.tuple [.tuple (.bool true :: N.map iN), iN p, iN g])), none] S = .ok ((PyData.bool true :: N.map iN).map .dat) S := by
    rw [i_val, lf_i0, bind_ok]
    rfl
  have hc : compL (turnF (.name 1) [1] (evIf (run TT GL (n + 1)) GL []) (evE (run TT GL (n + 1)) GL (.callK 0 [] [0] [] [(.var 1)] [])) [some (.dat (.tuple [.tuple (.bool true :: N.map iN), iN p, iN g])), none]) ((PyData.bool true :: N.map iN).map .dat) S =
      .ok ((((PyData.bool true :: N.map iN).map Val.dat).map fun v => match v with
        | .dat d => PyData.bool (isT d .int && !isT d .bool)
        | _ => .none).map .dat) S := compL_dat fun v hv => by
    rw [List.mem_map] at hv
    obtain ⟨d, hd, rfl⟩ := hv
    exact turn_some (ρ' := [some (.dat (.tuple [.tuple (.bool true :: N.map iN), iN p, iN g])), some (.dat d)]) rfl (if_nil _ _ _ _) (e_call1 (v_ok rfl) (r_whole n d S))
  have c := cp_run (tg := .name 1) (ifs := []) (own := [1]) hi (by rw [List.length_map, List.length_cons, List.length_map]; omega) hc
  have q : bltD .all1 [.list (((PyData.bool true :: N.map iN).map Val.dat).map fun v => match v with
        | .dat d => PyData.bool (isT d .int && !isT d .bool)
        | _ => .none)] = some (.bool false) := by
    rw [bl_all, List.map_cons, List.map_cons]
    show ((allTrue _).map (false && ·)).map PyData.bool = _
    have : ∀ l : List Nat, ∃ b, allTrue (((l.map iN).map Val.dat).map fun v => match v with
        | .dat d => PyData.bool (isT d .int && !isT d .bool)
        | _ => .none) = some b := by
      intro l
      induction l with
      | nil => exact ⟨true, rfl⟩
      | cons x l ih =>
        obtain ⟨b, hb⟩ := ih
        refine ⟨true && b, ?_⟩
        show (allTrue (((l.map iN).map Val.dat).map _)).map (true && ·) = _
        rw [hb]
        rfl
    obtain ⟨b, hb⟩ := this N
    rw [hb]
    rfl
  rw [and2_t a ((e_and1 _ _ _ _ _).trans (blt1_ok c q))]
end
end Dw

set_option Elab.async false
set_option linter.all false
set_option maxRecDepth 100000
set_option maxHeartbeats 4000000
/-! _law_right. -/
namespace Dw
open PySem
section
variable {N : List Nat} {p g : Nat} (h : LW N p g)
include h in
theorem l_shr : shr (lD N p g) (lG N p g) = shr p g := by
  obtain ⟨d1, d2, d3⟩ := l_d h
  have e := l_gd h
  have hk : p / lD N p g * lD N p g = p := by
    have := Nat.div_add_mod p (lD N p g)
    rw [d3, Nat.add_zero, Nat.mul_comm] at this
    exact this
  generalize hK : p / lD N p g = k at hk
  generalize lD N p g = d at *
  generalize lG N p g = c at *
  have k1 : 0 < k := by
    rcases Nat.eq_zero_or_pos k with z | z
    · subst z
      have := h.p1
      omega
    · exact z
  have hg : g = k * c := by
    have : g * d = k * c * d := by
      rw [← e, ← hk, ← Nat.mul_assoc, Nat.mul_comm c k]
    exact Nat.eq_of_mul_eq_mul_right d1 this
  have eg : Nat.gcd p g = k * Nat.gcd d c := by rw [hg, ← hk, Nat.gcd_mul_left]
  unfold shr
  rw [eg, hg, Nat.mul_div_mul_left _ _ k1]
  have : p / (k * Nat.gcd d c) = d / Nat.gcd d c := by
    rw [← hk, Nat.mul_div_mul_left _ _ k1]
  rw [this]
end
section
variable {C : Nat → List Val → Sto → R Val} {G : List PyData} {ρ : Rho} {S S1 S2 S3 : Sto} {a b c e : Ex} {x y z : PyData}
theorem e_kw1 {f : Nat} {s : String} {v w : Val} (h : evE C G e ρ S = .ok v S1) (h2 : C f [v] S1 = .ok w S2) : evE C G (.callK f [s] [0] [] [] [e]) ρ S = .ok w S2 := by
  rw [e_call, l_nil, bind_ok, l_cons, h, bind_ok, l_nil, bind_ok, bind_ok]
  exact (show callKR C f 0 1 [0] [] [] [v] S1 = C f [v] S1 from rfl).trans h2
theorem e_kw2 {f : Nat} {s : String} {v v' w : Val} (h : evE C G a ρ S = .ok v S1) (h' : evE C G b ρ S1 = .ok v' S2) (h2 : C f [v, v'] S2 = .ok w S3) : evE C G (.callK f [s] [0, 1] [] [a] [b]) ρ S = .ok w S3 := by
  rw [e_call, l_cons, h, bind_ok, l_nil, bind_ok, bind_ok, l_cons, h', bind_ok, l_nil, bind_ok, bind_ok]
  exact (show callKR C f 1 1 [0, 1] [] [v] [v'] S2 = C f [v, v'] S2 from rfl).trans h2
theorem tup2_ok (h1 : evE C G a ρ S = .ok (.dat x) S1) (h2 : evE C G b ρ S1 = .ok (.dat y) S2) : evE C G (.tup [a, b]) ρ S = .ok (.dat (.tuple [x, y])) S2 := by
  rw [e_tup, l_cons, h1, bind_ok, l_cons, h2, bind_ok, l_nil, bind_ok, bind_ok, bind_ok, tupR_2]
theorem tup3_ok (h1 : evE C G a ρ S = .ok (.dat x) S1) (h2 : evE C G b ρ S1 = .ok (.dat y) S2) (h3 : evE C G c ρ S2 = .ok (.dat z) S3) : evE C G (.tup [a, b, c]) ρ S = .ok (.dat (.tuple [x, y, z])) S3 := by
  rw [e_tup, l_cons, h1, bind_ok, l_cons, h2, bind_ok, l_cons, h3, bind_ok, l_nil, bind_ok, bind_ok, bind_ok, bind_ok, tupR_3]
theorem lst2_ok (h1 : evE C G a ρ S = .ok (.dat x) S1) (h2 : evE C G b ρ S1 = .ok (.dat y) S2) : evE C G (.lst [a, b]) ρ S = .ok (.dat (.list [x, y])) S2 := by
  rw [e_lst, l_cons, h1, bind_ok, l_cons, h2, bind_ok, l_nil, bind_ok, bind_ok, bind_ok]
  exact lstR_dat S2 [x, y]
theorem lst3_ok (h1 : evE C G a ρ S = .ok (.dat x) S1) (h2 : evE C G b ρ S1 = .ok (.dat y) S2) (h3 : evE C G c ρ S2 = .ok (.dat z) S3) : evE C G (.lst [a, b, c]) ρ S = .ok (.dat (.list [x, y, z])) S3 := by
  rw [e_lst, l_cons, h1, bind_ok, l_cons, h2, bind_ok, l_cons, h3, bind_ok, l_nil, bind_ok, bind_ok, bind_ok, bind_ok]
  exact lstR_dat S3 [x, y, z]
theorem ife_t (h : evE C G c ρ S = .ok (.dat (.bool true)) S1) (h2 : evE C G a ρ S1 = .ok (.dat x) S2) : evE C G (.ife c a b) ρ S = .ok (.dat x) S2 := by
  rw [e_ife, h, bind_ok, toB_ok, bind_ok, if_pos rfl, h2]
theorem ife_f (h : evE C G c ρ S = .ok (.dat (.bool false)) S1) (h2 : evE C G b ρ S1 = .ok (.dat x) S2) : evE C G (.ife c a b) ρ S = .ok (.dat x) S2 := by
  rw [e_ife, h, bind_ok, toB_ok, bind_ok, if_neg (by decide), h2]
end
abbrev rR (k : Nat) (N : List Nat) (p g : Nat) (x5 x6 x7 x8 x9 x10 x11 x12 : Option Val) : Rho :=
  [some (.cell k), some (.dat (ln N p g)), some (.dat (.tuple (N.map iN))), some (.dat (iN p)), some (.dat (iN g)), x5, x6, x7, x8, x9, x10, x11, x12]
abbrev lnM (N : List Nat) (p g : Nat) : PyData := ln (lN N p g) (lD N p g) (lG N p g)
section
variable (n k : Nat) {N : List Nat} {p g : Nat} (h : LW N p g) (S : Sto)
abbrev rC (n : Nat) : Nat → List Val → Sto → R Val := run TT GL (n + 5)
include h in
theorem ri_3 (x5 x6 x7 x8 x9 x10 x11 x12 : Option Val) : evE (rC n) GL (.cmp .ne (.blt .repr [(.lst [(.callK 13 [] [0] [] [(.var 1)] []), (.callK 13 ["value"] [0] [] [] [(.var 1)])])]) (.con (.str (Str.ofString "[True, True]")))) (rR k N p g x5 x6 x7 x8 x9 x10 x11 x12) S = .ok (.dat (.bool false)) S := by
  have l := r_isline (n + 2) S (r_lineform (n + 2) h S)
  have a := blt1_ok (k := .repr) (lst2_ok (C := rC n) (G := GL) (ρ := rR k N p g x5 x6 x7 x8 x9 x10 x11 x12) (a := .callK 13 [] [0] [] [(.var 1)] []) (b := .callK 13 ["value"] [0] [] [] [(.var 1)]) (e_call1 (v_ok rfl) l) (e_kw1 (v_ok rfl) l)) (bl_repr _ (by decide +kernel))
  exact cmp_ok a (e_con _ _ _ _ _) (by
    rw [c_neS]
    decide +kernel)
include h in
theorem ri_5 (x6 x7 x8 x9 x10 x11 x12 : Option Val) : evE (rC n) GL (.or [(.not (.callK 22 [] [0] [] [(.var 5)] [])), (.not (.callK 20 [] [0, 1] [] [(.callK 15 [] [0] [] [(.var 1)] []), (.var 5)] [])), (.not (.callK 20 [] [0, 1] [] [(.callK 15 [] [0] [] [(.var 5)] []), (.var 5)] []))])
    (rR k N p g (some (.dat (lnM N p g))) x6 x7 x8 x9 x10 x11 x12) S = .ok (.dat (.bool false)) S := by
  have L := l_LW h
  have rm : reprOk (lnM N p g) = true := (nice_ln L).repr (by omega) (by omega)
  have m2 : run TT GL (n + 5) 15 [.dat (lnM N p g)] S = .ok (.dat (lnM N p g)) S := by
    have := r_leastline (n + 1) L S
    rw [ll_N h, ll_D h, ll_G h] at this
    exact this
  have s := r_same (n + 4) S rm
  have a := not_ok (e_call1 (C := rC n) (G := GL) (ρ := rR k N p g (some (.dat (lnM N p g))) x6 x7 x8 x9 x10 x11 x12) (e := .var 5) (v_ok rfl) (l_isleast (n + 3) h S))
  have b := not_ok (e_call2 (C := rC n) (G := GL) (ρ := rR k N p g (some (.dat (lnM N p g))) x6 x7 x8 x9 x10 x11 x12) (e := .callK 15 [] [0] [] [(.var 1)] []) (e' := .var 5) (e_call1 (v_ok rfl) (r_leastline (n + 1) h S)) (v_ok rfl) s)
  have c := not_ok (e_call2 (C := rC n) (G := GL) (ρ := rR k N p g (some (.dat (lnM N p g))) x6 x7 x8 x9 x10 x11 x12) (e := .callK 15 [] [0] [] [(.var 5)] []) (e' := .var 5) (e_call1 (v_ok rfl) m2) (v_ok rfl) s)
  rw [e_or, or2_f a (or2_f b ((e_or1 _ _ _ _ _).trans c))]
  rfl
theorem A_small {t : Nat} (h : LW N p g) (ht : t < 1000) : A N p g t < 1000000 := by
  have gd : ∀ i, N.getD i 0 ≤ 100 := fun i => by
    by_cases hi : i < N.length
    · have : N.getD i 0 ∈ N := by
        rw [List.getD_eq_getElem?_getD, List.getElem?_eq_getElem hi]
        exact List.getElem_mem hi
      exact h.nb _ this
    · rw [List.getD_eq_getElem?_getD, List.getElem?_eq_none (by omega)]
      exact Nat.zero_le _
  unfold A
  split
  · have := gd t
    omega
  · have h1 := gd (t - ((t - N.length) / p + 1) * p)
    have h2 : (t - N.length) / p + 1 ≤ 1000 := by
      have := Nat.div_le_self (t - N.length) p
      omega
    have h3 := Nat.mul_le_mul h2 h.gb
    omega
abbrev riB : List Sx := [.asg (.name 11) (.callK 21 [] [0, 1] [] [(.var 1), (.var 6)] []),
    .ife (.not (.callK 20 [] [0, 1] [] [(.tup [(.callK 14 [] [0, 1] [] [(.var 1), (.var 6)] []), (.callK 14 ["number"] [0, 1] [] [(.var 1)] [(.var 6)]), (.callK 14 [] [0, 1] [] [(.var 5), (.var 6)] [])]), (.bin .mul (.tup [(.var 11)]) (.con (.int 3)))] []))
    [.ret (.con (.bool false))]
    []]
include h in
theorem ri_body {t : Nat} (ht : t < 30) (x7 x8 x9 x10 x11 x12 : Option Val) : evSs (rC n) GL riB (rR k N p g (some (.dat (lnM N p g))) (some (.dat (iN t))) x7 x8 x9 x10 x11 x12) S = .nx (rR k N p g (some (.dat (lnM N p g))) (some (.dat (iN t))) x7 x8 x9 x10 (some (.dat (iN (A N p g t)))) x12) S := by
  have L := l_LW h
  have own := r_lat (n + 4) h S (t := t) (by omega)
  have a1 := r_lineat (n + 1) h S (t := t) (by omega)
  have a2 := r_lineat (n + 1) L S (t := t) (by omega)
  rw [l_A h] at a2
  have sm : reprOk (.tuple [iN (A N p g t), iN (A N p g t), iN (A N p g t)]) = true := by
    have i := nice_int (n := A N p g t) (by have := A_small (N := N) (p := p) (g := g) (t := t) h (by omega); omega)
    exact (nice_tup (m := 41) (k := 0) (mem3 i i i)).repr (by simp) (by decide)
  have m3 : binD .mul (.tuple [iN (A N p g t)]) (.int 3) = some (.tuple [iN (A N p g t), iN (A N p g t), iN (A N p g t)]) := rfl
  have t1 : evE (rC n) GL (.tup [(.var 11)]) (rR k N p g (some (.dat (lnM N p g))) (some (.dat (iN t))) x7 x8 x9 x10 (some (.dat (iN (A N p g t)))) x12) S = .ok (.dat (.tuple [iN (A N p g t)])) S := by
    rw [e_tup, l_cons, v_ok rfl, bind_ok, l_nil, bind_ok, bind_ok, tupR_1]
  have tt : evE (rC n) GL (.not (.callK 20 [] [0, 1] [] [(.tup [(.callK 14 [] [0, 1] [] [(.var 1), (.var 6)] []), (.callK 14 ["number"] [0, 1] [] [(.var 1)] [(.var 6)]), (.callK 14 [] [0, 1] [] [(.var 5), (.var 6)] [])]), (.bin .mul (.tup [(.var 11)]) (.con (.int 3)))] [])) (rR k N p g (some (.dat (lnM N p g))) (some (.dat (iN t))) x7 x8 x9 x10 (some (.dat (iN (A N p g t)))) x12) S = .ok (.dat (.bool false)) S :=
    not_ok (e_call2 (tup3_ok (e_call2 (v_ok rfl) (v_ok rfl) a1) (e_kw2 (v_ok rfl) (v_ok rfl) a1) (e_call2 (v_ok rfl) (v_ok rfl) a2)) (bin_ok t1 (e_con _ _ _ _ _) m3) (r_same (n + 4) S sm))
  exact s_nx (a_nx (e_call2 (v_ok rfl) (v_ok rfl) own) rfl) (s_nx (if_f tt (s_nil _ _ _ _)) (s_nil _ _ _ _))
include h in
theorem ri_loop (x6 x7 x8 x9 x10 x11 x12 : Option Val) : ∃ y6 y11, evS (rC n) GL (.fr (.name 6) (.rng1 (.con (.int 30))) riB) (rR k N p g (some (.dat (lnM N p g))) x6 x7 x8 x9 x10 x11 x12) S = .nx (rR k N p g (some (.dat (lnM N p g))) y6 x7 x8 x9 x10 y11 x12) S := by
  have hv : evI (rC n) GL (.rng1 (.con (.int 30))) (rR k N p g (some (.dat (lnM N p g))) x6 x7 x8 x9 x10 x11 x12) S = .ok ((List.range 30).map fun k => Val.dat (iN k)) S := rng1_nat (p := 30) (by omega) (e_con _ _ _ _ _)
  obtain ⟨ρ', e1, ⟨y6, y11, rfl⟩⟩ := loop_inv (body := evSs (rC n) GL riB) (S := S) (i := 6) (I := fun ρ => ∃ x6 x11, ρ = rR k N p g (some (.dat (lnM N p g))) x6 x7 x8 x9 x10 x11 x12) ((List.range 30).map fun k => Val.dat (iN k)) (rR k N p g (some (.dat (lnM N p g))) x6 x7 x8 x9 x10 x11 x12) ⟨_, _, rfl⟩ (fun v hv ρ hρ => by
    obtain ⟨z6, z11, rfl⟩ := hρ
    simp only [List.mem_map, List.mem_range] at hv
    obtain ⟨t, ht, rfl⟩ := hv
    exact ⟨_, ri_body n k h S ht x7 x8 x9 x10 z11 x12, _, _, rfl⟩)
  exact ⟨y6, y11, f_nx hv e1⟩
include h in
theorem ri_7 (x6 x7 x8 x9 x10 x11 x12 : Option Val) : evE (rC n) GL (.blt .max2 [(.con (.int 1)), (.callK 24 [] [0, 1] [] [(.var 4), (.var 3)] [])]) (rR k N p g (some (.dat (lnM N p g))) x6 x7 x8 x9 x10 x11 x12) S = .ok (.dat (iN (Nat.gcd p g))) S := by
  have p1 := h.p1
  have pl := h.pl
  have lb := h.lb
  have gp : 0 < Nat.gcd g p := Nat.gcd_pos_of_pos_right g p1
  have c := e_call2 (C := rC n) (G := GL) (ρ := rR k N p g (some (.dat (lnM N p g))) x6 x7 x8 x9 x10 x11 x12) (e := .var 4) (e' := .var 3) (v_ok rfl) (v_ok rfl) (r_div (n + 4) S (a := g) (b := p) (by omega))
  rw [e_blt, l_cons, e_con, bind_ok, l_cons, c, bind_ok, l_nil, bind_ok, bind_ok, bind_ok, bltR_2, bl_max]
  have : (if (Nat.gcd g p : Int) > 1 then (Nat.gcd g p : Int) else 1) = (Nat.gcd p g : Int) := by
    rw [Nat.gcd_comm p g]
    split <;> omega
  rw [this]
  rfl
include h in
theorem ri_8 (x6 x8 x9 x10 x11 x12 : Option Val) : evE (rC n) GL (.ife (.cmp .gt (.var 4) (.con (.int 0))) (.tup [(.bin .fdiv (.var 4) (.var 7)), (.bin .fdiv (.var 3) (.var 7))]) (.tup [(.con (.int 0)), (.con (.int 1))])) (rR k N p g (some (.dat (lnM N p g))) x6 (some (.dat (iN (Nat.gcd p g)))) x8 x9 x10 x11 x12) S = .ok (.dat (shr p g)) S := by
  have p1 := h.p1
  have pl := h.pl
  have lb := h.lb
  have gp : 0 < Nat.gcd p g := Nat.gcd_pos_of_pos_left g p1
  have gb : Nat.gcd p g ≤ p := Nat.gcd_le_left g p1
  have c : evE (rC n) GL (.cmp .gt (.var 4) (.con (.int 0))) (rR k N p g (some (.dat (lnM N p g))) x6 (some (.dat (iN (Nat.gcd p g)))) x8 x9 x10 x11 x12) S = .ok (.dat (.bool (decide (0 < g)))) S := cmp_ok (v_ok rfl) (e_con _ _ _ _ _) (by rw [c_gt]; congr 1; simp)
  by_cases h0 : 0 < g
  · rw [decide_eq_true h0] at c
    exact ife_t c (tup2_ok (bin_ok (v_ok rfl) (v_ok rfl) (div_nat gp (by omega))) (bin_ok (v_ok rfl) (v_ok rfl) (div_nat gp (by omega))))
  · obtain rfl : g = 0 := by omega
    rw [decide_eq_false h0] at c
    have e : shr p 0 = .tuple [.int 0, .int 1] := by
      unfold shr
      rw [Nat.gcd_zero_right, Nat.zero_div, Nat.div_self p1]
      rfl
    rw [e]
    exact ife_f c (tup2_ok (e_con _ _ _ _ _) (e_con _ _ _ _ _))
include h in
theorem shr_nice : Nice 100 1 (shr p g) := by
  have p1 := h.p1
  have pl := h.pl
  have lb := h.lb
  have gb := h.gb
  have b1 := Nat.div_le_self g (Nat.gcd p g)
  have b2 := Nat.div_le_self p (Nat.gcd p g)
  refine (nice_tup (m := 41) (k := 0) fun d hd => ?_).mono (by simp) (Nat.le_refl _)
  rcases List.mem_cons.mp hd with rfl | hd
  · exact nice_int (by omega)
  · rw [List.mem_singleton] at hd
    subst hd
    exact nice_int (by omega)
include h in
theorem ri_9 (x6 x7 x9 x10 x11 x12 : Option Val) : evE (rC n) GL (.not (.callK 20 [] [0, 1] [] [(.tup [(.callK 16 [] [0] [] [(.var 1)] []), (.callK 16 ["line"] [0] [] [] [(.var 5)])]), (.tup [(.var 8), (.var 8)])] [])) (rR k N p g (some (.dat (lnM N p g))) x6 x7 (some (.dat (shr p g))) x9 x10 x11 x12) S = .ok (.dat (.bool false)) S := by
  have L := l_LW h
  have a1 := r_shareof (n + 1) h S
  have a2 := r_shareof (n + 1) L S
  rw [l_shr h] at a2
  have sm : reprOk (.tuple [shr p g, shr p g]) = true := (nice_tup (m := 100) (k := 1) fun d hd => by
    rcases List.mem_cons.mp hd with rfl | hd
    · exact shr_nice h
    · rw [List.mem_singleton] at hd
      subst hd
      exact shr_nice h).repr (by simp) (by decide)
  exact not_ok (e_call2 (tup2_ok (e_call1 (v_ok rfl) a1) (e_kw1 (v_ok rfl) a2)) (tup2_ok (v_ok rfl) (v_ok rfl)) (r_same (n + 4) S sm))
/-- the bad ones -/
def bad5 (N : List Nat) (p g : Nat) : List PyData := [.none, .tuple [], .tuple [.tuple (N.map iN), iN p], .tuple [.tuple (N.map iN), iN 0, iN g], .tuple [.tuple (N.map iN), iN (N.length + 1), iN g]]
theorem bad5_no {d : PyData} (hd : d ∈ bad5 N p g) (m : Nat) : run TT GL (m + 2) 4 [.dat d] S = .ok (.dat (.bool false)) S := by
  unfold bad5 at hd
  simp only [List.mem_cons, List.not_mem_nil, or_false] at hd
  rcases hd with rfl | rfl | rfl | rfl | rfl
  · exact lf_a m S rfl
  · exact lf_a m S rfl
  · exact lf_a m S rfl
  · exact lf_e m S rfl
  · refine lf_e m S ?_
    rw [List.length_map, decide_eq_false (show ¬ N.length + 1 ≤ N.length by omega), Bool.and_false]
def bad4 (N : List Nat) (p g : Nat) (d : PyData) : List PyData := [d, .list [.tuple (N.map iN), iN p, iN g], .tuple [.list (N.map iN), iN p, iN g], .tuple [.tuple (.bool true :: N.map iN), iN p, iN g]]
def badL (N : List Nat) (p g : Nat) (d : PyData) : List PyData := bad4 N p g d ++ [.tuple [.tuple (N.map iN), .bool true, .int 0]]
include h in
theorem badL_no {d : PyData} (hd : d ∈ bad5 N p g) {x : PyData} (hx : x ∈ badL N p g d) (m : Nat) : run TT GL (m + 2) 4 [.dat x] S = .ok (.dat (.bool false)) S := by
  unfold badL bad4 at hx
  simp only [List.cons_append, List.nil_append, List.mem_cons, List.not_mem_nil, or_false] at hx
  rcases hx with rfl | rfl | rfl | rfl | rfl
  · exact bad5_no S hd m
  · exact lf_a m S rfl
  · exact lf_b m S _ _ rfl
  · exact lf_f m S h.p1 h.pl h.lb
  · exact lf_c m S _ _ _
include h in
theorem ri_end {d : PyData} (hd : d ∈ bad5 N p g) (x5 x6 x7 x8 x9 x11 x12 : Option Val) : evE (rC n) GL (.cmp .eq (.cp (.var 12) (.name 12) (.val (.bin .add (.var 10) (.tup [(.tup [(.var 2), (.con (.bool true)), (.con (.int 0))])]))) [(.cmp .ne (.blt .repr [(.callK 13 [] [0] [] [(.var 12)] [])]) (.con (.str (Str.ofString "False"))))] [12]) (.lst []))
    (rR k N p g x5 x6 x7 x8 x9 (some (.dat (.tuple (bad4 N p g d)))) x11 x12) S = .ok (.dat (.bool true)) S := by
  have t1 : evE (rC n) GL (.tup [(.tup [(.var 2), (.con (.bool true)), (.con (.int 0))])]) (rR k N p g x5 x6 x7 x8 x9 (some (.dat (.tuple (bad4 N p g d)))) x11 x12) S = .ok (.dat (.tuple [.tuple [.tuple (N.map iN), .bool true, .int 0]])) S := by
    rw [e_tup, l_cons, tup3_ok (v_ok rfl) (e_con _ _ _ _ _) (e_con _ _ _ _ _), bind_ok, l_nil, bind_ok, bind_ok, tupR_1]
  have t2 := bin_ok (C := rC n) (G := GL) (ρ := rR k N p g x5 x6 x7 x8 x9 (some (.dat (.tuple (bad4 N p g d)))) x11 x12) (op := .add) (a := .var 10) (v_ok rfl) t1 (b_addT _ _ (line_big (show 4 + 1 ≤ 16777216 by omega)))
  have hi : evI (rC n) GL (.val (.bin .add (.var 10) (.tup [(.tup [(.var 2), (.con (.bool true)), (.con (.int 0))])]))) (rR k N p g x5 x6 x7 x8 x9 (some (.dat (.tuple (bad4 N p g d)))) x11 x12) S = .ok ((badL N p g d).map .dat) S := by
    rw [i_val, t2, bind_ok]
    rfl
  have hc : compL (turnF (.name 12) [12] (evIf (rC n) GL [(.cmp .ne (.blt .repr [(.callK 13 [] [0] [] [(.var 12)] [])]) (.con (.str (Str.ofString "False"))))]) (evE (rC n) GL (.var 12)) (rR k N p g x5 x6 x7 x8 x9 (some (.dat (.tuple (bad4 N p g d)))) x11 x12)) ((badL N p g d).map .dat) S =
      .ok ((((badL N p g d).map Val.dat).filterMap fun _ => (none : Option PyData)).map .dat) S := compL_opt fun v hv => by
    rw [List.mem_map] at hv
    obtain ⟨x, hx, rfl⟩ := hv
    have l := r_isline (n + 2) S (badL_no h S hd hx (n + 2))
    refine turn_none (ρ' := rR k N p g x5 x6 x7 x8 x9 (some (.dat (.tuple (bad4 N p g d)))) x11 (some (.dat x))) rfl ?_
    rw [if_one, cmp_ok (z := false) (blt1_ok (e_call1 (v_ok rfl) l) (bl_repr _ (by decide +kernel))) (e_con _ _ _ _ _) (by
      rw [c_neS]
      decide +kernel), bind_ok, toB_ok]
  have e0 : ((badL N p g d).map Val.dat).filterMap (fun _ => (none : Option PyData)) = [] := by
    rw [List.filterMap_eq_nil_iff]
    intro _ _
    rfl
  rw [e0] at hc
  exact cmp_ok (cp_run (ds := []) hi (by rw [List.length_map]; show 5 ≤ 16777216; omega) hc) lst0 ((eq_shaped (by decide +kernel) (by decide +kernel)).trans (by simp [PyData.eqv, PyData.eqvAll]))
end
theorem r_of (n : Nat) {S : Sto} {k B : Nat} (w : Wl S k B) (hB : B < 1000000) {l : List PyData} (h1 : 1 ≤ l.length) (h2 : l.length ≤ 1000) : ∃ d S', run TT GL (n + 2) 19 [.cell k, .dat (.tuple l)] S = .ok (.dat d) S' ∧ d ∈ l ∧ Wl S' k (B + 1) ∧ Upd S S' k := by
  obtain ⟨r, S1, e1, r1, w1, u1⟩ := r_draw n w (m := l.length) hB h1 h2
  refine ⟨l[r], S1, ?_, List.getElem_mem r1, w1, u1⟩
  have g1 : nth l (r : Int) = some l[r] := by rw [nth_nat, List.getElem?_eq_getElem r1]
  exact run_rtS (F := F__law_of) (by rfl) (by rfl) (by decide) (by rfl) (by rfl) (by rfl) (s_rt (r_rt (idx_ok (v_ok rfl) (e_call2 (v_ok rfl) (blt1_ok (v_ok rfl) (bl_lenT _)) e1) ((ix_t _ _).trans g1)))) u1.len
theorem r_right (n : Nat) {S : Sto} {k B : Nat} (w : Wl S k B) (hB : B < 800000) : ∃ S', run TT GL (n + 6) 25 [.cell k] S = .ok (.dat (.bool true)) S' ∧ Wl S' k (B + 20) ∧ Upd S S' k := by
  obtain ⟨N, p, g, S1, e1, h, p4, l7, w1, u1⟩ := r_drawn (n + 3) w (by omega)
  obtain ⟨d, S2, e2, hd, w2, u2⟩ := r_of (n + 3) w1 (by omega) (l := bad5 N p g) (show 1 ≤ 5 by omega) (show 5 ≤ 1000 by omega)
  obtain ⟨y6, y11, lo⟩ := ri_loop n k h S1 none none none none none none none
  refine ⟨S2, ?_, w2.mono (by omega), u1.trans u2⟩
  have b1 : evE (rC n) GL (.callK 19 [] [0, 1] [] [(.var 0), (.tup [(.con .none), (.tup []), (.tup [(.var 2), (.var 3)]), (.tup [(.var 2), (.con (.int 0)), (.var 4)]), (.tup [(.var 2), (.bin .add (.blt .len [(.var 2)]) (.con (.int 1))), (.var 4)])])] []) (rR k N p g (some (.dat (lnM N p g))) y6 (some (.dat (iN (Nat.gcd p g)))) (some (.dat (shr p g))) none none y11 none) S1 = .ok (.dat d) S2 := by
    refine e_call2 (v_ok rfl) ?_ e2
    have q3 : evE (rC n) GL (.tup [(.var 2), (.var 3)]) (rR k N p g (some (.dat (lnM N p g))) y6 (some (.dat (iN (Nat.gcd p g)))) (some (.dat (shr p g))) none none y11 none) S1 = .ok (.dat (.tuple [.tuple (N.map iN), iN p])) S1 := tup2_ok (v_ok rfl) (v_ok rfl)
    have q4 : evE (rC n) GL (.tup [(.var 2), (.con (.int 0)), (.var 4)]) (rR k N p g (some (.dat (lnM N p g))) y6 (some (.dat (iN (Nat.gcd p g)))) (some (.dat (shr p g))) none none y11 none) S1 = .ok (.dat (.tuple [.tuple (N.map iN), iN 0, iN g])) S1 := tup3_ok (v_ok rfl) (e_con _ _ _ _ _) (v_ok rfl)
    have q5 : evE (rC n) GL (.tup [(.var 2), (.bin .add (.blt .len [(.var 2)]) (.con (.int 1))), (.var 4)]) (rR k N p g (some (.dat (lnM N p g))) y6 (some (.dat (iN (Nat.gcd p g)))) (some (.dat (shr p g))) none none y11 none) S1 = .ok (.dat (.tuple [.tuple (N.map iN), iN (N.length + 1), iN g])) S1 := tup3_ok (v_ok rfl) (bin_ok (len_ok rfl) (e_con _ _ _ _ _) (add_nat _ 1)) (v_ok rfl)
    have q2 : evE (rC n) GL (.tup []) (rR k N p g (some (.dat (lnM N p g))) y6 (some (.dat (iN (Nat.gcd p g)))) (some (.dat (shr p g))) none none y11 none) S1 = .ok (.dat (.tuple [])) S1 := by rw [e_tup, l_nil, bind_ok, tupR_0]
    rw [e_tup, l_cons, e_con, bind_ok, l_cons, q2, bind_ok, l_cons, q3, bind_ok, l_cons, q4, bind_ok, l_cons, q5, bind_ok, l_nil, bind_ok, bind_ok, bind_ok, bind_ok, bind_ok, bind_ok]
    exact tupR_dat S1 (bad5 N p g)
  have b2 : evE (rC n) GL (.tup [(.var 9), (.lst [(.var 2), (.var 3), (.var 4)]), (.tup [(.blt .lst1 [(.var 2)]), (.var 3), (.var 4)]), (.tup [(.bin .add (.tup [(.con (.bool true))]) (.var 2)), (.var 3), (.var 4)])]) (rR k N p g (some (.dat (lnM N p g))) y6 (some (.dat (iN (Nat.gcd p g)))) (some (.dat (shr p g))) (some (.dat d)) none y11 none) S2 = .ok (.dat (.tuple (bad4 N p g d))) S2 := by
    have q2 : evE (rC n) GL (.lst [(.var 2), (.var 3), (.var 4)]) (rR k N p g (some (.dat (lnM N p g))) y6 (some (.dat (iN (Nat.gcd p g)))) (some (.dat (shr p g))) (some (.dat d)) none y11 none) S2 = .ok (.dat (.list [.tuple (N.map iN), iN p, iN g])) S2 := lst3_ok (v_ok rfl) (v_ok rfl) (v_ok rfl)
    have q3 : evE (rC n) GL (.tup [(.blt .lst1 [(.var 2)]), (.var 3), (.var 4)]) (rR k N p g (some (.dat (lnM N p g))) y6 (some (.dat (iN (Nat.gcd p g)))) (some (.dat (shr p g))) (some (.dat d)) none y11 none) S2 = .ok (.dat (.tuple [.list (N.map iN), iN p, iN g])) S2 := tup3_ok (blt1_ok (v_ok rfl) (bl_lst _)) (v_ok rfl) (v_ok rfl)
    have q0 : evE (rC n) GL (.tup [(.con (.bool true))]) (rR k N p g (some (.dat (lnM N p g))) y6 (some (.dat (iN (Nat.gcd p g)))) (some (.dat (shr p g))) (some (.dat d)) none y11 none) S2 = .ok (.dat (.tuple [.bool true])) S2 := by rw [e_tup, l_cons, e_con, bind_ok, l_nil, bind_ok, bind_ok, tupR_1]
    have q4 : evE (rC n) GL (.tup [(.bin .add (.tup [(.con (.bool true))]) (.var 2)), (.var 3), (.var 4)]) (rR k N p g (some (.dat (lnM N p g))) y6 (some (.dat (iN (Nat.gcd p g)))) (some (.dat (shr p g))) (some (.dat d)) none y11 none) S2 = .ok (.dat (.tuple [.tuple (.bool true :: N.map iN), iN p, iN g])) S2 :=
      tup3_ok (bin_ok q0 (v_ok rfl) (b_addT _ _ (line_big (by rw [List.length_map]; show 1 + N.length ≤ 16777216; omega)))) (v_ok rfl) (v_ok rfl)
    rw [e_tup, l_cons, v_ok rfl, bind_ok, l_cons, q2, bind_ok, l_cons, q3, bind_ok, l_cons, q4, bind_ok, l_nil, bind_ok, bind_ok, bind_ok, bind_ok, bind_ok]
    exact tupR_dat S2 (bad4 N p g d)
  have t1 : setTg (.names [2, 3, 4]) (.dat (ln N p g)) [some (.cell k), some (.dat (ln N p g)), none, none, none, none, none, none, none, none, none, none, none] = some (rR k N p g none none none none none none none none) := rfl
  have e1' := e_call1 (C := rC n) (G := GL) (ρ := [some (.cell k), none, none, none, none, none, none, none, none, none, none, none, none]) (e := .var 0) (v_ok rfl) e1
  have e5 := e_kw1 (C := rC n) (G := GL) (ρ := rR k N p g none none none none none none none none) (s := "line") (e := .var 1) (v_ok rfl) (r_leastline (n + 1) h S1)
  exact run_rtS (F := F__law_right) (by rfl) (by rfl) (by decide) (by rfl) (by rfl) (by rfl)
    (s_nx (a_nx e1' (by rfl)) (s_nx (a_nx (v_ok (by rfl)) t1) (s_nx (if_f (ri_3 n k h S1 _ _ _ _ _ _ _ _) (s_nil _ _ _ _)) (s_nx (a_nx e5 (by rfl)) (s_nx (if_f (ri_5 n k h S1 _ _ _ _ _ _ _) (s_nil _ _ _ _)) (s_nx lo
      (s_nx (a_nx (ri_7 n k h S1 _ _ _ _ _ _ _) (by rfl)) (s_nx (a_nx (ri_8 n k h S1 _ _ _ _ _ _) (by rfl)) (s_nx (if_f (ri_9 n k h S1 _ _ _ _ _ _) (s_nil _ _ _ _)) (s_nx (a_nx b1 (by rfl)) (s_nx (a_nx b2 (by rfl)) (s_rt (r_rt (ri_end n k h S2 hd _ _ _ _ _ _ _))))))))))))))
    (u1.trans u2).len
end Dw

set_option Elab.async false
set_option linter.all false
set_option maxRecDepth 100000
set_option maxHeartbeats 4000000
/-! The wells, the law. -/
namespace Dw
open PySem
abbrev scv (ns : List Int) : Val := .scr (ns.map .int)
abbrev wR (ns : List Int) (lap : Nat) (x2 x3 x4 : Option Val) : Rho := [some (scv ns), some (.dat (iN lap)), x2, x3, x4]
theorem mod_int {i : Int} {m : Nat} (hm : 0 < m) : ∃ r : Nat, r < m ∧ binD .mod (.int i) (iN m) = some (iN r) := by
  have h1 := Int.emod_nonneg i (show (m : Int) ≠ 0 by omega)
  have h2 := Int.emod_lt_of_pos i (show (0 : Int) < m by omega)
  refine ⟨(i % (m : Int)).toNat, by omega, ?_⟩
  rw [b_mod _ _ (by omega)]
  congr 2
  omega
abbrev wB : List Sx := [.asg (.name 2) (.bin .mod (.blt .int1 [(.bin .add (.bin .add (.bin .mul (.var 2) (.con (.int 45281))) (.bin .mod (.blt .int1 [(.var 3)]) (.con (.int 2147483549)))) (.con (.int 19)))]) (.con (.int 2147483563)))]
theorem r_well (n : Nat) (ns : List Int) {lap : Nat} (hl : lap ≤ 1) (S : Sto) : ∃ a b : Nat, b < 2147483563 ∧ run TT GL (n + 1) 17 [scv ns, .dat (iN lap)] S = .ok (.cell S.length) (S ++ [[iN a, iN b, iN 0]]) := by
  have t1 : evE (run TT GL n) GL (.bin .add (.con (.int 130577)) (.bin .mul (.con (.int 7013)) (.var 1))) (wR ns lap none none none) S = .ok (.dat (iN (130577 + 7013 * lap))) S :=
    bin_ok (e_con _ _ _ _ _) (bin_ok (e_con _ _ _ _ _) (v_ok rfl) (mul_nat' (a := 7013) (b := lap) (by omega) (by omega))) (add_nat 130577 _)
  have hv : evI (run TT GL n) GL (.val (.sl (.var 0) none (some (.con (.int 12))))) (wR ns lap (some (.dat (iN (130577 + 7013 * lap)))) none none) S = .ok ((cutD (ns.map PyData.int) none (some 12)).map .dat) S := by
    rw [i_val, e_sl, v_ok rfl, bind_ok, o_none, bind_ok, o_some, e_con, bind_ok, toI_ok, bind_ok, bind_ok]
    rfl
  have cm : ∀ d ∈ cutD (ns.map PyData.int) none (some 12), ∃ i : Int, d = .int i := fun d hd => by
    unfold cutD at hd
    have := List.mem_of_mem_drop (List.mem_of_mem_take hd)
    rw [List.mem_map] at this
    obtain ⟨i, _, rfl⟩ := this
    exact ⟨i, rfl⟩
  obtain ⟨ρ', e2, ⟨s, x3, hs, rfl⟩⟩ := loop_inv (body := evSs (run TT GL n) GL wB) (S := S) (i := 3) (I := fun ρ => ∃ (s : Nat) (x3 : Option Val), s < 2147483563 ∧ ρ = wR ns lap (some (.dat (iN s))) x3 none) ((cutD (ns.map PyData.int) none (some 12)).map .dat) (wR ns lap (some (.dat (iN (130577 + 7013 * lap)))) none none) ⟨_, _, by omega, rfl⟩ (fun v hv ρ hρ => by
    obtain ⟨s, x3, hs, rfl⟩ := hρ
    rw [List.mem_map] at hv
    obtain ⟨d, hd, rfl⟩ := hv
    obtain ⟨i, rfl⟩ := cm d hd
    obtain ⟨r, hr, er⟩ := mod_int (i := i) (m := 2147483549) (by omega)
    have t : evE (run TT GL n) GL (.bin .mod (.blt .int1 [(.bin .add (.bin .add (.bin .mul (.var 2) (.con (.int 45281))) (.bin .mod (.blt .int1 [(.var 3)]) (.con (.int 2147483549)))) (.con (.int 19)))]) (.con (.int 2147483563))) (wR ns lap (some (.dat (iN s))) (some (.dat (.int i))) none) S = .ok (.dat (iN ((s * 45281 + r + 19) % 2147483563))) S :=
      bin_ok (blt1_ok (bin_ok (bin_ok (bin_ok (v_ok rfl) (e_con _ _ _ _ _) (mul_nat' (a := s) (b := 45281) (by omega) (by omega))) (bin_ok (blt1_ok (v_ok rfl) (bl_int _)) (e_con _ _ _ _ _) er) (add_nat _ _)) (e_con _ _ _ _ _) (add_nat _ 19)) (bl_int _)) (e_con _ _ _ _ _) (mod_nat (b := 2147483563) (by omega))
    exact ⟨wR ns lap (some (.dat (iN ((s * 45281 + r + 19) % 2147483563)))) (some (.dat (.int i))) none, s_nx (a_nx t rfl) (s_nil _ _ _ _), _, _, Nat.mod_lt _ (by omega), rfl⟩)
  have ln0 : evE (run TT GL n) GL (.blt .len [(.var 0)]) (wR ns lap (some (.dat (iN s))) x3 none) S = .ok (.dat (iN ns.length)) S := by
    rw [e_blt, l_cons, v_ok rfl, bind_ok, l_nil, bind_ok, bind_ok]
    show R.ok (Val.dat (.int ((ns.map PyData.int).length : Int))) S = _
    rw [List.length_map]
  have own : ∃ o : Int, evE (run TT GL n) GL (.ife (.cmp .lt (.var 1) (.blt .len [(.var 0)])) (.blt .int1 [(.idx (.var 0) (.var 1))]) (.con (.int 0))) (wR ns lap (some (.dat (iN s))) x3 none) S = .ok (.dat (.int o)) S := by
    have c : evE (run TT GL n) GL (.cmp .lt (.var 1) (.blt .len [(.var 0)])) (wR ns lap (some (.dat (iN s))) x3 none) S = .ok (.dat (.bool (decide ((lap : Int) < (ns.length : Int))))) S := cmp_ok (v_ok rfl) ln0 (c_lt _ _)
    by_cases h : lap < ns.length
    · rw [decide_eq_true (show (lap : Int) < (ns.length : Int) by omega)] at c
      have ix : evE (run TT GL n) GL (.idx (.var 0) (.var 1)) (wR ns lap (some (.dat (iN s))) x3 none) S = .ok (.dat (.int ns[lap])) S := by
        rw [e_idx, v_ok rfl, bind_ok, v_ok rfl, bind_ok]
        have e : idxR (scv ns) (.dat (iN lap)) S = give ((idxD (.list (ns.map .int)) (iN lap)).map .dat) S := rfl
        rw [e, ix_l, nth_nat, List.getElem?_map, List.getElem?_eq_getElem h]
        rfl
      exact ⟨_, ife_t c (blt1_ok ix (bl_int _))⟩
    · rw [decide_eq_false (show ¬ (lap : Int) < (ns.length : Int) by omega)] at c
      exact ⟨0, ife_f c (e_con _ _ _ _ _)⟩
  obtain ⟨o, t4⟩ := own
  obtain ⟨r, hr, er⟩ := mod_int (i := o) (m := 2147483549) (by omega)
  have t5 : evE (run TT GL n) GL (.bin .mod (.blt .int1 [(.bin .add (.bin .add (.bin .mul (.var 2) (.con (.int 41))) (.bin .mul (.bin .mod (.blt .int1 [(.var 4)]) (.con (.int 2147483549))) (.con (.int 15031)))) (.con (.int 5)))]) (.con (.int 2147483563))) (wR ns lap (some (.dat (iN s))) x3 (some (.dat (.int o)))) S = .ok (.dat (iN ((s * 41 + r * 15031 + 5) % 2147483563))) S :=
    bin_ok (blt1_ok (bin_ok (bin_ok (bin_ok (v_ok rfl) (e_con _ _ _ _ _) (mul_nat' (a := s) (b := 41) (by omega) (by omega))) (bin_ok (bin_ok (blt1_ok (v_ok rfl) (bl_int _)) (e_con _ _ _ _ _) er) (e_con _ _ _ _ _) (mul_nat' (a := r) (b := 15031) (by omega) (by omega))) (add_nat _ _)) (e_con _ _ _ _ _) (add_nat _ 5)) (bl_int _)) (e_con _ _ _ _ _) (mod_nat (b := 2147483563) (by omega))
  generalize hb : (s * 41 + r * 15031 + 5) % 2147483563 = b at t5
  have bb : b < 2147483563 := by rw [← hb]; exact Nat.mod_lt _ (by omega)
  have t6 : ∃ a : Nat, evE (run TT GL n) GL (.ife (.or [(.cmp .lt (.var 4) (.con (.int 0))), (.cmp .ge (.var 4) (.bin .pow (.con (.int 10)) (.con (.int 15))))]) (.blt .abs [(.var 4)]) (.con (.int 0))) (wR ns lap (some (.dat (iN b))) x3 (some (.dat (.int o)))) S = .ok (.dat (iN a)) S := by
    have c1 : evE (run TT GL n) GL (.cmp .lt (.var 4) (.con (.int 0))) (wR ns lap (some (.dat (iN b))) x3 (some (.dat (.int o)))) S = .ok (.dat (.bool (decide (o < 0)))) S := cmp_ok (v_ok rfl) (e_con _ _ _ _ _) (c_lt _ _)
    have pw : binD .pow (.int 10) (.int 15) = some (.int 1000000000000000) := by
      show (if (0 : Int) ≤ 15 ∧ (15 : Int) ≤ 1000 ∧ (10 : Int).natAbs < 1000 then some (PyData.int ((10 : Int) ^ (15 : Int).toNat)) else none) = _
      rw [if_pos (by decide)]
      exact congrArg (fun i => some (PyData.int i)) (by decide)
    have c2 : evE (run TT GL n) GL (.cmp .ge (.var 4) (.bin .pow (.con (.int 10)) (.con (.int 15)))) (wR ns lap (some (.dat (iN b))) x3 (some (.dat (.int o)))) S = .ok (.dat (.bool (decide ((1000000000000000 : Int) ≤ o)))) S := cmp_ok (v_ok rfl) (bin_ok (e_con _ _ _ _ _) (e_con _ _ _ _ _) pw) (c_ge _ _)
    have ab : evE (run TT GL n) GL (.blt .abs [(.var 4)]) (wR ns lap (some (.dat (iN b))) x3 (some (.dat (.int o)))) S = .ok (.dat (iN o.natAbs)) S := blt1_ok (v_ok rfl) (by
      rw [bl_abs]
      congr 2
      split <;> omega)
    by_cases h1 : o < 0
    · rw [decide_eq_true h1] at c1
      exact ⟨_, ife_t ((e_or _ _ _ _ _).trans (or2_t c1)) ab⟩
    · rw [decide_eq_false h1] at c1
      by_cases h2 : (1000000000000000 : Int) ≤ o
      · rw [decide_eq_true h2] at c2
        exact ⟨_, ife_t ((e_or _ _ _ _ _).trans (or2_f c1 ((e_or1 _ _ _ _ _).trans c2))) ab⟩
      · rw [decide_eq_false h2] at c2
        exact ⟨0, ife_f ((e_or _ _ _ _ _).trans (or2_f c1 ((e_or1 _ _ _ _ _).trans c2))) (e_con _ _ _ _ _)⟩
  obtain ⟨a, t6⟩ := t6
  have t7 : evE (run TT GL n) GL (.new [(.ife (.or [(.cmp .lt (.var 4) (.con (.int 0))), (.cmp .ge (.var 4) (.bin .pow (.con (.int 10)) (.con (.int 15))))]) (.blt .abs [(.var 4)]) (.con (.int 0))), (.var 2), (.con (.int 0))]) (wR ns lap (some (.dat (iN b))) x3 (some (.dat (.int o)))) S = .ok (.cell S.length) (S ++ [[iN a, iN b, iN 0]]) := by
    rw [e_new, l_cons, t6, bind_ok, l_cons, v_ok rfl, bind_ok, l_cons, e_con, bind_ok, l_nil, bind_ok, bind_ok, bind_ok, bind_ok]
    rfl
  refine ⟨a, b, bb, ?_⟩
  have body : evSs (run TT GL n) GL F__law_well.body (wR ns lap none none none) S = .rt (.cell S.length) (S ++ [[iN a, iN b, iN 0]]) :=
    s_nx (a_nx t1 (by rfl)) (s_nx (f_nx hv e2) (s_nx (a_nx t4 (by rfl)) (s_nx (a_nx t5 (by rfl)) (s_rt (r_rt t7)))))
  rw [run_eq (F := F__law_well) (by rfl) (by rfl) (by decide)]
  exact congrArg (handBack true S.length) body
/-- turns that change the store, each true -/
theorem compL_true {f : Val → Sto → R (Option Val)} {I : Nat → Sto → Prop} {u : Nat} : ∀ (vs : List Val) (B : Nat) (S : Sto), I B S → (∀ v ∈ vs, ∀ B' S, B' ≤ B + u * vs.length → I B' S → ∃ S', f v S = .ok (some (.dat (.bool true))) S' ∧ I (B' + u) S') →
    ∃ (S' : Sto), compL f vs S = .ok ((vs.map fun _ => PyData.bool true).map .dat) S'
  | [], B, S, h, _ => ⟨S, rfl⟩
  | v :: vs, B, S, h, hf => by
    obtain ⟨S1, e1, i1⟩ := hf v List.mem_cons_self B S (by omega) h
    have em : u * (v :: vs).length = u * vs.length + u := by rw [List.length_cons, Nat.mul_succ]
    obtain ⟨S2, e2⟩ := compL_true vs (B + u) S1 i1 fun w hw B' S hB hI => hf w (List.mem_cons_of_mem _ hw) B' S (by omega) hI
    refine ⟨S2, ?_⟩
    unfold compL
    rw [e1, bind_ok, e2, bind_ok]
    rfl
theorem law_true (ns : List Int) (h : ns.length ≤ 63) : ∃ S, run TT GL 40 26 [scv ns] [] = .ok (.dat (.bool true)) S := by
  obtain ⟨a, b, hb, e0⟩ := r_well 38 ns (lap := 0) (by omega) []
  obtain ⟨a', b', hb', e1⟩ := r_well 38 ns (lap := 1) (by omega) [[iN a, iN b, iN 0]]
  have hi : evI (run TT GL 39) GL (.rng1 (.con (.int 2))) [some (scv ns), none, none, none] [] = .ok ((List.range 2).map fun k => Val.dat (iN k)) [] := rng1_nat (p := 2) (by omega) (e_con _ _ _ _ _)
  have t1 : evE (run TT GL 39) GL (.cp (.callK 17 [] [0, 1] [] [(.var 0), (.var 2)] []) (.name 2) (.rng1 (.con (.int 2))) [] [2]) [some (scv ns), none, none, none] [] = .ok (.cells [0, 1]) [[iN a, iN b, iN 0], [iN a', iN b', iN 0]] := by
    have q0 : evE (run TT GL 39) GL (.cp (.callK 17 [] [0, 1] [] [(.var 0), (.var 2)] []) (.name 2) (.rng1 (.con (.int 2))) [] [2]) [some (scv ns), none, none, none] [] = cpF (.name 2) [2] (evIf (run TT GL 39) GL []) (evE (run TT GL 39) GL (.callK 17 [] [0, 1] [] [(.var 0), (.var 2)] [])) (evI (run TT GL 39) GL (.rng1 (.con (.int 2)))) [some (scv ns), none, none, none] [] := rfl
    rw [q0]
    unfold cpF
    rw [hi, bind_ok, if_pos (show ((List.range 2).map fun k => Val.dat (iN k)).length ≤ LINE from line_big (by rw [List.length_map, List.length_range]; omega))]
    have f0 := turn_some (t := .name 2) (own := [2]) (ff := evIf (run TT GL 39) GL []) (fe := evE (run TT GL 39) GL (.callK 17 [] [0, 1] [] [(.var 0), (.var 2)] [])) (ρ := [some (scv ns), none, none, none]) (ρ' := [some (scv ns), none, some (.dat (iN 0)), none]) (v := .dat (iN 0)) (S := []) rfl (if_nil _ _ _ _) (e_call2 (v_ok rfl) (v_ok rfl) e0)
    have f1 := turn_some (t := .name 2) (own := [2]) (ff := evIf (run TT GL 39) GL []) (fe := evE (run TT GL 39) GL (.callK 17 [] [0, 1] [] [(.var 0), (.var 2)] [])) (ρ := [some (scv ns), none, none, none]) (ρ' := [some (scv ns), none, some (.dat (iN 1)), none]) (v := .dat (iN 1)) (S := [[iN a, iN b, iN 0]]) rfl (if_nil _ _ _ _) (e_call2 (v_ok rfl) (v_ok rfl) e1)
    have lr : (List.range 2).map (fun k => Val.dat (iN k)) = [.dat (iN 0), .dat (iN 1)] := rfl
    rw [lr, compL_ext]
    simp only []
    rw [f0, bind_ok, compL_ext]
    simp only []
    rw [List.nil_append, f1, bind_ok, compL_ext]
    rfl
  have hi2 : evI (run TT GL 39) GL (.rng1 (.con (.int 32))) [some (scv ns), some (.cells [0, 1]), none, none] [[iN a, iN b, iN 0], [iN a', iN b', iN 0]] = .ok ((List.range 32).map fun k => Val.dat (iN k)) [[iN a, iN b, iN 0], [iN a', iN b', iN 0]] := rng1_nat (p := 32) (by omega) (e_con _ _ _ _ _)
  obtain ⟨S2, e2⟩ := compL_true (f := turnF (.name 3) [3] (evIf (run TT GL 39) GL []) (evE (run TT GL 39) GL (.callK 25 [] [0] [] [(.idx (.var 1) (.bin .mod (.blt .int1 [(.var 3)]) (.con (.int 2))))] [])) [some (scv ns), some (.cells [0, 1]), none, none])
    (I := fun B S => Wl S 0 B ∧ Wl S 1 B) (u := 20) ((List.range 32).map fun k => Val.dat (iN k)) 0 [[iN a, iN b, iN 0], [iN a', iN b', iN 0]] ⟨⟨a, b, 0, rfl, hb, Nat.le_refl _⟩, ⟨a', b', 0, rfl, hb', Nat.le_refl _⟩⟩ (fun v hv B S hB ⟨w0, w1⟩ => by
      rw [List.length_map, List.length_range] at hB
      simp only [List.mem_map, List.mem_range] at hv
      obtain ⟨k, hk, rfl⟩ := hv
      have ix : evE (run TT GL 39) GL (.bin .mod (.blt .int1 [(.var 3)]) (.con (.int 2))) [some (scv ns), some (.cells [0, 1]), none, some (.dat (iN k))] S = .ok (.dat (iN (k % 2))) S := bin_ok (blt1_ok (v_ok rfl) (bl_int _)) (e_con _ _ _ _ _) (mod_nat (b := 2) (by omega))
      have cl : ∀ j, j < 2 → k % 2 = j → evE (run TT GL 39) GL (.idx (.var 1) (.bin .mod (.blt .int1 [(.var 3)]) (.con (.int 2)))) [some (scv ns), some (.cells [0, 1]), none, some (.dat (iN k))] S = .ok (.cell j) S := fun j hj e => by
        rw [e_idx, v_ok rfl, bind_ok, ix, bind_ok, e]
        match j, hj with
        | 0, _ => rfl
        | 1, _ => rfl
      rcases Nat.mod_two_eq_zero_or_one k with e | e
      · obtain ⟨S', r, w0', u⟩ := r_right 33 w0 (by omega)
        exact ⟨S', turn_some (ρ' := [some (scv ns), some (.cells [0, 1]), none, some (.dat (iN k))]) rfl (if_nil _ _ _ _) (e_call1 (cl 0 (by omega) e) r), w0', (w1.oth u (by omega)).mono (by omega)⟩
      · obtain ⟨S', r, w1', u⟩ := r_right 33 w1 (by omega)
        exact ⟨S', turn_some (ρ' := [some (scv ns), some (.cells [0, 1]), none, some (.dat (iN k))]) rfl (if_nil _ _ _ _) (e_call1 (cl 1 (by omega) e) r), (w0.oth u (by omega)).mono (by omega), w1'⟩)
  have t2 := cp_run (tg := .name 3) (ifs := []) (own := [3]) hi2 (by rw [List.length_map, List.length_range]; omega) e2
  have al : bltD .all1 [.list (((List.range 32).map fun k => Val.dat (iN k)).map fun _ => PyData.bool true)] = some (.bool true) := by
    rw [bl_all, allTrue_map (fun _ : Val => true)]
    simp
  have body : evSs (run TT GL 39) GL F_law.body [some (scv ns), none, none, none] [] = .rt (.dat (.bool true)) S2 :=
    s_nx (a_nx t1 (by rfl)) (s_rt (r_rt (blt1_ok t2 al)))
  refine ⟨S2.take 0, ?_⟩
  rw [run_eq (F := F_law) (by rfl) (by rfl) (by decide)]
  exact congrArg (handBack false 0) body
end Dw

namespace Dw
open PySem L2
def w00 : Ew := ⟨fun _ => 0, fun _ => Str.ofString ""⟩
end Dw

set_option Elab.async false
set_option linter.all false
set_option maxRecDepth 100000
set_option maxHeartbeats 8000000
namespace Dw
open PySem PySem.Spec PyProof.Rows L2
/-- a def as it stands behind the top -/
def Here (K : PySem.W.Frag) (x : Str) (st : Stmt) (dvs : List V) : Prop := ∃ f fd, PySem.W.nsIn K mainGlobals x = some (some (.ref f)) ∧ FunD K x x (defArgs st) (defBody st) (defScope st) dvs [] f fd
section
variable {K : PySem.W.Frag} {x : Str} {st : Stmt} {f T : Addr} {oc kV dc pm cd ct : Value} {od an : Option Addr} {sl : Array (Option Value)} {ob : Obj} {its : List Value} {dvs : List V} {n : Nat}
theorem here0 (a : PySem.W.nsIn K mainGlobals x = some (some (.ref f))) (l : K.lookup f = some ⟨oc, od, .func (PySem.W.fnOf x x (defArgs st) (defBody st) (defScope st) .none kV dc pm an cd ct), sl⟩) (c : PySem.W.codeIn K cd x = true) (k : PySem.W.keepIn K (.ref f) = true) : Here K x st [] :=
  ⟨f, _, a, ⟨_, _, _, _, _, _, _, _, _, _, rfl, l, c, .inl ⟨rfl, rfl⟩, .inl rfl⟩, k⟩
theorem here1 (a : PySem.W.nsIn K mainGlobals x = some (some (.ref f))) (l : K.lookup f = some ⟨oc, od, .func (PySem.W.fnOf x x (defArgs st) (defBody st) (defScope st) (.ref T) kV dc pm an cd ct), sl⟩) (c : PySem.W.codeIn K cd x = true) (k : PySem.W.keepIn K (.ref f) = true)
    (lT : K.lookup T = some ob) (oT : ob.data = .seq its.toArray n) (hn : dvs ≠ []) (hv : Vals dvs its) : Here K x st dvs :=
  ⟨f, _, a, ⟨_, _, _, _, _, _, _, _, _, _, rfl, l, c, .inr ⟨hn, _, _, _, _, rfl, lT, oT, hv⟩, .inl rfl⟩, k⟩
end
section
variable {K : PySem.W.Frag} {f : Addr} {fd : FuncData}
theorem sh0 (F : FunD K (Str.ofString "is_whole") (Str.ofString "is_whole") (defArgs (topS 1)) (defBody (topS 1)) (defScope (topS 1)) [] [] f fd) : ShapeOk K fd [Str.ofString "value"] 1 [] [0] [] := by
  obtain ⟨oc, od, dV, kV, doc, pm, an, cdv, ct, osl, rfl, lk, hcd, hD, hK⟩ := F.ex
  rcases hD with ⟨_, rfl⟩ | ⟨q, _⟩
  · refine ⟨[], .nil, fun s us ws X hu hw hl => ?_⟩
    match us, ws, hu, hw with
    | [u0], [], _, _ => exact .of_eq rfl
  · exact absurd rfl q
theorem sh1 (F : FunD K (Str.ofString "is_number") (Str.ofString "is_number") (defArgs (topS 2)) (defBody (topS 2)) (defScope (topS 2)) [] [] f fd) : ShapeOk K fd [Str.ofString "value", Str.ofString "low", Str.ofString "high"] 3 [] [0, 1, 2] [] := by
  obtain ⟨oc, od, dV, kV, doc, pm, an, cdv, ct, osl, rfl, lk, hcd, hD, hK⟩ := F.ex
  rcases hD with ⟨_, rfl⟩ | ⟨q, _⟩
  · refine ⟨[], .nil, fun s us ws X hu hw hl => ?_⟩
    match us, ws, hu, hw with
    | [u0, u1, u2], [], _, _ => exact .of_eq rfl
  · exact absurd rfl q
theorem sh2 (F : FunD K (Str.ofString "is_tuple_of") (Str.ofString "is_tuple_of") (defArgs (topS 3)) (defBody (topS 3)) (defScope (topS 3)) [] [] f fd) : ShapeOk K fd [Str.ofString "value", Str.ofString "many"] 2 [] [0, 1] [] := by
  obtain ⟨oc, od, dV, kV, doc, pm, an, cdv, ct, osl, rfl, lk, hcd, hD, hK⟩ := F.ex
  rcases hD with ⟨_, rfl⟩ | ⟨q, _⟩
  · refine ⟨[], .nil, fun s us ws X hu hw hl => ?_⟩
    match us, ws, hu, hw with
    | [u0, u1], [], _, _ => exact .of_eq rfl
  · exact absurd rfl q
theorem sh3 (F : FunD K (Str.ofString "tail_of") (Str.ofString "tail_of") (defArgs (topS 16)) (defBody (topS 16)) (defScope (topS 16)) [] [] f fd) : ShapeOk K fd [Str.ofString "line"] 1 [] [0] [] := by
  obtain ⟨oc, od, dV, kV, doc, pm, an, cdv, ct, osl, rfl, lk, hcd, hD, hK⟩ := F.ex
  rcases hD with ⟨_, rfl⟩ | ⟨q, _⟩
  · refine ⟨[], .nil, fun s us ws X hu hw hl => ?_⟩
    match us, ws, hu, hw with
    | [u0], [], _, _ => exact .of_eq rfl
  · exact absurd rfl q
theorem sh4 (F : FunD K (Str.ofString "at") (Str.ofString "at") (defArgs (topS 15)) (defBody (topS 15)) (defScope (topS 15)) [] [] f fd) : ShapeOk K fd [Str.ofString "line", Str.ofString "time"] 2 [] [0, 1] [] := by
  obtain ⟨oc, od, dV, kV, doc, pm, an, cdv, ct, osl, rfl, lk, hcd, hD, hK⟩ := F.ex
  rcases hD with ⟨_, rfl⟩ | ⟨q, _⟩
  · refine ⟨[], .nil, fun s us ws X hu hw hl => ?_⟩
    match us, ws, hu, hw with
    | [u0, u1], [], _, _ => exact .of_eq rfl
  · exact absurd rfl q
theorem sh5 (F : FunD K (Str.ofString "divisors") (Str.ofString "divisors") (defArgs (topS 17)) (defBody (topS 17)) (defScope (topS 17)) [] [] f fd) : ShapeOk K fd [Str.ofString "number"] 1 [] [0] [] := by
  obtain ⟨oc, od, dV, kV, doc, pm, an, cdv, ct, osl, rfl, lk, hcd, hD, hK⟩ := F.ex
  rcases hD with ⟨_, rfl⟩ | ⟨q, _⟩
  · refine ⟨[], .nil, fun s us ws X hu hw hl => ?_⟩
    match us, ws, hu, hw with
    | [u0], [], _, _ => exact .of_eq rfl
  · exact absurd rfl q
theorem sh6 (F : FunD K (Str.ofString "least_period") (Str.ofString "least_period") (defArgs (topS 18)) (defBody (topS 18)) (defScope (topS 18)) [] [] f fd) : ShapeOk K fd [Str.ofString "line"] 1 [] [0] [] := by
  obtain ⟨oc, od, dV, kV, doc, pm, an, cdv, ct, osl, rfl, lk, hcd, hD, hK⟩ := F.ex
  rcases hD with ⟨_, rfl⟩ | ⟨q, _⟩
  · refine ⟨[], .nil, fun s us ws X hu hw hl => ?_⟩
    match us, ws, hu, hw with
    | [u0], [], _, _ => exact .of_eq rfl
  · exact absurd rfl q
theorem sh7 (F : FunD K (Str.ofString "common_divisor") (Str.ofString "common_divisor") (defArgs (topS 20)) (defBody (topS 20)) (defScope (topS 20)) [] [] f fd) : ShapeOk K fd [Str.ofString "one", Str.ofString "two"] 2 [] [0, 1] [] := by
  obtain ⟨oc, od, dV, kV, doc, pm, an, cdv, ct, osl, rfl, lk, hcd, hD, hK⟩ := F.ex
  rcases hD with ⟨_, rfl⟩ | ⟨q, _⟩
  · refine ⟨[], .nil, fun s us ws X hu hw hl => ?_⟩
    match us, ws, hu, hw with
    | [u0, u1], [], _, _ => exact .of_eq rfl
  · exact absurd rfl q
theorem sh8 (F : FunD K (Str.ofString "is_line_form") (Str.ofString "is_line_form") (defArgs (topS 14)) (defBody (topS 14)) (defScope (topS 14)) [] [] f fd) : ShapeOk K fd [Str.ofString "value"] 1 [] [0] [] := by
  obtain ⟨oc, od, dV, kV, doc, pm, an, cdv, ct, osl, rfl, lk, hcd, hD, hK⟩ := F.ex
  rcases hD with ⟨_, rfl⟩ | ⟨q, _⟩
  · refine ⟨[], .nil, fun s us ws X hu hw hl => ?_⟩
    match us, ws, hu, hw with
    | [u0], [], _, _ => exact .of_eq rfl
  · exact absurd rfl q
theorem sh9 (F : FunD K (Str.ofString "check_line") (Str.ofString "check_line") (defArgs (topS 23)) (defBody (topS 23)) (defScope (topS 23)) [] [] f fd) : ShapeOk K fd [Str.ofString "value"] 1 [] [0] [] := by
  obtain ⟨oc, od, dV, kV, doc, pm, an, cdv, ct, osl, rfl, lk, hcd, hD, hK⟩ := F.ex
  rcases hD with ⟨_, rfl⟩ | ⟨q, _⟩
  · refine ⟨[], .nil, fun s us ws X hu hw hl => ?_⟩
    match us, ws, hu, hw with
    | [u0], [], _, _ => exact .of_eq rfl
  · exact absurd rfl q
theorem sh10 (F : FunD K (Str.ofString "check_number") (Str.ofString "check_number") (defArgs (topS 11)) (defBody (topS 11)) (defScope (topS 11)) [.int 0, .int 2000] [] f fd) : ShapeOk K fd [Str.ofString "value", Str.ofString "low", Str.ofString "high"] 1 [] [0, 1, 2] [0, 2000] := by
  obtain ⟨ds, rd, hb⟩ := F.binds1 (ps := [Str.ofString "value", Str.ofString "low", Str.ofString "high"]) 1 0 (by simp) rfl (fun T kV doc pm an cdv ct us its hu hi => match us, its, hu, hi with
    | [u0], [i0, i1], _, _ => ⟨_, rfl, rfl⟩)
  refine ⟨ds, rd, fun s us ws X hu hw hl => ?_⟩
  have hd := rd.length
  match us, ws, ds, hu, hw, hd with
  | [u0], [], [d0, d1], _, _, _ => exact hb s [u0] X rfl
theorem sh11 (F : FunD K (Str.ofString "least") (Str.ofString "least") (defArgs (topS 19)) (defBody (topS 19)) (defScope (topS 19)) [] [] f fd) : ShapeOk K fd [Str.ofString "line"] 1 [] [0] [] := by
  obtain ⟨oc, od, dV, kV, doc, pm, an, cdv, ct, osl, rfl, lk, hcd, hD, hK⟩ := F.ex
  rcases hD with ⟨_, rfl⟩ | ⟨q, _⟩
  · refine ⟨[], .nil, fun s us ws X hu hw hl => ?_⟩
    match us, ws, hu, hw with
    | [u0], [], _, _ => exact .of_eq rfl
  · exact absurd rfl q
theorem sh12 (F : FunD K (Str.ofString "share") (Str.ofString "share") (defArgs (topS 21)) (defBody (topS 21)) (defScope (topS 21)) [] [] f fd) : ShapeOk K fd [Str.ofString "line"] 1 [] [0] [] := by
  obtain ⟨oc, od, dV, kV, doc, pm, an, cdv, ct, osl, rfl, lk, hcd, hD, hK⟩ := F.ex
  rcases hD with ⟨_, rfl⟩ | ⟨q, _⟩
  · refine ⟨[], .nil, fun s us ws X hu hw hl => ?_⟩
    match us, ws, hu, hw with
    | [u0], [], _, _ => exact .of_eq rfl
  · exact absurd rfl q
theorem sh13 (F : FunD K (Str.ofString "_law_draw") (Str.ofString "_law_draw") (defArgs (topS 30)) (defBody (topS 30)) (defScope (topS 30)) [] [] f fd) : ShapeOk K fd [Str.ofString "well", Str.ofString "limit"] 2 [] [0, 1] [] := by
  obtain ⟨oc, od, dV, kV, doc, pm, an, cdv, ct, osl, rfl, lk, hcd, hD, hK⟩ := F.ex
  rcases hD with ⟨_, rfl⟩ | ⟨q, _⟩
  · refine ⟨[], .nil, fun s us ws X hu hw hl => ?_⟩
    match us, ws, hu, hw with
    | [u0, u1], [], _, _ => exact .of_eq rfl
  · exact absurd rfl q
theorem sh14 (F : FunD K (Str.ofString "_law_line_at") (Str.ofString "_law_line_at") (defArgs (topS 33)) (defBody (topS 33)) (defScope (topS 33)) [] [] f fd) : ShapeOk K fd [Str.ofString "line", Str.ofString "time"] 2 [] [0, 1] [] := by
  obtain ⟨oc, od, dV, kV, doc, pm, an, cdv, ct, osl, rfl, lk, hcd, hD, hK⟩ := F.ex
  rcases hD with ⟨_, rfl⟩ | ⟨q, _⟩
  · refine ⟨[], .nil, fun s us ws X hu hw hl => ?_⟩
    match us, ws, hu, hw with
    | [u0, u1], [], _, _ => exact .of_eq rfl
  · exact absurd rfl q
theorem sh15 (F : FunD K (Str.ofString "_law_drawn_line") (Str.ofString "_law_drawn_line") (defArgs (topS 35)) (defBody (topS 35)) (defScope (topS 35)) [] [] f fd) : ShapeOk K fd [Str.ofString "well"] 1 [] [0] [] := by
  obtain ⟨oc, od, dV, kV, doc, pm, an, cdv, ct, osl, rfl, lk, hcd, hD, hK⟩ := F.ex
  rcases hD with ⟨_, rfl⟩ | ⟨q, _⟩
  · refine ⟨[], .nil, fun s us ws X hu hw hl => ?_⟩
    match us, ws, hu, hw with
    | [u0], [], _, _ => exact .of_eq rfl
  · exact absurd rfl q
theorem sh16 (F : FunD K (Str.ofString "is_line") (Str.ofString "is_line") (defArgs (topS 24)) (defBody (topS 24)) (defScope (topS 24)) [] [] f fd) : ShapeOk K fd [Str.ofString "value"] 1 [] [0] [] := by
  obtain ⟨oc, od, dV, kV, doc, pm, an, cdv, ct, osl, rfl, lk, hcd, hD, hK⟩ := F.ex
  rcases hD with ⟨_, rfl⟩ | ⟨q, _⟩
  · refine ⟨[], .nil, fun s us ws X hu hw hl => ?_⟩
    match us, ws, hu, hw with
    | [u0], [], _, _ => exact .of_eq rfl
  · exact absurd rfl q
theorem sh17 (F : FunD K (Str.ofString "is_line") (Str.ofString "is_line") (defArgs (topS 24)) (defBody (topS 24)) (defScope (topS 24)) [] [] f fd) : ShapeOk K fd [Str.ofString "value"] 0 [Str.ofString "value"] [0] [] := by
  obtain ⟨oc, od, dV, kV, doc, pm, an, cdv, ct, osl, rfl, lk, hcd, hD, hK⟩ := F.ex
  rcases hD with ⟨_, rfl⟩ | ⟨q, _⟩
  · refine ⟨[], .nil, fun s us ws X hu hw hl => ?_⟩
    match us, ws, hu, hw with
    | [], [w0], _, _ => exact .of_eq rfl
  · exact absurd rfl q
theorem sh18 (F : FunD K (Str.ofString "least_line") (Str.ofString "least_line") (defArgs (topS 26)) (defBody (topS 26)) (defScope (topS 26)) [] [] f fd) : ShapeOk K fd [Str.ofString "line"] 0 [Str.ofString "line"] [0] [] := by
  obtain ⟨oc, od, dV, kV, doc, pm, an, cdv, ct, osl, rfl, lk, hcd, hD, hK⟩ := F.ex
  rcases hD with ⟨_, rfl⟩ | ⟨q, _⟩
  · refine ⟨[], .nil, fun s us ws X hu hw hl => ?_⟩
    match us, ws, hu, hw with
    | [], [w0], _, _ => exact .of_eq rfl
  · exact absurd rfl q
theorem sh19 (F : FunD K (Str.ofString "_law_is_least") (Str.ofString "_law_is_least") (defArgs (topS 34)) (defBody (topS 34)) (defScope (topS 34)) [] [] f fd) : ShapeOk K fd [Str.ofString "line"] 1 [] [0] [] := by
  obtain ⟨oc, od, dV, kV, doc, pm, an, cdv, ct, osl, rfl, lk, hcd, hD, hK⟩ := F.ex
  rcases hD with ⟨_, rfl⟩ | ⟨q, _⟩
  · refine ⟨[], .nil, fun s us ws X hu hw hl => ?_⟩
    match us, ws, hu, hw with
    | [u0], [], _, _ => exact .of_eq rfl
  · exact absurd rfl q
theorem sh20 (F : FunD K (Str.ofString "_law_same") (Str.ofString "_law_same") (defArgs (topS 32)) (defBody (topS 32)) (defScope (topS 32)) [] [] f fd) : ShapeOk K fd [Str.ofString "one", Str.ofString "two"] 2 [] [0, 1] [] := by
  obtain ⟨oc, od, dV, kV, doc, pm, an, cdv, ct, osl, rfl, lk, hcd, hD, hK⟩ := F.ex
  rcases hD with ⟨_, rfl⟩ | ⟨q, _⟩
  · refine ⟨[], .nil, fun s us ws X hu hw hl => ?_⟩
    match us, ws, hu, hw with
    | [u0, u1], [], _, _ => exact .of_eq rfl
  · exact absurd rfl q
theorem sh21 (F : FunD K (Str.ofString "least_line") (Str.ofString "least_line") (defArgs (topS 26)) (defBody (topS 26)) (defScope (topS 26)) [] [] f fd) : ShapeOk K fd [Str.ofString "line"] 1 [] [0] [] := by
  obtain ⟨oc, od, dV, kV, doc, pm, an, cdv, ct, osl, rfl, lk, hcd, hD, hK⟩ := F.ex
  rcases hD with ⟨_, rfl⟩ | ⟨q, _⟩
  · refine ⟨[], .nil, fun s us ws X hu hw hl => ?_⟩
    match us, ws, hu, hw with
    | [u0], [], _, _ => exact .of_eq rfl
  · exact absurd rfl q
theorem sh22 (F : FunD K (Str.ofString "line_at") (Str.ofString "line_at") (defArgs (topS 25)) (defBody (topS 25)) (defScope (topS 25)) [] [] f fd) : ShapeOk K fd [Str.ofString "line", Str.ofString "number"] 2 [] [0, 1] [] := by
  obtain ⟨oc, od, dV, kV, doc, pm, an, cdv, ct, osl, rfl, lk, hcd, hD, hK⟩ := F.ex
  rcases hD with ⟨_, rfl⟩ | ⟨q, _⟩
  · refine ⟨[], .nil, fun s us ws X hu hw hl => ?_⟩
    match us, ws, hu, hw with
    | [u0, u1], [], _, _ => exact .of_eq rfl
  · exact absurd rfl q
theorem sh23 (F : FunD K (Str.ofString "line_at") (Str.ofString "line_at") (defArgs (topS 25)) (defBody (topS 25)) (defScope (topS 25)) [] [] f fd) : ShapeOk K fd [Str.ofString "line", Str.ofString "number"] 1 [Str.ofString "number"] [0, 1] [] := by
  obtain ⟨oc, od, dV, kV, doc, pm, an, cdv, ct, osl, rfl, lk, hcd, hD, hK⟩ := F.ex
  rcases hD with ⟨_, rfl⟩ | ⟨q, _⟩
  · refine ⟨[], .nil, fun s us ws X hu hw hl => ?_⟩
    match us, ws, hu, hw with
    | [u0], [w0], _, _ => exact .of_eq rfl
  · exact absurd rfl q
theorem sh24 (F : FunD K (Str.ofString "_law_divisor") (Str.ofString "_law_divisor") (defArgs (topS 36)) (defBody (topS 36)) (defScope (topS 36)) [] [] f fd) : ShapeOk K fd [Str.ofString "one", Str.ofString "two"] 2 [] [0, 1] [] := by
  obtain ⟨oc, od, dV, kV, doc, pm, an, cdv, ct, osl, rfl, lk, hcd, hD, hK⟩ := F.ex
  rcases hD with ⟨_, rfl⟩ | ⟨q, _⟩
  · refine ⟨[], .nil, fun s us ws X hu hw hl => ?_⟩
    match us, ws, hu, hw with
    | [u0, u1], [], _, _ => exact .of_eq rfl
  · exact absurd rfl q
theorem sh25 (F : FunD K (Str.ofString "share_of") (Str.ofString "share_of") (defArgs (topS 27)) (defBody (topS 27)) (defScope (topS 27)) [] [] f fd) : ShapeOk K fd [Str.ofString "line"] 1 [] [0] [] := by
  obtain ⟨oc, od, dV, kV, doc, pm, an, cdv, ct, osl, rfl, lk, hcd, hD, hK⟩ := F.ex
  rcases hD with ⟨_, rfl⟩ | ⟨q, _⟩
  · refine ⟨[], .nil, fun s us ws X hu hw hl => ?_⟩
    match us, ws, hu, hw with
    | [u0], [], _, _ => exact .of_eq rfl
  · exact absurd rfl q
theorem sh26 (F : FunD K (Str.ofString "share_of") (Str.ofString "share_of") (defArgs (topS 27)) (defBody (topS 27)) (defScope (topS 27)) [] [] f fd) : ShapeOk K fd [Str.ofString "line"] 0 [Str.ofString "line"] [0] [] := by
  obtain ⟨oc, od, dV, kV, doc, pm, an, cdv, ct, osl, rfl, lk, hcd, hD, hK⟩ := F.ex
  rcases hD with ⟨_, rfl⟩ | ⟨q, _⟩
  · refine ⟨[], .nil, fun s us ws X hu hw hl => ?_⟩
    match us, ws, hu, hw with
    | [], [w0], _, _ => exact .of_eq rfl
  · exact absurd rfl q
theorem sh27 (F : FunD K (Str.ofString "_law_of") (Str.ofString "_law_of") (defArgs (topS 31)) (defBody (topS 31)) (defScope (topS 31)) [] [] f fd) : ShapeOk K fd [Str.ofString "well", Str.ofString "some"] 2 [] [0, 1] [] := by
  obtain ⟨oc, od, dV, kV, doc, pm, an, cdv, ct, osl, rfl, lk, hcd, hD, hK⟩ := F.ex
  rcases hD with ⟨_, rfl⟩ | ⟨q, _⟩
  · refine ⟨[], .nil, fun s us ws X hu hw hl => ?_⟩
    match us, ws, hu, hw with
    | [u0, u1], [], _, _ => exact .of_eq rfl
  · exact absurd rfl q
theorem sh28 (F : FunD K (Str.ofString "_law_well") (Str.ofString "_law_well") (defArgs (topS 29)) (defBody (topS 29)) (defScope (topS 29)) [] [] f fd) : ShapeOk K fd [Str.ofString "script", Str.ofString "lap"] 2 [] [0, 1] [] := by
  obtain ⟨oc, od, dV, kV, doc, pm, an, cdv, ct, osl, rfl, lk, hcd, hD, hK⟩ := F.ex
  rcases hD with ⟨_, rfl⟩ | ⟨q, _⟩
  · refine ⟨[], .nil, fun s us ws X hu hw hl => ?_⟩
    match us, ws, hu, hw with
    | [u0, u1], [], _, _ => exact .of_eq rfl
  · exact absurd rfl q
theorem sh29 (F : FunD K (Str.ofString "_law_right") (Str.ofString "_law_right") (defArgs (topS 37)) (defBody (topS 37)) (defScope (topS 37)) [] [] f fd) : ShapeOk K fd [Str.ofString "well"] 1 [] [0] [] := by
  obtain ⟨oc, od, dV, kV, doc, pm, an, cdv, ct, osl, rfl, lk, hcd, hD, hK⟩ := F.ex
  rcases hD with ⟨_, rfl⟩ | ⟨q, _⟩
  · refine ⟨[], .nil, fun s us ws X hu hw hl => ?_⟩
    match us, ws, hu, hw with
    | [u0], [], _, _ => exact .of_eq rfl
  · exact absurd rfl q
end
/-- the ways in which a def is called -/
def shsOf (f : Nat) : List (Nat × List Str × List Nat × List Int) := P.shs.filterMap fun s => if s.1 = f then some s.2 else none
theorem mem_shs {f nu : Nat} {ks : List Str} {perm : List Nat} {dfl : List Int} (h : (f, nu, ks, perm, dfl) ∈ P.shs) : (nu, ks, perm, dfl) ∈ shsOf f := by
  unfold shsOf
  rw [List.mem_filterMap]
  exact ⟨_, h, if_pos rfl⟩
theorem shs0 {nu : Nat} {ks : List Str} {perm : List Nat} {dfl : List Int} (h : (0, nu, ks, perm, dfl) ∈ P.shs) : (nu, ks, perm, dfl) = (1, [], [0], []) := by
  have h := mem_shs h
  rw [show shsOf 0 = [(1, [], [0], [])] from rfl] at h
  simpa using h
theorem shs1 {nu : Nat} {ks : List Str} {perm : List Nat} {dfl : List Int} (h : (1, nu, ks, perm, dfl) ∈ P.shs) : (nu, ks, perm, dfl) = (3, [], [0, 1, 2], []) := by
  have h := mem_shs h
  rw [show shsOf 1 = [(3, [], [0, 1, 2], [])] from rfl] at h
  simpa using h
theorem shs2 {nu : Nat} {ks : List Str} {perm : List Nat} {dfl : List Int} (h : (2, nu, ks, perm, dfl) ∈ P.shs) : (nu, ks, perm, dfl) = (2, [], [0, 1], []) := by
  have h := mem_shs h
  rw [show shsOf 2 = [(2, [], [0, 1], [])] from rfl] at h
  simpa using h
theorem shs3 {nu : Nat} {ks : List Str} {perm : List Nat} {dfl : List Int} (h : (3, nu, ks, perm, dfl) ∈ P.shs) : (nu, ks, perm, dfl) = (1, [], [0, 1, 2], [0, 2000]) := by
  have h := mem_shs h
  rw [show shsOf 3 = [(1, [], [0, 1, 2], [0, 2000])] from rfl] at h
  simpa using h
theorem shs4 {nu : Nat} {ks : List Str} {perm : List Nat} {dfl : List Int} (h : (4, nu, ks, perm, dfl) ∈ P.shs) : (nu, ks, perm, dfl) = (1, [], [0], []) := by
  have h := mem_shs h
  rw [show shsOf 4 = [(1, [], [0], [])] from rfl] at h
  simpa using h
theorem shs5 {nu : Nat} {ks : List Str} {perm : List Nat} {dfl : List Int} (h : (5, nu, ks, perm, dfl) ∈ P.shs) : (nu, ks, perm, dfl) = (2, [], [0, 1], []) := by
  have h := mem_shs h
  rw [show shsOf 5 = [(2, [], [0, 1], [])] from rfl] at h
  simpa using h
theorem shs6 {nu : Nat} {ks : List Str} {perm : List Nat} {dfl : List Int} (h : (6, nu, ks, perm, dfl) ∈ P.shs) : (nu, ks, perm, dfl) = (1, [], [0], []) := by
  have h := mem_shs h
  rw [show shsOf 6 = [(1, [], [0], [])] from rfl] at h
  simpa using h
theorem shs7 {nu : Nat} {ks : List Str} {perm : List Nat} {dfl : List Int} (h : (7, nu, ks, perm, dfl) ∈ P.shs) : (nu, ks, perm, dfl) = (1, [], [0], []) := by
  have h := mem_shs h
  rw [show shsOf 7 = [(1, [], [0], [])] from rfl] at h
  simpa using h
theorem shs8 {nu : Nat} {ks : List Str} {perm : List Nat} {dfl : List Int} (h : (8, nu, ks, perm, dfl) ∈ P.shs) : (nu, ks, perm, dfl) = (1, [], [0], []) := by
  have h := mem_shs h
  rw [show shsOf 8 = [(1, [], [0], [])] from rfl] at h
  simpa using h
theorem shs9 {nu : Nat} {ks : List Str} {perm : List Nat} {dfl : List Int} (h : (9, nu, ks, perm, dfl) ∈ P.shs) : (nu, ks, perm, dfl) = (1, [], [0], []) := by
  have h := mem_shs h
  rw [show shsOf 9 = [(1, [], [0], [])] from rfl] at h
  simpa using h
theorem shs10 {nu : Nat} {ks : List Str} {perm : List Nat} {dfl : List Int} (h : (10, nu, ks, perm, dfl) ∈ P.shs) : (nu, ks, perm, dfl) = (2, [], [0, 1], []) := by
  have h := mem_shs h
  rw [show shsOf 10 = [(2, [], [0, 1], [])] from rfl] at h
  simpa using h
theorem shs11 {nu : Nat} {ks : List Str} {perm : List Nat} {dfl : List Int} (h : (11, nu, ks, perm, dfl) ∈ P.shs) : (nu, ks, perm, dfl) = (1, [], [0], []) := by
  have h := mem_shs h
  rw [show shsOf 11 = [(1, [], [0], [])] from rfl] at h
  simpa using h
theorem shs12 {nu : Nat} {ks : List Str} {perm : List Nat} {dfl : List Int} (h : (12, nu, ks, perm, dfl) ∈ P.shs) : (nu, ks, perm, dfl) = (1, [], [0], []) := by
  have h := mem_shs h
  rw [show shsOf 12 = [(1, [], [0], [])] from rfl] at h
  simpa using h
theorem shs13 {nu : Nat} {ks : List Str} {perm : List Nat} {dfl : List Int} (h : (13, nu, ks, perm, dfl) ∈ P.shs) : (nu, ks, perm, dfl) = (1, [], [0], []) ∨ (nu, ks, perm, dfl) = (0, [Str.ofString "value"], [0], []) := by
  have h := mem_shs h
  rw [show shsOf 13 = [(1, [], [0], []), (0, [Str.ofString "value"], [0], [])] from rfl] at h
  simpa using h
theorem shs14 {nu : Nat} {ks : List Str} {perm : List Nat} {dfl : List Int} (h : (14, nu, ks, perm, dfl) ∈ P.shs) : (nu, ks, perm, dfl) = (2, [], [0, 1], []) ∨ (nu, ks, perm, dfl) = (1, [Str.ofString "number"], [0, 1], []) := by
  have h := mem_shs h
  rw [show shsOf 14 = [(2, [], [0, 1], []), (1, [Str.ofString "number"], [0, 1], [])] from rfl] at h
  simpa using h
theorem shs15 {nu : Nat} {ks : List Str} {perm : List Nat} {dfl : List Int} (h : (15, nu, ks, perm, dfl) ∈ P.shs) : (nu, ks, perm, dfl) = (0, [Str.ofString "line"], [0], []) ∨ (nu, ks, perm, dfl) = (1, [], [0], []) := by
  have h := mem_shs h
  rw [show shsOf 15 = [(0, [Str.ofString "line"], [0], []), (1, [], [0], [])] from rfl] at h
  simpa using h
theorem shs16 {nu : Nat} {ks : List Str} {perm : List Nat} {dfl : List Int} (h : (16, nu, ks, perm, dfl) ∈ P.shs) : (nu, ks, perm, dfl) = (1, [], [0], []) ∨ (nu, ks, perm, dfl) = (0, [Str.ofString "line"], [0], []) := by
  have h := mem_shs h
  rw [show shsOf 16 = [(1, [], [0], []), (0, [Str.ofString "line"], [0], [])] from rfl] at h
  simpa using h
theorem shs17 {nu : Nat} {ks : List Str} {perm : List Nat} {dfl : List Int} (h : (17, nu, ks, perm, dfl) ∈ P.shs) : (nu, ks, perm, dfl) = (2, [], [0, 1], []) := by
  have h := mem_shs h
  rw [show shsOf 17 = [(2, [], [0, 1], [])] from rfl] at h
  simpa using h
theorem shs18 {nu : Nat} {ks : List Str} {perm : List Nat} {dfl : List Int} (h : (18, nu, ks, perm, dfl) ∈ P.shs) : (nu, ks, perm, dfl) = (2, [], [0, 1], []) := by
  have h := mem_shs h
  rw [show shsOf 18 = [(2, [], [0, 1], [])] from rfl] at h
  simpa using h
theorem shs19 {nu : Nat} {ks : List Str} {perm : List Nat} {dfl : List Int} (h : (19, nu, ks, perm, dfl) ∈ P.shs) : (nu, ks, perm, dfl) = (2, [], [0, 1], []) := by
  have h := mem_shs h
  rw [show shsOf 19 = [(2, [], [0, 1], [])] from rfl] at h
  simpa using h
theorem shs20 {nu : Nat} {ks : List Str} {perm : List Nat} {dfl : List Int} (h : (20, nu, ks, perm, dfl) ∈ P.shs) : (nu, ks, perm, dfl) = (2, [], [0, 1], []) := by
  have h := mem_shs h
  rw [show shsOf 20 = [(2, [], [0, 1], [])] from rfl] at h
  simpa using h
theorem shs21 {nu : Nat} {ks : List Str} {perm : List Nat} {dfl : List Int} (h : (21, nu, ks, perm, dfl) ∈ P.shs) : (nu, ks, perm, dfl) = (2, [], [0, 1], []) := by
  have h := mem_shs h
  rw [show shsOf 21 = [(2, [], [0, 1], [])] from rfl] at h
  simpa using h
theorem shs22 {nu : Nat} {ks : List Str} {perm : List Nat} {dfl : List Int} (h : (22, nu, ks, perm, dfl) ∈ P.shs) : (nu, ks, perm, dfl) = (1, [], [0], []) := by
  have h := mem_shs h
  rw [show shsOf 22 = [(1, [], [0], [])] from rfl] at h
  simpa using h
theorem shs23 {nu : Nat} {ks : List Str} {perm : List Nat} {dfl : List Int} (h : (23, nu, ks, perm, dfl) ∈ P.shs) : (nu, ks, perm, dfl) = (1, [], [0], []) := by
  have h := mem_shs h
  rw [show shsOf 23 = [(1, [], [0], [])] from rfl] at h
  simpa using h
theorem shs24 {nu : Nat} {ks : List Str} {perm : List Nat} {dfl : List Int} (h : (24, nu, ks, perm, dfl) ∈ P.shs) : (nu, ks, perm, dfl) = (2, [], [0, 1], []) := by
  have h := mem_shs h
  rw [show shsOf 24 = [(2, [], [0, 1], [])] from rfl] at h
  simpa using h
theorem shs25 {nu : Nat} {ks : List Str} {perm : List Nat} {dfl : List Int} (h : (25, nu, ks, perm, dfl) ∈ P.shs) : (nu, ks, perm, dfl) = (1, [], [0], []) := by
  have h := mem_shs h
  rw [show shsOf 25 = [(1, [], [0], [])] from rfl] at h
  simpa using h
theorem shs26 {nu : Nat} {ks : List Str} {perm : List Nat} {dfl : List Int} (h : (26, nu, ks, perm, dfl) ∈ P.shs) : False := by
  have h := mem_shs h
  rw [show shsOf 26 = [] from rfl] at h
  simpa using h
theorem behind {K : PySem.W.Frag} {h : Heap} {mg : Str → Option Value} (X : K.In h) (G : h.Ns mainGlobals mg)
    (h0 : Here K (Str.ofString "is_whole") (topS 1) []) (h1 : Here K (Str.ofString "is_number") (topS 2) []) (h2 : Here K (Str.ofString "is_tuple_of") (topS 3) []) (h3 : Here K (Str.ofString "check_number") (topS 11) [.int 0, .int 2000]) (h4 : Here K (Str.ofString "is_line_form") (topS 14) []) (h5 : Here K (Str.ofString "at") (topS 15) []) (h6 : Here K (Str.ofString "tail_of") (topS 16) []) (h7 : Here K (Str.ofString "divisors") (topS 17) []) (h8 : Here K (Str.ofString "least_period") (topS 18) []) (h9 : Here K (Str.ofString "least") (topS 19) []) (h10 : Here K (Str.ofString "common_divisor") (topS 20) []) (h11 : Here K (Str.ofString "share") (topS 21) []) (h12 : Here K (Str.ofString "check_line") (topS 23) []) (h13 : Here K (Str.ofString "is_line") (topS 24) []) (h14 : Here K (Str.ofString "line_at") (topS 25) []) (h15 : Here K (Str.ofString "least_line") (topS 26) []) (h16 : Here K (Str.ofString "share_of") (topS 27) []) (h17 : Here K (Str.ofString "_law_well") (topS 29) []) (h18 : Here K (Str.ofString "_law_draw") (topS 30) []) (h19 : Here K (Str.ofString "_law_of") (topS 31) []) (h20 : Here K (Str.ofString "_law_same") (topS 32) []) (h21 : Here K (Str.ofString "_law_line_at") (topS 33) []) (h22 : Here K (Str.ofString "_law_is_least") (topS 34) []) (h23 : Here K (Str.ofString "_law_drawn_line") (topS 35) []) (h24 : Here K (Str.ofString "_law_divisor") (topS 36) []) (h25 : Here K (Str.ofString "_law_right") (topS 37) []) (h26 : Here K (Str.ofString "law") (topS 38) [])
    (z_len : PySem.W.nsIn K mainGlobals (Str.ofString "len") = some none) (z_abs : PySem.W.nsIn K mainGlobals (Str.ofString "abs") = some none) (z_max : PySem.W.nsIn K mainGlobals (Str.ofString "max") = some none) (z_int : PySem.W.nsIn K mainGlobals (Str.ofString "int") = some none) (z_tuple : PySem.W.nsIn K mainGlobals (Str.ofString "tuple") = some none) (z_list : PySem.W.nsIn K mainGlobals (Str.ofString "list") = some none) (z_divmod : PySem.W.nsIn K mainGlobals (Str.ofString "divmod") = some none) (z_all : PySem.W.nsIn K mainGlobals (Str.ofString "all") = some none) (z_repr : PySem.W.nsIn K mainGlobals (Str.ofString "repr") = some none) (z_bool : PySem.W.nsIn K mainGlobals (Str.ofString "bool") = some none) (z_str : PySem.W.nsIn K mainGlobals (Str.ofString "str") = some none) (z_isinstance : PySem.W.nsIn K mainGlobals (Str.ofString "isinstance") = some none) (z_range : PySem.W.nsIn K mainGlobals (Str.ofString "range") = some none)
    {y0 : Value} (g0 : PySem.W.nsIn K mainGlobals (Str.ofString "MOST_NUMBERS") = some (some y0)) (r0 : RelV (.int 20000) y0) :
    Behind D P GL K mg (List.range D.length) := by
  obtain ⟨f0, fd0, a0, F0⟩ := h0
  obtain ⟨f1, fd1, a1, F1⟩ := h1
  obtain ⟨f2, fd2, a2, F2⟩ := h2
  obtain ⟨f3, fd3, a3, F3⟩ := h3
  obtain ⟨f4, fd4, a4, F4⟩ := h4
  obtain ⟨f5, fd5, a5, F5⟩ := h5
  obtain ⟨f6, fd6, a6, F6⟩ := h6
  obtain ⟨f7, fd7, a7, F7⟩ := h7
  obtain ⟨f8, fd8, a8, F8⟩ := h8
  obtain ⟨f9, fd9, a9, F9⟩ := h9
  obtain ⟨f10, fd10, a10, F10⟩ := h10
  obtain ⟨f11, fd11, a11, F11⟩ := h11
  obtain ⟨f12, fd12, a12, F12⟩ := h12
  obtain ⟨f13, fd13, a13, F13⟩ := h13
  obtain ⟨f14, fd14, a14, F14⟩ := h14
  obtain ⟨f15, fd15, a15, F15⟩ := h15
  obtain ⟨f16, fd16, a16, F16⟩ := h16
  obtain ⟨f17, fd17, a17, F17⟩ := h17
  obtain ⟨f18, fd18, a18, F18⟩ := h18
  obtain ⟨f19, fd19, a19, F19⟩ := h19
  obtain ⟨f20, fd20, a20, F20⟩ := h20
  obtain ⟨f21, fd21, a21, F21⟩ := h21
  obtain ⟨f22, fd22, a22, F22⟩ := h22
  obtain ⟨f23, fd23, a23, F23⟩ := h23
  obtain ⟨f24, fd24, a24, F24⟩ := h24
  obtain ⟨f25, fd25, a25, F25⟩ := h25
  obtain ⟨f26, fd26, a26, F26⟩ := h26
  refine ⟨fun f d hd hm => ?_, ?_, ?_, PySem.W.mg_none_of X G z_isinstance, PySem.W.mg_none_of X G z_range, ?_⟩
  · match f, hd with
    | 0, hd =>
      obtain rfl := Option.some.inj hd
      refine ⟨f0, fd0, _, _, F0, PySem.W.mg_of X G a0, fun nu ks perm dfl hm => ?_⟩
      rcases shs0 hm with h
      · cases h; exact sh0 F0
    | 1, hd =>
      obtain rfl := Option.some.inj hd
      refine ⟨f1, fd1, _, _, F1, PySem.W.mg_of X G a1, fun nu ks perm dfl hm => ?_⟩
      rcases shs1 hm with h
      · cases h; exact sh1 F1
    | 2, hd =>
      obtain rfl := Option.some.inj hd
      refine ⟨f2, fd2, _, _, F2, PySem.W.mg_of X G a2, fun nu ks perm dfl hm => ?_⟩
      rcases shs2 hm with h
      · cases h; exact sh2 F2
    | 3, hd =>
      obtain rfl := Option.some.inj hd
      refine ⟨f3, fd3, _, _, F3, PySem.W.mg_of X G a3, fun nu ks perm dfl hm => ?_⟩
      rcases shs3 hm with h
      · cases h; exact sh10 F3
    | 4, hd =>
      obtain rfl := Option.some.inj hd
      refine ⟨f4, fd4, _, _, F4, PySem.W.mg_of X G a4, fun nu ks perm dfl hm => ?_⟩
      rcases shs4 hm with h
      · cases h; exact sh8 F4
    | 5, hd =>
      obtain rfl := Option.some.inj hd
      refine ⟨f5, fd5, _, _, F5, PySem.W.mg_of X G a5, fun nu ks perm dfl hm => ?_⟩
      rcases shs5 hm with h
      · cases h; exact sh4 F5
    | 6, hd =>
      obtain rfl := Option.some.inj hd
      refine ⟨f6, fd6, _, _, F6, PySem.W.mg_of X G a6, fun nu ks perm dfl hm => ?_⟩
      rcases shs6 hm with h
      · cases h; exact sh3 F6
    | 7, hd =>
      obtain rfl := Option.some.inj hd
      refine ⟨f7, fd7, _, _, F7, PySem.W.mg_of X G a7, fun nu ks perm dfl hm => ?_⟩
      rcases shs7 hm with h
      · cases h; exact sh5 F7
    | 8, hd =>
      obtain rfl := Option.some.inj hd
      refine ⟨f8, fd8, _, _, F8, PySem.W.mg_of X G a8, fun nu ks perm dfl hm => ?_⟩
      rcases shs8 hm with h
      · cases h; exact sh6 F8
    | 9, hd =>
      obtain rfl := Option.some.inj hd
      refine ⟨f9, fd9, _, _, F9, PySem.W.mg_of X G a9, fun nu ks perm dfl hm => ?_⟩
      rcases shs9 hm with h
      · cases h; exact sh11 F9
    | 10, hd =>
      obtain rfl := Option.some.inj hd
      refine ⟨f10, fd10, _, _, F10, PySem.W.mg_of X G a10, fun nu ks perm dfl hm => ?_⟩
      rcases shs10 hm with h
      · cases h; exact sh7 F10
    | 11, hd =>
      obtain rfl := Option.some.inj hd
      refine ⟨f11, fd11, _, _, F11, PySem.W.mg_of X G a11, fun nu ks perm dfl hm => ?_⟩
      rcases shs11 hm with h
      · cases h; exact sh12 F11
    | 12, hd =>
      obtain rfl := Option.some.inj hd
      refine ⟨f12, fd12, _, _, F12, PySem.W.mg_of X G a12, fun nu ks perm dfl hm => ?_⟩
      rcases shs12 hm with h
      · cases h; exact sh9 F12
    | 13, hd =>
      obtain rfl := Option.some.inj hd
      refine ⟨f13, fd13, _, _, F13, PySem.W.mg_of X G a13, fun nu ks perm dfl hm => ?_⟩
      rcases shs13 hm with h | h
      · cases h; exact sh16 F13
      · cases h; exact sh17 F13
    | 14, hd =>
      obtain rfl := Option.some.inj hd
      refine ⟨f14, fd14, _, _, F14, PySem.W.mg_of X G a14, fun nu ks perm dfl hm => ?_⟩
      rcases shs14 hm with h | h
      · cases h; exact sh22 F14
      · cases h; exact sh23 F14
    | 15, hd =>
      obtain rfl := Option.some.inj hd
      refine ⟨f15, fd15, _, _, F15, PySem.W.mg_of X G a15, fun nu ks perm dfl hm => ?_⟩
      rcases shs15 hm with h | h
      · cases h; exact sh18 F15
      · cases h; exact sh21 F15
    | 16, hd =>
      obtain rfl := Option.some.inj hd
      refine ⟨f16, fd16, _, _, F16, PySem.W.mg_of X G a16, fun nu ks perm dfl hm => ?_⟩
      rcases shs16 hm with h | h
      · cases h; exact sh25 F16
      · cases h; exact sh26 F16
    | 17, hd =>
      obtain rfl := Option.some.inj hd
      refine ⟨f17, fd17, _, _, F17, PySem.W.mg_of X G a17, fun nu ks perm dfl hm => ?_⟩
      rcases shs17 hm with h
      · cases h; exact sh28 F17
    | 18, hd =>
      obtain rfl := Option.some.inj hd
      refine ⟨f18, fd18, _, _, F18, PySem.W.mg_of X G a18, fun nu ks perm dfl hm => ?_⟩
      rcases shs18 hm with h
      · cases h; exact sh13 F18
    | 19, hd =>
      obtain rfl := Option.some.inj hd
      refine ⟨f19, fd19, _, _, F19, PySem.W.mg_of X G a19, fun nu ks perm dfl hm => ?_⟩
      rcases shs19 hm with h
      · cases h; exact sh27 F19
    | 20, hd =>
      obtain rfl := Option.some.inj hd
      refine ⟨f20, fd20, _, _, F20, PySem.W.mg_of X G a20, fun nu ks perm dfl hm => ?_⟩
      rcases shs20 hm with h
      · cases h; exact sh20 F20
    | 21, hd =>
      obtain rfl := Option.some.inj hd
      refine ⟨f21, fd21, _, _, F21, PySem.W.mg_of X G a21, fun nu ks perm dfl hm => ?_⟩
      rcases shs21 hm with h
      · cases h; exact sh14 F21
    | 22, hd =>
      obtain rfl := Option.some.inj hd
      refine ⟨f22, fd22, _, _, F22, PySem.W.mg_of X G a22, fun nu ks perm dfl hm => ?_⟩
      rcases shs22 hm with h
      · cases h; exact sh19 F22
    | 23, hd =>
      obtain rfl := Option.some.inj hd
      refine ⟨f23, fd23, _, _, F23, PySem.W.mg_of X G a23, fun nu ks perm dfl hm => ?_⟩
      rcases shs23 hm with h
      · cases h; exact sh15 F23
    | 24, hd =>
      obtain rfl := Option.some.inj hd
      refine ⟨f24, fd24, _, _, F24, PySem.W.mg_of X G a24, fun nu ks perm dfl hm => ?_⟩
      rcases shs24 hm with h
      · cases h; exact sh24 F24
    | 25, hd =>
      obtain rfl := Option.some.inj hd
      refine ⟨f25, fd25, _, _, F25, PySem.W.mg_of X G a25, fun nu ks perm dfl hm => ?_⟩
      rcases shs25 hm with h
      · cases h; exact sh29 F25
    | 26, hd =>
      obtain rfl := Option.some.inj hd
      refine ⟨f26, fd26, _, _, F26, PySem.W.mg_of X G a26, fun nu ks perm dfl hm => ?_⟩
      rcases shs26 hm with h
      exact h.elim
    | n + 27, hd => exact absurd (List.mem_range.mp hm) (by show ¬ (n + 27 < 27); omega)
  · intro b; cases b
    · exact PySem.W.mg_none_of X G z_len
    · exact PySem.W.mg_none_of X G z_abs
    · exact PySem.W.mg_none_of X G z_max
    · exact PySem.W.mg_none_of X G z_int
    · exact PySem.W.mg_none_of X G z_tuple
    · exact PySem.W.mg_none_of X G z_list
    · exact PySem.W.mg_none_of X G z_divmod
    · exact PySem.W.mg_none_of X G z_all
    · exact PySem.W.mg_none_of X G z_repr
  · intro b; cases b
    · exact PySem.W.mg_none_of X G z_int
    · exact PySem.W.mg_none_of X G z_bool
    · exact PySem.W.mg_none_of X G z_str
    · exact PySem.W.mg_none_of X G z_tuple
    · exact PySem.W.mg_none_of X G z_list
  · intro g x hx
    match g, hx with
    | 0, hx =>
      obtain rfl := Option.some.inj hx
      exact ⟨.int 20000, .int 20000, y0, rfl, PySem.W.mg_of X G g0, r0, fun _ => .int _⟩
    | n + 1, hx => cases hx
theorem all_mk {w : World} {K : PySem.W.Frag} {h : Heap} {mg : Str → Option Value} {la : Addr} {Pr : Program} (X : K.In h) (G : h.Ns mainGlobals mg) (hla : mg "law" = some (.ref la)) (B : Behind D P GL K mg (List.range D.length)) (HL : Here K (Str.ofString "law") (topS 38) []) :
    ∃ fd : FuncData, (∀ (s : Shared) (u : Value), BindsTo s fd ⟨[u], []⟩ [(Str.ofString "script", u)]) ∧ ∀ b : Heap, K.In b → b.Ns mainGlobals mg → FnG Pr w K mg b 40 la fd [Str.ofString "script"] (spEv K w00 (run (D.map (·.F)) GL 40 26)) := by
  obtain ⟨la', fd, a, F⟩ := HL
  have e := hla.symm.trans (PySem.W.mg_of X G a)
  cases e
  refine ⟨fd, fun s u => ?_, fun b _ _ => defs_ok w00 (List.all_eq_true.mp tab_ok) rfl B 40 26 _ rfl la fd [] [] F⟩
  obtain ⟨oc, od, dV, kV, doc, pm, an, cdv, ct, osl, rfl, lk, hcd, hD, hK⟩ := F.ex
  rcases hD with ⟨_, rfl⟩ | ⟨q, _⟩
  · exact .of_eq rfl
  · exact absurd rfl q
end Dw
open PySem PySem.W PyProof.Rows
set_option maxHeartbeats 0 in
set_option maxRecDepth 100000 in
theorem PySem.Challenge.cw_duewrights_k37_whole_lines_holds : PySem.Challenge.rw_duewrights_k37_whole_lines.Holds := by
  w_on; o_law; k_head; (case hw => w_witness2)
  k_fill
  refine Dw.walk_law (l := PySem.Challenge.rw_duewrights_k37_whole_lines) (n := 63) (k := 40) (x := PySem.Str.ofString "script") (sp := fun w => Dw.spEv _ Dw.w00 (Dw.run (Dw.D.map (·.F)) Dw.GL 40 26)) rfl (by decide) rfl ⟨rfl, by decide, by decide⟩ (fun w h Y => PySem.W.kIn_of Y) ?F (fun w H z ns hl s => Dw.told_law s (Dw.law_true ns hl))
  case F =>
    intro w mg la h KX G hmg
    refine' Dw.all_mk KX G hmg (Dw.behind KX G (Dw.here0 ?dwa0 ?dwl0 ?dwc0 ?dwk0) (Dw.here0 ?dwa1 ?dwl1 ?dwc1 ?dwk1) (Dw.here0 ?dwa2 ?dwl2 ?dwc2 ?dwk2) (Dw.here1 ?dwa3 ?dwl3 ?dwc3 ?dwk3 ?dwt3 ?dwo3 (by simp) ?dwv3) (Dw.here0 ?dwa4 ?dwl4 ?dwc4 ?dwk4) (Dw.here0 ?dwa5 ?dwl5 ?dwc5 ?dwk5) (Dw.here0 ?dwa6 ?dwl6 ?dwc6 ?dwk6) (Dw.here0 ?dwa7 ?dwl7 ?dwc7 ?dwk7) (Dw.here0 ?dwa8 ?dwl8 ?dwc8 ?dwk8) (Dw.here0 ?dwa9 ?dwl9 ?dwc9 ?dwk9) (Dw.here0 ?dwa10 ?dwl10 ?dwc10 ?dwk10) (Dw.here0 ?dwa11 ?dwl11 ?dwc11 ?dwk11) (Dw.here0 ?dwa12 ?dwl12 ?dwc12 ?dwk12) (Dw.here0 ?dwa13 ?dwl13 ?dwc13 ?dwk13) (Dw.here0 ?dwa14 ?dwl14 ?dwc14 ?dwk14) (Dw.here0 ?dwa15 ?dwl15 ?dwc15 ?dwk15) (Dw.here0 ?dwa16 ?dwl16 ?dwc16 ?dwk16) (Dw.here0 ?dwa17 ?dwl17 ?dwc17 ?dwk17) (Dw.here0 ?dwa18 ?dwl18 ?dwc18 ?dwk18) (Dw.here0 ?dwa19 ?dwl19 ?dwc19 ?dwk19) (Dw.here0 ?dwa20 ?dwl20 ?dwc20 ?dwk20) (Dw.here0 ?dwa21 ?dwl21 ?dwc21 ?dwk21) (Dw.here0 ?dwa22 ?dwl22 ?dwc22 ?dwk22) (Dw.here0 ?dwa23 ?dwl23 ?dwc23 ?dwk23) (Dw.here0 ?dwa24 ?dwl24 ?dwc24 ?dwk24) (Dw.here0 ?dwa25 ?dwl25 ?dwc25 ?dwk25) (Dw.here0 ?dwa26 ?dwl26 ?dwc26 ?dwk26) ?dwz0 ?dwz1 ?dwz2 ?dwz3 ?dwz4 ?dwz5 ?dwz6 ?dwz7 ?dwz8 ?dwz9 ?dwz10 ?dwz11 ?dwz12 ?dwg0 ?dwr0) (Dw.here0 ?dwa26 ?dwl26 ?dwc26 ?dwk26)
    (case dwa0 => first | k_is | rfl)
    (case dwl0 => first | k_is | rfl)
    (case dwc0 => first | k_is | rfl)
    (case dwk0 => first | k_is | rfl)
    (case dwa1 => first | k_is | rfl)
    (case dwl1 => first | k_is | rfl)
    (case dwc1 => first | k_is | rfl)
    (case dwk1 => first | k_is | rfl)
    (case dwa2 => first | k_is | rfl)
    (case dwl2 => first | k_is | rfl)
    (case dwc2 => first | k_is | rfl)
    (case dwk2 => first | k_is | rfl)
    (case dwa3 => first | k_is | rfl)
    (case dwl3 => first | k_is | rfl)
    (case dwc3 => first | k_is | rfl)
    (case dwk3 => first | k_is | rfl)
    (case dwt3 => first | k_is | rfl)
    (case dwo3 => first | k_is | rfl)
    (case dwa4 => first | k_is | rfl)
    (case dwl4 => first | k_is | rfl)
    (case dwc4 => first | k_is | rfl)
    (case dwk4 => first | k_is | rfl)
    (case dwa5 => first | k_is | rfl)
    (case dwl5 => first | k_is | rfl)
    (case dwc5 => first | k_is | rfl)
    (case dwk5 => first | k_is | rfl)
    (case dwa6 => first | k_is | rfl)
    (case dwl6 => first | k_is | rfl)
    (case dwc6 => first | k_is | rfl)
    (case dwk6 => first | k_is | rfl)
    (case dwa7 => first | k_is | rfl)
    (case dwl7 => first | k_is | rfl)
    (case dwc7 => first | k_is | rfl)
    (case dwk7 => first | k_is | rfl)
    (case dwa8 => first | k_is | rfl)
    (case dwl8 => first | k_is | rfl)
    (case dwc8 => first | k_is | rfl)
    (case dwk8 => first | k_is | rfl)
    (case dwa9 => first | k_is | rfl)
    (case dwl9 => first | k_is | rfl)
    (case dwc9 => first | k_is | rfl)
    (case dwk9 => first | k_is | rfl)
    (case dwa10 => first | k_is | rfl)
    (case dwl10 => first | k_is | rfl)
    (case dwc10 => first | k_is | rfl)
    (case dwk10 => first | k_is | rfl)
    (case dwa11 => first | k_is | rfl)
    (case dwl11 => first | k_is | rfl)
    (case dwc11 => first | k_is | rfl)
    (case dwk11 => first | k_is | rfl)
    (case dwa12 => first | k_is | rfl)
    (case dwl12 => first | k_is | rfl)
    (case dwc12 => first | k_is | rfl)
    (case dwk12 => first | k_is | rfl)
    (case dwa13 => first | k_is | rfl)
    (case dwl13 => first | k_is | rfl)
    (case dwc13 => first | k_is | rfl)
    (case dwk13 => first | k_is | rfl)
    (case dwa14 => first | k_is | rfl)
    (case dwl14 => first | k_is | rfl)
    (case dwc14 => first | k_is | rfl)
    (case dwk14 => first | k_is | rfl)
    (case dwa15 => first | k_is | rfl)
    (case dwl15 => first | k_is | rfl)
    (case dwc15 => first | k_is | rfl)
    (case dwk15 => first | k_is | rfl)
    (case dwa16 => first | k_is | rfl)
    (case dwl16 => first | k_is | rfl)
    (case dwc16 => first | k_is | rfl)
    (case dwk16 => first | k_is | rfl)
    (case dwa17 => first | k_is | rfl)
    (case dwl17 => first | k_is | rfl)
    (case dwc17 => first | k_is | rfl)
    (case dwk17 => first | k_is | rfl)
    (case dwa18 => first | k_is | rfl)
    (case dwl18 => first | k_is | rfl)
    (case dwc18 => first | k_is | rfl)
    (case dwk18 => first | k_is | rfl)
    (case dwa19 => first | k_is | rfl)
    (case dwl19 => first | k_is | rfl)
    (case dwc19 => first | k_is | rfl)
    (case dwk19 => first | k_is | rfl)
    (case dwa20 => first | k_is | rfl)
    (case dwl20 => first | k_is | rfl)
    (case dwc20 => first | k_is | rfl)
    (case dwk20 => first | k_is | rfl)
    (case dwa21 => first | k_is | rfl)
    (case dwl21 => first | k_is | rfl)
    (case dwc21 => first | k_is | rfl)
    (case dwk21 => first | k_is | rfl)
    (case dwa22 => first | k_is | rfl)
    (case dwl22 => first | k_is | rfl)
    (case dwc22 => first | k_is | rfl)
    (case dwk22 => first | k_is | rfl)
    (case dwa23 => first | k_is | rfl)
    (case dwl23 => first | k_is | rfl)
    (case dwc23 => first | k_is | rfl)
    (case dwk23 => first | k_is | rfl)
    (case dwa24 => first | k_is | rfl)
    (case dwl24 => first | k_is | rfl)
    (case dwc24 => first | k_is | rfl)
    (case dwk24 => first | k_is | rfl)
    (case dwa25 => first | k_is | rfl)
    (case dwl25 => first | k_is | rfl)
    (case dwc25 => first | k_is | rfl)
    (case dwk25 => first | k_is | rfl)
    (case dwa26 => first | k_is | rfl)
    (case dwl26 => first | k_is | rfl)
    (case dwc26 => first | k_is | rfl)
    (case dwk26 => first | k_is | rfl)
    (case dwv3 => exact .cons ⟨_, rfl⟩ (.cons ⟨_, rfl⟩ (.nil)))
    (case dwz0 => k_is)
    (case dwz1 => k_is)
    (case dwz2 => k_is)
    (case dwz3 => k_is)
    (case dwz4 => k_is)
    (case dwz5 => k_is)
    (case dwz6 => k_is)
    (case dwz7 => k_is)
    (case dwz8 => k_is)
    (case dwz9 => k_is)
    (case dwz10 => k_is)
    (case dwz11 => k_is)
    (case dwz12 => k_is)
    (case dwg0 => k_is)
    (case dwr0 => exact ⟨_, rfl⟩)
