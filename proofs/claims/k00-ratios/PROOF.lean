import PyProof.Rows.All
import Wide.All
import OpenK.AllK
import Wide.FinOn
import HandS.ForMost
import HandS.ForExc
import HandS.CallSlots
import HandS.Defaults
import HandS.Wide
import HandS.Gcd
import HandS.HeadHook2
import KE.KTupSum
import HandS.TupLe
import HandS.Style
import HandS.IsInst
import HandS.Flow
import HandS.SortInts
import HandS.TupAny
import HandS.WideBits
import HandS.ExcIs
import HandS.ExcField
import HandS.TryOnly
import HandS.Iter
import HandS.HeadEnd
import HandS.Head0
import HandS.Head1
import HandS.Head2
import HandS.Head3
import PySem.Challenge.RW_paidforsigns_k00_ratios
section
set_option linter.all false
set_option autoImplicit false
/-! A small functional reading of the Python that the laws use: data trees, a compact syntax, an evaluator. Core Lean alone. -/
namespace MP

/-- a value as data: nothing in it will change any more -/
inductive D where
  | non | bl (b : Bool) | int (i : Int) | str (x : List Nat)
  | tup (ds : List D) | lst (ds : List D)
  | obj (c : Nat) (ds : List D)
  /-- the script -/
  | scr (ns : List Int)

/-- what a local name holds: data; a list of its own (it may be changed); a list of lists of its own; the instance that is being made; a caught error; nothing known -/
inductive OD where
  | un
  | fz (d : D)
  | own (ds : List D)
  | own2 (rows : List (Bool × List D))
  | oi (c : Nat) (fs : List (Nat × D))
  | xv (c : Nat) (p : Option D)

inductive R (α : Type) where
  | ok (a : α)
  | ex (c : Nat) (p : Option D)
  | bad

namespace R
variable {α β : Type}
def bind (r : R α) (f : α → R β) : R β := match r with
  | ok a => f a
  | ex c p => ex c p
  | bad => bad
def map (f : α → β) (r : R α) : R β := match r with
  | ok a => ok (f a)
  | ex c p => ex c p
  | bad => bad
def ofO (o : Option α) : R α := match o with
  | some a => ok a
  | none => bad
@[simp] theorem bind_ok (a : α) (f : α → R β) : (ok a).bind f = f a := rfl
@[simp] theorem bind_ex (c : Nat) (p : Option D) (f : α → R β) : (ex c p : R α).bind f = ex c p := rfl
@[simp] theorem bind_bad (f : α → R β) : (bad : R α).bind f = bad := rfl
@[simp] theorem map_ok (a : α) (f : α → β) : (ok a).map f = ok (f a) := rfl
@[simp] theorem map_ex (c : Nat) (p : Option D) (f : α → β) : (ex c p : R α).map f = ex c p := rfl
@[simp] theorem map_bad (f : α → β) : (bad : R α).map f = bad := rfl
@[simp] theorem ofO_some (a : α) : ofO (some a) = ok a := rfl
@[simp] theorem ofO_none : ofO (none : Option α) = bad := rfl
end R

inductive Bop | add | sub | mul | fdiv | mod | pow | shl | shr | band | bor | bxor
inductive Cop | eq | ne | lt | le | gt | ge | isin | notin
/-- built-in functions and types, called with positional arguments -/
inductive Blt | len | abs | int | sum | min | max | list | tuple | sorted | any | all | gcd
  deriving DecidableEq
/-- methods of built-in types that change nothing -/
inductive Bm | bitlen | count | index
inductive Ty | tint | tbool | tstr | tlist | ttuple | tnone | cls (c : Nat) | exc (c : Nat) | verr
  deriving DecidableEq

inductive T where
  | n (i : Nat)
  | t (ts : List T)

def T.isT : T → Bool
  | .n _ => false
  | .t _ => true

inductive E where
  | int (i : Int) | bl (b : Bool) | non | str (x : List Nat)
  | var (i : Nat) | glob (g : Nat)
  | bin (op : Bop) (a b : E) | neg (a : E) | notE (a : E)
  | cmp (op : Cop) (a b : E) | chain (o1 o2 : Cop) (a b c : E)
  | isN (a : E) (yes : Bool) | isB (a : E) (b : Bool) (yes : Bool)
  | andE (a b : E) | orE (a b : E) | one (a : E)
  | ite (c a b : E)
  | tup (es : List E) | lst (es : List E)
  | sub (a i : E) | slc (a lo hi : E)
  | attr (a : E) (f : Nat)
  | call (f : Nat) (es : List E) (ks : List Nat) (kes : List E)
  | mk (c : Nat) (es : List E)
  | meth (a : E) (m : Nat) (es : List E)
  | blt (f : Blt) (es : List E)
  | bm (m : Bm) (a : E) (es : List E)
  | inst (a : E) (ts : List Ty)
  | comp (e : E) (tg : T) (it : E) (cs : List E)
  | rng (es : List E) | enm (e : E) | zip (a b : E)

/-! ### data -/
mutual
def D.beq : D → D → Bool
  | .non, .non => true
  | .bl a, .bl b => a == b
  | .int a, .int b => a == b
  | .str a, .str b => a == b
  | .tup a, .tup b => D.beqs a b
  | .lst a, .lst b => D.beqs a b
  | .obj c a, .obj d b => c == d && D.beqs a b
  | _, _ => false
def D.beqs : List D → List D → Bool
  | [], [] => true
  | a :: as, b :: bs => D.beq a b && D.beqs as bs
  | _, _ => false
end
mutual
/-- == of Python on data (instances aside) -/
def D.eqv : D → D → Bool
  | .non, .non => true
  | .bl a, .bl b => a == b
  | .int a, .int b => a == b
  | .bl a, .int b => (if a then 1 else 0 : Int) == b
  | .int a, .bl b => a == (if b then 1 else 0 : Int)
  | .str a, .str b => a == b
  | .tup a, .tup b => D.eqvs a b
  | .lst a, .lst b => D.eqvs a b
  | _, _ => false
def D.eqvs : List D → List D → Bool
  | [], [] => true
  | a :: as, b :: bs => D.eqv a b && D.eqvs as bs
  | _, _ => false
end
mutual
def D.noL : D → Bool
  | .tup ds => D.noLs ds
  | .lst _ => false
  | .scr _ => false
  | .obj _ ds => D.noLs ds
  | _ => true
def D.noLs : List D → Bool
  | [] => true
  | d :: ds => d.noL && D.noLs ds
end
mutual
/-- no instance, of nesting below n -/
def D.plain : Nat → D → Bool
  | n + 1, .tup ds => D.plains n ds
  | n + 1, .lst ds => D.plains n ds
  | 0, .tup _ => false
  | 0, .lst _ => false
  | _, .obj _ _ => false
  | _, .scr _ => false
  | _, .str x => x.all fun c => decide (c < 1114112)
  | _, _ => true
def D.plains : Nat → List D → Bool
  | _, [] => true
  | n, d :: ds => d.plain n && D.plains n ds
end
def D.isNon : D → Bool
  | .non => true
  | _ => false
/-- a scalar -/
def D.flat : D → Bool
  | .non | .bl _ | .int _ | .str _ => true
  | _ => false
def D.ints : List D → Option (List Int)
  | [] => some []
  | .int i :: ds => (D.ints ds).map (i :: ·)
  | _ => none
def D.bls : List D → Option (List Bool)
  | [] => some []
  | .bl i :: ds => (D.bls ds).map (i :: ·)
  | _ => none
/-- the items of a list or a tuple -/
def D.items : D → Option (List D)
  | .tup ds => some ds
  | .lst ds => some ds
  | _ => none
def rowD (r : Bool × List D) : D := .lst r.2
/-- the value as data, whoever owns it -/
def OD.toD : OD → Option D
  | .fz d => some d
  | .own ds => some (.lst ds)
  | .own2 rs => some (.lst (rs.map rowD))
  | _ => none
def OD.noFL : OD → Bool
  | .fz d => d.noL
  | .own ds => D.noLs ds
  | .own2 rs => rs.all fun r => !r.1 && D.noLs r.2
  | _ => false
def OD.isFz : OD → Bool
  | .fz _ => true
  | _ => false
def isPath : E → Bool
  | .var _ => true
  | .sub a _ => isPath a
  | _ => false
/-- an operand whose items may be shared from now on -/
def opd (path : Bool) : OD → Option D
  | .fz d => some d
  | .own ds => some (.lst ds)
  | .own2 rs => if path && rs.any (fun r => !r.1) then none else some (.lst (rs.map rowD))
  | _ => none

/-! ### numbers -/
def mulOk (i j : Int) : Bool := (decide (i.natAbs < 2 ^ 64) || decide (j.natAbs < 2 ^ 64)) || decide (i.natAbs.log2 + j.natAbs.log2 < 1000000)
def divOk (j : Int) : Bool := decide (j ≠ 0) && decide (j.natAbs.log2 < 9000)
def powOk (i j : Int) : Bool := decide (0 ≤ j) && (decide (j ≤ 1000000) && decide (i.natAbs < 2 ^ 64))
/-- a list's, a text's greatest length -/
def line : Nat := 1000000
def b2i (b : Bool) : Int := if b then 1 else 0
def pyBit (f : Nat → Nat → Nat) (i j : Int) : Option Int := if 0 ≤ i ∧ 0 ≤ j then some (f i.toNat j.toNat : Nat) else none

def binD (op : Bop) (x y : D) : R OD :=
  match x, y with
  | .int i, .int j => match op with
    | .add => .ok (.fz (.int (i + j)))
    | .sub => .ok (.fz (.int (i - j)))
    | .mul => if mulOk i j then .ok (.fz (.int (i * j))) else .bad
    | .fdiv => if divOk j then .ok (.fz (.int (i.fdiv j))) else .bad
    | .mod => if j = 0 then .bad else .ok (.fz (.int (i.fmod j)))
    | .pow => if powOk i j then .ok (.fz (.int (i ^ j.toNat))) else .bad
    | .shl => if powOk i j then .ok (.fz (.int (i * 2 ^ j.toNat))) else .bad
    | .shr => if 0 ≤ j then .ok (.fz (.int (i / 2 ^ j.toNat))) else .bad
    | .band => (R.ofO (pyBit Nat.land i j)).map fun n => .fz (.int n)
    | _ => .bad
  | .lst xs, .lst ys => match op with
    | .add => if xs.length + ys.length ≤ line then .ok (.own (xs ++ ys)) else .bad
    | _ => .bad
  | .tup xs, .tup ys => match op with
    | .add => if 0 < xs.length ∧ xs.length + ys.length ≤ line then .ok (.fz (.tup (xs ++ ys))) else .bad
    | _ => .bad
  | .lst xs, .int j => match op with
    | .mul => if xs.length * j.toNat ≤ line ∧ j < 1000000 ∧ -1000000 < j then .ok (.own (List.replicate j.toNat xs).flatten) else .bad
    | _ => .bad
  | _, _ => .bad

def cmpD (op : Cop) (x y : D) : R OD :=
  match op with
  | .eq => if x.plain 20 && y.plain 20 then .ok (.fz (.bl (D.eqv x y))) else .bad
  | .ne => if x.plain 20 && y.plain 20 then .ok (.fz (.bl (!D.eqv x y))) else .bad
  | .lt => match x, y with
    | .int i, .int j => .ok (.fz (.bl (decide (i < j))))
    | _, _ => .bad
  | .le => match x, y with
    | .int i, .int j => .ok (.fz (.bl (decide (i ≤ j))))
    | _, _ => .bad
  | .gt => match x, y with
    | .int i, .int j => .ok (.fz (.bl (decide (j < i))))
    | _, _ => .bad
  | .ge => match x, y with
    | .int i, .int j => .ok (.fz (.bl (decide (j ≤ i))))
    | _, _ => .bad
  | .isin => match y.items with
    | some ys => if x.plain 20 && D.plains 20 ys then .ok (.fz (.bl (ys.any fun z => D.eqv z x))) else .bad
    | none => .bad
  | .notin => match y.items with
    | some ys => if x.plain 20 && D.plains 20 ys then .ok (.fz (.bl (!ys.any fun z => D.eqv z x))) else .bad
    | none => .bad

/-- the place that an index means -/
def ixN (n : Nat) (i : Int) : Option Nat := if 0 ≤ i then (if i < n then some i.toNat else none) else if -(n : Int) ≤ i then some (i + n).toNat else none
def atI {α : Type} (xs : List α) (i : Int) : Option α := (ixN xs.length i).bind fun j => xs[j]?
/-- a slice's bound -/
def sIx (n d : Nat) : Option Int → Nat
  | none => d
  | some i => if i < 0 then (i + (n : Int)).toNat else min i.toNat n
def cutL {α : Type} (xs : List α) (lo hi : Option Int) : List α := (xs.drop (sIx xs.length 0 lo)).take (sIx xs.length xs.length hi - sIx xs.length 0 lo)

def maxL : List Int → Option Int
  | [] => none
  | x :: xs => some (xs.foldl (fun m y => if y > m then y else m) x)
def minL : List Int → Option Int
  | [] => none
  | x :: xs => some (xs.foldl (fun m y => if y < m then y else m) x)
def insI (x : Int) : List Int → List Int
  | [] => [x]
  | y :: ys => if x ≤ y then x :: y :: ys else y :: insI x ys
def sortI : List Int → List Int
  | [] => []
  | x :: xs => insI x (sortI xs)
def rangeI (lo hi : Int) : List D := (List.range (hi - lo).toNat).map fun (k : Nat) => D.int (lo + k)
def smallI (i : Int) : Bool := decide (-1000000 ≤ i) && decide (i ≤ 1000000)

/-- can be called while an error is handled -/
def Blt.anyhow : Blt → Bool
  | .len | .abs | .int | .list | .tuple => true
  | _ => false
def lenD : List D → R OD
  | [.tup ds] => .ok (.fz (.int ds.length))
  | [.lst ds] => .ok (.fz (.int ds.length))
  | [.scr ns] => .ok (.fz (.int ns.length))
  | _ => .bad
def absD : List D → R OD
  | [.int i] => .ok (.fz (.int (if i < 0 then -i else i)))
  | _ => .bad
def intD : List D → R OD
  | [.int i] => .ok (.fz (.int i))
  | [.bl b] => .ok (.fz (.int (b2i b)))
  | _ => .bad
def seqInts (x : D) : Option (List Int) := x.items.bind D.ints
def sumD : List D → R OD
  | [x] => (R.ofO (seqInts x)).map fun ns => .fz (.int ns.sum)
  | _ => .bad
def maxD : List D → R OD
  | [x] => (R.ofO ((seqInts x).bind maxL)).map fun m => .fz (.int m)
  | [.int i, .int j] => .ok (.fz (.int (if j > i then j else i)))
  | _ => .bad
def minD : List D → R OD
  | [x] => (R.ofO ((seqInts x).bind minL)).map fun m => .fz (.int m)
  | [.int i, .int j] => .ok (.fz (.int (if j < i then j else i)))
  | _ => .bad
def listD : List D → R OD
  | [x] => (R.ofO x.items).map .own
  | _ => .bad
def tupleD : List D → R OD
  | [x] => (R.ofO x.items).map fun ds => .fz (.tup ds)
  | _ => .bad
def sortedD : List D → R OD
  | [.lst ds] => (R.ofO (D.ints ds)).map fun ns => .own ((sortI ns).map .int)
  | _ => .bad
def anyD : List D → R OD
  | [.lst ds] => (R.ofO (D.bls ds)).map fun bs => .fz (.bl (bs.any id))
  | _ => .bad
def allD : List D → R OD
  | [.lst ds] => (R.ofO (D.bls ds)).map fun bs => .fz (.bl (bs.all id))
  | _ => .bad
def gcdD : List D → R OD
  | [.int i, .int j] => .ok (.fz (.int (Nat.gcd i.natAbs j.natAbs : Nat)))
  | _ => .bad
def bltD (f : Blt) (xs : List D) : R OD :=
  match f with
  | .len => lenD xs
  | .abs => absD xs
  | .int => intD xs
  | .sum => sumD xs
  | .max => maxD xs
  | .min => minD xs
  | .list => listD xs
  | .tuple => tupleD xs
  | .sorted => sortedD xs
  | .any => anyD xs
  | .all => allD xs
  | .gcd => gcdD xs

/-- the number of binary digits -/
def bitLen (i : Int) : Nat := if i = 0 then 0 else i.natAbs.log2 + 1
def bmD (m : Bm) (x : D) (xs : List D) : R OD :=
  match m, x, xs with
  | .bitlen, .int i, [] => .ok (.fz (.int (bitLen i)))
  | _, _, _ => .bad

/-! a name's target -/
mutual
def setT : T → OD → List OD → Option (List OD)
  | .n i, o, Γ => if i < Γ.length then some (Γ.set i o) else none
  | .t ts, o, Γ => match o.toD.bind D.items with
    | some ds => setTs ts ds Γ
    | none => none
def setTs : List T → List D → List OD → Option (List OD)
  | [], [], Γ => some Γ
  | a :: as, d :: ds, Γ => (setT a (.fz d) Γ).bind (setTs as ds)
  | _, _, _ => none
end

/-! ### the evaluator -/
structure Fx where
  call : Nat → List D → List Nat → List D → R OD
  make : Nat → List D → R OD
  meth : Nat → Nat → Option Nat
  gv : Nat → Option D
  fld : Nat → Nat → Option Nat
  sub : Nat → Ty → Bool
  xf : Nat → Option Nat
  calm : Bool

def truth : D → Option Bool
  | .bl b => some b
  | .non => some false
  | .int i => some (decide (i ≠ 0))
  | .tup ds => some (!ds.isEmpty)
  | .lst ds => some (!ds.isEmpty)
  | _ => none
def isTy (o : OD) (t : Ty) (sub : Nat → Ty → Bool) : Option Bool :=
  match o with
  | .xv c none => (match t with
    | .exc k => some (sub c (.exc k))
    | .verr => some (sub c .verr)
    | _ => none)
  | .own _ => some (match t with
    | .tlist => true
    | _ => false)
  | .own2 _ => some (match t with
    | .tlist => true
    | _ => false)
  | .fz d => (match d with
    | .obj c _ => if sub c .tnone then some (match t with
      | .cls k => c == k
      | _ => false) else none
    | .bl _ => some (match t with
      | .tint => true
      | .tbool => true
      | _ => false)
    | .int _ => some (match t with
      | .tint => true
      | _ => false)
    | .str _ => some (match t with
      | .tstr => true
      | _ => false)
    | .lst _ => some (match t with
      | .tlist => true
      | _ => false)
    | .tup _ => some (match t with
      | .ttuple => true
      | _ => false)
    | .non => some false
    | .scr _ => none)
  | _ => none
def anyTy (o : OD) (sub : Nat → Ty → Bool) : List Ty → Option Bool
  | [] => some false
  | t :: ts => match isTy o t sub with
    | some true => some true
    | some false => anyTy o sub ts
    | none => none

/-- the items of a comprehension: behind the tests f, the values of g -/
def compL (g : List OD → R OD) (f : List OD → R Bool) (tg : T) (Γ : List OD) : List D → R (List OD)
  | [] => .ok []
  | d :: ds => match setT tg (.fz d) Γ with
    | some Γ' => match f Γ' with
      | .ok true => (match g Γ' with
        | .ok o => (compL g f tg Γ ds).bind fun r => .ok (o :: r)
        | _ => .bad)
      | .ok false => compL g f tg Γ ds
      | _ => .bad
    | none => .bad
def fzO : OD → Option D
  | .fz d => some d
  | _ => none
def owO : OD → Option (Bool × List D)
  | .own ds => some (false, ds)
  | _ => none
def allO {α : Type} (f : OD → Option α) : List OD → Option (List α)
  | [] => some []
  | o :: os => (f o).bind fun a => (allO f os).map (a :: ·)
/-- a display's, a comprehension's list -/
def mkOwn (os : List OD) : Option OD :=
  match allO fzO os with
  | some ds => some (.own ds)
  | none => match allO owO os with
    | some rs => some (.own2 rs)
    | none => (allO OD.toD os).map .own

def arityOk (n : Nat) : Bool := decide (n ≤ 1000)
/-- an argument's data, and whether it is a list of a name's own -/
def argD (path : Bool) (o : OD) : Option (D × Bool) := o.toD.map fun d => (d, path && !o.isFz)
/-- what a call hands back, where lists of one's own were lent -/
def lent (bs : List (D × Bool)) (r : R OD) : R OD :=
  if bs.any (·.2) then (match r with
    | .ok o => if o.noFL then .ok o else .bad
    | .ex c (some d) => if d.noL then .ex c (some d) else .bad
    | .ex c none => .ex c none
    | .bad => .bad) else r

def oper (p : Bool) (r : R OD) : R D := r.bind fun o => R.ofO (opd p o)
def argm (p : Bool) (r : R OD) : R (D × Bool) := r.bind fun o => R.ofO (argD p o)
def asB (r : R OD) : R Bool := r.bind fun o => match o with
  | .fz (.bl b) => .ok b
  | _ => .bad
def tru (r : R OD) : R Bool := r.bind fun o => R.ofO (o.toD.bind truth)
def frz (r : R OD) : R D := r.bind fun o => R.ofO o.toD
def asI (r : R D) : R Int := r.bind fun d => match d with
  | .int i => .ok i
  | _ => .bad
def subD (pk p : Bool) (o : OD) (j : Int) : R OD :=
  match o with
  | .fz (.scr ns) => R.ofO ((atI ns j).map fun i => .fz (.int i))
  | .fz d => (match d.items with
    | some ds => R.ofO ((atI ds j).map .fz)
    | none => .bad)
  | .own ds => R.ofO ((atI ds j).map .fz)
  | .own2 rs => (match atI rs j with
    | some (true, ds) => .ok (.fz (.lst ds))
    | some (false, ds) => if pk then .ok (.own ds) else if p then .bad else .ok (.fz (.lst ds))
    | none => .bad)
  | _ => .bad
def slcD (x : D) (l h : Option Int) : R OD :=
  match x with
  | .lst ds => .ok (.own (cutL ds l h))
  | .tup ds => .ok (.fz (.tup (cutL ds l h)))
  | _ => .bad
def isNon : E → Bool
  | .non => true
  | _ => false
/-- a slice's bound -/
def part (non : Bool) (r : R D) : R (Option Int) := if non then .ok none else (asI r).bind fun i => .ok (some i)
def attrD (X : Fx) (f : Nat) (o : OD) : R OD :=
  match o with
    | .fz (.obj c ds) => R.ofO (((X.fld c f).bind fun i => ds[i]?).map .fz)
    | .xv c (some p) => if X.xf c = some f then .ok (.fz p) else .bad
    | _ => .bad
def varD (o : Option OD) (pk : Bool) : R OD :=
  match o with
    | some (.fz d) => .ok (.fz d)
    | some .un => .bad
    | some o => if pk then .ok o else .bad
    | none => .bad
def rngD (xs : List D) : R OD :=
  match xs with
  | [.int n] => if smallI n then .ok (.fz (.lst (rangeI 0 n))) else .bad
  | [.int m, .int n] => if smallI m && smallI n then .ok (.fz (.lst (rangeI m n))) else .bad
  | [.int m, .int n, .int (-1)] => if smallI m && smallI n then .ok (.fz (.lst ((List.range (m - n).toNat).map fun (k : Nat) => D.int (m - k)))) else .bad
  | _ => .bad
def enmD (k : Nat) : List D → List D
  | [] => []
  | d :: ds => .tup [.int k, d] :: enmD (k + 1) ds
def zipD : List D → List D → List D
  | a :: as, b :: bs => .tup [a, b] :: zipD as bs
  | _, _ => []
def itemsR (r : R D) : R (List D) := r.bind fun d => R.ofO d.items

mutual
def ev (X : Fx) : E → List OD → Bool → R OD
  | .int i, _, _ => .ok (.fz (.int i))
  | .bl b, _, _ => .ok (.fz (.bl b))
  | .non, _, _ => .ok (.fz .non)
  | .str x, _, _ => .ok (.fz (.str x))
  | .var i, Γ, pk => varD Γ[i]? pk
  | .glob g, _, _ => R.ofO ((X.gv g).map .fz)
  | .bin op a b, Γ, _ => (oper (isPath a) (ev X a Γ true)).bind fun x => (oper (isPath b) (ev X b Γ true)).bind fun y => binD op x y
  | .neg a, Γ, _ => (asI (oper (isPath a) (ev X a Γ true))).bind fun i => .ok (.fz (.int (-i)))
  | .notE a, Γ, _ => (tru (ev X a Γ true)).bind fun b => .ok (.fz (.bl (!b)))
  | .cmp op a b, Γ, _ => (argm (isPath a) (ev X a Γ true)).bind fun x => (argm (isPath b) (ev X b Γ true)).bind fun y => cmpD op x.1 y.1
  | .chain o1 o2 a b c, Γ, _ => (oper (isPath a) (ev X a Γ true)).bind fun x => (oper (isPath b) (ev X b Γ true)).bind fun y => (asB (cmpD o1 x y)).bind fun r =>
      if r then (oper (isPath c) (ev X c Γ true)).bind fun z => cmpD o2 y z else .ok (.fz (.bl false))
  | .isN a yes, Γ, _ => (argm (isPath a) (ev X a Γ true)).bind fun x => .ok (.fz (.bl (x.1.isNon == yes)))
  | .isB a b yes, Γ, _ => (asB (ev X a Γ true)).bind fun c => .ok (.fz (.bl ((c == b) == yes)))
  | .andE a b, Γ, _ => (asB (ev X a Γ true)).bind fun c => if c then (asB (ev X b Γ true)).bind fun d => .ok (.fz (.bl d)) else .ok (.fz (.bl false))
  | .orE a b, Γ, _ => (asB (ev X a Γ true)).bind fun c => if c then .ok (.fz (.bl true)) else (asB (ev X b Γ true)).bind fun d => .ok (.fz (.bl d))
  | .one a, Γ, _ => (asB (ev X a Γ true)).bind fun b => .ok (.fz (.bl b))
  | .ite c a b, Γ, _ => (tru (ev X c Γ true)).bind fun t => if t then ev X a Γ false else ev X b Γ false
  | .tup es, Γ, _ => (evF X es Γ).bind fun ds => .ok (.fz (.tup ds))
  | .lst es, Γ, _ => (evV X es Γ).bind fun os => R.ofO (mkOwn os)
  | .sub a i, Γ, pk => (ev X a Γ true).bind fun o => (asI (oper (isPath i) (ev X i Γ true))).bind fun j => subD pk (isPath a) o j
  | .slc a lo hi, Γ, _ => (oper (isPath a) (ev X a Γ true)).bind fun x => (part (isNon lo) (oper (isPath lo) (ev X lo Γ true))).bind fun l => (part (isNon hi) (oper (isPath hi) (ev X hi Γ true))).bind fun h => slcD x l h
  | .attr a f, Γ, _ => (ev X a Γ true).bind fun o => attrD X f o
  | .call f es ks kes, Γ, _ => if X.calm = false then .bad else (evAs X es Γ).bind fun as => (evAs X kes Γ).bind fun bs => lent (as ++ bs) (X.call f (as.map (·.1)) ks (bs.map (·.1)))
  | .mk c es, Γ, _ => if X.calm = false then .bad else (evAs X es Γ).bind fun as => lent as (X.make c (as.map (·.1)))
  | .meth a m es, Γ, _ => if X.calm = false then .bad else (oper (isPath a) (ev X a Γ true)).bind fun x => match x with
    | .obj c ds => (match X.meth c m with
      | some f => (evAs X es Γ).bind fun as => lent as (X.call f (.obj c ds :: as.map (·.1)) [] [])
      | none => .bad)
    | _ => .bad
  | .blt f es, Γ, _ => if X.calm || f.anyhow then (evOs X es Γ).bind fun xs => bltD f xs else .bad
  | .bm m a es, Γ, _ => (oper (isPath a) (ev X a Γ true)).bind fun x => (evOs X es Γ).bind fun xs => bmD m x xs
  | .inst a ts, Γ, _ => (ev X a Γ true).bind fun o => R.ofO ((anyTy o X.sub ts).map fun b => .fz (.bl b))
  | .comp e tg it cs, Γ, _ => if X.calm = false then .bad else (itemsR (oper (isPath it) (ev X it Γ true))).bind fun ds => (compL (fun Γ' => ev X e Γ' false) (fun Γ' => evC X cs Γ') tg Γ ds).bind fun os => R.ofO (mkOwn os)
  | .rng es, Γ, _ => (evOs X es Γ).bind rngD
  | .enm e, Γ, _ => (itemsR (oper (isPath e) (ev X e Γ true))).bind fun ds => .ok (.fz (.lst (enmD 0 ds)))
  | .zip a b, Γ, _ => (itemsR (oper (isPath a) (ev X a Γ true))).bind fun xs => (itemsR (oper (isPath b) (ev X b Γ true))).bind fun ys => .ok (.fz (.lst (zipD xs ys)))
/-- operands -/
def evOs (X : Fx) : List E → List OD → R (List D)
  | [], _ => .ok []
  | e :: es, Γ => (oper (isPath e) (ev X e Γ true)).bind fun d => (evOs X es Γ).bind fun ds => .ok (d :: ds)
/-- arguments -/
def evAs (X : Fx) : List E → List OD → R (List (D × Bool))
  | [], _ => .ok []
  | e :: es, Γ => (argm (isPath e) (ev X e Γ true)).bind fun d => (evAs X es Γ).bind fun ds => .ok (d :: ds)
/-- a tuple's items -/
def evF (X : Fx) : List E → List OD → R (List D)
  | [], _ => .ok []
  | e :: es, Γ => (frz (ev X e Γ false)).bind fun d => (evF X es Γ).bind fun ds => .ok (d :: ds)
/-- a list's items -/
def evV (X : Fx) : List E → List OD → R (List OD)
  | [], _ => .ok []
  | e :: es, Γ => (ev X e Γ false).bind fun d => (evV X es Γ).bind fun ds => .ok (d :: ds)
/-- a comprehension's tests -/
def evC (X : Fx) : List E → List OD → R Bool
  | [], _ => .ok true
  | e :: es, Γ => (tru (ev X e Γ true)).bind fun b => if b then evC X es Γ else .ok false
end

/-! ### statements -/
inductive S where
  | ex (e : E)
  | asg (t : T) (e : E)
  | set (x : Nat) (i e : E)
  | set2 (x : Nat) (i j e : E)
  | app (x : Nat) (e : E)
  | pop (x : Nat)
  | ext (x : Nat) (e : E)
  | fld (f : Nat) (e : E)
  | aug (x : Nat) (op : Bop) (e : E)
  | augS (x : Nat) (i : E) (op : Bop) (e : E)
  | ret (e : E)
  | iff (c : E) (a b : List S)
  | whl (c : E) (b : List S)
  | forr (t : T) (it : E) (b : List S)
  | rais (c : Nat) (es : List E)
  | tryy (b : List S) (c : Nat) (x : Option Nat) (h : List S)
  | pass | cont | brk
  | frz (xs : List Nat)
  | mcall (t : Option T) (f : Nat) (es : List E)

inductive Fl | nx | rt (o : OD) | bk | ct
inductive XR where
  | ok (f : Fl) (Γ : List OD)
  | ex (c : Nat) (p : Option D) (Γ : List OD)
  | bad
def liftR {α : Type} (r : R α) (Γ : List OD) (f : α → XR) : XR := match r with
  | .ok a => f a
  | .ex c p => .ex c p Γ
  | .bad => .bad
def liftO {α : Type} (r : Option α) (f : α → XR) : XR := match r with
  | some a => f a
  | none => .bad
def XR.seq (r : XR) (f : List OD → XR) : XR := match r with
  | .ok .nx Γ => f Γ
  | r => r
@[simp] theorem liftR_ok {α : Type} (a : α) (Γ : List OD) (f : α → XR) : liftR (.ok a) Γ f = f a := rfl
@[simp] theorem liftR_ex {α : Type} (c : Nat) (p : Option D) (Γ : List OD) (f : α → XR) : liftR (.ex c p) Γ f = .ex c p Γ := rfl
@[simp] theorem liftR_bad {α : Type} (Γ : List OD) (f : α → XR) : liftR .bad Γ f = .bad := rfl
@[simp] theorem liftO_some {α : Type} (a : α) (f : α → XR) : liftO (some a) f = f a := rfl
@[simp] theorem liftO_none {α : Type} (f : α → XR) : liftO none f = .bad := rfl
@[simp] theorem seq_nx (Γ : List OD) (f : List OD → XR) : (XR.ok .nx Γ).seq f = f Γ := rfl
@[simp] theorem seq_rt (o : OD) (Γ : List OD) (f : List OD → XR) : (XR.ok (.rt o) Γ).seq f = .ok (.rt o) Γ := rfl
@[simp] theorem seq_bk (Γ : List OD) (f : List OD → XR) : (XR.ok .bk Γ).seq f = .ok .bk Γ := rfl
@[simp] theorem seq_ct (Γ : List OD) (f : List OD → XR) : (XR.ok .ct Γ).seq f = .ok .ct Γ := rfl
@[simp] theorem seq_ex (c : Nat) (p : Option D) (Γ : List OD) (f : List OD → XR) : (XR.ex c p Γ).seq f = .ex c p Γ := rfl
@[simp] theorem seq_bad (f : List OD → XR) : XR.bad.seq f = .bad := rfl

/-- a loop's turns over the items -/
def forL (body : List OD → XR) (t : T) : List D → List OD → XR
  | [], Γ => .ok .nx Γ
  | d :: ds, Γ => liftO (setT t (.fz d) Γ) fun Γ' => match body Γ' with
    | .ok .nx Γ2 => forL body t ds Γ2
    | .ok .ct Γ2 => forL body t ds Γ2
    | .ok .bk Γ2 => .ok .nx Γ2
    | r => r
def whlL (test : List OD → R Bool) (body : List OD → XR) : Nat → List OD → XR
  | 0, _ => .bad
  | n + 1, Γ => liftR (test Γ) Γ fun b => if b then (match body Γ with
    | .ok .nx Γ2 => whlL test body n Γ2
    | .ok .ct Γ2 => whlL test body n Γ2
    | .ok .bk Γ2 => .ok .nx Γ2
    | r => r) else .ok .nx Γ
def frzAt (Γ : List OD) (x : Nat) : Option (List OD) := match Γ[x]? with
  | some o => o.toD.map fun d => Γ.set x (.fz d)
  | none => none
def frzAll : List Nat → List OD → Option (List OD)
  | [], Γ => some Γ
  | x :: xs, Γ => (frzAt Γ x).bind (frzAll xs)
/-- x[i] = v -/
def setAt (Γ : List OD) (x : Nat) (j : Int) (o : OD) : Option (List OD) := match Γ[x]? with
  | some (.own ds) => (ixN ds.length j).bind fun k => o.toD.map fun d => Γ.set x (.own (ds.set k d))
  | some (.own2 rs) => (ixN rs.length j).bind fun k => (match o with
    | .own ds => some (false, ds)
    | .fz (.lst ds) => some (true, ds)
    | _ => none).map fun r => Γ.set x (.own2 (rs.set k r))
  | _ => none
def set2At (Γ : List OD) (x : Nat) (i j : Int) (o : OD) : Option (List OD) := match Γ[x]? with
  | some (.own2 rs) => (ixN rs.length i).bind fun k => (match rs[k]? with
    | some (false, ds) => (ixN ds.length j).bind fun l => o.toD.map fun d => Γ.set x (.own2 (rs.set k (false, ds.set l d)))
    | _ => none)
  | _ => none
/-- a list of one's own -/
def ownAt (Γ : List OD) (x : Nat) : Bool := match Γ[x]? with
  | some (.own _) => true
  | some (.own2 _) => true
  | _ => false
def appAt (Γ : List OD) (x : Nat) (o : OD) : Option (List OD) := match Γ[x]? with
  | some (.own ds) => if ds.length < line then o.toD.map fun d => Γ.set x (.own (ds ++ [d])) else none
  | _ => none
def popAt (Γ : List OD) (x : Nat) : Option (List OD) := match Γ[x]? with
  | some (.own ds) => if ds = [] then none else some (Γ.set x (.own ds.dropLast))
  | _ => none
def extAt (Γ : List OD) (x : Nat) (ys : List D) : Option (List OD) := match Γ[x]? with
  | some (.own ds) => if ds.length + ys.length ≤ line then some (Γ.set x (.own (ds ++ ys))) else none
  | _ => none
def fldAt (Γ : List OD) (f : Nat) (o : OD) : Option (List OD) := match Γ with
  | .oi c fs :: Γ' => if fs.length < 100 ∧ fs.lookup f = none then o.toD.map fun d => .oi c (fs ++ [(f, d)]) :: Γ' else none
  | _ => none
/-- a name handed back moves -/
def retE (X : Fx) (e : E) (Γ : List OD) : R OD := match e with
  | .var i => varD Γ[i]? true
  | e => ev X e Γ false

def noXv : OD → Bool
  | .xv _ _ => false
  | _ => true
def clrAt (x : Option Nat) (Γ : List OD) : List OD := match x with
  | some i => Γ.set i .un
  | none => Γ
def flNoXv : Fl → Bool
  | .rt o => noXv o
  | _ => true
/-- behind an except suite -/
def noXvR (x : Option Nat) : XR → XR
  | .ok f Γ => if (clrAt x Γ).all noXv && flNoXv f then .ok f (clrAt x Γ) else .bad
  | _ => .bad
structure Gx extends Fx where
  wide : Nat
  /-- defs that change their arguments -/
  mcall : Nat → List OD → R (OD × List OD)
  /-- what is at hand while an error is handled -/
  hot : Fx
def mvO (Γ : List OD) : E → R OD
  | .var i => R.ofO Γ[i]?
  | _ => .bad

mutual
def exec : S → Gx → List OD → XR
  | .ex e, X, Γ => liftR (ev X.toFx e Γ true) Γ fun _ => .ok .nx Γ
  | .asg t e, X, Γ => if !X.calm && t.isT then .bad else liftR (ev X.toFx e Γ false) Γ fun o => liftO (setT t o Γ) fun Γ' => .ok .nx Γ'
  | .set x i e, X, Γ => liftR (ev X.toFx e Γ false) Γ fun o => liftR (asI (oper (isPath i) (ev X.toFx i Γ true))) Γ fun j => liftO (setAt Γ x j o) fun Γ' => .ok .nx Γ'
  | .set2 x i j e, X, Γ => liftR (ev X.toFx e Γ false) Γ fun o => liftR (asI (oper (isPath i) (ev X.toFx i Γ true))) Γ fun a => liftR (asI (oper (isPath j) (ev X.toFx j Γ true))) Γ fun b =>
      liftO (set2At Γ x a b o) fun Γ' => .ok .nx Γ'
  | .app x e, X, Γ => if !ownAt Γ x then .bad else liftR (ev X.toFx e Γ false) Γ fun o => liftO (appAt Γ x o) fun Γ' => .ok .nx Γ'
  | .pop x, X, Γ => liftO (popAt Γ x) fun Γ' => .ok .nx Γ'
  | .ext x e, X, Γ => if !ownAt Γ x then .bad else liftR (itemsR (oper (isPath e) (ev X.toFx e Γ true))) Γ fun ds => liftO (extAt Γ x ds) fun Γ' => .ok .nx Γ'
  | .fld f e, X, Γ => liftR (ev X.toFx e Γ false) Γ fun o => liftO (fldAt Γ f o) fun Γ' => .ok .nx Γ'
  | .aug x op e, X, Γ => liftR (asI (oper true (varD Γ[x]? true))) Γ fun i => liftR (asI (oper (isPath e) (ev X.toFx e Γ true))) Γ fun j => liftR (binD op (.int i) (.int j)) Γ fun o => liftO (setT (.n x) o Γ) fun Γ' => .ok .nx Γ'
  | .augS x i op e, X, Γ => liftR (asI (oper (isPath i) (ev X.toFx i Γ true))) Γ fun j => liftR (asI (oper true (subD true true (Γ.getD x .un) j))) Γ fun a =>
      liftR (asI (oper (isPath e) (ev X.toFx e Γ true))) Γ fun b => liftR (binD op (.int a) (.int b)) Γ fun o => liftO (setAt Γ x j o) fun Γ' => .ok .nx Γ'
  | .ret e, X, Γ => liftR (retE X.toFx e Γ) Γ fun o => .ok (.rt o) Γ
  | .iff c a b, X, Γ => liftR (tru (ev X.toFx c Γ true)) Γ fun t => if t then execs a X Γ else execs b X Γ
  | .whl c b, X, Γ => if X.calm = false then .bad else whlL (fun Γ => tru (ev X.toFx c Γ true)) (fun Γ => execs b X Γ) X.wide Γ
  | .forr t it b, X, Γ => if X.calm = false then .bad else liftR (itemsR (frz (ev X.toFx it Γ false))) Γ fun ds => forL (fun Γ => execs b X Γ) t ds Γ
  | .rais c es, X, Γ => if X.calm = false then .bad else liftR (evF X.toFx es Γ) Γ fun ds => .ex c (if (X.xf c).isSome then (match ds with
      | [d] => some d
      | _ => none) else none) Γ
  | .tryy b c x h, X, Γ => if X.calm = false then .bad else match execs b X Γ with
      | .ex k p Γ' => if X.sub k (.exc c) then (match x with
        | none => noXvR none (execs h { X with toFx := X.hot } Γ')
        | some i => if i < Γ'.length then noXvR (some i) (execs h { X with toFx := X.hot } (Γ'.set i (.xv k p))) else .bad) else .ex k p Γ'
      | r => r
  | .pass, _, Γ => .ok .nx Γ
  | .cont, _, Γ => .ok .ct Γ
  | .brk, _, Γ => .ok .bk Γ
  | .frz xs, _, Γ => liftO (frzAll xs Γ) fun Γ' => .ok .nx Γ'
  | .mcall t f es, X, Γ => .bad
def execs : List S → Gx → List OD → XR
  | [], _, Γ => .ok .nx Γ
  | s :: ss, X, Γ => (exec s X Γ).seq fun Γ' => execs ss X Γ'
end

/-! ### programs -/
/-- a def: how many parameters, how many names, the defaults (for the last positional ones), keyword-only parameters with their defaults (behind the positional ones), the body -/
structure Fn where
  np : Nat
  nn : Nat
  dfl : List D
  kwo : List (Nat × D)
  body : List S
structure Cl where
  init : Nat
  flds : List Nat
  meths : List (Nat × Nat)
/-- an error's class: the classes above it (own ones, by number), its field -/
structure Xc where
  up : List Nat
  fld : Option Nat
structure Prog where
  fn : Nat → Option Fn
  cl : Nat → Option Cl
  xc : Nat → Option Xc
  gv : Nat → Option D
  wide : Nat

/-- the parameters' values: the written ones, keywords, defaults -/
def bindA (f : Fn) (as : List D) (ks : List Nat) (bs : List D) : Option (List D) :=
  let np := f.np - f.kwo.length
  if np < as.length then none else
  let need := np - as.length
  if f.dfl.length < need then none else
  if !ks.all (fun k => f.kwo.any fun q => q.1 == k) then none else
  some (as ++ f.dfl.drop (f.dfl.length - need) ++ f.kwo.map fun q => match ks.findIdx? (· == q.1) with
    | some i => bs.getD i .non
    | none => q.2)
def Prog.sub (P : Prog) (k : Nat) : Ty → Bool
  | .exc c => k == c || (match P.xc k with
    | some x => x.up.contains c
    | none => false)
  | .verr => true
  | .tnone => (P.cl k).isSome
  | _ => false
def Prog.fld (P : Prog) (c f : Nat) : Option Nat := (P.cl c).bind fun q => q.flds.findIdx? (· == f)
def Prog.xf (P : Prog) (c : Nat) : Option Nat := (P.xc c).bind (·.fld)
def Prog.meth (P : Prog) (c m : Nat) : Option Nat := (P.cl c).bind fun q => q.meths.lookup m
def start (f : Fn) (as : List OD) : List OD := as ++ List.replicate (f.nn - as.length) .un

def outR (r : XR) : R OD := match r with
  | .ok (.rt o) _ => .ok o
  | .ok .nx _ => .ok (.fz .non)
  | .ex c p _ => .ex c p
  | _ => .bad
/-- behind __init__: the instance as data -/
def outI (P : Prog) (c : Nat) (r : XR) : R OD := match r with
  | .ok fl Γ => (match fl, Γ, P.cl c with
    | .nx, (.oi _ fs) :: _, some q => if fs.map (·.1) = q.flds then .ok (.fz (.obj c (fs.map (·.2)))) else .bad
    | _, _, _ => .bad)
  | .ex c p _ => .ex c p
  | _ => .bad

/-- what is at hand at depth n -/
def Prog.gx (P : Prog) : Nat → Gx
  | 0 => { call := fun _ _ _ _ => .bad, make := fun _ _ => .bad, meth := P.meth, gv := P.gv, fld := P.fld, sub := P.sub, xf := P.xf, calm := true, wide := P.wide, mcall := fun _ _ => .bad,
           hot := { call := fun _ _ _ _ => .bad, make := fun _ _ => .bad, meth := P.meth, gv := P.gv, fld := P.fld, sub := P.sub, xf := P.xf, calm := false } }
  | n + 1 => { call := fun f as ks bs => match P.fn f with
                 | some F => (match bindA F as ks bs with
                   | some vs => outR (execs F.body (P.gx n) (start F (vs.map .fz)))
                   | none => .bad)
                 | none => .bad
               make := fun c as => match P.cl c with
                 | some C => (match P.fn C.init with
                   | some F => (match bindA F (.non :: as) [] [] with
                     | some vs => outI P c (execs F.body (P.gx n) (start F (.oi c [] :: vs.tail.map .fz)))
                     | none => .bad)
                   | none => .bad)
                 | none => .bad
               meth := P.meth, gv := P.gv, fld := P.fld, sub := P.sub, xf := P.xf, calm := true, wide := P.wide, mcall := fun _ _ => .bad,
               hot := { call := fun _ _ _ _ => .bad
                        make := fun _ _ => .bad, meth := P.meth, gv := P.gv, fld := P.fld, sub := P.sub, xf := P.xf, calm := false } }
def Prog.call (P : Prog) (n f : Nat) (as : List D) : R OD := (P.gx n).call f as [] []

end MP

end

section
set_option Elab.async false
set_option linter.all false
set_option maxRecDepth 100000
namespace MP
open PySem L2

/-! ### data and values -/
def strOf (x : List Nat) : Str := ⟨x.toArray⟩
/-- the world: the written part, names, classes -/
structure Wd where
  K : PySem.W.Frag
  nm : Nat → Str
  P : MP.Prog
abbrev Wd.cad (w : Wd) (c : Nat) : Addr := He.ga w.K (w.nm c)
def Wd.flds (w : Wd) (c : Nat) : List Str := match w.P.cl c with
  | some q => q.flds.map w.nm
  | none => []
section
variable (w : Wd)
mutual
def Rep (H : Hp) : D → V → Prop
  | .non, v => v = .non
  | .bl b, v => v = .bl b
  | .int i, v => v = .int i
  | .str x, v => v = .str (strOf x)
  | .tup ds, v => ∃ a vs, v = .ref a ∧ SqT w.K H a vs ∧ Reps H ds vs
  | .lst ds, v => ∃ a vs, v = .ref a ∧ Rd H a (.lst vs) ∧ Reps H ds vs
  | .obj c ds, v => ∃ a dx vs, v = .ref a ∧ H a = some (.ins (w.cad c) dx ((w.flds c).zip vs)) ∧ (w.flds c).length = vs.length ∧ Reps H ds vs
  | .scr ns, v => ∃ a, v = .ref a ∧ SqL w.K H a (ns.map V.int)
def Reps (H : Hp) : List D → List V → Prop
  | [], vs => vs = []
  | d :: ds, vs => ∃ v r, vs = v :: r ∧ Rep H d v ∧ Reps H ds r
end
/-- the heap has grown -/
def Le (H H' : Hp) : Prop := ∀ a o, H a = some o → H' a = some o
theorem Le.refl (H : Hp) : Le H H := fun _ _ e => e
theorem Le.trans {H H1 H2 : Hp} (a : Le H H1) (b : Le H1 H2) : Le H H2 := fun x o e => b x o (a x o e)
/-- what may not change has grown by new things -/
structure Ext (H Hf Hf' : Hp) : Prop where
  le : Le Hf Hf'
  old : ∀ a, H a ≠ none → Hf' a = Hf a
theorem Le.rd {H H' : Hp} (l : Le H H') {a : Addr} {u : HO} (h : Rd H a u) : Rd H' a u := by
  rcases h with h | ⟨o, h⟩
  · exact .inl (l _ _ h)
  · exact .inr ⟨o, l _ _ h⟩
theorem Le.sqT {H H' : Hp} (l : Le H H') {a : Addr} {xs : List V} (h : SqT w.K H a xs) : SqT w.K H' a xs := by
  rcases h with (h | ⟨o, h⟩) | h
  · exact .inl (.inl (l _ _ h))
  · exact .inl (.inr ⟨o, l _ _ h⟩)
  · exact .inr h
theorem Le.sqL {H H' : Hp} (l : Le H H') {a : Addr} {xs : List V} (h : SqL w.K H a xs) : SqL w.K H' a xs := by
  rcases h with (h | ⟨o, h⟩) | h
  · exact .inl (.inl (l _ _ h))
  · exact .inl (.inr ⟨o, l _ _ h⟩)
  · exact .inr h
mutual
theorem Rep.mono {H H' : Hp} (l : Le H H') : ∀ (d : D) (v : V), Rep w H d v → Rep w H' d v
  | .non, _, h => h
  | .bl _, _, h => h
  | .int _, _, h => h
  | .str _, _, h => h
  | .tup ds, v, h => by
    unfold Rep at h ⊢
    obtain ⟨a, vs, e, s, r⟩ := h
    exact ⟨a, vs, e, l.sqT w s, Reps.mono l ds vs r⟩
  | .lst ds, v, h => by
    unfold Rep at h ⊢
    obtain ⟨a, vs, e, s, r⟩ := h
    exact ⟨a, vs, e, l.rd s, Reps.mono l ds vs r⟩
  | .obj c ds, v, h => by
    unfold Rep at h ⊢
    obtain ⟨a, dx, vs, e, s, z, r⟩ := h
    exact ⟨a, dx, vs, e, l _ _ s, z, Reps.mono l ds vs r⟩
  | .scr ns, v, h => by
    unfold Rep at h ⊢
    obtain ⟨a, e, s⟩ := h
    exact ⟨a, e, l.sqL w s⟩
theorem Reps.mono {H H' : Hp} (l : Le H H') : ∀ (ds : List D) (vs : List V), Reps w H ds vs → Reps w H' ds vs
  | [], _, h => h
  | d :: ds, vs, h => by
    unfold Reps at h ⊢
    obtain ⟨v, r, e, h1, h2⟩ := h
    exact ⟨v, r, e, Rep.mono l d v h1, Reps.mono l ds r h2⟩
end
variable {w}
theorem Rep.int_iff {H : Hp} {i : Int} {v : V} : Rep w H (.int i) v ↔ v = .int i := by unfold Rep; exact Iff.rfl
theorem Rep.bl_iff {H : Hp} {b : Bool} {v : V} : Rep w H (.bl b) v ↔ v = .bl b := by unfold Rep; exact Iff.rfl
theorem Rep.non_iff {H : Hp} {v : V} : Rep w H .non v ↔ v = .non := by unfold Rep; exact Iff.rfl
theorem Rep.str_iff {H : Hp} {x : List Nat} {v : V} : Rep w H (.str x) v ↔ v = .str (strOf x) := by unfold Rep; exact Iff.rfl
theorem Rep.tup_iff {H : Hp} {ds : List D} {v : V} : Rep w H (.tup ds) v ↔ ∃ a vs, v = .ref a ∧ SqT w.K H a vs ∧ Reps w H ds vs := by unfold Rep; exact Iff.rfl
theorem Rep.lst_iff {H : Hp} {ds : List D} {v : V} : Rep w H (.lst ds) v ↔ ∃ a vs, v = .ref a ∧ Rd H a (.lst vs) ∧ Reps w H ds vs := by unfold Rep; exact Iff.rfl
theorem Rep.obj_iff {H : Hp} {c : Nat} {ds : List D} {v : V} : Rep w H (.obj c ds) v ↔ ∃ a dx vs, v = .ref a ∧ H a = some (.ins (w.cad c) dx ((w.flds c).zip vs)) ∧ (w.flds c).length = vs.length ∧ Reps w H ds vs := by unfold Rep; exact Iff.rfl
theorem Rep.scr_iff {H : Hp} {ns : List Int} {v : V} : Rep w H (.scr ns) v ↔ ∃ a, v = .ref a ∧ SqL w.K H a (ns.map V.int) := by unfold Rep; exact Iff.rfl
theorem Reps.nil_iff {H : Hp} {vs : List V} : Reps w H [] vs ↔ vs = [] := by unfold Reps; exact Iff.rfl
theorem Reps.cons_iff {H : Hp} {d : D} {ds : List D} {vs : List V} : Reps w H (d :: ds) vs ↔ ∃ v r, vs = v :: r ∧ Rep w H d v ∧ Reps w H ds r := by rw [Reps]
theorem Reps.length {H : Hp} : ∀ {ds : List D} {vs : List V}, Reps w H ds vs → vs.length = ds.length
  | [], vs, h => by rw [Reps.nil_iff.mp h]; rfl
  | d :: ds, vs, h => by
    obtain ⟨v, r, rfl, _, h2⟩ := Reps.cons_iff.mp h
    rw [List.length_cons, List.length_cons, Reps.length h2]
theorem Reps.get {H : Hp} : ∀ {ds : List D} {vs : List V} {i : Nat} {d : D}, Reps w H ds vs → ds[i]? = some d → ∃ v, vs[i]? = some v ∧ Rep w H d v
  | [], _, _, _, _, e => by simp at e
  | d :: ds, vs, i, x, h, e => by
    obtain ⟨v, r, rfl, h1, h2⟩ := Reps.cons_iff.mp h
    cases i with
    | zero =>
      simp at e
      subst e
      exact ⟨v, by simp, h1⟩
    | succ i =>
      obtain ⟨u, h3, h4⟩ := Reps.get (i := i) h2 (by simpa using e)
      exact ⟨u, by simpa using h3, h4⟩
theorem Reps.append {H : Hp} : ∀ {ds es : List D} {vs us : List V}, Reps w H ds vs → Reps w H es us → Reps w H (ds ++ es) (vs ++ us)
  | [], _, vs, us, h, k => by rw [Reps.nil_iff.mp h]; exact k
  | d :: ds, es, vs, us, h, k => by
    obtain ⟨v, r, rfl, h1, h2⟩ := Reps.cons_iff.mp h
    exact Reps.cons_iff.mpr ⟨v, r ++ us, rfl, h1, Reps.append h2 k⟩
theorem Reps.take {H : Hp} : ∀ {ds : List D} {vs : List V} (n : Nat), Reps w H ds vs → Reps w H (ds.take n) (vs.take n)
  | _, _, 0, _ => Reps.nil_iff.mpr rfl
  | [], vs, n + 1, h => by rw [Reps.nil_iff.mp h]; exact Reps.nil_iff.mpr rfl
  | d :: ds, vs, n + 1, h => by
    obtain ⟨v, r, rfl, h1, h2⟩ := Reps.cons_iff.mp h
    exact Reps.cons_iff.mpr ⟨v, r.take n, rfl, h1, Reps.take n h2⟩
theorem Reps.drop {H : Hp} : ∀ {ds : List D} {vs : List V} (n : Nat), Reps w H ds vs → Reps w H (ds.drop n) (vs.drop n)
  | _, _, 0, h => h
  | [], vs, n + 1, h => by rw [Reps.nil_iff.mp h]; exact Reps.nil_iff.mpr rfl
  | d :: ds, vs, n + 1, h => by
    obtain ⟨v, r, rfl, h1, h2⟩ := Reps.cons_iff.mp h
    exact Reps.drop n h2
theorem Reps.set {H : Hp} {d : D} {v : V} (h : Rep w H d v) : ∀ {ds : List D} {vs : List V} (i : Nat), Reps w H ds vs → Reps w H (ds.set i d) (vs.set i v)
  | [], vs, i, k => by rw [Reps.nil_iff.mp k]; exact Reps.nil_iff.mpr rfl
  | x :: ds, vs, i, k => by
    obtain ⟨u, r, rfl, h1, h2⟩ := Reps.cons_iff.mp k
    cases i with
    | zero => exact Reps.cons_iff.mpr ⟨v, r, rfl, h, h2⟩
    | succ i => exact Reps.cons_iff.mpr ⟨u, r.set i v, rfl, h1, Reps.set h i h2⟩
theorem Reps.ints {H : Hp} : ∀ {ds : List D} {vs : List V} {ns : List Int}, Reps w H ds vs → D.ints ds = some ns → vs = ns.map V.int
  | [], vs, ns, h, e => by
    rw [Reps.nil_iff.mp h]
    cases e
    rfl
  | d :: ds, vs, ns, h, e => by
    obtain ⟨v, r, rfl, h1, h2⟩ := Reps.cons_iff.mp h
    cases d with
    | int i =>
      rw [D.ints] at e
      cases q : D.ints ds with
      | none => rw [q] at e; cases e
      | some ms =>
        rw [q] at e
        cases e
        rw [Rep.int_iff.mp h1, Reps.ints h2 q]
        rfl
    | _ => cases e
theorem Reps.bls {H : Hp} : ∀ {ds : List D} {vs : List V} {ns : List Bool}, Reps w H ds vs → D.bls ds = some ns → vs = ns.map V.bl
  | [], vs, ns, h, e => by
    rw [Reps.nil_iff.mp h]
    cases e
    rfl
  | d :: ds, vs, ns, h, e => by
    obtain ⟨v, r, rfl, h1, h2⟩ := Reps.cons_iff.mp h
    cases d with
    | bl i =>
      rw [D.bls] at e
      cases q : D.bls ds with
      | none => rw [q] at e; cases e
      | some ms =>
        rw [q] at e
        cases e
        rw [Rep.bl_iff.mp h1, Reps.bls h2 q]
        rfl
    | _ => cases e
theorem Reps.of_ints {H : Hp} : ∀ (ns : List Int), Reps w H (ns.map .int) (ns.map V.int)
  | [] => Reps.nil_iff.mpr rfl
  | n :: ns => Reps.cons_iff.mpr ⟨_, _, rfl, Rep.int_iff.mpr rfl, Reps.of_ints ns⟩

/-! ### what a name holds -/
/-- xv: what a caught error's value is -/
abbrev XV := Nat → Option D → V → Hp → Prop
variable (w) in
def RepRows (H Hf : Hp) : List (Bool × List D) → List V → List Addr → Prop
  | [], vs, as => vs = [] ∧ as = []
  | (true, ds) :: rs, vs, as => ∃ v r, vs = v :: r ∧ Rep w Hf (.lst ds) v ∧ RepRows H Hf rs r as
  | (false, ds) :: rs, vs, as => ∃ a us r as', vs = .ref a :: r ∧ as = a :: as' ∧ H a = some (.lst us) ∧ Hf a = none ∧ Reps w Hf ds us ∧ RepRows H Hf rs r as'
variable (w) in
def RepFs (Hf : Hp) : List (Nat × D) → List (Str × V) → Prop
  | [], vs => vs = []
  | (f, d) :: fs, vs => ∃ v r, vs = (w.nm f, v) :: r ∧ Rep w Hf d v ∧ RepFs Hf fs r
variable (w) in
def RepO (xv : XV) (H Hf : Hp) : OD → V → List Addr → Prop
  | .un, _, as => as = []
  | .fz d, v, as => as = [] ∧ Rep w Hf d v
  | .own ds, v, as => ∃ a vs, v = .ref a ∧ as = [a] ∧ H a = some (.lst vs) ∧ Hf a = none ∧ Reps w Hf ds vs
  | .own2 rs, v, as => ∃ a vs as', v = .ref a ∧ as = a :: as' ∧ H a = some (.lst vs) ∧ Hf a = none ∧ RepRows w H Hf rs vs as'
  | .oi c fs, v, as => ∃ a dx fvs, v = .ref a ∧ as = [a] ∧ H a = some (.ins (w.cad c) dx fvs) ∧ Hf a = none ∧ RepFs w Hf fs fvs
  | .xv c p, v, as => as = [] ∧ xv c p v Hf
/-- from one state to a later one, where all that is tracked stands -/
structure Gr (H Hf H' Hf' : Hp) : Prop where
  le : Le H H'
  ext : Ext H Hf Hf'
  lf : Le Hf' H'
theorem Gr.refl {H Hf : Hp} (l : Le Hf H) : Gr H Hf H Hf := ⟨Le.refl H, ⟨Le.refl Hf, fun _ _ => rfl⟩, l⟩
theorem Gr.trans {H Hf H1 Hf1 H2 Hf2 : Hp} (a : Gr H Hf H1 Hf1) (b : Gr H1 Hf1 H2 Hf2) : Gr H Hf H2 Hf2 :=
  ⟨a.le.trans b.le, ⟨a.ext.le.trans b.ext.le, fun x h => by
    have h1 : H1 x ≠ none := fun e => by
      cases q : H x with
      | none => exact h q
      | some o => rw [a.le x o q] at e; cases e
    rw [b.ext.old x h1, a.ext.old x h]⟩, b.lf⟩
theorem Ext.none {H Hf Hf' : Hp} (e : Ext H Hf Hf') {a : Addr} {o : HO} (h : H a = some o) (n : Hf a = none) : Hf' a = none := by
  rw [e.old a (by rw [h]; exact fun q => nomatch q), n]
/-- what a caught error's value is stays so -/
def XvOk (xv : XV) : Prop := ∀ c p v Hf Hf', Le Hf Hf' → xv c p v Hf → xv c p v Hf'
theorem RepRows.mono {H Hf H' Hf' : Hp} (g : Gr H Hf H' Hf') : ∀ {rs : List (Bool × List D)} {vs : List V} {as : List Addr}, RepRows w H Hf rs vs as → RepRows w H' Hf' rs vs as
  | [], _, _, h => h
  | (true, ds) :: rs, vs, as, h => by
    obtain ⟨v, r, e, h1, h2⟩ := h
    exact ⟨v, r, e, Rep.mono w g.ext.le _ _ h1, RepRows.mono g h2⟩
  | (false, ds) :: rs, vs, as, h => by
    obtain ⟨a, us, r, as', e1, e2, h1, h2, h3, h4⟩ := h
    exact ⟨a, us, r, as', e1, e2, g.le _ _ h1, g.ext.none h1 h2, Reps.mono w g.ext.le _ _ h3, RepRows.mono g h4⟩
theorem RepFs.mono {Hf Hf' : Hp} (l : Le Hf Hf') : ∀ {fs : List (Nat × D)} {vs : List (Str × V)}, RepFs w Hf fs vs → RepFs w Hf' fs vs
  | [], _, h => h
  | (f, d) :: fs, vs, h => by
    obtain ⟨v, r, e, h1, h2⟩ := h
    exact ⟨v, r, e, Rep.mono w l _ _ h1, RepFs.mono l h2⟩
theorem RepO.mono {xv : XV} (hx : XvOk xv) {H Hf H' Hf' : Hp} (g : Gr H Hf H' Hf') {o : OD} {v : V} {as : List Addr} (h : RepO w xv H Hf o v as) : RepO w xv H' Hf' o v as := by
  cases o with
  | un => exact h
  | fz d => exact ⟨h.1, Rep.mono w g.ext.le _ _ h.2⟩
  | own ds =>
    obtain ⟨a, vs, e1, e2, h1, h2, h3⟩ := h
    exact ⟨a, vs, e1, e2, g.le _ _ h1, g.ext.none h1 h2, Reps.mono w g.ext.le _ _ h3⟩
  | own2 rs =>
    obtain ⟨a, vs, as', e1, e2, h1, h2, h3⟩ := h
    exact ⟨a, vs, as', e1, e2, g.le _ _ h1, g.ext.none h1 h2, h3.mono g⟩
  | oi c fs =>
    obtain ⟨a, dx, fvs, e1, e2, h1, h2, h3⟩ := h
    exact ⟨a, dx, fvs, e1, e2, g.le _ _ h1, g.ext.none h1 h2, h3.mono g.ext.le⟩
  | xv c p => exact ⟨h.1, hx _ _ _ _ _ g.ext.le h.2⟩
/-- the names' values, for reading -/
def Slots (w : Wd) (xv : XV) (H Hf : Hp) (Γ : List OD) (σ : L2.St) : Prop := ∀ (i : Nat) (o : OD), Γ[i]? = some o → o ≠ .un → ∃ v as, σ[i]? = some (some v) ∧ RepO w xv H Hf o v as ∧ as.Nodup
theorem Slots.mono {xv : XV} (hx : XvOk xv) {H Hf H' Hf' : Hp} (g : Gr H Hf H' Hf') {Γ : List OD} {σ : L2.St} (h : Slots w xv H Hf Γ σ) : Slots w xv H' Hf' Γ σ := fun i o e n => by
  obtain ⟨v, as, e1, r, nd⟩ := h i o e n
  exact ⟨v, as, e1, r.mono hx g, nd⟩
end
end MP

end

section
set_option Elab.async false
set_option linter.all false
set_option maxRecDepth 100000
namespace MP
open PySem PySem.Spec L2
section
variable {w : Wd} {xv : XV} {X : Cx}
/-! ### what an evaluation leaves -/
/-- o is what v stands for; p: it may be a name's own -/
def Res (w : Wd) (xv : XV) (H0 H Hf : Hp) (p : Bool) (o : OD) (v : V) : Prop := ∃ as, RepO w xv H Hf o v as ∧ as.Nodup ∧ (p = false → ∀ a ∈ as, H0 a = none)
theorem res_fz {H0 H Hf : Hp} {p : Bool} {d : D} {v : V} (h : Rep w Hf d v) : Res w xv H0 H Hf p (.fz d) v := ⟨[], ⟨rfl, h⟩, List.nodup_nil, fun _ a h => nomatch h⟩
theorem gr_new {H Hf : Hp} {p : Addr} {o : HO} (l : Le Hf H) (hp : H p = none) : Gr H Hf (upd H p o) Hf := by
  have le : Le H (upd H p o) := fun a u e => by rw [upd_ne (ne_of_none e hp)]; exact e
  exact ⟨le, ⟨Le.refl _, fun _ _ => rfl⟩, l.trans le⟩
theorem Le.none {Hf H : Hp} (l : Le Hf H) {p : Addr} (hp : H p = none) : Hf p = none := by
  cases q : Hf p with
  | none => rfl
  | some o => rw [l p o q] at hp; cases hp
theorem res_own {H Hf : Hp} {p : Addr} {q : Bool} {ds : List D} {vs : List V} (l : Le Hf H) (hp : H p = none) (h : Reps w Hf ds vs) : Res w xv H (upd H p (.lst vs)) Hf q (.own ds) (.ref p) :=
  ⟨[p], ⟨p, vs, rfl, rfl, upd_same, l.none hp, h⟩, by simp, fun _ a h => by rw [List.mem_singleton.mp h]; exact hp⟩
theorem gr_newf {H Hf : Hp} {p : Addr} {o : HO} (l : Le Hf H) (hp : H p = none) : Gr H Hf (upd H p o) (upd Hf p o) := by
  refine ⟨fun a u e => by rw [upd_ne (ne_of_none e hp)]; exact e, ⟨fun a u e => by rw [upd_ne (ne_of_none (l _ _ e) hp)]; exact e, fun a h => ?_⟩, fun a u e => ?_⟩
  · have : a ≠ p := fun z => h (by rw [z]; exact hp)
    rw [upd_ne this]
  · by_cases z : a = p
    · subst z; rw [upd_same] at e ⊢; exact e
    · rw [upd_ne z] at e ⊢; exact l _ _ e
theorem rep_tup {H Hf : Hp} {p : Addr} {ds : List D} {vs : List V} (l : Le Hf H) (hp : H p = none) (h : Reps w Hf ds vs) : Rep w (upd Hf p (.tup vs)) (.tup ds) (.ref p) :=
  Rep.tup_iff.mpr ⟨p, vs, rfl, SqT.of upd_same, Reps.mono w (gr_newf l hp).ext.le _ _ h⟩
/-- an operand -/
def Opn (w : Wd) (H Hf : Hp) (d : D) (v : V) : Prop := Rep w Hf d v ∨ ∃ ds a vs, d = .lst ds ∧ v = .ref a ∧ H a = some (.lst vs) ∧ Reps w Hf ds vs
theorem Opn.mono {H Hf H' Hf' : Hp} (g : Gr H Hf H' Hf') {d : D} {v : V} (h : Opn w H Hf d v) : Opn w H' Hf' d v := by
  rcases h with h | ⟨ds, a, vs, e1, e2, h1, h2⟩
  · exact .inl (Rep.mono w g.ext.le _ _ h)
  · exact .inr ⟨ds, a, vs, e1, e2, g.le _ _ h1, Reps.mono w g.ext.le _ _ h2⟩
theorem Opn.int {H Hf : Hp} {i : Int} {v : V} (h : Opn w H Hf (.int i) v) : v = .int i := by
  rcases h with h | ⟨_, _, _, e, _⟩
  · exact Rep.int_iff.mp h
  · cases e
theorem Opn.bl {H Hf : Hp} {i : Bool} {v : V} (h : Opn w H Hf (.bl i) v) : v = .bl i := by
  rcases h with h | ⟨_, _, _, e, _⟩
  · exact Rep.bl_iff.mp h
  · cases e
theorem Opn.non {H Hf : Hp} {v : V} (h : Opn w H Hf .non v) : v = .non := by
  rcases h with h | ⟨_, _, _, e, _⟩
  · exact Rep.non_iff.mp h
  · cases e
theorem Opn.str {H Hf : Hp} {x : List Nat} {v : V} (h : Opn w H Hf (.str x) v) : v = .str (strOf x) := by
  rcases h with h | ⟨_, _, _, e, _⟩
  · exact Rep.str_iff.mp h
  · cases e
theorem Opn.lst {H Hf : Hp} {ds : List D} {v : V} (l : Le Hf H) (h : Opn w H Hf (.lst ds) v) : ∃ a vs, v = .ref a ∧ Rd H a (.lst vs) ∧ Reps w Hf ds vs := by
  rcases h with h | ⟨_, a, vs, e, e2, h1, h2⟩
  · obtain ⟨a, vs, e, s, r⟩ := Rep.lst_iff.mp h
    exact ⟨a, vs, e, l.rd s, r⟩
  · cases e
    exact ⟨a, vs, e2, .inl h1, h2⟩
theorem Opn.tup {H Hf : Hp} {ds : List D} {v : V} (l : Le Hf H) (h : Opn w H Hf (.tup ds) v) : ∃ a vs, v = .ref a ∧ SqT w.K H a vs ∧ Reps w Hf ds vs := by
  rcases h with h | ⟨_, a, vs, e, e2, h1, h2⟩
  · obtain ⟨a, vs, e, s, r⟩ := Rep.tup_iff.mp h
    exact ⟨a, vs, e, l.sqT w s, r⟩
  · cases e
theorem Opn.seq {H Hf : Hp} {d : D} {ds : List D} {v : V} (l : Le Hf H) (h : Opn w H Hf d v) (e : d.items = some ds) : ∃ a vs, v = .ref a ∧ (Rd H a (.lst vs) ∨ SqT w.K H a vs) ∧ Reps w Hf ds vs := by
  cases d with
  | tup xs =>
    cases e
    obtain ⟨a, vs, e, s, r⟩ := h.tup l
    exact ⟨a, vs, e, .inr s, r⟩
  | lst xs =>
    cases e
    obtain ⟨a, vs, e, s, r⟩ := h.lst l
    exact ⟨a, vs, e, .inl s, r⟩
  | _ => cases e
/-- a value that comes of data -/
def Out (w : Wd) (xv : XV) (H Hf : Hp) (o : OD) (Q : VK) : Prop := ∀ v H' Hf', Gr H Hf H' Hf' → Res w xv H H' Hf' false o v → Q v H'
theorem Out.int {H Hf : Hp} {i : Int} {Q : VK} (l : Le Hf H) (k : Out w xv H Hf (.fz (.int i)) Q) : Q (.int i) H := k _ _ _ (Gr.refl l) (res_fz (Rep.int_iff.mpr rfl))
theorem Out.bl {H Hf : Hp} {i : Bool} {Q : VK} (l : Le Hf H) (k : Out w xv H Hf (.fz (.bl i)) Q) : Q (.bl i) H := k _ _ _ (Gr.refl l) (res_fz (Rep.bl_iff.mpr rfl))
theorem Out.non {H Hf : Hp} {Q : VK} (l : Le Hf H) (k : Out w xv H Hf (.fz .non) Q) : Q .non H := k _ _ _ (Gr.refl l) (res_fz (Rep.non_iff.mpr rfl))
theorem Out.fz {H Hf : Hp} {d : D} {v : V} {Q : VK} (l : Le Hf H) (h : Rep w Hf d v) (k : Out w xv H Hf (.fz d) Q) : Q v H := k _ _ _ (Gr.refl l) (res_fz h)
theorem Out.own {H Hf : Hp} {ds : List D} {vs : List V} {Q : VK} (l : Le Hf H) (r : Reps w Hf ds vs) (k : Out w xv H Hf (.own ds) Q) : ∀ p, H p = none → Q (.ref p) (upd H p (.lst vs)) := fun p hp =>
  k _ _ _ (gr_new l hp) (res_own l hp r)
theorem Out.tup {H Hf : Hp} {ds : List D} {vs : List V} {Q : VK} (l : Le Hf H) (r : Reps w Hf ds vs) (k : Out w xv H Hf (.fz (.tup ds)) Q) : ∀ p, H p = none → Q (.ref p) (upd H p (.tup vs)) := fun p hp =>
  k _ _ _ (gr_newf l hp) (res_fz (rep_tup l hp r))

/-! ### two-place operators -/
def rBin (w : Wd) (xv : XV) (f : D → D → R OD) : R2 := fun x y H Q => ∃ Hf dx dy o, Le Hf H ∧ Opn w H Hf dx x ∧ Opn w H Hf dy y ∧ f dx dy = .ok o ∧ Out w xv H Hf o Q
theorem line_le : line ≤ sizeLine := by rw [sizeLine_eq]; decide
theorem mulOk_ok {i j : Int} (h : mulOk i j = true) : IntMulOk i j := by
  unfold mulOk at h
  simp only [Bool.or_eq_true, decide_eq_true_eq] at h
  rcases h with (h | h) | h
  · exact IntMulOk.of_left (intBits_le_64 (by omega) (by omega))
  · exact IntMulOk.of_right (intBits_le_64 (by omega) (by omega))
  · exact CMulW.ok h
theorem bitAnd_nn {i j n : Int} (h : pyBit Nat.land i j = some n) : PySem.Builtin.bitAnd i j = n := by
  unfold pyBit at h
  split at h
  · rename_i q
    obtain ⟨q1, q2⟩ := q
    cases h
    unfold PySem.Builtin.bitAnd
    simp [q1, q2]
  · cases h
theorem tup_ne_nil {vs : List V} {ds : List D} {H : Hp} (r : Reps w H ds vs) (h : ds ≠ []) : vs ≠ [] := fun z => by
  have e := r.length
  rw [z] at e
  exact h (List.length_eq_zero_iff.mp e.symm)
/-- list + list, of any standing -/
theorem op_catL : OpR X (binaryOp .Add) (fun x y H Q => ∃ l b xs zs, x = .ref l ∧ y = .ref b ∧ Rd H l (.lst xs) ∧ Rd H b (.lst zs) ∧ xs.length + zs.length ≤ sizeLine ∧ ∀ p, H p = none → Q (.ref p) (upd H p (.lst (xs ++ zs)))) := by
  intro pins s σ H x y v u Q I rx ry h
  obtain ⟨l, b, xs, zs, rfl, rfl, hH, hB, hz, q⟩ := h
  cases rx
  cases ry
  obtain ⟨z, its, n, r, e⟩ := hH.ok I.hok
  obtain ⟨z2, its2, n2, r2, e2⟩ := hB.ok I.hok
  have l1 := r.length
  have l2 := r2.length
  refine PySem.P.add_list e e2 ?_ (by rw [List.size_toArray, List.size_toArray]; omega)
  have ea : its.toArray ++ its2.toArray = (its ++ its2).toArray := by simp
  rw [ea]
  exact ⟨.ref _, _, I.lnew (t' := s.toks) (r.append r2) (by rw [List.length_append]; omega), rfl, q _ I.fresh⟩
/-- a list times an int -/
theorem op_repL : OpR X (binaryOp .Mult) (fun x y H Q => ∃ l k xs, x = .ref l ∧ y = .int k ∧ Rd H l (.lst xs) ∧ -(2 ^ 63) ≤ k ∧ k < 2 ^ 63 ∧ xs.length * k.toNat ≤ sizeLine ∧
  ∀ p, H p = none → Q (.ref p) (upd H p (.lst (List.replicate k.toNat xs).flatten))) := by
  intro pins s σ H x y v u Q I rx ry h
  obtain ⟨l, k, xs, rfl, rfl, hH, h1, h2, hz, q⟩ := h
  cases rx
  obtain ⟨t, rfl⟩ := ry
  obtain ⟨z, its, n, r, e⟩ := hH.ok I.hok
  have hl := r.length
  have hlen : its.toArray.size * k.toNat ≤ sizeLine := by rw [List.size_toArray, ← hl]; exact hz
  have hcap : ¬ its.toArray.size * k.toNat > (2 ^ 63 - 1) / 8 := by
    have : (sizeLine : Nat) ≤ (2 ^ 63 - 1) / 8 := by decide
    omega
  have hfit : ¬ (!PySem.Builtin.List.listFitsIndex k) = true := by
    rw [fitsIndex_both h1 h2]
    exact Bool.false_ne_true
  have hlong : ¬ PySem.Builtin.List.listTooLong (its.toArray.size * k.toNat) = true := by
    rw [notLongL hlen]
    exact Bool.false_ne_true
  have hnew : List.foldl (fun x1 x2 => x1 ++ x2) #[] (List.replicate (if its.toArray.isEmpty = true then 0 else k.toNat) its.toArray) = (List.replicate k.toNat its).flatten.toArray := by
    have f0 : ∀ m : Nat, List.foldl (fun x1 x2 => x1 ++ x2) #[] (List.replicate m its.toArray) = (List.replicate m its).flatten.toArray := fun m => by
      have := foldl_rep its m []
      rw [List.nil_append] at this
      exact this
    rw [f0]
    cases its with
    | nil => simp
    | cons a r' => rw [if_neg (by simp)]
  refine wpAny_binaryOp_repeat_ref (T := "list") (U := "int") (by decide) ⟨_, e, rfl⟩ (fun s' => PySem.typeIs_int s' k t) noFill_list_mul F.fills_int_mul F.slot_int_rmul repeat_list F.slot_int_index.lookup
    (call_meets F.slot_int_rmul (PySem.typeIs_int s k t) F.entry_int_rmul (F.args_int_rmul_2 _ _) (int___rmul___int_list k t l its.toArray n)
      ⟨e, rfl, ⟨_, e, rfl⟩, call_meets F.slot_list_mul ⟨_, e, rfl⟩ F.entry_list_mul (F.args_list_mul_2 _ _) (AutoListH.list___mul___list_int_3 l its.toArray n k t hfit hcap hlong) ⟨e, ?_⟩⟩)
  rw [hnew]
  exact ⟨.ref _, _, I.lnew (t' := s.toks) (r.rep k.toNat) (by rw [PyProof.Rows.lm_len_rep_flat, Nat.mul_comm]; exact hz), rfl, q _ I.fresh⟩
def opOf : Bop → Operator
  | .add => .Add
  | .sub => .Sub
  | .mul => .Mult
  | .fdiv => .FloorDiv
  | .mod => .Mod
  | .pow => .Pow
  | .shl => .LShift
  | .shr => .RShift
  | .band => .BitAnd
  | .bor => .BitOr
  | .bxor => .BitXor

theorem flatten_reps {H : Hp} {ds : List D} {vs : List V} (r : Reps w H ds vs) : ∀ k : Nat, Reps w H (List.replicate k ds).flatten (List.replicate k vs).flatten
  | 0 => by simp only [List.replicate_zero, List.flatten_nil]; exact Reps.nil_iff.mpr rfl
  | k + 1 => by
    rw [List.replicate_succ, List.replicate_succ, List.flatten_cons, List.flatten_cons]
    exact r.append (flatten_reps r k)
theorem bin_ints {op : Bop} {i j : Int} {H Hf : Hp} {o : OD} {Q : VK} (l : Le Hf H) (e : binD op (.int i) (.int j) = .ok o) (k : Out w xv H Hf o Q)
    {pins : List (Addr × Obj)} {s : Shared} {σ : L2.St} {v u : Value} (I : Inv X pins σ H s) (rx : RelV (.int i) v) (ry : RelV (.int j) u) :
    wpAny (model X.prog X.w) X.A (binaryOp (opOf op) v u) (EP X pins σ Q) X.xe s := by
  cases op with
  | add =>
    cases e
    exact op_add pins s σ H _ _ v u Q I rx ry ⟨i, j, rfl, rfl, k.int l⟩
  | sub =>
    cases e
    exact op_sub pins s σ H _ _ v u Q I rx ry ⟨i, j, rfl, rfl, k.int l⟩
  | mul =>
    simp only [binD] at e
    split at e
    · rename_i hm
      cases e
      obtain ⟨t, rfl⟩ := rx
      obtain ⟨t', rfl⟩ := ry
      exact PyProof.Rows.mul_int ⟨.int _, H, I.tok _, ⟨_, rfl⟩, k.int l⟩ (mulOk_ok hm)
    · cases e
  | fdiv =>
    simp only [binD] at e
    split at e
    · rename_i hm
      cases e
      unfold divOk at hm
      simp only [Bool.and_eq_true, decide_eq_true_eq] at hm
      obtain ⟨t, rfl⟩ := rx
      obtain ⟨t', rfl⟩ := ry
      exact PyProof.Rows.floordiv_int hm.1 ⟨.int _, H, I.tok _, ⟨_, rfl⟩, k.int l⟩ (.inl (PyProof.noPylong_of_log2 hm.2))
    · cases e
  | mod =>
    simp only [binD] at e
    split at e
    · cases e
    · rename_i hm
      cases e
      exact op_modN pins s σ H _ _ v u Q I rx ry ⟨i, j, rfl, rfl, hm, k.int l⟩
  | pow =>
    simp only [binD] at e
    split at e
    · rename_i hm
      cases e
      unfold powOk at hm
      simp only [Bool.and_eq_true, decide_eq_true_eq] at hm
      exact op_pow pins s σ H _ _ v u Q I rx ry ⟨i, j, rfl, rfl, hm, k.int l⟩
    · cases e
  | shl =>
    simp only [binD] at e
    split at e
    · rename_i hm
      cases e
      unfold powOk at hm
      simp only [Bool.and_eq_true, decide_eq_true_eq] at hm
      exact op_shl pins s σ H _ _ v u Q I rx ry ⟨i, j, rfl, rfl, hm, k.int l⟩
    · cases e
  | shr =>
    simp only [binD] at e
    split at e
    · rename_i hm
      cases e
      exact op_shr pins s σ H _ _ v u Q I rx ry ⟨i, j, rfl, rfl, hm, k.int l⟩
    · cases e
  | band =>
    simp only [binD] at e
    cases q : pyBit Nat.land i j with
    | none => rw [q] at e; cases e
    | some n =>
      rw [q] at e
      cases e
      exact op_and pins s σ H _ _ v u Q I rx ry ⟨i, j, rfl, rfl, by show Q (.int (PySem.Builtin.bitAnd i j)) H; rw [bitAnd_nn q]; exact k.int l⟩
  | bor => cases e
  | bxor => cases e
theorem op_bin (hK : X.K = w.K) (op : Bop) : OpR X (binaryOp (opOf op)) (rBin w xv (binD op)) := by
  intro pins s σ H x y v u Q I rx ry h
  obtain ⟨Hf, dx, dy, o, l, ox, oy, e, k⟩ := h
  cases dx with
  | int i =>
    cases dy with
    | int j =>
      rw [ox.int] at rx
      rw [oy.int] at ry
      exact bin_ints l e k I rx ry
    | _ => cases e
  | lst xs =>
    obtain ⟨a, vs, rfl, ra, r⟩ := ox.lst l
    cases dy with
    | lst ys =>
      obtain ⟨b, us, rfl, rb, r2⟩ := oy.lst l
      cases op with
      | add =>
        simp only [binD] at e
        split at e
        · rename_i hz
          cases e
          have hl := line_le
          exact op_catL pins s σ H _ _ v u Q I rx ry ⟨a, b, vs, us, rfl, rfl, ra, rb, by rw [r.length, r2.length]; omega, k.own l (r.append r2)⟩
        · cases e
      | _ => cases e
    | int j =>
      rw [oy.int] at ry
      cases op with
      | mul =>
        simp only [binD] at e
        split at e
        · rename_i hz
          cases e
          have hl := line_le
          exact op_repL pins s σ H _ _ v u Q I rx ry ⟨a, j, vs, rfl, rfl, ra, by omega, by omega, by rw [r.length]; omega, k.own l (flatten_reps r j.toNat)⟩
        · cases e
      | _ => cases e
    | _ => cases e
  | tup xs =>
    obtain ⟨a, vs, rfl, ra, r⟩ := ox.tup l
    cases dy with
    | tup ys =>
      obtain ⟨b, us, rfl, rb, r2⟩ := oy.tup l
      cases op with
      | add =>
        simp only [binD] at e
        split at e
        · rename_i hz
          cases e
          have hl := line_le
          have l1 := r.length
          refine op_catT pins s σ H _ _ v u Q I rx ry ⟨a, b, vs, us, rfl, rfl, hK ▸ ra, hK ▸ rb, fun q => ?_, by rw [r.length, r2.length]; omega, fun q => ?_, fun _ => k.tup l (r.append r2)⟩
          · rw [q] at l1
            have := hz.1
            rw [← l1] at this
            exact absurd this (Nat.lt_irrefl _)
          · subst q
            have e0 : ys = [] := List.length_eq_zero_iff.mp r2.length.symm
            subst e0
            rw [List.append_nil] at k
            rcases ox with ox | ⟨_, _, _, z, _⟩
            · exact k.fz l ox
            · cases z
        · cases e
      | _ => cases e
    | _ => cases e
  | _ => cases e

/-! ### == of data -/
end
mutual
def D.py : D → PyData
  | .non => .none
  | .bl b => .bool b
  | .int i => .int i
  | .str x => .str (strOf x)
  | .tup ds => .tuple (D.pys ds)
  | .lst ds => .list (D.pys ds)
  | .obj _ _ => .none
  | .scr _ => .none
def D.pys : List D → List PyData
  | [] => []
  | d :: ds => D.py d :: D.pys ds
end
section
variable {w : Wd} {xv : XV} {X : Cx}
theorem strOf_beq (a b : List Nat) : (strOf a == strOf b) = (a == b) := by
  rw [Bool.eq_iff_iff, beq_iff_eq, beq_iff_eq]
  constructor
  · intro h
    have h2 : a.toArray = b.toArray := congrArg Str.cps h
    simpa using h2
  · rintro rfl
    rfl
mutual
theorem py_eqv : ∀ (n m : Nat) (a b : D), a.plain n = true → b.plain m = true → PyData.eqv a.py b.py = D.eqv a b
  | n, m, a, b, ha, hb => by
    cases a with
    | non => cases b <;> first | (exfalso; cases m <;> simp [D.plain] at hb; done) | rfl | (simp only [D.py, PyData.eqv, D.eqv])
    | bl x => cases b <;> first | (exfalso; cases m <;> simp [D.plain] at hb; done) | rfl | (simp only [D.py, PyData.eqv, D.eqv])
    | int x => cases b <;> first | (exfalso; cases m <;> simp [D.plain] at hb; done) | rfl | (simp only [D.py, PyData.eqv, D.eqv])
    | str x =>
      cases b with
      | str y =>
        simp only [D.py, PyData.eqv, D.eqv]
        exact strOf_beq x y
      | obj c ds => cases m <;> simp [D.plain] at hb
      | scr ns => cases m <;> simp [D.plain] at hb
      | _ => first | rfl | simp only [D.py, PyData.eqv, D.eqv]
    | tup x =>
      cases b with
      | tup y =>
        simp only [D.py, PyData.eqv, D.eqv]
        cases n with
        | zero => simp [D.plain] at ha
        | succ n =>
          cases m with
          | zero => simp [D.plain] at hb
          | succ m => exact pys_eqv n m x y (by simpa [D.plain] using ha) (by simpa [D.plain] using hb)
      | obj c ds => cases m <;> simp [D.plain] at hb
      | scr ns => cases m <;> simp [D.plain] at hb
      | _ => first | rfl | simp only [D.py, PyData.eqv, D.eqv]
    | lst x =>
      cases b with
      | lst y =>
        simp only [D.py, PyData.eqv, D.eqv]
        cases n with
        | zero => simp [D.plain] at ha
        | succ n =>
          cases m with
          | zero => simp [D.plain] at hb
          | succ m => exact pys_eqv n m x y (by simpa [D.plain] using ha) (by simpa [D.plain] using hb)
      | obj c ds => cases m <;> simp [D.plain] at hb
      | scr ns => cases m <;> simp [D.plain] at hb
      | _ => first | rfl | simp only [D.py, PyData.eqv, D.eqv]
    | obj c ds => cases n <;> simp [D.plain] at ha
    | scr ns => cases n <;> simp [D.plain] at ha
theorem pys_eqv : ∀ (n m : Nat) (as bs : List D), D.plains n as = true → D.plains m bs = true → PyData.eqvAll (D.pys as) (D.pys bs) = D.eqvs as bs
  | n, m, [], [], _, _ => by simp only [D.pys, PyData.eqvAll, D.eqvs]
  | n, m, [], b :: bs, _, _ => by simp only [D.pys, PyData.eqvAll, D.eqvs]
  | n, m, a :: as, [], _, _ => by simp only [D.pys, PyData.eqvAll, D.eqvs]
  | n, m, a :: as, b :: bs, ha, hb => by
    have h1 : a.plain n = true ∧ D.plains n as = true := by simpa [D.plains] using ha
    have h2 : b.plain m = true ∧ D.plains m bs = true := by simpa [D.plains] using hb
    simp only [D.pys, PyData.eqvAll, D.eqvs]
    rw [py_eqv n m a b h1.1 h2.1, pys_eqv n m as bs h1.2 h2.2]
end
mutual
theorem py_dp {H Hf : Hp} (l : Le Hf H) : ∀ (n : Nat) (d : D) (v : V), Rep w Hf d v → d.plain n = true → Dp w.K H v d.py
  | n, .non, v, h, _ => by rw [Rep.non_iff.mp h, D.py]; exact .non
  | n, .bl b, v, h, _ => by rw [Rep.bl_iff.mp h, D.py]; exact .bl b
  | n, .int b, v, h, _ => by rw [Rep.int_iff.mp h, D.py]; exact .int b
  | n, .str b, v, h, _ => by rw [Rep.str_iff.mp h, D.py]; exact .str _
  | 0, .tup ds, v, h, p => by simp [D.plain] at p
  | 0, .lst ds, v, h, p => by simp [D.plain] at p
  | n + 1, .tup ds, v, h, p => by
    obtain ⟨a, vs, rfl, s, r⟩ := Rep.tup_iff.mp h
    rw [D.py]
    exact .tup (l.sqT w s) (pys_dp l n ds vs r (by simpa [D.plain] using p))
  | n + 1, .lst ds, v, h, p => by
    obtain ⟨a, vs, rfl, s, r⟩ := Rep.lst_iff.mp h
    rw [D.py]
    exact .lst (.inl (l.rd s)) (pys_dp l n ds vs r (by simpa [D.plain] using p))
  | 0, .obj c ds, v, h, p => by simp [D.plain] at p
  | n + 1, .obj c ds, v, h, p => by simp [D.plain] at p
  | 0, .scr ns, v, h, p => by simp [D.plain] at p
  | n + 1, .scr ns, v, h, p => by simp [D.plain] at p
theorem pys_dp {H Hf : Hp} (l : Le Hf H) : ∀ (n : Nat) (ds : List D) (vs : List V), Reps w Hf ds vs → D.plains n ds = true → DpAll w.K H vs (D.pys ds)
  | n, [], vs, h, _ => by rw [Reps.nil_iff.mp h, D.pys]; exact .nil
  | n, d :: ds, vs, h, p => by
    obtain ⟨v, r, rfl, h1, h2⟩ := Reps.cons_iff.mp h
    have hp : d.plain n = true ∧ D.plains n ds = true := by simpa [D.plains] using p
    rw [D.pys]
    exact .cons (py_dp l n d v h1 hp.1) (pys_dp l n ds r h2 hp.2)
end
mutual
theorem py_lay : ∀ (n : Nat) (d : D), d.plain n = true → d.py.canLay0 = true ∧ d.py.depth ≤ n
  | n, .non, _ => by simp [D.py, PyData.canLay0, PyData.depth]
  | n, .bl b, _ => by simp [D.py, PyData.canLay0, PyData.depth]
  | n, .int b, _ => by simp [D.py, PyData.canLay0, PyData.depth]
  | n, .str b, p => by
    have p' : (b.all fun c => decide (c < 1114112)) = true := by cases n <;> simpa [D.plain] using p
    refine ⟨?_, by simp [D.py, PyData.depth]⟩
    simp only [D.py, PyData.canLay0, PyData.strOk, strOf]
    simpa using p'
  | 0, .tup ds, p => by simp [D.plain] at p
  | 0, .lst ds, p => by simp [D.plain] at p
  | n + 1, .tup ds, p => by
    obtain ⟨h1, h2⟩ := pys_lay n ds (by simpa [D.plain] using p)
    refine ⟨by simpa [D.py, PyData.canLay0] using h1, by simp only [D.py, PyData.depth]; omega⟩
  | n + 1, .lst ds, p => by
    obtain ⟨h1, h2⟩ := pys_lay n ds (by simpa [D.plain] using p)
    refine ⟨by simpa [D.py, PyData.canLay0] using h1, by simp only [D.py, PyData.depth]; omega⟩
  | 0, .obj c ds, p => by simp [D.plain] at p
  | n + 1, .obj c ds, p => by simp [D.plain] at p
  | 0, .scr ns, p => by simp [D.plain] at p
  | n + 1, .scr ns, p => by simp [D.plain] at p
theorem pys_lay : ∀ (n : Nat) (ds : List D), D.plains n ds = true → PyData.canLayAll0 (D.pys ds) = true ∧ PyData.depthAll (D.pys ds) ≤ n
  | n, [], _ => by simp [D.pys, PyData.canLayAll0, PyData.depthAll]
  | n, d :: ds, p => by
    have hp : d.plain n = true ∧ D.plains n ds = true := by simpa [D.plains] using p
    obtain ⟨a1, a2⟩ := py_lay n d hp.1
    obtain ⟨b1, b2⟩ := pys_lay n ds hp.2
    refine ⟨by simp [D.pys, PyData.canLayAll0, a1, b1], by simp only [D.pys, PyData.depthAll]; omega⟩
end
theorem py_shaped {d : D} (h : d.plain 20 = true) : SeqAt.shaped d.py = true := by
  obtain ⟨h1, h2⟩ := py_lay 20 d h
  unfold SeqAt.shaped
  rw [h1, decide_eq_true (by omega)]
  rfl
theorem opn_dp {H Hf : Hp} (l : Le Hf H) {d : D} {v : V} (h : Opn w H Hf d v) (p : d.plain 20 = true) : Dp w.K H v d.py := by
  rcases h with h | ⟨ds, a, vs, rfl, rfl, h1, h2⟩
  · exact py_dp l 20 d v h p
  · rw [D.py]
    exact .lst (.inl (.inl h1)) (pys_dp l 19 ds vs h2 (by simpa [D.plain] using p))
end
end MP

end

section
set_option Elab.async false
set_option linter.all false
set_option maxRecDepth 100000
namespace MP
open PySem PySem.Spec L2
section
variable {w : Wd} {xv : XV} {X : Cx}
/-- an argument: an operand, or a list of lists of a name's own -/
def Arg (w : Wd) (H Hf : Hp) (d : D) (v : V) : Prop := Opn w H Hf d v ∨ ∃ rs a vs as, d = .lst (rs.map rowD) ∧ v = .ref a ∧ H a = some (.lst vs) ∧ RepRows w H Hf rs vs as
theorem Arg.mono {H Hf H' Hf' : Hp} (g : Gr H Hf H' Hf') {d : D} {v : V} (h : Arg w H Hf d v) : Arg w H' Hf' d v := by
  rcases h with h | ⟨rs, a, vs, as, e1, e2, h1, h2⟩
  · exact .inl (h.mono g)
  · exact .inr ⟨rs, a, vs, as, e1, e2, g.le _ _ h1, h2.mono g⟩
theorem rows_dpn {H Hf : Hp} (l : Le Hf H) : ∀ {rs : List (Bool × List D)} {vs : List V} {as : List Addr}, RepRows w H Hf rs vs as → D.plains 20 (rs.map rowD) = true → DpAll w.K H vs (D.pys (rs.map rowD))
  | [], vs, as, h, _ => by rw [h.1]; exact .nil
  | (true, ds) :: rs, vs, as, h, p => by
    obtain ⟨v, r, rfl, h1, h2⟩ := h
    have hp : (rowD (true, ds)).plain 20 = true ∧ D.plains 20 (rs.map rowD) = true := by simpa [D.plains] using p
    rw [List.map_cons, D.pys]
    exact .cons (py_dp l 20 _ v h1 hp.1) (rows_dpn l h2 hp.2)
  | (false, ds) :: rs, vs, as, h, p => by
    obtain ⟨a, us, r, as', rfl, e2, h1, h2, h3, h4⟩ := h
    have hp : (rowD (false, ds)).plain 20 = true ∧ D.plains 20 (rs.map rowD) = true := by simpa [D.plains] using p
    rw [List.map_cons, D.pys]
    refine .cons ?_ (rows_dpn l h4 hp.2)
    show Dp w.K H (.ref a) (D.py (.lst ds))
    rw [D.py]
    exact .lst (.inl (.inl h1)) (pys_dp l 19 ds us h3 (by simpa [D.plain, rowD] using hp.1))
theorem rows_dp {H Hf : Hp} (l : Le Hf H) : ∀ {rs : List (Bool × List D)} {vs : List V} {as : List Addr}, RepRows w H Hf rs vs as → D.plains 19 (rs.map rowD) = true → DpAll w.K H vs (D.pys (rs.map rowD))
  | [], vs, as, h, _ => by rw [h.1]; exact .nil
  | (true, ds) :: rs, vs, as, h, p => by
    obtain ⟨v, r, rfl, h1, h2⟩ := h
    have hp : (rowD (true, ds)).plain 19 = true ∧ D.plains 19 (rs.map rowD) = true := by simpa [D.plains] using p
    rw [List.map_cons, D.pys]
    exact .cons (py_dp l 19 _ v h1 hp.1) (rows_dp l h2 hp.2)
  | (false, ds) :: rs, vs, as, h, p => by
    obtain ⟨a, us, r, as', rfl, e2, h1, h2, h3, h4⟩ := h
    have hp : (rowD (false, ds)).plain 19 = true ∧ D.plains 19 (rs.map rowD) = true := by simpa [D.plains] using p
    rw [List.map_cons, D.pys]
    refine .cons ?_ (rows_dp l h4 hp.2)
    show Dp w.K H (.ref a) (D.py (.lst ds))
    rw [D.py]
    exact .lst (.inl (.inl h1)) (pys_dp l 18 ds us h3 (by simpa [D.plain, rowD] using hp.1))
theorem arg_dp {H Hf : Hp} (l : Le Hf H) {d : D} {v : V} (h : Arg w H Hf d v) (p : d.plain 20 = true) : Dp w.K H v d.py := by
  rcases h with h | ⟨rs, a, vs, as, rfl, rfl, h1, h2⟩
  · exact opn_dp l h p
  · rw [D.py]
    exact .lst (.inl (.inl h1)) (rows_dp l h2 (by simpa [D.plain] using p))
theorem Arg.int {H Hf : Hp} {i : Int} {v : V} (h : Arg w H Hf (.int i) v) : v = .int i := by
  rcases h with h | ⟨_, _, _, _, e, _⟩
  · exact h.int
  · cases e
def copOf : Cop → CmpOp
  | .eq => .Eq
  | .ne => .NotEq
  | .lt => .Lt
  | .le => .LtE
  | .gt => .Gt
  | .ge => .GtE
  | .isin => .In
  | .notin => .NotIn
/-- a comparison's reading -/
def rCmp (w : Wd) (xv : XV) (f : D → D → R OD) : R2 := fun x y H Q => ∃ Hf dx dy o, Le Hf H ∧ Arg w H Hf dx x ∧ Arg w H Hf dy y ∧ f dx dy = .ok o ∧ Out w xv H Hf o Q
theorem any_py {x : D} (hx : x.plain 20 = true) : ∀ {ys : List D}, D.plains 20 ys = true → ((D.pys ys).any fun z => PyData.eqv z x.py) = ys.any fun z => D.eqv z x
  | [], _ => rfl
  | y :: ys, h => by
    have h1 : y.plain 20 = true ∧ D.plains 20 ys = true := by simpa [D.plains] using h
    rw [D.pys, List.any_cons, List.any_cons, any_py hx h1.2, py_eqv 20 20 y x h1.1 hx]
theorem arg_seq {H Hf : Hp} (l : Le Hf H) {d : D} {ds : List D} {v : V} (h : Arg w H Hf d v) (e : d.items = some ds) (p : D.plains 20 ds = true) :
    (d = .lst ds ∧ Dp w.K H v (.list (D.pys ds))) ∨ (d = .tup ds ∧ Dp w.K H v (.tuple (D.pys ds))) := by
  cases d with
  | lst xs =>
    cases e
    refine .inl ⟨rfl, ?_⟩
    rcases h with h | ⟨rs, a, vs, as, e1, rfl, h1, h2⟩
    · obtain ⟨a, vs, rfl, s, r⟩ := h.lst l
      exact .lst (.inl s) (pys_dp l 20 ds vs r p)
    · cases e1
      refine .lst (.inl (.inl h1)) ?_
      exact rows_dpn l h2 p
  | tup xs =>
    cases e
    refine .inr ⟨rfl, ?_⟩
    rcases h with h | ⟨rs, a, vs, as, e1, _⟩
    · obtain ⟨a, vs, rfl, s, r⟩ := h.tup l
      exact .tup s (pys_dp l 20 ds vs r p)
    · cases e1
  | _ => cases e
theorem pys_shaped {ds : List D} (h : D.plains 20 ds = true) : SeqAt.shaped (.list (D.pys ds)) = true ∧ SeqAt.shaped (.tuple (D.pys ds)) = true := by
  obtain ⟨h1, h2⟩ := pys_lay 20 ds h
  refine ⟨?_, ?_⟩ <;> (unfold SeqAt.shaped; rw [decide_eq_true (by simp only [PyData.depth]; omega)]; simp [PyData.canLay0, h1])
theorem op_cmp (hK : X.K = w.K) (hu : X.A.units + 65 < cLine) (op : Cop) : OpR X (compareOp (copOf op)) (rCmp w xv (cmpD op)) := by
  intro pins s σ H x y v u Q I rx ry h
  obtain ⟨Hf, dx, dy, o, l, ox, oy, e, k⟩ := h
  cases op with
  | eq =>
    simp only [cmpD] at e
    split at e
    · rename_i hp
      cases e
      obtain ⟨p1, p2⟩ := Bool.and_eq_true_iff.mp hp
      refine op_eqD (by omega) pins s σ H x y v u Q I rx ry ⟨dx.py, dy.py, hK ▸ arg_dp l ox p1, hK ▸ arg_dp l oy p2, py_shaped p1, py_shaped p2, ?_⟩
      rw [py_eqv 20 20 dx dy p1 p2]
      exact k.bl l
    · cases e
  | ne =>
    simp only [cmpD] at e
    split at e
    · rename_i hp
      cases e
      obtain ⟨p1, p2⟩ := Bool.and_eq_true_iff.mp hp
      refine op_neD (by omega) pins s σ H x y v u Q I rx ry ⟨dx.py, dy.py, hK ▸ arg_dp l ox p1, hK ▸ arg_dp l oy p2, py_shaped p1, py_shaped p2, ?_⟩
      rw [py_eqv 20 20 dx dy p1 p2]
      exact k.bl l
    · cases e
  | lt =>
    cases dx <;> cases dy <;> try (cases e; done)
    cases e
    rw [ox.int] at rx
    rw [oy.int] at ry
    exact op_lt pins s σ H _ _ v u Q I rx ry ⟨_, _, rfl, rfl, k.bl l⟩
  | le =>
    cases dx <;> cases dy <;> try (cases e; done)
    cases e
    rw [ox.int] at rx
    rw [oy.int] at ry
    exact op_le pins s σ H _ _ v u Q I rx ry ⟨_, _, rfl, rfl, k.bl l⟩
  | gt =>
    cases dx <;> cases dy <;> try (cases e; done)
    cases e
    rw [ox.int] at rx
    rw [oy.int] at ry
    exact op_gt pins s σ H _ _ v u Q I rx ry ⟨_, _, rfl, rfl, k.bl l⟩
  | ge =>
    cases dx <;> cases dy <;> try (cases e; done)
    cases e
    rw [ox.int] at rx
    rw [oy.int] at ry
    exact op_ge pins s σ H _ _ v u Q I rx ry ⟨_, _, rfl, rfl, k.bl l⟩
  | isin =>
    simp only [cmpD] at e
    cases q : dy.items with
    | none => rw [q] at e; cases e
    | some ys =>
      rw [q] at e
      simp only at e
      split at e
      · rename_i hp
        cases e
        obtain ⟨p1, p2⟩ := Bool.and_eq_true_iff.mp hp
        obtain ⟨s1, s2⟩ := pys_shaped p2
        obtain ⟨as, r1⟩ := Dp.reads I dx.py x v (hK ▸ arg_dp l ox p1) rx
        rcases arg_seq l oy q p2 with ⟨rfl, h⟩ | ⟨rfl, h⟩
        · obtain ⟨bs, r2⟩ := Dp.reads I _ y u (hK ▸ h) ry
          refine SeqAt.in_list_reads r2 r1 (SeqAt.canLay_of_shaped s1) (SeqAt.canLay_of_shaped (py_shaped p1)) (PyProof.Rows.room_in_shaped (py_shaped p1) hu) ?_
          rw [any_py p1 p2]
          exact ⟨.bl _, H, I, rfl, k.bl l⟩
        · obtain ⟨bs, r2⟩ := Dp.reads I _ y u (hK ▸ h) ry
          refine SeqAt.in_tuple_reads r2 r1 (SeqAt.canLay_of_shaped s2) (SeqAt.canLay_of_shaped (py_shaped p1)) (PyProof.Rows.room_in_shaped (py_shaped p1) hu) ?_
          rw [any_py p1 p2]
          exact ⟨.bl _, H, I, rfl, k.bl l⟩
      · cases e
  | notin =>
    simp only [cmpD] at e
    cases q : dy.items with
    | none => rw [q] at e; cases e
    | some ys =>
      rw [q] at e
      simp only at e
      split at e
      · rename_i hp
        cases e
        obtain ⟨p1, p2⟩ := Bool.and_eq_true_iff.mp hp
        obtain ⟨s1, s2⟩ := pys_shaped p2
        obtain ⟨as, r1⟩ := Dp.reads I dx.py x v (hK ▸ arg_dp l ox p1) rx
        rcases arg_seq l oy q p2 with ⟨rfl, h⟩ | ⟨rfl, h⟩
        · obtain ⟨bs, r2⟩ := Dp.reads I _ y u (hK ▸ h) ry
          refine SeqAt.notIn_list_reads r2 r1 (SeqAt.canLay_of_shaped s1) (SeqAt.canLay_of_shaped (py_shaped p1)) (PyProof.Rows.room_in_shaped (py_shaped p1) hu) ?_
          rw [any_py p1 p2]
          exact ⟨.bl _, H, I, rfl, k.bl l⟩
        · obtain ⟨bs, r2⟩ := Dp.reads I _ y u (hK ▸ h) ry
          refine SeqAt.notIn_tuple_reads r2 r1 (SeqAt.canLay_of_shaped s2) (SeqAt.canLay_of_shaped (py_shaped p1)) (PyProof.Rows.room_in_shaped (py_shaped p1) hu) ?_
          rw [any_py p1 p2]
          exact ⟨.bl _, H, I, rfl, k.bl l⟩
      · cases e
end
end MP

end

section
set_option Elab.async false
set_option linter.all false
set_option maxRecDepth 100000
namespace MP
open PySem PySem.Spec L2
section
variable {w : Wd} {xv : XV} {X : Cx}
/-! ### lists of one's own become data -/
def frzH (H Hf : Hp) (as : List Addr) : Hp := fun a => if a ∈ as then H a else Hf a
theorem frzH_in {H Hf : Hp} {as : List Addr} {a : Addr} (h : a ∈ as) : frzH H Hf as a = H a := if_pos h
theorem frzH_out {H Hf : Hp} {as : List Addr} {a : Addr} (h : a ∉ as) : frzH H Hf as a = Hf a := if_neg h
theorem frzH_le {H Hf : Hp} {as : List Addr} (n : ∀ a ∈ as, Hf a = none) : Le Hf (frzH H Hf as) := fun a o e => by
  have : a ∉ as := fun q => by rw [n a q] at e; cases e
  rw [frzH_out this]
  exact e
theorem frzH_lf {H Hf : Hp} {as : List Addr} (l : Le Hf H) : Le (frzH H Hf as) H := fun a o e => by
  by_cases q : a ∈ as
  · rw [frzH_in q] at e; exact e
  · rw [frzH_out q] at e; exact l _ _ e
theorem frzH_gr {H0 Hf0 H Hf : Hp} (g : Gr H0 Hf0 H Hf) {as : List Addr} (n : ∀ a ∈ as, Hf a = none) (f : ∀ a ∈ as, H0 a = none) : Gr H0 Hf0 H (frzH H Hf as) :=
  ⟨g.le, ⟨g.ext.le.trans (frzH_le n), fun a h => by
    have : a ∉ as := fun q => h (f a q)
    rw [frzH_out this]
    exact g.ext.old a h⟩, frzH_lf g.lf⟩
theorem RepRows.none {H Hf : Hp} : ∀ {rs : List (Bool × List D)} {vs : List V} {as : List Addr}, RepRows w H Hf rs vs as → ∀ a ∈ as, Hf a = none
  | [], _, _, h => fun a q => by rw [h.2] at q; cases q
  | (true, ds) :: rs, vs, as, h => by
    obtain ⟨v, r, e, h1, h2⟩ := h
    exact RepRows.none h2
  | (false, ds) :: rs, vs, as, h => by
    obtain ⟨a, us, r, as', e1, rfl, h1, h2, h3, h4⟩ := h
    intro b q
    rcases List.mem_cons.mp q with rfl | q
    · exact h2
    · exact RepRows.none h4 b q
theorem RepO.none {H Hf : Hp} {o : OD} {v : V} {as : List Addr} (h : RepO w xv H Hf o v as) : ∀ a ∈ as, Hf a = none := by
  cases o with
  | un => intro a q; rw [show as = [] from h] at q; cases q
  | fz d => intro a q; rw [h.1] at q; cases q
  | own ds =>
    obtain ⟨a, vs, e1, rfl, h1, h2, h3⟩ := h
    intro b q
    rw [List.mem_singleton.mp q]
    exact h2
  | own2 rs =>
    obtain ⟨a, vs, as', e1, rfl, h1, h2, h3⟩ := h
    intro b q
    rcases List.mem_cons.mp q with rfl | q
    · exact h2
    · exact h3.none b q
  | oi c fs =>
    obtain ⟨a, dx, fvs, e1, rfl, h1, h2, h3⟩ := h
    intro b q
    rw [List.mem_singleton.mp q]
    exact h2
  | xv c p => intro a q; rw [h.1] at q; cases q
theorem RepRows.there {H Hf : Hp} : ∀ {rs : List (Bool × List D)} {vs : List V} {as : List Addr}, RepRows w H Hf rs vs as → ∀ a ∈ as, ∃ us, H a = some (.lst us)
  | [], _, _, h => fun a q => by rw [h.2] at q; cases q
  | (true, ds) :: rs, vs, as, h => by
    obtain ⟨v, r, e, h1, h2⟩ := h
    exact RepRows.there h2
  | (false, ds) :: rs, vs, as, h => by
    obtain ⟨a, us, r, as', e1, rfl, h1, h2, h3, h4⟩ := h
    intro b q
    rcases List.mem_cons.mp q with rfl | q
    · exact ⟨_, h1⟩
    · exact RepRows.there h4 b q
theorem RepRows.frz {H Hf Hf' : Hp} (l : Le Hf Hf') : ∀ {rs : List (Bool × List D)} {vs : List V} {as : List Addr}, RepRows w H Hf rs vs as → (∀ a ∈ as, Hf' a = H a) → Reps w Hf' (rs.map rowD) vs
  | [], vs, _, h, _ => Reps.nil_iff.mpr h.1
  | (true, ds) :: rs, vs, as, h, f => by
    obtain ⟨v, r, rfl, h1, h2⟩ := h
    exact Reps.cons_iff.mpr ⟨v, r, rfl, Rep.mono w l _ _ h1, RepRows.frz l h2 f⟩
  | (false, ds) :: rs, vs, as, h, f => by
    obtain ⟨a, us, r, as', rfl, rfl, h1, h2, h3, h4⟩ := h
    refine Reps.cons_iff.mpr ⟨.ref a, r, rfl, Rep.lst_iff.mpr ⟨a, us, rfl, .inl ?_, Reps.mono w l _ _ h3⟩, RepRows.frz l h4 fun b q => f b (List.mem_cons_of_mem _ q)⟩
    rw [f a List.mem_cons_self]
    exact h1
/-- the lists of one's own, as data -/
theorem RepO.frz {H Hf : Hp} {o : OD} {v : V} {as : List Addr} {d : D} (h : RepO w xv H Hf o v as) (e : o.toD = some d) : Rep w (frzH H Hf as) d v := by
  have n := h.none
  have l : Le Hf (frzH H Hf as) := frzH_le n
  cases o with
  | fz x => cases e; exact Rep.mono w l _ _ h.2
  | own ds =>
    cases e
    obtain ⟨a, vs, rfl, rfl, h1, h2, h3⟩ := h
    exact Rep.lst_iff.mpr ⟨a, vs, rfl, .inl (by rw [frzH_in (by simp)]; exact h1), Reps.mono w l _ _ h3⟩
  | own2 rs =>
    cases e
    obtain ⟨a, vs, as', rfl, rfl, h1, h2, h3⟩ := h
    exact Rep.lst_iff.mpr ⟨a, vs, rfl, .inl (by rw [frzH_in (by simp)]; exact h1), h3.frz l fun b q => frzH_in (List.mem_cons_of_mem _ q)⟩
  | _ => cases e
/-- an operand of what was reckoned -/
theorem Res.opd {H0 Hf0 H Hf : Hp} {p : Bool} {o : OD} {v : V} {d : D} (g : Gr H0 Hf0 H Hf) (r : Res w xv H0 H Hf p o v) (e : opd p o = some d) : ∃ Hf', Gr H0 Hf0 H Hf' ∧ Opn w H Hf' d v := by
  obtain ⟨as, h, nd, f⟩ := r
  cases o with
  | fz x => cases e; exact ⟨Hf, g, .inl h.2⟩
  | own ds =>
    cases e
    obtain ⟨a, vs, rfl, rfl, h1, h2, h3⟩ := h
    exact ⟨Hf, g, .inr ⟨ds, a, vs, rfl, rfl, h1, h3⟩⟩
  | own2 rs =>
    have n := h.none
    cases p with
    | false =>
      refine ⟨frzH H Hf as, frzH_gr g n (f rfl), .inl (h.frz ?_)⟩
      simpa [MP.opd, OD.toD] using e
    | true =>
      simp only [MP.opd, Bool.true_and] at e
      split at e
      · cases e
      · rename_i hn
        cases e
        obtain ⟨a, vs, as', rfl, rfl, h1, h2, h3⟩ := h
        have e0 : ∀ {rs : List (Bool × List D)} {vs : List V} {as : List Addr}, (rs.any fun r => !r.1) = false → RepRows w H Hf rs vs as → as = [] := by
          intro rs
          induction rs with
          | nil => intro vs as _ h; exact h.2
          | cons r rs ih =>
            intro vs as hn h
            obtain ⟨b, ds⟩ := r
            cases b with
            | true =>
              obtain ⟨v, r, _, _, h2⟩ := h
              exact ih (by simpa using hn) h2
            | false => simp at hn
        have ea := e0 (by simpa using hn) h3
        subst ea
        exact ⟨Hf, g, .inr ⟨_, a, vs, rfl, rfl, h1, h3.frz (Le.refl _) (fun b q => nomatch q)⟩⟩
  | _ => cases e
/-- data, of a value that is nobody's -/
theorem Res.data {H0 Hf0 H Hf : Hp} {o : OD} {v : V} {d : D} (g : Gr H0 Hf0 H Hf) (r : Res w xv H0 H Hf false o v) (e : o.toD = some d) : ∃ Hf', Gr H0 Hf0 H Hf' ∧ Rep w Hf' d v := by
  obtain ⟨as, h, nd, f⟩ := r
  exact ⟨frzH H Hf as, frzH_gr g h.none (f rfl), h.frz e⟩
/-- an argument, and whose it is -/
theorem Res.arg {H0 Hf0 H Hf : Hp} {p : Bool} {o : OD} {v : V} {d : D × Bool} (g : Gr H0 Hf0 H Hf) (r : Res w xv H0 H Hf p o v) (e : argD p o = some d) :
    ∃ Hf', Gr H0 Hf0 H Hf' ∧ Arg w H Hf' d.1 v ∧ ∃ as, (d.2 = false → as = []) ∧ (∀ a ∈ as, Hf' a = none ∧ ∃ us, H a = some (.lst us)) ∧ Rep w (frzH H Hf' as) d.1 v := by
  unfold argD at e
  cases q : o.toD with
  | none => rw [q] at e; cases e
  | some x =>
    rw [q] at e
    cases e
    cases p with
    | false =>
      obtain ⟨Hf', g', h⟩ := r.data g q
      refine ⟨Hf', g', .inl (.inl h), [], fun _ => rfl, fun a q => (nomatch q), ?_⟩
      have : frzH H Hf' [] = Hf' := funext fun a => frzH_out (by simp)
      rw [this]
      exact h
    | true =>
      obtain ⟨as, h, nd, f⟩ := r
      refine ⟨Hf, g, ?_, as, fun z => ?_, fun a m => ⟨h.none a m, ?_⟩, h.frz q⟩
      · cases o with
        | fz d => cases q; exact .inl (.inl h.2)
        | own ds =>
          cases q
          obtain ⟨a, vs, rfl, rfl, h1, h2, h3⟩ := h
          exact .inl (.inr ⟨ds, a, vs, rfl, rfl, h1, h3⟩)
        | own2 rs =>
          cases q
          obtain ⟨a, vs, as', rfl, rfl, h1, h2, h3⟩ := h
          exact .inr ⟨rs, a, vs, as', rfl, rfl, h1, h3⟩
        | _ => cases q
      · cases o with
        | fz d => exact h.1
        | _ => cases z
      · cases o with
        | fz d => rw [h.1] at m; cases m
        | own ds =>
          obtain ⟨b, vs, rfl, rfl, h1, h2, h3⟩ := h
          rw [List.mem_singleton.mp m]
          exact ⟨_, h1⟩
        | own2 rs =>
          obtain ⟨b, vs, as', rfl, rfl, h1, h2, h3⟩ := h
          rcases List.mem_cons.mp m with rfl | m
          · exact ⟨_, h1⟩
          · exact h3.there a m
        | _ => cases q

/-! ### subscripts -/
theorem atI_eq {α : Type} (xs : List α) (i : Int) : MP.atI xs i = L2.atI xs i := rfl
theorem ixN_lt {n j : Nat} {i : Int} (h : MP.ixN n i = some j) : j < n := (L2.ixN_seq h).2.1
theorem reps_atI {H : Hp} {ds : List D} {vs : List V} {j : Int} {d : D} (r : Reps w H ds vs) (e : MP.atI ds j = some d) : ∃ v, L2.atI vs j = some v ∧ Rep w H d v := by
  unfold MP.atI at e
  obtain ⟨k, hk, e⟩ := Option.bind_eq_some_iff.mp e
  obtain ⟨v, h1, h2⟩ := r.get e
  refine ⟨v, ?_, h2⟩
  unfold L2.atI
  rw [r.length]
  rw [show L2.ixN ds.length j = some k from hk]
  exact h1
theorem rows_atI {H Hf : Hp} : ∀ {rs : List (Bool × List D)} {vs : List V} {as : List Addr} {k : Nat} {b : Bool} {ds : List D}, RepRows w H Hf rs vs as → as.Nodup → rs[k]? = some (b, ds) →
    vs.length = rs.length ∧ ∃ v, vs[k]? = some v ∧ ((b = true ∧ Rep w Hf (.lst ds) v) ∨ (b = false ∧ ∃ a us, v = .ref a ∧ a ∈ as ∧ H a = some (.lst us) ∧ Hf a = none ∧ Reps w Hf ds us))
  | [], _, _, _, _, _, _, _, e => by simp at e
  | (true, es) :: rs, vs, as, k, b, ds, h, nd, e => by
    obtain ⟨v, r, rfl, h1, h2⟩ := h
    cases k with
    | zero =>
      simp at e
      obtain ⟨rfl, rfl⟩ := e
      exact ⟨by rw [List.length_cons, List.length_cons, rows_length h2], v, by simp, .inl ⟨rfl, h1⟩⟩
    | succ k =>
      obtain ⟨l, u, e1, e2⟩ := rows_atI h2 nd (by simpa using e)
      exact ⟨by rw [List.length_cons, List.length_cons, l], u, by simpa using e1, e2⟩
  | (false, es) :: rs, vs, as, k, b, ds, h, nd, e => by
    obtain ⟨a, us, r, as', rfl, rfl, h1, h2, h3, h4⟩ := h
    cases k with
    | zero =>
      simp at e
      obtain ⟨rfl, rfl⟩ := e
      exact ⟨by rw [List.length_cons, List.length_cons, rows_length h4], .ref a, by simp, .inr ⟨rfl, a, us, rfl, List.mem_cons_self, h1, h2, h3⟩⟩
    | succ k =>
      obtain ⟨l, u, e1, e2⟩ := rows_atI h4 (List.nodup_cons.mp nd).2 (by simpa using e)
      refine ⟨by rw [List.length_cons, List.length_cons, l], u, by simpa using e1, ?_⟩
      rcases e2 with e2 | ⟨e2, c, us', e3, e4, e5⟩
      · exact .inl e2
      · exact .inr ⟨e2, c, us', e3, List.mem_cons_of_mem _ e4, e5⟩
where
  rows_length {H Hf : Hp} : ∀ {rs : List (Bool × List D)} {vs : List V} {as : List Addr}, RepRows w H Hf rs vs as → vs.length = rs.length
    | [], _, _, h => by rw [h.1]; rfl
    | (true, ds) :: rs, vs, as, h => by
      obtain ⟨v, r, rfl, h1, h2⟩ := h
      rw [List.length_cons, List.length_cons, rows_length h2]
    | (false, ds) :: rs, vs, as, h => by
      obtain ⟨a, us, r, as', rfl, rfl, h1, h2, h3, h4⟩ := h
      rw [List.length_cons, List.length_cons, rows_length h4]
/-- o[j] -/
theorem Res.sub {H0 Hf0 H Hf : Hp} {p pk : Bool} {o o' : OD} {v : V} {j : Int} (g : Gr H0 Hf0 H Hf) (r : Res w xv H0 H Hf p o v) (e : subD pk p o j = .ok o') :
    ∃ a vs u, v = .ref a ∧ (SqL w.K H a vs ∨ SqT w.K H a vs) ∧ L2.atI vs j = some u ∧ ∃ Hf', Gr H0 Hf0 H Hf' ∧ Res w xv H0 H Hf' (p && pk) o' u := by
  obtain ⟨as, h, nd, f⟩ := r
  cases o with
  | fz d =>
    by_cases hs : ∃ ns, d = .scr ns
    · obtain ⟨ns, rfl⟩ := hs
      have e : (R.ofO ((MP.atI ns j).map fun i => OD.fz (.int i)) : R OD) = .ok o' := e
      cases q2 : MP.atI ns j with
      | none => rw [q2] at e; cases e
      | some i =>
        rw [q2] at e
        cases e
        obtain ⟨a, rfl, s⟩ := Rep.scr_iff.mp h.2
        refine ⟨a, ns.map V.int, .int i, rfl, .inl (g.lf.sqL w s), ?_, Hf, g, res_fz (Rep.int_iff.mpr rfl)⟩
        unfold MP.atI at q2
        obtain ⟨k, k1, k2⟩ := Option.bind_eq_some_iff.mp q2
        unfold L2.atI
        rw [List.length_map, show L2.ixN ns.length j = some k from k1]
        show (ns.map V.int)[k]? = _
        rw [List.getElem?_map, k2]
        rfl
    have e : (match d.items with
      | some ds => R.ofO ((MP.atI ds j).map OD.fz)
      | none => R.bad) = .ok o' := by
      cases d <;> first | exact absurd ⟨_, rfl⟩ hs | exact e
    cases q : d.items with
    | none => rw [q] at e; cases e
    | some ds =>
      rw [q] at e
      simp only at e
      cases q2 : MP.atI ds j with
      | none => rw [q2] at e; cases e
      | some d' =>
        rw [q2] at e
        cases e
        obtain ⟨a, vs, rfl, s, rr⟩ := (show Opn w H Hf d v from .inl h.2).seq g.lf q
        obtain ⟨u, e1, e2⟩ := reps_atI rr q2
        exact ⟨a, vs, u, rfl, s.imp (fun z => .inl z) id, e1, Hf, g, res_fz e2⟩
  | own ds =>
    obtain ⟨a, vs, rfl, rfl, h1, h2, h3⟩ := h
    unfold subD at e
    simp only at e
    cases q2 : MP.atI ds j with
    | none => rw [q2] at e; cases e
    | some d' =>
      rw [q2] at e
      cases e
      obtain ⟨u, e1, e2⟩ := reps_atI h3 q2
      exact ⟨a, vs, u, rfl, .inl (SqL.of h1), e1, Hf, g, res_fz e2⟩
  | own2 rs =>
    have n := h.none
    obtain ⟨a, vs, as', rfl, rfl, h1, h2, h3⟩ := h
    unfold subD at e
    simp only at e
    cases q2 : MP.atI rs j with
    | none => rw [q2] at e; cases e
    | some row =>
      rw [q2] at e
      obtain ⟨b, ds⟩ := row
      unfold MP.atI at q2
      obtain ⟨k, hk, q2⟩ := Option.bind_eq_some_iff.mp q2
      obtain ⟨len, u, e1, e2⟩ := rows_atI h3 (List.nodup_cons.mp nd).2 q2
      have eI : L2.atI vs j = some u := by
        unfold L2.atI
        rw [len, show L2.ixN rs.length j = some k from hk]
        exact e1
      refine ⟨a, vs, u, rfl, .inl (SqL.of h1), eI, ?_⟩
      cases b with
      | true =>
        cases e
        rcases e2 with ⟨_, e2⟩ | ⟨z, _⟩
        · exact ⟨Hf, g, res_fz e2⟩
        · cases z
      | false =>
        rcases e2 with ⟨z, _⟩ | ⟨_, c, us, rfl, hc, h5, h6, h7⟩
        · cases z
        · simp only at e
          split at e
          · rename_i hpk
            cases e
            refine ⟨Hf, g, [c], ⟨c, us, rfl, rfl, h5, h6, h7⟩, by simp, fun z b hb => ?_⟩
            rw [hpk, Bool.and_true] at z
            rw [List.mem_singleton.mp hb]
            exact f z c (List.mem_cons_of_mem _ hc)
          · split at e
            · cases e
            · rename_i hp
              cases e
              have hp' : p = false := by simpa using hp
              have fr : ∀ b ∈ [c], H0 b = none := fun b hb => by rw [List.mem_singleton.mp hb]; exact f hp' c (List.mem_cons_of_mem _ hc)
              have nn : ∀ b ∈ [c], Hf b = none := fun b hb => by rw [List.mem_singleton.mp hb]; exact h6
              refine ⟨frzH H Hf [c], frzH_gr g nn fr, res_fz (Rep.lst_iff.mpr ⟨c, us, rfl, .inl (by rw [frzH_in (by simp)]; exact h5), Reps.mono w (frzH_le nn) _ _ h7⟩)⟩
  | _ => cases e
end
end MP

end

section
set_option Elab.async false
set_option linter.all false
set_option maxRecDepth 100000
namespace MP
open PySem PySem.Spec L2
/-! ### the text and the compact syntax -/
def plainE : Expr → Bool
  | .Starred .. => false
  | .Slice .. => false
  | _ => true
def vis (sc : Scope) (x : Str) : Bool := (match sc.names.lookup x with
  | some .local => true
  | some .cell => true
  | some .free => true
  | _ => false) && (!(x == ("__debug__" : Str)) && !(x == ("__classdict__" : Str)))
def glb (sc : Scope) (x : Str) : Bool := decide (sc.names.lookup x = some .globalImplicit) && !(x == ("__debug__" : Str))
def loc (sc : Scope) (x : Str) : Bool := match sc.names.lookup x with
  | some .local => true
  | some .cell => true
  | _ => false
def bname : Blt → Str
  | .len => "len"
  | .abs => "abs"
  | .int => "int"
  | .sum => "sum"
  | .min => "min"
  | .max => "max"
  | .list => "list"
  | .tuple => "tuple"
  | .sorted => "sorted"
  | .any => "any"
  | .all => "all"
  | .gcd => "gcd"
/-- the names that a target stores -/
def T.own (N : List Str) : T → List (Str × Nat)
  | .n i => [(N.getD i "", i)]
  | .t ts => owns N ts
where
  owns (N : List Str) : List T → List (Str × Nat)
    | [] => []
    | a :: as => T.own N a ++ owns N as
structure Ck where
  N : List Str
  nm : Nat → Str
  bl : Blt → Bool
  ty : Ty → Bool
  ex : Nat → Bool
  fn : Nat → Bool
  mkc : Nat → Bool
  me : Nat → Bool
def tyName (nm : Nat → Str) : Ty → Str
  | .tint => "int"
  | .tbool => "bool"
  | .tstr => "str"
  | .tlist => "list"
  | .ttuple => "tuple"
  | .cls k => nm k
  | .exc k => nm k
  | .verr => "ValueError"
  | .tnone => "NoneType"
mutual
def kT (c : Ck) (sc : Scope) : T → Expr → Bool
  | .n i, .Name x _ => decide (c.N[i]? = some x) && loc sc x
  | .t ts, .Tuple es _ _ => kTs c sc ts es
  | _, _ => false
def kTs (c : Ck) (sc : Scope) : List T → List Expr → Bool
  | [], [] => true
  | t :: ts, e :: es => kT c sc t e && kTs c sc ts es
  | _, _ => false
end
def kTy (c : Ck) (sc : Scope) (t : Ty) (x : Str) : Bool := glb sc x && (c.ty t && decide (x = tyName c.nm t))
def kTys (c : Ck) (sc : Scope) : List Ty → List Expr → Bool
  | [], [] => true
  | t :: ts, .Name x _ :: es => kTy c sc t x && kTys c sc ts es
  | _, _ => false
abbrev KF := Expr → Bool
def kInt (i : Int) : KF
  | .Constant (.int j) _ _ => decide (i = j)
  | _ => false
def kBl (b : Bool) : KF
  | .Constant (.bool d) _ _ => b == d
  | _ => false
def kNon : KF
  | .Constant .none _ _ => true
  | _ => false
def kStr (x : List Nat) : KF
  | .Constant (.str y) _ _ => decide (strOf x = y)
  | _ => false
def kVar (c : Ck) (sc : Scope) (i : Nat) : KF
  | .Name x _ => decide (c.N[i]? = some x) && vis sc x
  | _ => false
def kGlob (c : Ck) (sc : Scope) (g : Nat) : KF
  | .Name x _ => decide (c.nm g = x) && glb sc x
  | _ => false
def kBin (op : Bop) (a b : KF) : KF
  | .BinOp l o r _ => decide (opOf op = o) && (a l && b r)
  | _ => false
def kNeg (a : KF) : KF
  | .UnaryOp .USub x _ => a x
  | _ => false
def kNot (a : KF) : KF
  | .UnaryOp .Not x _ => a x
  | _ => false
def noSet : Expr → Bool
  | .Set .. => false
  | _ => true
def kCmp (op : Cop) (a b : KF) : KF
  | .Compare l [o] [r] _ => decide (copOf op = o) && (noSet r && (a l && b r))
  | _ => false
def kChain (o1 o2 : Cop) (a b d : KF) : KF
  | .Compare l [p1, p2] [m, r] _ => decide (copOf o1 = p1) && (decide (copOf o2 = p2) && (noSet m && (noSet r && (a l && (b m && d r)))))
  | _ => false
def kIsN (a : KF) (yes : Bool) : KF
  | .Compare l [o] [.Constant .none _ _] _ => decide (o = if yes then .Is else .IsNot) && a l
  | _ => false
def kIsB (a : KF) (b yes : Bool) : KF
  | .Compare l [o] [.Constant (.bool d) _ _] _ => decide (o = if yes then .Is else .IsNot) && (b == d && a l)
  | _ => false
def kAnd (a b : KF) : KF
  | .BoolOp .And (x :: y :: z) p => a x && b (.BoolOp .And (y :: z) p)
  | _ => false
def kOr (a b : KF) : KF
  | .BoolOp .Or (x :: y :: z) p => a x && b (.BoolOp .Or (y :: z) p)
  | _ => false
/-- the last of a chain of ands, ors -/
def kOne (a : KF) : KF
  | .BoolOp _ [x] _ => a x
  | _ => false
def kIte (t a b : KF) : KF
  | .IfExp x y z _ => t x && (a y && b z)
  | _ => false
def kTup (n : Nat) (es : List Expr → Bool) : KF
  | .Tuple xs _ _ => decide (n ≤ 1000) && es xs
  | _ => false
def kLst (n : Nat) (es : List Expr → Bool) : KF
  | .List xs _ => decide (n ≤ 1000) && es xs
  | _ => false
def kPart (non : Bool) (e : KF) : Option Expr → Bool
  | none => non
  | some x => !non && e x
def kSlc (a : KF) (lo hi : Option Expr → Bool) : KF
  | .Subscript x (.Slice l h none _) _ => a x && (lo l && hi h)
  | _ => false
def kSub (a i : KF) : KF
  | .Subscript x y _ => a x && (plainE y && i y)
  | _ => false
def notSuper : Expr → Bool
  | .Call (.Name _ _) [] [] _ => false
  | _ => true
def kAttr (c : Ck) (f : Nat) (a : KF) : KF
  | .Attribute x g _ => a x && (notSuper x && decide (c.nm f = g))
  | _ => false
def kCall (c : Ck) (sc : Scope) (f : Nat) (es : List Expr → Bool) : KF
  | .Call (.Name x _) (y :: xs) [] _ => c.fn f && (decide (c.nm f = x) && (glb sc x && es (y :: xs)))
  | _ => false
def kMk (c : Ck) (sc : Scope) (f : Nat) (es : List Expr → Bool) : KF
  | .Call (.Name x _) (y :: xs) [] _ => c.mkc f && (decide (c.nm f = x) && (glb sc x && es (y :: xs)))
  | _ => false
def kMeth (c : Ck) (m : Nat) (a : KF) (es : List Expr → Bool) : KF
  | .Call (.Attribute x g ap) xs [] p => c.me m && a x && (notSuper x && (decide (c.nm m = g) && (es xs && ap.endLine == p.line)))
  | _ => false
def kBlt (c : Ck) (sc : Scope) (f : Blt) (es : List Expr → Bool) : KF
  | .Call (.Name x _) (y :: xs) [] _ => c.bl f && (decide (bname f = x) && (glb sc x && es (y :: xs)))
  | _ => false
def kBits (a : KF) : KF
  | .Call (.Attribute x g ap) [] [] p => a x && (notSuper x && (decide (g = ("bit_length" : Str)) && ap.endLine == p.line))
  | _ => false
def kTyE (c : Ck) (sc : Scope) (ts : List Ty) : KF
  | .Name y _ => (match ts with
      | [t] => kTy c sc t y
      | _ => false)
  | .Tuple ys _ _ => kTys c sc ts ys && (decide (ts.length ≤ 30) && !ts.isEmpty)
  | _ => false
def kInst (c : Ck) (sc : Scope) (a : KF) (ts : List Ty) : KF
  | .Call (.Name f _) [x, t] [] _ => decide (f = ("isinstance" : Str)) && (glb sc f && (plainE x && (plainE t && (a x && kTyE c sc ts t))))
  | _ => false
def kComp (c : Ck) (sc : Scope) (e : Scope → KF) (tg : T) (it : KF) (n : Nat) (cs : Scope → List Expr → Bool) : KF
  | .ListComp x [⟨t, i, ifs, 0⟩] sc2 _ => e sc2 x && (kT c sc2 tg t && (it i && (noSet i && (cs sc2 ifs && (decide (n ≤ 1) && blkC c.N sc sc2 (T.own c.N tg))))))
  | _ => false
def kRng (sc : Scope) (es : List Expr → Bool) : KF
  | .Call (.Name f _) (x :: xs) [] _ => decide (f = ("range" : Str)) && (glb sc f && (decide (xs.length ≤ 1) && es (x :: xs)))
  | _ => false
def kEnm (sc : Scope) (a : KF) : KF
  | .Call (.Name f _) [x] [] _ => decide (f = ("enumerate" : Str)) && (glb sc f && (plainE x && a x))
  | _ => false
def kZip (sc : Scope) (a b : KF) : KF
  | .Call (.Name f _) [x, y] [] _ => decide (f = ("zip" : Str)) && (glb sc f && (plainE x && (plainE y && (a x && b y))))
  | _ => false
def kNil {α : Type} : List α → Bool
  | [] => true
  | _ => false
def kCons (a : KF) (r : List Expr → Bool) : List Expr → Bool
  | x :: xs => plainE x && (a x && r xs)
  | _ => false
def kKw (c : Ck) (k : Nat) (a : KF) (r : List Keyword → Bool) : List Keyword → Bool
  | ⟨some n, x, _⟩ :: xs => decide (c.nm k = n) && (a x && r xs)
  | _ => false
mutual
def kE (c : Ck) : Scope → E → KF
  | _, .int i => kInt i
  | _, .bl b => kBl b
  | _, .non => kNon
  | _, .str x => kStr x
  | sc, .var i => kVar c sc i
  | sc, .glob g => kGlob c sc g
  | sc, .bin op a b => kBin op (kE c sc a) (kE c sc b)
  | sc, .neg a => kNeg (kE c sc a)
  | sc, .notE a => kNot (kE c sc a)
  | sc, .cmp op a b => kCmp op (kE c sc a) (kE c sc b)
  | sc, .chain o1 o2 a b d => kChain o1 o2 (kE c sc a) (kE c sc b) (kE c sc d)
  | sc, .isN a yes => kIsN (kE c sc a) yes
  | sc, .isB a b yes => kIsB (kE c sc a) b yes
  | sc, .andE a b => kAnd (kE c sc a) (kE c sc b)
  | sc, .orE a b => kOr (kE c sc a) (kE c sc b)
  | sc, .one a => kOne (kE c sc a)
  | sc, .ite t a b => kIte (kE c sc t) (kE c sc a) (kE c sc b)
  | sc, .tup es => kTup es.length (kEs c sc es)
  | sc, .lst es => kLst es.length (kEs c sc es)
  | sc, .slc a lo hi => kSlc (kE c sc a) (kPart (isNon lo) (kE c sc lo)) (kPart (isNon hi) (kE c sc hi))
  | sc, .sub a i => kSub (kE c sc a) (kE c sc i)
  | sc, .attr a f => kAttr c f (kE c sc a)
  | sc, .call f es ks kes => match ks, kes with
    | [], [] => kCall c sc f (kEs c sc es)
    | _, _ => fun _ => false
  | sc, .mk k es => kMk c sc k (kEs c sc es)
  | sc, .meth a m es => kMeth c m (kE c sc a) (kEs c sc es)
  | sc, .blt f es => kBlt c sc f (kEs c sc es)
  | sc, .bm m a es => match m, es with
    | .bitlen, [] => kBits (kE c sc a)
    | _, _ => fun _ => false
  | sc, .inst a ts => kInst c sc (kE c sc a) ts
  | _, .comp .. => fun _ => false
  | _, .rng _ => fun _ => false
  | _, .enm _ => fun _ => false
  | _, .zip _ _ => fun _ => false
def kEs (c : Ck) : Scope → List E → List Expr → Bool
  | _, [] => kNil
  | sc, e :: es => kCons (kE c sc e) (kEs c sc es)
end
/-- what is gone through -/
def kI (c : Ck) (sc : Scope) : E → KF
  | .rng es => kRng sc (kEs c sc es)
  | it => kE c sc it
end MP

end

section
set_option Elab.async false
set_option linter.all false
set_option maxRecDepth 100000
namespace MP
open PySem PySem.Spec L2
/-- an error: its class, its field -/
def ExR (w : Wd) (Hf : Hp) (c : Nat) (p : Option D) (cls : Value) (d : Option Addr) : Prop :=
  ∃ q, w.P.xc c = some q ∧ cls = .ref (w.cad c) ∧ (p = none → d = none) ∧ ∀ x, p = some x → ∃ f da v, q.fld = some f ∧ d = some da ∧ Hf da = some (.xd [(w.nm f, v)]) ∧ Rep w Hf x v
theorem ExR.mono {w : Wd} {Hf Hf' : Hp} {c : Nat} {p : Option D} {cls : Value} {d : Option Addr} (l : Le Hf Hf') (h : ExR w Hf c p cls d) : ExR w Hf' c p cls d := by
  obtain ⟨q, h1, h2, h3, h4⟩ := h
  refine ⟨q, h1, h2, h3, fun x e => ?_⟩
  obtain ⟨f, da, v, k1, k2, k3, k4⟩ := h4 x e
  exact ⟨f, da, v, k1, k2, l _ _ k3, Rep.mono w l _ _ k4⟩
/-- what is wanted of what was reckoned -/
def wpR {α : Type} (w : Wd) (W : WX) (σ : L2.St) (H Hf : Hp) (r : R α) (k : α → Prop) : Prop := match r with
  | .ok a => k a
  | .ex c p => ∀ cls d H' Hf', Gr H Hf H' Hf' → ExR w Hf' c p cls d → W cls d σ H'
  | .bad => False
theorem Gr.none_of {H Hf H' Hf' : Hp} (g : Gr H Hf H' Hf') {a : Addr} (h : H' a = none) : H a = none := by
  cases q : H a with
  | none => rfl
  | some o => rw [g.le a o q] at h; cases h
section
variable {α β : Type} {w : Wd} {W : WX} {σ : L2.St} {H Hf H1 Hf1 : Hp}
theorem wpR.bind {r : R α} {f : α → R β} {k : β → Prop} : wpR w W σ H Hf (r.bind f) k ↔ wpR w W σ H Hf r fun a => wpR w W σ H Hf (f a) k := by
  cases r <;> exact Iff.rfl
theorem wpR.imp {r : R α} {k k' : α → Prop} (h : wpR w W σ H Hf r k) (i : ∀ a, r = .ok a → k a → k' a) : wpR w W σ H Hf r k' := by
  cases r with
  | ok a => exact i a rfl h
  | ex c p => exact h
  | bad => exact h
theorem wpR.mono {r : R α} {k k' : α → Prop} (g : Gr H Hf H1 Hf1) (h : wpR w W σ H Hf r k) (i : ∀ a, r = .ok a → k a → k' a) : wpR w W σ H1 Hf1 r k' := by
  cases r with
  | ok a => exact i a rfl h
  | ex c p => exact fun cls d H' Hf' g' e => h cls d H' Hf' (g.trans g') e
  | bad => exact h
theorem wpR.ofO {o : Option α} {k : α → Prop} : wpR w W σ H Hf (R.ofO o) k ↔ ∃ a, o = some a ∧ k a := by
  cases o with
  | none => exact ⟨fun h => h.elim, fun ⟨a, e, _⟩ => nomatch e⟩
  | some a => exact ⟨fun h => ⟨a, rfl, h⟩, fun ⟨b, e, h⟩ => by cases e; exact h⟩
end
/-- no list, no tuple is longer than the line -/
def Fits (K : PySem.W.Frag) (H : Hp) : Prop := ∀ a xs, SqL K H a xs ∨ SqT K H a xs → xs.length ≤ sizeLine
theorem Inv.fits {X : Cx} {pins : List (Addr × Obj)} {σ : L2.St} {H : Hp} {s : Shared} (I : L2.Inv X pins σ H s) : Fits X.K H := fun a xs h => by
  rcases h with h | h
  · obtain ⟨_, _, _, z⟩ := I.list h
    exact z
  · obtain ⟨_, _, _, z⟩ := I.tuple h
    exact z
theorem PE.fits {X : Cx} {e : Expr} {t : TE} (h : PE X e t) : PE X e (fun σ H Q => t σ H fun v H' => Fits X.K H' → Q v H') :=
  ⟨fun pins s σ H Q I hq => thn (h.run pins s σ H _ I hq) fun v s' ⟨x, H', I', r, q⟩ => ⟨x, H', I', r, q (Inv.fits I')⟩⟩
theorem PE.imp {X : Cx} {e : Expr} {t t' : TE} (h : PE X e t) (i : ∀ σ H Q, t' σ H Q → t σ H Q) : PE X e t' :=
  ⟨fun pins s σ H Q I hq => h.run pins s σ H Q I (i σ H Q hq)⟩
theorem PT.imp {X : Cx} {e : Expr} {t t' : TT} (h : PT X e t) (i : ∀ σ H Q, t' σ H Q → t σ H Q) : PT X e t' :=
  ⟨fun pins s σ H Q I hq => h.run pins s σ H Q I (i σ H Q hq)⟩
theorem PA.imp {X : Cx} {e : List Expr} {t t' : TA} (h : PA X e t) (i : ∀ σ H Q, t' σ H Q → t σ H Q) : PA X e t' :=
  ⟨fun pos pins s σ H Q I hq => h.run pos pins s σ H Q I (i σ H Q hq)⟩
theorem PK.imp {X : Cx} {e : List Keyword} {t t' : TA} (h : PK X e t) (i : ∀ σ H Q, t' σ H Q → t σ H Q) : PK X e t' :=
  ⟨fun pos pins s σ H Q I hq => h.run pos pins s σ H Q I (i σ H Q hq)⟩

/-- the state in which an expression is reckoned -/
structure At (w : Wd) (xv : XV) (Γ : List OD) (σ : L2.St) (H Hf : Hp) : Prop where
  lf : Le Hf H
  sl : Slots w xv H Hf Γ σ
theorem At.mono {w : Wd} {xv : XV} (hx : XvOk xv) {Γ : List OD} {σ : L2.St} {H Hf H1 Hf1 : Hp} (a : At w xv Γ σ H Hf) (g : Gr H Hf H1 Hf1) : At w xv Γ σ H1 Hf1 := ⟨g.lf, a.sl.mono hx g⟩
/-- an expression's reading: r tells what it is worth in the state Γ, k what is wanted of a value -/
def tR {α : Type} (w : Wd) (xv : XV) (W : WX) (r : List OD → R α) (k : Hp → Hp → Hp → α → V → Prop) : TE := fun σ H Q =>
  ∃ Hf Γ, At w xv Γ σ H Hf ∧ wpR w W σ H Hf (r Γ) fun a => ∀ v H' Hf', Gr H Hf H' Hf' → k H H' Hf' a v → Q v H'
/-- .. as it is -/
def tE (w : Wd) (xv : XV) (W : WX) (X : MP.Fx) (e : E) (pk : Bool) : TE := tR w xv W (fun Γ => ev X e Γ pk) fun H0 H' Hf' o v => Res w xv H0 H' Hf' (isPath e && pk) o v
/-- .. as an operand -/
def tO (w : Wd) (xv : XV) (W : WX) (X : MP.Fx) (e : E) : TE := tR w xv W (fun Γ => oper (isPath e) (ev X e Γ true)) fun _ H' Hf' d v => Opn w H' Hf' d v
/-- .. as an argument -/
def ArgB (w : Wd) (H Hf : Hp) (d : D × Bool) (v : V) : Prop := Arg w H Hf d.1 v ∧ ∃ as, (d.2 = false → as = []) ∧ (∀ a ∈ as, Hf a = none ∧ ∃ us, H a = some (.lst us)) ∧ Rep w (frzH H Hf as) d.1 v
def tG (w : Wd) (xv : XV) (W : WX) (X : MP.Fx) (e : E) : TE := tR w xv W (fun Γ => argm (isPath e) (ev X e Γ true)) fun _ H' Hf' d v => ArgB w H' Hf' d v
/-- .. as a new thing's part -/
def tF (w : Wd) (xv : XV) (W : WX) (X : MP.Fx) (e : E) : TE := tR w xv W (fun Γ => frz (ev X e Γ false)) fun _ H' Hf' d v => Rep w Hf' d v
/-- .. as a truth value -/
def tB' (w : Wd) (xv : XV) (W : WX) (X : MP.Fx) (e : E) : TE := tR w xv W (fun Γ => asB (ev X e Γ true)) fun _ _ _ b v => v = .bl b
/-- .. as a test -/
def tT (w : Wd) (xv : XV) (W : WX) (X : MP.Fx) (e : E) : TT := fun σ H Q =>
  ∃ Hf Γ, At w xv Γ σ H Hf ∧ wpR w W σ H Hf (tru (ev X e Γ true)) fun b => ∀ H' Hf', Gr H Hf H' Hf' → Q b H'
section
variable {w : Wd} {xv : XV} {W : WX} {X : Cx} {Fx : MP.Fx} {e : E} {x : Expr}
theorem gr_le {H Hf H' Hf1 Hf2 : Hp} (g : Gr H Hf H' Hf1) (g2 : Gr H Hf H' Hf2) : True := trivial
theorem pe_O (hK : X.K = w.K) (h : PE X x (tE w xv W Fx e true)) : PE X x (tO w xv W Fx e) := PE.imp h fun σ H Q ⟨Hf, Γ, a, q⟩ => by
  refine ⟨Hf, Γ, a, ?_⟩
  refine (wpR.bind.mp q).imp fun o _ q v H' Hf' g r => ?_
  obtain ⟨d, e, q⟩ := wpR.ofO.mp q
  rw [Bool.and_true] at r
  obtain ⟨Hf2, g2, h2⟩ := r.opd g e
  exact q v H' Hf2 g2 h2
theorem pe_G (hK : X.K = w.K) (h : PE X x (tE w xv W Fx e true)) : PE X x (tG w xv W Fx e) := PE.imp h fun σ H Q ⟨Hf, Γ, a, q⟩ => by
  refine ⟨Hf, Γ, a, ?_⟩
  refine (wpR.bind.mp q).imp fun o _ q v H' Hf' g r => ?_
  obtain ⟨d, e, q⟩ := wpR.ofO.mp q
  rw [Bool.and_true] at r
  obtain ⟨Hf2, g2, h1, as, h2, h3, h4⟩ := r.arg g e
  exact q v H' Hf2 g2 ⟨h1, as, h2, h3, h4⟩
theorem pe_F (hK : X.K = w.K) (h : PE X x (tE w xv W Fx e false)) : PE X x (tF w xv W Fx e) := PE.imp h fun σ H Q ⟨Hf, Γ, a, q⟩ => by
  refine ⟨Hf, Γ, a, ?_⟩
  refine (wpR.bind.mp q).imp fun o _ q v H' Hf' g r => ?_
  obtain ⟨d, e, q⟩ := wpR.ofO.mp q
  rw [Bool.and_false] at r
  obtain ⟨Hf2, g2, h1⟩ := r.data g e
  exact q v H' Hf2 g2 h1
theorem pe_B (hK : X.K = w.K) (h : PE X x (tE w xv W Fx e true)) : PE X x (tB' w xv W Fx e) := PE.imp h fun σ H Q ⟨Hf, Γ, a, q⟩ => by
  refine ⟨Hf, Γ, a, ?_⟩
  refine (wpR.bind.mp q).imp fun o _ q v H' Hf' g r => ?_
  obtain ⟨as, r, _⟩ := r
  cases o with
  | fz d =>
    cases d with
    | bl b => exact q v H' Hf' g (Rep.bl_iff.mp r.2)
    | _ => exact q.elim
  | _ => exact q.elim
end
end MP

end

section
set_option Elab.async false
set_option linter.all false
set_option maxRecDepth 100000
namespace MP
open PySem PySem.Spec L2
open PyProof.Rows (IntsAre)
/-! ### built-in functions -/
section
variable {w : Wd} {xv : XV} {X : Cx}
def Opns (w : Wd) (H Hf : Hp) : List D → List V → Prop
  | [], vs => vs = []
  | d :: ds, vs => ∃ v r, vs = v :: r ∧ Opn w H Hf d v ∧ Opns w H Hf ds r
theorem Opns.mono {H Hf H' Hf' : Hp} (g : Gr H Hf H' Hf') : ∀ {ds : List D} {vs : List V}, Opns w H Hf ds vs → Opns w H' Hf' ds vs
  | [], _, h => h
  | d :: ds, vs, h => by
    obtain ⟨v, r, e, h1, h2⟩ := h
    exact ⟨v, r, e, h1.mono g, Opns.mono g h2⟩
def rBlt (w : Wd) (xv : XV) (f : Blt) : List V → Hp → VK → Prop := fun vs H Q => ∃ Hf ds o, Le Hf H ∧ Opns w H Hf ds vs ∧ bltD f ds = .ok o ∧ Out w xv H Hf o Q
theorem opns1 {H Hf : Hp} {vs : List V} {d : D} (h : Opns w H Hf [d] vs) : ∃ v, vs = [v] ∧ Opn w H Hf d v := by
  obtain ⟨v, r, rfl, h1, h2⟩ := h
  have : r = [] := h2
  subst this
  exact ⟨v, rfl, h1⟩
theorem opns2 {H Hf : Hp} {vs : List V} {d e : D} (h : Opns w H Hf [d, e] vs) : ∃ v u, vs = [v, u] ∧ Opn w H Hf d v ∧ Opn w H Hf e u := by
  obtain ⟨v, r, rfl, h1, h2⟩ := h
  obtain ⟨u, r, rfl, h3, h4⟩ := h2
  have : r = [] := h4
  subst this
  exact ⟨v, u, rfl, h1, h3⟩
theorem map_ok {α β : Type} {r : Option α} {f : α → β} {b : β} (h : (R.ofO r).map f = .ok b) : ∃ a, r = some a ∧ f a = b := by
  cases r with
  | none => cases h
  | some a => cases h; exact ⟨a, rfl, rfl⟩
theorem blt_len (hK : X.K = w.K) : CallR X (.builtin "len") (rBlt w xv .len) := by
  intro pins s σ H vs us Q I r h
  obtain ⟨Hf, ds, o, l, os, e, k⟩ := h
  simp only [bltD] at e
  unfold lenD at e
  split at e
  · cases e
    obtain ⟨v, rfl, ox⟩ := opns1 os
    obtain ⟨a, vs, rfl, s1, rr⟩ := ox.tup l
    exact call_len_seq pins s σ H _ us Q I r ⟨a, vs, rfl, .inr (hK ▸ s1), by rw [rr.length]; exact k.int l⟩
  · cases e
    obtain ⟨v, rfl, ox⟩ := opns1 os
    obtain ⟨a, vs, rfl, s1, rr⟩ := ox.lst l
    exact call_len_seq pins s σ H _ us Q I r ⟨a, vs, rfl, .inl (.inl s1), by rw [rr.length]; exact k.int l⟩
  · rename_i ns
    cases e
    obtain ⟨v, rfl, ox⟩ := opns1 os
    rcases ox with ox | ⟨_, _, _, e, _⟩
    · obtain ⟨a, rfl, s1⟩ := Rep.scr_iff.mp ox
      exact call_len_seq pins s σ H _ us Q I r ⟨a, ns.map V.int, rfl, .inl (hK ▸ l.sqL w s1), by rw [List.length_map]; exact k.int l⟩
    · cases e
  · cases e
theorem blt_abs : CallR X (.builtin "abs") (rBlt w xv .abs) := by
  intro pins s σ H vs us Q I r h
  obtain ⟨Hf, ds, o, l, os, e, k⟩ := h
  simp only [bltD] at e
  unfold absD at e
  split at e
  · cases e
    obtain ⟨v, rfl, ox⟩ := opns1 os
    rw [ox.int] at r
    exact call_abs pins s σ H _ us Q I r ⟨_, rfl, k.int l⟩
  · cases e
theorem blt_int : CallR X (.type "int") (rBlt w xv .int) := by
  intro pins s σ H vs us Q I r h
  obtain ⟨Hf, ds, o, l, os, e, k⟩ := h
  simp only [bltD] at e
  unfold intD at e
  split at e
  · cases e
    obtain ⟨v, rfl, ox⟩ := opns1 os
    rw [ox.int] at r
    exact call_int1 pins s σ H _ us Q I r (.inl ⟨_, rfl, k.int l⟩)
  · cases e
    obtain ⟨v, rfl, ox⟩ := opns1 os
    rw [ox.bl] at r
    exact call_int1 pins s σ H _ us Q I r (.inr ⟨_, rfl, k.int l⟩)
  · cases e
theorem opn_ints {H Hf : Hp} {x : D} {v : V} {ns : List Int} (l : Le Hf H) (h : Opn w H Hf x v) (e : seqInts x = some ns) : ∃ a, v = .ref a ∧ (Rd H a (.lst (ns.map V.int)) ∨ SqT w.K H a (ns.map V.int)) := by
  unfold seqInts at e
  obtain ⟨ds, e1, e2⟩ := Option.bind_eq_some_iff.mp e
  obtain ⟨a, vs, rfl, s1, rr⟩ := h.seq l e1
  rw [rr.ints e2] at s1
  exact ⟨a, rfl, s1⟩
/-- sum of a tuple of ints -/
theorem cr_sumT (hc : X.calm = true) : CallR X (.builtin "sum") (fun vs H Q => ∃ (a : Addr) (ns : List Int), vs = [V.ref a] ∧ SqT X.K H a (ns.map V.int) ∧ Q (.int ns.sum) H) := by
  intro pins s σ H vs us Q I r h
  obtain ⟨a, ns, rfl, hs, q⟩ := h
  obtain ⟨its, rv, hl, _⟩ := I.tuple hs
  rw [Vals.ref1 r]
  have hi := rv.ints
  obtain ⟨xs, e⟩ := hi.allInts.items
  have hn : numsOf (intItems xs).toList = ns := by rw [← e]; exact hi.numsOf
  rw [nums_intItems] at hn
  rw [e] at hl
  refine PySem.W.ktm_sumG (I.ok.hd hc) hl fun h' tk t' hk => ?_
  rw [preSum_eq, List.take_of_length_le (by simp), hn]
  exact ⟨.int _, H, I.kept hk, ⟨_, rfl⟩, q⟩
theorem iter_tup {prog : Program} {wd : World} {A : Around} {E : Value → Shared → Prop} {s : Shared} {l : Addr} {items : Array Value} {Q : Value → Shared → Prop} (hl : s.heap.IsTuple l items)
    (h : ∀ s₂ : Shared, s₂ = { s with heap := s.heap.push { cls := .type "tuple_iterator", data := .fields #[.ref l, .int 0 0] } } →
      (s₂.heap.IsTupleIter s.heap.objs.size l 0 ∧ s₂.heap.IsTuple l items) → (∀ b ∈ [s.heap.objs.size, l], b < s₂.heap.objs.size) → l ≠ s.heap.objs.size → Q (.ref s.heap.objs.size) s₂) : wpAny (model prog wd) A (pyIter (.ref l)) Q E s := by
  have hlt : l < s.heap.objs.size := by obtain ⟨_, e, _⟩ := hl; exact Heap.lt_size e
  refine wpAny_pyIter_tuple hl (h _ rfl ⟨⟨_, Heap.get?_push_size _ rfl, rfl, rfl⟩, hl.at fun o e => Heap.get?_push_of_some _ e⟩ (fun b hb => ?_) (Nat.ne_of_lt hlt))
  rw [Heap.size_push]
  rcases List.mem_cons.mp hb with rfl | hb
  · exact Nat.lt_succ_self _
  · rw [List.mem_singleton.mp hb]
    exact Nat.lt_succ_of_lt hlt
theorem max_tup {prog : Program} {wd : World} {A : Around} {E : Value → Shared → Prop} {s : Shared} {l : Addr} {its : List Value} {ns : List Int} {Q : Value → Shared → Prop} (hh : A.handled = none) (hl : s.heap.IsTuple l its.toArray) (hi : IntsAre its ns) (hne : 0 < ns.length)
    (h : ∀ h' tk M t', (∀ b o, s.heap.get? b = some o → h'.get? b = some o) → M ∈ ns → (∀ a, a ∈ ns → a ≤ M) → Q (.int M t') { s with heap := h', toks := tk }) : wpAny (model prog wd) A (call (.builtin "max") [.ref l]) Q E s := by
  obtain ⟨xs, e⟩ := hi.allInts.items
  have hn : numsOf (intItems xs).toList = ns := by rw [← e]; exact hi.numsOf
  rw [nums_intItems] at hn
  subst hn
  rw [e] at hl
  have hsz : 0 < xs.size := by simpa using hne
  refine call_max_walk (iter_tup hl fun s₂ e st hfp hlI => ?_)
  subst e
  refine ⟨_, _, _, _, _, _, _, rfl, Walks.tuple (A := A.in1) hh _ l hlI (intItems xs), st, hfp, by simpa [intItems] using hsz, CmpOf.ints_gt (numAt xs) (fun _ _ => intItems_at), fun v h' tk hP hk => ?_⟩
  have hv : (intItems xs)[argBest (fun i j => decide (numAt xs i > numAt xs j)) (xs.size - 1)]? = some v := by simpa [intItems] using hP
  obtain ⟨t, rfl⟩ := intItems_at hv
  obtain ⟨h1, h2⟩ := argBest_gt (numAt xs) (xs.size - 1)
  refine h h' tk _ t (fun b o eo => hk b o (fun hm => ?_) (Heap.get?_push_of_some _ eo)) ?_ fun a ha => ?_
  · rw [List.mem_singleton.mp hm] at eo
    exact absurd (Heap.lt_size eo) (Nat.lt_irrefl _)
  · rw [numAt_eq]; exact PySem.getD_mem (by rw [List.length_map, Array.length_toList]; omega)
  · obtain ⟨j, hj, rfl⟩ := mem_getD ha
    rw [List.length_map, Array.length_toList] at hj
    rw [← numAt_eq]; exact h2 j (by omega)
theorem min_tup {prog : Program} {wd : World} {A : Around} {E : Value → Shared → Prop} {s : Shared} {l : Addr} {its : List Value} {ns : List Int} {Q : Value → Shared → Prop} (hh : A.handled = none) (hl : s.heap.IsTuple l its.toArray) (hi : IntsAre its ns) (hne : 0 < ns.length)
    (h : ∀ h' tk M t', (∀ b o, s.heap.get? b = some o → h'.get? b = some o) → M ∈ ns → (∀ a, a ∈ ns → M ≤ a) → Q (.int M t') { s with heap := h', toks := tk }) : wpAny (model prog wd) A (call (.builtin "min") [.ref l]) Q E s := by
  obtain ⟨xs, e⟩ := hi.allInts.items
  have hn : numsOf (intItems xs).toList = ns := by rw [← e]; exact hi.numsOf
  rw [nums_intItems] at hn
  subst hn
  rw [e] at hl
  have hsz : 0 < xs.size := by simpa using hne
  refine call_min_walk (iter_tup hl fun s₂ e st hfp hlI => ?_)
  subst e
  refine ⟨_, _, _, _, _, _, _, rfl, Walks.tuple (A := A.in1) hh _ l hlI (intItems xs), st, hfp, by simpa [intItems] using hsz, CmpOf.ints_lt (numAt xs) (fun _ _ => intItems_at), fun v h' tk hP hk => ?_⟩
  have hv : (intItems xs)[argBest (fun i j => decide (numAt xs i < numAt xs j)) (xs.size - 1)]? = some v := by simpa [intItems] using hP
  obtain ⟨t, rfl⟩ := intItems_at hv
  obtain ⟨h1, h2⟩ := argBest_lt (numAt xs) (xs.size - 1)
  refine h h' tk _ t (fun b o eo => hk b o (fun hm => ?_) (Heap.get?_push_of_some _ eo)) ?_ fun a ha => ?_
  · rw [List.mem_singleton.mp hm] at eo
    exact absurd (Heap.lt_size eo) (Nat.lt_irrefl _)
  · rw [numAt_eq]; exact PySem.getD_mem (by rw [List.length_map, Array.length_toList]; omega)
  · obtain ⟨j, hj, rfl⟩ := mem_getD ha
    rw [List.length_map, Array.length_toList] at hj
    rw [← numAt_eq]; exact h2 j (by omega)
theorem maxL_mem : ∀ {ns : List Int} {m : Int}, maxL ns = some m → m ∈ ns ∧ ∀ y ∈ ns, y ≤ m := by
  have go : ∀ (ns : List Int) (x : Int), (ns.foldl (fun m y => if y > m then y else m) x = x ∨ ns.foldl (fun m y => if y > m then y else m) x ∈ ns) ∧ x ≤ ns.foldl (fun m y => if y > m then y else m) x ∧ ∀ y ∈ ns, y ≤ ns.foldl (fun m y => if y > m then y else m) x := by
    intro ns
    induction ns with
    | nil => intro x; simp
    | cons y ns ih =>
      intro x
      rw [List.foldl_cons]
      obtain ⟨h1, h2, h3⟩ := ih (if y > x then y else x)
      generalize ns.foldl (fun m y => if y > m then y else m) (if y > x then y else x) = M at h1 h2 h3 ⊢
      refine ⟨?_, ?_, fun z hz => ?_⟩
      · rcases h1 with h1 | h1
        · rw [h1]
          by_cases q : y > x
          · rw [if_pos q]; exact .inr List.mem_cons_self
          · rw [if_neg q]; exact .inl rfl
        · exact .inr (List.mem_cons_of_mem _ h1)
      · by_cases q : y > x
        · rw [if_pos q] at h2; omega
        · rw [if_neg q] at h2; omega
      · rcases List.mem_cons.mp hz with rfl | hz
        · by_cases q : z > x
          · rw [if_pos q] at h2; omega
          · rw [if_neg q] at h2; omega
        · exact h3 z hz
  intro ns m h
  cases ns with
  | nil => cases h
  | cons x ns =>
    cases h
    obtain ⟨h1, h2, h3⟩ := go ns x
    refine ⟨?_, fun y hy => ?_⟩
    · rcases h1 with h1 | h1
      · rw [h1]; exact List.mem_cons_self
      · exact List.mem_cons_of_mem _ h1
    · rcases List.mem_cons.mp hy with rfl | hy
      · exact h2
      · exact h3 y hy
theorem minL_mem : ∀ {ns : List Int} {m : Int}, minL ns = some m → m ∈ ns ∧ ∀ y ∈ ns, m ≤ y := by
  have go : ∀ (ns : List Int) (x : Int), (ns.foldl (fun m y => if y < m then y else m) x = x ∨ ns.foldl (fun m y => if y < m then y else m) x ∈ ns) ∧ ns.foldl (fun m y => if y < m then y else m) x ≤ x ∧ ∀ y ∈ ns, ns.foldl (fun m y => if y < m then y else m) x ≤ y := by
    intro ns
    induction ns with
    | nil => intro x; simp
    | cons y ns ih =>
      intro x
      rw [List.foldl_cons]
      obtain ⟨h1, h2, h3⟩ := ih (if y < x then y else x)
      generalize ns.foldl (fun m y => if y < m then y else m) (if y < x then y else x) = M at h1 h2 h3 ⊢
      refine ⟨?_, ?_, fun z hz => ?_⟩
      · rcases h1 with h1 | h1
        · rw [h1]
          by_cases q : y < x
          · rw [if_pos q]; exact .inr List.mem_cons_self
          · rw [if_neg q]; exact .inl rfl
        · exact .inr (List.mem_cons_of_mem _ h1)
      · by_cases q : y < x
        · rw [if_pos q] at h2; omega
        · rw [if_neg q] at h2; omega
      · rcases List.mem_cons.mp hz with rfl | hz
        · by_cases q : z < x
          · rw [if_pos q] at h2; omega
          · rw [if_neg q] at h2; omega
        · exact h3 z hz
  intro ns m h
  cases ns with
  | nil => cases h
  | cons x ns =>
    cases h
    obtain ⟨h1, h2, h3⟩ := go ns x
    refine ⟨?_, fun y hy => ?_⟩
    · rcases h1 with h1 | h1
      · rw [h1]; exact List.mem_cons_self
      · exact List.mem_cons_of_mem _ h1
    · rcases List.mem_cons.mp hy with rfl | hy
      · exact h2
      · exact h3 y hy
theorem blt_sum (hK : X.K = w.K) (hc : X.calm = true) : CallR X (.builtin "sum") (rBlt w xv .sum) := by
  intro pins s σ H vs us Q I r h
  obtain ⟨Hf, ds, o, l, os, e, k⟩ := h
  simp only [bltD] at e
  unfold sumD at e
  split at e
  · obtain ⟨ns, e1, rfl⟩ := map_ok e
    obtain ⟨v, rfl, ox⟩ := opns1 os
    obtain ⟨a, rfl, s1⟩ := opn_ints l ox e1
    rcases s1 with s1 | s1
    · exact cr_sum hc pins s σ H _ us Q I r ⟨a, ns, rfl, .inl s1, k.int l⟩
    · exact cr_sumT hc pins s σ H _ us Q I r ⟨a, ns, rfl, hK ▸ s1, k.int l⟩
  · cases e
theorem blt_max (hK : X.K = w.K) (hc : X.calm = true) : CallR X (.builtin "max") (rBlt w xv .max) := by
  intro pins s σ H vs us Q I r h
  obtain ⟨Hf, ds, o, l, os, e, k⟩ := h
  simp only [bltD] at e
  unfold maxD at e
  split at e
  · obtain ⟨m, e1, rfl⟩ := map_ok e
    obtain ⟨ns, e1, e2⟩ := Option.bind_eq_some_iff.mp e1
    obtain ⟨v, rfl, ox⟩ := opns1 os
    obtain ⟨a, rfl, s1⟩ := opn_ints l ox e1
    obtain ⟨hm, hb⟩ := maxL_mem e2
    have hne : 0 < ns.length := List.length_pos_iff.mpr fun z => by rw [z] at hm; cases hm
    have fin : ∀ m', m' ∈ ns → (∀ y ∈ ns, y ≤ m') → Q (.int m') H := fun m' h1 h2 => by
      have e3 : m' = m := Int.le_antisymm (hb m' h1) (h2 m hm)
      rw [e3]
      exact k.int l
    rcases s1 with s1 | s1
    · exact cr_max hc pins s σ H _ us Q I r ⟨a, ns, rfl, .inl s1, hne, fin⟩
    · obtain ⟨its, rv, hl, _⟩ := I.tuple (hK ▸ s1)
      rw [Vals.ref1 r]
      exact max_tup (I.ok.hd hc) hl rv.ints hne fun h' tk m t' hk h1 h2 => ⟨.int _, H, I.kept hk, ⟨_, rfl⟩, fin m h1 h2⟩
  · cases e
    obtain ⟨v, u, rfl, ox, oy⟩ := opns2 os
    rw [ox.int, oy.int] at r
    exact call_max2 hc pins s σ H _ us Q I r ⟨_, _, rfl, k.int l⟩
  · cases e
theorem blt_min (hK : X.K = w.K) (hc : X.calm = true) : CallR X (.builtin "min") (rBlt w xv .min) := by
  intro pins s σ H vs us Q I r h
  obtain ⟨Hf, ds, o, l, os, e, k⟩ := h
  simp only [bltD] at e
  unfold minD at e
  split at e
  · obtain ⟨m, e1, rfl⟩ := map_ok e
    obtain ⟨ns, e1, e2⟩ := Option.bind_eq_some_iff.mp e1
    obtain ⟨v, rfl, ox⟩ := opns1 os
    obtain ⟨a, rfl, s1⟩ := opn_ints l ox e1
    obtain ⟨hm, hb⟩ := minL_mem e2
    have hne : 0 < ns.length := List.length_pos_iff.mpr fun z => by rw [z] at hm; cases hm
    have fin : ∀ m', m' ∈ ns → (∀ y ∈ ns, m' ≤ y) → Q (.int m') H := fun m' h1 h2 => by
      have e3 : m' = m := Int.le_antisymm (h2 m hm) (hb m' h1)
      rw [e3]
      exact k.int l
    rcases s1 with s1 | s1
    · exact cr_min hc pins s σ H _ us Q I r ⟨a, ns, rfl, .inl s1, hne, fin⟩
    · obtain ⟨its, rv, hl, _⟩ := I.tuple (hK ▸ s1)
      rw [Vals.ref1 r]
      exact min_tup (I.ok.hd hc) hl rv.ints hne fun h' tk m t' hk h1 h2 => ⟨.int _, H, I.kept hk, ⟨_, rfl⟩, fin m h1 h2⟩
  · cases e
    obtain ⟨v, u, rfl, ox, oy⟩ := opns2 os
    rw [ox.int, oy.int] at r
    exact call_min2 hc pins s σ H _ us Q I r ⟨_, _, rfl, k.int l⟩
  · cases e
theorem blt_list (hK : X.K = w.K) : CallR X (.type "list") (rBlt w xv .list) := by
  intro pins s σ H vs us Q I r h
  obtain ⟨Hf, ds, o, l, os, e, k⟩ := h
  simp only [bltD] at e
  unfold listD at e
  split at e
  · obtain ⟨ds, e1, rfl⟩ := map_ok e
    obtain ⟨v, rfl, ox⟩ := opns1 os
    obtain ⟨a, vs, rfl, s1, rr⟩ := ox.seq l e1
    exact call_list_of pins s σ H _ us Q I r ⟨a, vs, rfl, s1.imp (fun z => .inl z) (fun z => hK ▸ z), k.own l rr⟩
  · cases e
theorem blt_tuple (hK : X.K = w.K) : CallR X (.type "tuple") (rBlt w xv .tuple) := by
  intro pins s σ H vs us Q I r h
  obtain ⟨Hf, ds, o, l, os, e, k⟩ := h
  simp only [bltD] at e
  unfold tupleD at e
  split at e
  · rename_i x
    obtain ⟨ds, e1, rfl⟩ := map_ok e
    obtain ⟨v, rfl, ox⟩ := opns1 os
    cases x with
    | tup xs =>
      cases e1
      have oy := ox
      obtain ⟨a, vs, rfl, s1, rr⟩ := ox.tup l
      rcases oy with oy | ⟨_, _, _, z, _⟩
      · exact call_tuple_of pins s σ H _ us Q I r ⟨a, vs, rfl, .inr ⟨hK ▸ s1, k.fz l oy⟩⟩
      · cases z
    | lst xs =>
      cases e1
      obtain ⟨a, vs, rfl, s1, rr⟩ := ox.lst l
      exact call_tuple_of pins s σ H _ us Q I r ⟨a, vs, rfl, .inl ⟨.inl s1, k.tup l rr⟩⟩
    | _ => cases e1
  · cases e
theorem blt_any (hc : X.calm = true) : CallR X (.builtin "any") (rBlt w xv .any) := by
  intro pins s σ H vs us Q I r h
  obtain ⟨Hf, ds, o, l, os, e, k⟩ := h
  simp only [bltD] at e
  unfold anyD at e
  split at e
  · obtain ⟨bs, e1, rfl⟩ := map_ok e
    obtain ⟨v, rfl, ox⟩ := opns1 os
    obtain ⟨a, vs, rfl, s1, rr⟩ := ox.lst l
    rw [rr.bls e1] at s1
    exact cr_any hc pins s σ H _ us Q I r ⟨a, bs, rfl, .inl s1, k.bl l⟩
  · cases e
theorem blt_all (hc : X.calm = true) : CallR X (.builtin "all") (rBlt w xv .all) := by
  intro pins s σ H vs us Q I r h
  obtain ⟨Hf, ds, o, l, os, e, k⟩ := h
  simp only [bltD] at e
  unfold allD at e
  split at e
  · obtain ⟨bs, e1, rfl⟩ := map_ok e
    obtain ⟨v, rfl, ox⟩ := opns1 os
    obtain ⟨a, vs, rfl, s1, rr⟩ := ox.lst l
    rw [rr.bls e1] at s1
    exact cr_all hc pins s σ H _ us Q I r ⟨a, bs, rfl, .inl s1, k.bl l⟩
  · cases e
theorem blt_gcd : CallR X (.builtin "math.gcd") (rBlt w xv .gcd) := by
  intro pins s σ H vs us Q I r h
  obtain ⟨Hf, ds, o, l, os, e, k⟩ := h
  simp only [bltD] at e
  unfold gcdD at e
  split at e
  · cases e
    obtain ⟨v, u, rfl, ox, oy⟩ := opns2 os
    rw [ox.int, oy.int] at r
    exact cr_gcd pins s σ H _ us Q I r ⟨_, _, rfl, k.int l⟩
  · cases e
theorem insI_perm (x : Int) : ∀ ys : List Int, (insI x ys).Perm (x :: ys)
  | [] => List.Perm.refl _
  | y :: ys => by
    unfold insI
    split
    · exact List.Perm.refl _
    · exact ((insI_perm x ys).cons y).trans (List.Perm.swap x y ys)
theorem sortI_perm : ∀ ns : List Int, (sortI ns).Perm ns
  | [] => List.Perm.refl _
  | x :: xs => (insI_perm x (sortI xs)).trans ((sortI_perm xs).cons x)
theorem insI_sorted (x : Int) : ∀ ys : List Int, ys.Pairwise (· ≤ ·) → (insI x ys).Pairwise (· ≤ ·)
  | [], _ => by simp [insI]
  | y :: ys, h => by
    unfold insI
    obtain ⟨h1, h2⟩ := List.pairwise_cons.mp h
    split
    · rename_i hx
      refine List.pairwise_cons.mpr ⟨fun z hz => ?_, h⟩
      rcases List.mem_cons.mp hz with rfl | hz
      · exact hx
      · exact Int.le_trans hx (h1 z hz)
    · rename_i hx
      refine List.pairwise_cons.mpr ⟨fun z hz => ?_, insI_sorted x ys h2⟩
      rcases List.mem_cons.mp ((insI_perm x ys).mem_iff.mp hz) with rfl | hz
      · omega
      · exact h1 z hz
theorem sortI_sorted : ∀ ns : List Int, (sortI ns).Pairwise (· ≤ ·)
  | [] => List.Pairwise.nil
  | x :: xs => insI_sorted x _ (sortI_sorted xs)
theorem sorted_unique : ∀ {a b : List Int}, a.Perm b → a.Pairwise (· ≤ ·) → b.Pairwise (· ≤ ·) → a = b
  | [], b, p, _, _ => (List.Perm.nil_eq p)
  | x :: a, b, p, ha, hb => by
    cases b with
    | nil => exact absurd p.length_eq (by simp)
    | cons y b =>
      obtain ⟨a1, a2⟩ := List.pairwise_cons.mp ha
      obtain ⟨b1, b2⟩ := List.pairwise_cons.mp hb
      have h1 : x ≤ y := by
        rcases List.mem_cons.mp (p.mem_iff.mpr List.mem_cons_self) with e | e
        · omega
        · exact a1 y e
      have h2 : y ≤ x := by
        rcases List.mem_cons.mp (p.mem_iff.mp List.mem_cons_self) with e | e
        · omega
        · exact b1 x e
      have e : x = y := by omega
      subst e
      rw [sorted_unique (List.Perm.cons_inv p) a2 b2]
theorem blt_sorted (hK : X.K = w.K) : CallR X (.builtin "sorted") (rBlt w xv .sorted) := by
  intro pins s σ H vs us Q I r h
  obtain ⟨Hf, ds, o, l, os, e, k⟩ := h
  simp only [bltD] at e
  unfold sortedD at e
  split at e
  · obtain ⟨ns, e1, rfl⟩ := map_ok e
    obtain ⟨v, rfl, ox⟩ := opns1 os
    obtain ⟨a, vs, rfl, s1, rr⟩ := ox.lst l
    rw [rr.ints e1] at s1
    refine cr_sortedI pins s σ H _ us Q I r ⟨a, ns, rfl, .inl s1, fun ns' p h1 h2 h3 => ?_⟩
    have e2 : ns' = sortI ns := sorted_unique (h1.trans (sortI_perm ns).symm) h2 (sortI_sorted ns)
    rw [e2]
    exact k.own l (Reps.of_ints _) p h3
  · cases e
end
end MP

end

section
set_option Elab.async false
set_option linter.all false
set_option maxRecDepth 100000
namespace MP
open PySem PySem.Spec L2
def xv0 : XV := fun _ _ _ _ => False
/-- a class as a value -/
def tyV (w : Wd) : Ty → V
  | .tint => .ty "int"
  | .tbool => .ty "bool"
  | .tstr => .ty "str"
  | .tlist => .ty "list"
  | .ttuple => .ty "tuple"
  | .tnone => .ty "NoneType"
  | .verr => .ty "ValueError"
  | .cls k => .ref (w.cad k)
  | .exc k => .ref (w.cad k)
def tyVal (w : Wd) : Ty → Value
  | .tint => .type "int"
  | .tbool => .type "bool"
  | .tstr => .type "str"
  | .tlist => .type "list"
  | .ttuple => .type "tuple"
  | .tnone => .type "NoneType"
  | .verr => .type "ValueError"
  | .cls k => .ref (w.cad k)
  | .exc k => .ref (w.cad k)
def TyMg (w : Wd) (X : Cx) : Ty → Prop
  | .cls k => X.mg (w.nm k) = some (.ref (w.cad k))
  | .exc k => X.mg (w.nm k) = some (.ref (w.cad k))
  | .tnone => False
  | t => X.mg (tyName w.nm t) = none
/-- isinstance with one class, with a tuple of classes -/
def rIs1 (w : Wd) (xv : XV) (ok : Ty → Bool) (sub : Nat → Ty → Bool) : List V → Hp → VK → Prop := fun xs H Q => ∃ Hf o x as t b, xs = [x, tyV w t] ∧ ok t = true ∧ Le Hf H ∧ RepO w xv H Hf o x as ∧ isTy o t sub = some b ∧ Q (.bl b) H
def rIsT (w : Wd) (xv : XV) (ok : Ty → Bool) (sub : Nat → Ty → Bool) : List V → Hp → VK → Prop := fun xs H Q => ∃ Hf o x as ts tp b, xs = [x, .ref tp] ∧ H tp = some (.tup (ts.map (tyV w))) ∧ ts ≠ [] ∧ (∀ t ∈ ts, ok t = true) ∧ Le Hf H ∧ RepO w xv H Hf o x as ∧ anyTy o sub ts = some b ∧ Q (.bl b) H
/-- x.f of a value -/
def AtR (X : Cx) (f : Str) (r : V → Hp → VK → Prop) : Prop := ∀ (pins : List (Addr × Obj)) (s : Shared) (σ : L2.St) (H : Hp) (x : V) (u : Value) (Q : VK), L2.Inv X pins σ H s → RelV x u → r x H Q →
  wpAny (model X.prog X.w) X.A (getAttr u f true) (EP X pins σ Q) X.xe s
/-- a caught error's field -/
def rXa (w : Wd) (xv : XV) (Fx : MP.Fx) (f : Nat) : V → Hp → VK → Prop := fun x H Q => ∃ Hf c p, Le Hf H ∧ xv c (some p) x Hf ∧ Fx.xf c = some f ∧ ∀ v, Rep w Hf p v → Q v H
/-- the context in which expressions are reckoned -/
structure CnE (w : Wd) (c : Ck) (xv : XV) (X : Cx) (sc : Scope) (Fx : MP.Fx) (W : WX) : Prop where
  hK : X.K = w.K
  hN : X.N = c.N
  nm : c.nm = w.nm
  nd : X.N.Nodup
  vi : ∀ x, MP.vis sc x = true → Vis X.env.scope x
  gl : ∀ x, MP.glb sc x = true → Gl X x
  hu : X.A.units + 65 < cLine
  calm : Fx.calm = true → X.calm = true
  xvo : XvOk xv
  gv : ∀ g d, Fx.gv g = some d → ∃ v u, X.mg (w.nm g) = some u ∧ RelV v u ∧ ∀ H, Rep w H d v
  bl : ∀ f, c.bl f = true → f ≠ .gcd → X.mg (bname f) = none
  gcd : c.bl .gcd = true → X.mg "gcd" = some (.builtin "math.gcd")
  rng : X.mg "range" = none
  enm : X.mg "enumerate" = none
  zip : X.mg "zip" = none
  isi : X.mg "isinstance" = none
  ty : ∀ t, c.ty t = true → TyMg w X t
  is1 : CallR X (.builtin "isinstance") (rIs1 w xv c.ty Fx.sub)
  isT : CallR X (.builtin "isinstance") (rIsT w xv c.ty Fx.sub)
  fld : ∀ k f i, Fx.fld k f = some i → Cls w.K (w.cad k) ∧ NoAttr w.K (w.cad k) (w.nm f) ∧ (w.flds k).Nodup ∧ (w.flds k)[i]? = some (w.nm f)
  xat : ∀ f, AtR X (w.nm f) (rXa w xv Fx f)
  tk : Takes X W
  cal : Fx.calm = true → ∀ (f : Nat) (p pos : Pos) (y : Expr) (xs : List Expr) (ta : TA), c.fn f = true → MP.glb sc (w.nm f) = true → (∀ x ∈ y :: xs, plainE x = true) → PA X (y :: xs) ta →
    PE X (.Call (.Name (w.nm f) p) (y :: xs) [] pos) fun σ H Q => ta σ H fun vs H1 => ∃ Hf as, Le Hf H1 ∧ Reps w Hf as vs ∧ wpR w W σ H1 Hf (Fx.call f as [] []) fun o => Out w xv0 H1 Hf o Q
  mak : Fx.calm = true → ∀ (k : Nat) (p pos : Pos) (y : Expr) (xs : List Expr) (ta : TA), c.mkc k = true → MP.glb sc (w.nm k) = true → (∀ x ∈ y :: xs, plainE x = true) → PA X (y :: xs) ta →
    PE X (.Call (.Name (w.nm k) p) (y :: xs) [] pos) fun σ H Q => ta σ H fun vs H1 => ∃ Hf as, Le Hf H1 ∧ Reps w Hf as vs ∧ wpR w W σ H1 Hf (Fx.make k as) fun o => Out w xv0 H1 Hf o Q
  met : Fx.calm = true → ∀ (m : Nat) (o : Expr) (apos pos : Pos) (xs : List Expr) (to : TE) (ta : TA), c.me m = true → notSuper o = true → (apos.endLine == pos.line) = true → (∀ x ∈ xs, plainE x = true) → PE X o to → PA X xs ta →
    PE X (.Call (.Attribute o (w.nm m) apos) xs [] pos) fun σ H Q => to σ H fun x H1 => ∃ k f, Fx.meth k m = some f ∧ (∃ a dx vs, x = .ref a ∧ H1 a = some (.ins (w.cad k) dx ((w.flds k).zip vs)) ∧ (w.flds k).length = vs.length) ∧
      ta σ H1 fun vs H2 => ∃ Hf as, Le Hf H2 ∧ Reps w Hf as (x :: vs) ∧ wpR w W σ H2 Hf (Fx.call f as [] []) fun o => Out w xv0 H2 Hf o Q
/-- an expression is reckoned rightly -/
def SE (w : Wd) (c : Ck) (e : E) : Prop := ∀ (xv : XV) (X : Cx) (sc : Scope) (Fx : MP.Fx) (W : WX), CnE w c xv X sc Fx W → ∀ (x : Expr) (pk : Bool), kE c sc e x = true → PE X x (tE w xv W Fx e pk)
section
variable {w : Wd} {c : Ck} {xv : XV} {X : Cx} {sc : Scope} {Fx : MP.Fx} {W : WX}
theorem res_int {H0 H Hf : Hp} {p : Bool} {i : Int} : Res w xv H0 H Hf p (.fz (.int i)) (.int i) := res_fz (Rep.int_iff.mpr rfl)
theorem se_int {i : Int} : SE w c (.int i) := fun xv X sc Fx W cn x pk h => by
  unfold kE kInt at h
  split at h
  · have e := of_decide_eq_true h
    subst e
    exact PE.imp pe_int fun σ H Q ⟨Hf, Γ, a, q⟩ => q _ H Hf (Gr.refl a.lf) res_int
  · exact absurd h Bool.false_ne_true
theorem nb {p : Prop} (h : false = true) : p := absurd h Bool.false_ne_true
theorem an {a b : Bool} (h : (a && b) = true) : a = true ∧ b = true := Bool.and_eq_true_iff.mp h
theorem se_bl {b : Bool} : SE w c (.bl b) := fun xv X sc Fx W cn x pk h => by
  unfold kE kBl at h
  split at h
  · have e := beq_iff_eq.mp h
    subst e
    exact PE.imp (pe_bl) fun σ H Q ⟨Hf, Γ, a, q⟩ => q _ H Hf (Gr.refl a.lf) (res_fz (Rep.bl_iff.mpr rfl))
  · exact nb h
theorem se_non : SE w c .non := fun xv X sc Fx W cn x pk h => by
  unfold kE kNon at h
  split at h
  · exact PE.imp (pe_non) fun σ H Q ⟨Hf, Γ, a, q⟩ => q _ H Hf (Gr.refl a.lf) (res_fz (Rep.non_iff.mpr rfl))
  · exact nb h
theorem se_str {z : List Nat} : SE w c (.str z) := fun xv X sc Fx W cn x pk h => by
  unfold kE kStr at h
  split at h
  · have e := of_decide_eq_true h
    subst e
    exact PE.imp (pe_str) fun σ H Q ⟨Hf, Γ, a, q⟩ => q _ H Hf (Gr.refl a.lf) (res_fz (Rep.str_iff.mpr rfl))
  · exact nb h
theorem vis_of {x : Str} (h : MP.vis sc x = true) : (x == ("__debug__" : Str)) = false ∧ (x == ("__classdict__" : Str)) = false := by
  unfold MP.vis at h
  obtain ⟨_, h2⟩ := an h
  obtain ⟨h3, h4⟩ := an h2
  exact ⟨by simpa using h3, by simpa using h4⟩
theorem glb_of {x : Str} (h : MP.glb sc x = true) : (x == ("__debug__" : Str)) = false := by
  unfold MP.glb at h
  obtain ⟨_, h2⟩ := an h
  simpa using h2
/-- what a name holds, by its place -/
theorem varD_res {H Hf : Hp} {Γ : List OD} {σ : L2.St} {i : Nat} {pk : Bool} {o : OD} (sl : Slots w xv H Hf Γ σ) (e : varD Γ[i]? pk = .ok o) :
    ∃ v, σ[i]? = some (some v) ∧ Res w xv H H Hf (true && pk) o v := by
  cases q : Γ[i]? with
  | none => rw [q] at e; cases e
  | some u =>
    rw [q] at e
    have ne : u ≠ .un := fun z => by subst z; cases e
    obtain ⟨v, as, e1, r, nd⟩ := sl i u q ne
    refine ⟨v, e1, ?_⟩
    cases u with
    | fz d => cases e; exact ⟨as, r, nd, fun _ a h => by rw [r.1] at h; cases h⟩
    | un => exact absurd rfl ne
    | _ =>
      simp only [varD] at e
      split at e
      · rename_i hp
        cases e
        exact ⟨as, r, nd, fun z => by rw [hp] at z; cases z⟩
      · cases e
theorem wp_ok {α : Type} {σ : L2.St} {H Hf : Hp} {r : R α} {k : α → Prop} (h : wpR w W σ H Hf r k) (ne : ∀ c p, r ≠ .ex c p) : ∃ a, r = .ok a ∧ k a := by
  cases r with
  | ok a => exact ⟨a, rfl, h⟩
  | ex c p => exact absurd rfl (ne c p)
  | bad => exact h.elim
theorem varD_ne {o : Option OD} {pk : Bool} : ∀ c p, varD o pk ≠ .ex c p := fun c p h => by
  unfold varD at h
  split at h <;> first | (cases h; done) | (split at h <;> cases h)
theorem se_var {i : Nat} : SE w c (.var i) := fun xv X sc Fx W cn x pk h => by
  unfold kE kVar at h
  split at h
  · obtain ⟨h1, h2⟩ := an h
    obtain ⟨d1, d2⟩ := vis_of h2
    refine PE.imp (pe_var (by rw [cn.hN]; exact of_decide_eq_true h1) (cn.vi _ h2) d1 d2) fun σ H Q ⟨Hf, Γ, a, q⟩ => ?_
    obtain ⟨o, e, q⟩ := wp_ok q varD_ne
    obtain ⟨v, e1, r⟩ := varD_res a.sl e
    exact ⟨v, e1, q v H Hf (Gr.refl a.lf) r⟩
  · exact nb h
theorem se_glob {g : Nat} : SE w c (.glob g) := fun xv X sc Fx W cn x pk h => by
  unfold kE kGlob at h
  split at h
  · obtain ⟨h1, h2⟩ := an h
    have e := of_decide_eq_true h1
    subst e
    refine ⟨fun pins s σ H Q I hq => ?_⟩
    obtain ⟨Hf, Γ, a, q⟩ := hq
    obtain ⟨o, e, q⟩ := wpR.ofO.mp q
    cases q2 : Fx.gv g with
    | none => rw [q2] at e; cases e
    | some d =>
      rw [q2] at e
      cases e
      obtain ⟨v, u, m, r, rep⟩ := cn.gv g d q2
      rw [cn.nm] at h2 ⊢
      exact (pe_glob (cn.gl _ h2) m r (glb_of h2)).run pins s σ H Q I (q v H Hf (Gr.refl a.lf) (res_fz (rep Hf)))
  · exact nb h
/-- two operands, an operator -/
theorem se_bin {op : Bop} {a b : E} (ha : SE w c a) (hb : SE w c b) : SE w c (.bin op a b) := fun xv X sc Fx W cn x pk h => by
  unfold kE kBin at h
  split at h
  · obtain ⟨h1, h2⟩ := an h
    obtain ⟨h2, h3⟩ := an h2
    have e := of_decide_eq_true h1
    subst e
    have pa := pe_O cn.hK (ha xv X sc Fx W cn _ true h2)
    have pb := pe_O cn.hK (hb xv X sc Fx W cn _ true h3)
    refine PE.imp (pe_op (op_bin (xv := xv) cn.hK op) pa pb) fun σ H Q ⟨Hf, Γ, at_, q⟩ => ?_
    refine ⟨Hf, Γ, at_, (wpR.bind.mp q).imp fun dx _ q v1 H1 Hf1 g1 o1 => ?_⟩
    refine ⟨Hf1, Γ, at_.mono cn.xvo g1, (wpR.bind.mp q).mono g1 fun dy _ q v2 H2 Hf2 g2 o2 => ?_⟩
    obtain ⟨o, e, q⟩ := wp_ok q fun c p h => by
      cases dx <;> cases dy <;> cases op <;> simp only [binD] at h <;> first | (cases h; done) | (split at h <;> cases h; done) | (revert h; generalize pyBit Nat.land _ _ = r; intro h; cases r <;> cases h)
    exact ⟨Hf2, dx, dy, o, g2.lf, o1.mono g2, o2, e, fun v H' Hf' g3 r => q v H' Hf' ((g1.trans g2).trans g3) (by
      obtain ⟨as, r1, r2, r3⟩ := r
      exact ⟨as, r1, r2, fun _ a m => (g1.trans g2).none_of (r3 rfl a m)⟩)⟩
  · exact nb h
theorem Res.back {H0 Hf0 H1 Hf1 H Hf : Hp} (g : Gr H0 Hf0 H1 Hf1) {p : Bool} {o : OD} {v : V} (r : Res w xv H1 H Hf p o v) : Res w xv H0 H Hf p o v := by
  obtain ⟨as, r1, r2, r3⟩ := r
  exact ⟨as, r1, r2, fun z a m => g.none_of (r3 z a m)⟩
theorem out_of {H Hf H2 Hf2 : Hp} {o : OD} {Q : VK} (cn : CnE w c xv X sc Fx W) (g : Gr H Hf H2 Hf2) (q : ∀ v H' Hf', Gr H Hf H' Hf' → Res w xv H H' Hf' false o v → Q v H') :
    Out w xv H2 Hf2 o Q := fun v H' Hf' g3 r => q v H' Hf' (g.trans g3) (r.back g)
theorem cmpD_ne {op : Cop} {x y : D} : ∀ c p, cmpD op x y ≠ .ex c p := fun c p h => by
  unfold cmpD at h
  cases op <;> simp only at h <;> (repeat' split at h) <;> cases h
theorem asI_op {H Hf : Hp} {r : R D} {k : Int → Prop} {σ : L2.St} (h : wpR w W σ H Hf (asI r) k) : wpR w W σ H Hf r fun d => ∃ i, d = .int i ∧ k i := by
  unfold asI at h
  refine (wpR.bind.mp h).imp fun d _ q => ?_
  cases d with
  | int i => exact ⟨i, rfl, q⟩
  | _ => exact q.elim
theorem se_neg {a : E} (ha : SE w c a) : SE w c (.neg a) := fun xv X sc Fx W cn x pk h => by
  unfold kE kNeg at h
  split at h
  · have pa := pe_O cn.hK (ha xv X sc Fx W cn _ true h)
    refine PE.imp (pe_un un_neg pa) fun σ H Q ⟨Hf, Γ, at_, q⟩ => ?_
    refine ⟨Hf, Γ, at_, (asI_op (wpR.bind.mp q)).imp fun dx _ q v1 H1 Hf1 g1 o1 => ?_⟩
    obtain ⟨i, rfl, q⟩ := q
    exact ⟨i, o1.int, q _ H1 Hf1 g1 res_int⟩
  · exact nb h
theorem notset {r : Expr} (h : noSet r = true) (op : CmpOp) : behindInMarks op r = false := by
  cases r <;> first | rfl | cases h
theorem notset2 {m r : Expr} (h1 : noSet m = true) (h : noSet r = true) (o1 o2 : CmpOp) : lastMarks [o1, o2] [m, r] = false := by
  cases r <;> first | rfl | cases h
/-- as a value and as a test -/
def BO (w : Wd) (c : Ck) (e : E) : Prop := ∀ (xv : XV) (X : Cx) (sc : Scope) (Fx : MP.Fx) (W : WX), CnE w c xv X sc Fx W → ∀ (x : Expr) (pk : Bool), kE c sc e x = true →
  ∃ t, PE X x t ∧ PT X x (tTest t) ∧ ∀ σ H Q, tE w xv W Fx e pk σ H Q → t σ H Q
/-- a test -/
def ST (w : Wd) (c : Ck) (e : E) : Prop := ∀ (xv : XV) (X : Cx) (sc : Scope) (Fx : MP.Fx) (W : WX), CnE w c xv X sc Fx W → ∀ (x : Expr), kE c sc e x = true → PT X x (tT w xv W Fx e)
theorem BO.se {e : E} (h : BO w c e) : SE w c e := fun xv X sc Fx W cn x pk k => by
  obtain ⟨t, h1, _, h3⟩ := h xv X sc Fx W cn x pk k
  exact PE.imp h1 h3
theorem BO.st {e : E} (h : BO w c e) (hb : ∀ Fx Γ pk o, ev Fx e Γ pk = .ok o → ∃ b, o = .fz (.bl b)) : ST w c e := fun xv X sc Fx W cn x k => by
  obtain ⟨t, _, h2, h3⟩ := h xv X sc Fx W cn x true k
  refine PT.imp h2 fun σ H Q ⟨Hf, Γ, a, q⟩ => ?_
  refine h3 σ H _ ⟨Hf, Γ, a, (wpR.bind.mp q).imp fun o eo q v H' Hf' g r => ?_⟩
  obtain ⟨b, rfl⟩ := hb _ _ _ _ eo
  obtain ⟨b', e, q⟩ := wpR.ofO.mp q
  cases e
  obtain ⟨as, r, _⟩ := r
  exact ⟨b, Rep.bl_iff.mp r.2, q H' Hf' g⟩
theorem bo_cmp {op : Cop} {a b : E} (ha : SE w c a) (hb : SE w c b) : BO w c (.cmp op a b) := fun xv X sc Fx W cn x pk h => by
  unfold kE kCmp at h
  split at h
  · obtain ⟨h1, h2⟩ := an h
    obtain ⟨h0, h2⟩ := an h2
    obtain ⟨h2, h3⟩ := an h2
    have e := of_decide_eq_true h1
    subst e
    have pa := pe_G cn.hK (ha xv X sc Fx W cn _ true h2)
    have pb := pe_G cn.hK (hb xv X sc Fx W cn _ true h3)
    refine ⟨_, pe_cmpR (op_cmp (xv := xv) cn.hK cn.hu op) pa pb (notset h0 _), pt_cmpR (op_cmp (xv := xv) cn.hK cn.hu op) pa pb (notset h0 _), fun σ H Q ⟨Hf, Γ, at_, q⟩ => ?_⟩
    refine ⟨Hf, Γ, at_, (wpR.bind.mp q).imp fun dx _ q v1 H1 Hf1 g1 o1 => ?_⟩
    refine ⟨Hf1, Γ, at_.mono cn.xvo g1, (wpR.bind.mp q).mono g1 fun dy _ q v2 H2 Hf2 g2 o2 => ?_⟩
    obtain ⟨o, e, q⟩ := wp_ok q cmpD_ne
    exact ⟨Hf2, dx.1, dy.1, o, g2.lf, o1.1.mono g2, o2.1, e, out_of cn (g1.trans g2) q⟩
  · exact nb h
theorem cmpD_bl {op : Cop} {x y : D} {o : OD} (h : cmpD op x y = .ok o) : ∃ b, o = .fz (.bl b) := by
  unfold cmpD at h
  cases op <;> simp only at h <;> (repeat' split at h) <;> cases h <;> exact ⟨_, rfl⟩
theorem Opn.arg {H Hf : Hp} {d : D} {v : V} (h : Opn w H Hf d v) : Arg w H Hf d v := .inl h
theorem bo_chain {o1 o2 : Cop} {a b d : E} (ha : SE w c a) (hb : SE w c b) (hd : SE w c d) : BO w c (.chain o1 o2 a b d) := fun xv X sc Fx W cn x pk h => by
  unfold kE kChain at h
  split at h
  · obtain ⟨h1, h2⟩ := an h
    obtain ⟨h3, h2⟩ := an h2
    obtain ⟨n1, h2⟩ := an h2
    obtain ⟨n2, h2⟩ := an h2
    obtain ⟨ka, h2⟩ := an h2
    obtain ⟨kb, kd⟩ := an h2
    have e1 := of_decide_eq_true h1
    have e2 := of_decide_eq_true h3
    subst e1 e2
    have pa := pe_O cn.hK (ha xv X sc Fx W cn _ true ka)
    have pb := pe_O cn.hK (hb xv X sc Fx W cn _ true kb)
    have pd := pe_O cn.hK (hd xv X sc Fx W cn _ true kd)
    refine ⟨_, pe_chain (op_cmp (xv := xv) cn.hK cn.hu o1) (op_cmp (xv := xv) cn.hK cn.hu o2) pa pb pd (notset2 n1 n2 _ _), pt_chain (op_cmp (xv := xv) cn.hK cn.hu o1) (op_cmp (xv := xv) cn.hK cn.hu o2) pa pb pd (notset2 n1 n2 _ _), fun σ H Q ⟨Hf, Γ, at_, q⟩ => ?_⟩
    refine ⟨Hf, Γ, at_, (wpR.bind.mp q).imp fun dx _ q v1 H1 Hf1 g1 x1 => ?_⟩
    refine ⟨Hf1, Γ, at_.mono cn.xvo g1, (wpR.bind.mp q).mono g1 fun dy _ q v2 H2 Hf2 g2 x2 => ?_⟩
    obtain ⟨b, q1, q⟩ := wp_ok (wpR.bind.mp q) (fun c p h => by
      unfold asB at h
      cases e : cmpD o1 dx dy with
      | ok o => rw [e] at h; obtain ⟨b, rfl⟩ := cmpD_bl e; cases h
      | ex c p => exact cmpD_ne c p e
      | bad => rw [e] at h; cases h)
    cases e : cmpD o1 dx dy with
    | ex c p => exact absurd e (cmpD_ne c p)
    | bad => rw [e] at q1; cases q1
    | ok o =>
      rw [e] at q1
      obtain ⟨b', rfl⟩ := cmpD_bl e
      cases q1
      refine ⟨Hf2, dx, dy, _, g2.lf, (x1.mono g2).arg, x2.arg, e, fun v H3 Hf3 g3 r3 => ?_⟩
      have ev : v = .bl b := by
        obtain ⟨as, r, _⟩ := r3
        exact Rep.bl_iff.mp r.2
      refine ⟨b, ev, ?_⟩
      cases b with
      | false => exact q _ H3 Hf3 ((g1.trans g2).trans g3) (res_fz (Rep.bl_iff.mpr rfl))
      | true =>
        have g123 := (g1.trans g2).trans g3
        refine ⟨Hf3, Γ, at_.mono cn.xvo g123, (wpR.bind.mp q).mono g123 fun dz _ q v4 H4 Hf4 g4 x4 => ?_⟩
        obtain ⟨o, e, q⟩ := wp_ok q cmpD_ne
        exact ⟨Hf4, dy, dz, o, g4.lf, ((x2.mono g3).mono g4).arg, x4.arg, e, out_of cn (g123.trans g4) q⟩
  · exact nb h
theorem truth_of {H Hf : Hp} (l : Le Hf H) {o : OD} {v : V} {as : List Addr} {d : D} {b : Bool} (r : RepO w xv H Hf o v as) (e : o.toD = some d) (t : truth d = some b) : TruV w.K v H b := by
  have emp : ∀ {ds : List D} {vs : List V}, Reps w Hf ds vs → (!vs.isEmpty) = !ds.isEmpty := by
    intro ds vs r
    cases ds with
    | nil => rw [Reps.nil_iff.mp r]; rfl
    | cons d ds => obtain ⟨v, r, rfl, _⟩ := Reps.cons_iff.mp r; rfl
  cases o with
  | fz x =>
    cases e
    have r := r.2
    cases d with
    | non => cases t; rw [Rep.non_iff.mp r]; rfl
    | bl b => cases t; rw [Rep.bl_iff.mp r]; rfl
    | int i =>
      cases t
      rw [Rep.int_iff.mp r]
      show decide (i ≠ 0) = (i != 0)
      rw [Bool.eq_iff_iff]
      simp
    | str x => cases t
    | tup ds =>
      cases t
      obtain ⟨a, vs, rfl, s, rr⟩ := Rep.tup_iff.mp r
      exact .inr (.inl ⟨vs, l.sqT w s, (emp rr).symm⟩)
    | lst ds =>
      cases t
      obtain ⟨a, vs, rfl, s, rr⟩ := Rep.lst_iff.mp r
      exact .inl ⟨vs, .inl (l.rd s), (emp rr).symm⟩
    | obj c ds => cases t
    | scr ns => cases t
  | own ds =>
    cases e
    cases t
    obtain ⟨a, vs, rfl, _, h1, h2, h3⟩ := r
    exact .inl ⟨vs, SqL.of h1, (emp h3).symm⟩
  | own2 rs =>
    cases e
    cases t
    obtain ⟨a, vs, as', rfl, _, h1, h2, h3⟩ := r
    refine .inl ⟨vs, SqL.of h1, ?_⟩
    have hl := rows_atI.rows_length h3
    cases rs with
    | nil => cases vs with
      | nil => rfl
      | cons _ _ => simp at hl
    | cons r rs => cases vs with
      | nil => simp at hl
      | cons _ _ => rfl
  | _ => cases e
def plainT : Expr → Bool
  | .UnaryOp .Not _ _ => false
  | .BoolOp .. => false
  | .IfExp .. => false
  | .Compare .. => false
  | _ => true
theorem isTrue_of {x : Expr} {env : Env} (h : plainT x = true) : ∀ whole, isTrue x env whole = (do let v ← whole; standAt x.pos; holding [v] (truthy v)) := by
  intro whole
  cases x with
  | UnaryOp op a p => cases op <;> first | rfl | cases h
  | _ => first | rfl | cases h
/-- an expression whose test is its value's truth -/
theorem SE.st {e : E} (h : SE w c e) (hp : ∀ sc x, kE c sc e x = true → plainT x = true) : ST w c e := fun xv X sc Fx W cn x k => by
  refine PT.imp (pt_truth (h xv X sc Fx W cn x true k) (isTrue_of (hp sc x k))) fun σ H Q ⟨Hf, Γ, a, q⟩ => ?_
  refine ⟨Hf, Γ, a, (wpR.bind.mp q).imp fun o eo q v H' Hf' g r => ?_⟩
  obtain ⟨b, e, q⟩ := wpR.ofO.mp q
  obtain ⟨d, e1, e2⟩ := Option.bind_eq_some_iff.mp e
  obtain ⟨as, r, _⟩ := r
  exact ⟨b, by rw [cn.hK]; exact truth_of g.lf r e1 e2, q H' Hf' g⟩
theorem se_cmp {op : Cop} {a b : E} (ha : SE w c a) (hb : SE w c b) : SE w c (.cmp op a b) := (bo_cmp ha hb).se
theorem ev_cmp_bl {op : Cop} {a b : E} : ∀ Fx Γ pk o, ev Fx (.cmp op a b) Γ pk = .ok o → ∃ b, o = .fz (.bl b) := fun Fx Γ pk o h => by
  unfold ev at h
  cases q : argm (isPath a) (ev Fx a Γ true) with
  | ok x =>
    rw [q] at h
    simp only [R.bind_ok] at h
    cases q2 : argm (isPath b) (ev Fx b Γ true) with
    | ok y => rw [q2] at h; exact cmpD_bl h
    | ex c p => rw [q2] at h; cases h
    | bad => rw [q2] at h; cases h
  | ex c p => rw [q] at h; cases h
  | bad => rw [q] at h; cases h
theorem st_cmp {op : Cop} {a b : E} (ha : SE w c a) (hb : SE w c b) : ST w c (.cmp op a b) := (bo_cmp ha hb).st ev_cmp_bl
theorem rb {α β : Type} {r : R α} {f : α → R β} {b : β} (h : r.bind f = .ok b) : ∃ a, r = .ok a ∧ f a = .ok b := by
  cases r with
  | ok a => exact ⟨a, rfl, h⟩
  | ex c p => cases h
  | bad => cases h
theorem ev_chain_bl {o1 o2 : Cop} {a b d : E} : ∀ Fx Γ pk o, ev Fx (.chain o1 o2 a b d) Γ pk = .ok o → ∃ b, o = .fz (.bl b) := fun Fx Γ pk o h => by
  unfold ev at h
  obtain ⟨x, _, h⟩ := rb h
  obtain ⟨y, _, h⟩ := rb h
  obtain ⟨r, _, h⟩ := rb h
  cases r with
  | true => obtain ⟨z, _, h⟩ := rb h; exact cmpD_bl h
  | false => cases h; exact ⟨_, rfl⟩
theorem st_chain {o1 o2 : Cop} {a b d : E} (ha : SE w c a) (hb : SE w c b) (hd : SE w c d) : ST w c (.chain o1 o2 a b d) := (bo_chain ha hb hd).st ev_chain_bl
/-! ### is, and, or, not, if -/
theorem isn_dec {H Hf : Hp} {d : D} {v : V} (l : Le Hf H) (h : Arg w H Hf d v) : decide (v = V.non) = d.isNon := by
  have no : ∀ {d : D} {v : V}, Rep w Hf d v → d ≠ .non → v ≠ V.non := by
    intro d v r n z
    subst z
    cases d with
    | non => exact n rfl
    | bl b => cases Rep.bl_iff.mp r
    | int b => cases Rep.int_iff.mp r
    | str b => cases Rep.str_iff.mp r
    | tup b => obtain ⟨_, _, e, _⟩ := Rep.tup_iff.mp r; cases e
    | lst b => obtain ⟨_, _, e, _⟩ := Rep.lst_iff.mp r; cases e
    | obj _ b => obtain ⟨_, _, _, e, _⟩ := Rep.obj_iff.mp r; cases e
    | scr b => obtain ⟨_, e, _⟩ := Rep.scr_iff.mp r; cases e
  have yes : ∀ {d : D}, d ≠ .non → d.isNon = false := by
    intro d n
    cases d <;> first | rfl | exact absurd rfl n
  rcases h with (h | ⟨_, _, _, rfl, rfl, _⟩) | ⟨_, _, _, _, rfl, rfl, _⟩
  · by_cases e : d = .non
    · subst e
      have e2 := Rep.non_iff.mp h
      subst e2
      rfl
    · rw [yes e]
      exact decide_eq_false (no h e)
  · rfl
  · rfl
theorem bo_isN {a : E} {yes : Bool} (ha : SE w c a) : BO w c (.isN a yes) := fun xv X sc Fx W cn x pk h => by
  unfold kE kIsN at h
  split at h
  · obtain ⟨h1, h2⟩ := an h
    have e := of_decide_eq_true h1
    subst e
    have pa := pe_G cn.hK (ha xv X sc Fx W cn _ true h2)
    cases yes with
    | true =>
      refine ⟨_, pe_cmpR op_isN pa pe_non (nomark _), pt_cmpR op_isN pa pe_non (nomark _), fun σ H Q ⟨Hf, Γ, at_, q⟩ => ?_⟩
      refine ⟨Hf, Γ, at_, (wpR.bind.mp q).imp fun dx _ q v1 H1 Hf1 g1 o1 => ⟨rfl, ?_⟩⟩
      rw [isn_dec g1.lf o1.1]
      have e : dx.1.isNon = (dx.1.isNon == true) := by cases dx.1.isNon <;> rfl
      rw [e]
      exact q _ H1 Hf1 g1 (res_fz (Rep.bl_iff.mpr rfl))
    | false =>
      refine ⟨_, pe_cmpR op_notN pa pe_non (nomark _), pt_cmpR op_notN pa pe_non (nomark _), fun σ H Q ⟨Hf, Γ, at_, q⟩ => ?_⟩
      refine ⟨Hf, Γ, at_, (wpR.bind.mp q).imp fun dx _ q v1 H1 Hf1 g1 o1 => ⟨rfl, ?_⟩⟩
      rw [isn_dec g1.lf o1.1]
      have e : (!dx.1.isNon) = (dx.1.isNon == false) := by cases dx.1.isNon <;> rfl
      rw [e]
      exact q _ H1 Hf1 g1 (res_fz (Rep.bl_iff.mpr rfl))
  · exact nb h
theorem ev_isN_bl {a : E} {yes : Bool} : ∀ Fx Γ pk o, ev Fx (.isN a yes) Γ pk = .ok o → ∃ b, o = .fz (.bl b) := fun Fx Γ pk o h => by
  unfold ev at h
  obtain ⟨x, _, h⟩ := rb h
  cases h
  exact ⟨_, rfl⟩
theorem bo_isB {a : E} {b yes : Bool} (ha : SE w c a) : BO w c (.isB a b yes) := fun xv X sc Fx W cn x pk h => by
  unfold kE kIsB at h
  split at h
  · obtain ⟨h1, h2⟩ := an h
    obtain ⟨h3, h4⟩ := an h2
    have e := of_decide_eq_true h1
    subst e
    have e := beq_iff_eq.mp h3
    subst e
    have pa := pe_B cn.hK (ha xv X sc Fx W cn _ true h4)
    cases yes with
    | true =>
      refine ⟨_, pe_cmpR op_is_bl pa pe_bl (nomark _), pt_cmpR op_is_bl pa pe_bl (nomark _), fun σ H Q ⟨Hf, Γ, at_, q⟩ => ?_⟩
      refine ⟨Hf, Γ, at_, (wpR.bind.mp q).imp fun dx _ q v1 H1 Hf1 g1 o1 => ⟨dx, b, o1, rfl, ?_⟩⟩
      have e : decide (dx = b) = ((dx == b) == true) := by cases dx <;> cases b <;> rfl
      rw [e]
      exact q _ H1 Hf1 g1 (res_fz (Rep.bl_iff.mpr rfl))
    | false =>
      refine ⟨_, pe_cmpR op_isnot_bl pa pe_bl (nomark _), pt_cmpR op_isnot_bl pa pe_bl (nomark _), fun σ H Q ⟨Hf, Γ, at_, q⟩ => ?_⟩
      refine ⟨Hf, Γ, at_, (wpR.bind.mp q).imp fun dx _ q v1 H1 Hf1 g1 o1 => ⟨dx, b, o1, rfl, ?_⟩⟩
      have e : (!decide (dx = b)) = ((dx == b) == false) := by cases dx <;> cases b <;> rfl
      rw [e]
      exact q _ H1 Hf1 g1 (res_fz (Rep.bl_iff.mpr rfl))
  · exact nb h
theorem ev_isB_bl {a : E} {b yes : Bool} : ∀ Fx Γ pk o, ev Fx (.isB a b yes) Γ pk = .ok o → ∃ b, o = .fz (.bl b) := fun Fx Γ pk o h => by
  unfold ev at h
  obtain ⟨x, _, h⟩ := rb h
  cases h
  exact ⟨_, rfl⟩
theorem res_bl {H0 H Hf : Hp} {p : Bool} {i : Bool} : Res w xv H0 H Hf p (.fz (.bl i)) (.bl i) := res_fz (Rep.bl_iff.mpr rfl)
theorem se_and {a b : E} (ha : SE w c a) (hb : SE w c b) : SE w c (.andE a b) := fun xv X sc Fx W cn x pk h => by
  unfold kE kAnd at h
  split at h
  · obtain ⟨h1, h2⟩ := an h
    refine PE.imp (pe_and (pe_B cn.hK (ha xv X sc Fx W cn _ true h1)) (pe_B cn.hK (hb xv X sc Fx W cn _ true h2))) fun σ H Q ⟨Hf, Γ, at_, q⟩ => ?_
    refine ⟨Hf, Γ, at_, (wpR.bind.mp q).imp fun dx _ q v1 H1 Hf1 g1 o1 => ⟨dx, o1, ?_⟩⟩
    cases dx with
    | true => exact ⟨Hf1, Γ, at_.mono cn.xvo g1, (wpR.bind.mp q).mono g1 fun dy _ q v2 H2 Hf2 g2 o2 => by rw [o2]; exact q _ H2 Hf2 (g1.trans g2) res_bl⟩
    | false => exact q _ H1 Hf1 g1 res_bl
  · exact nb h
theorem se_or {a b : E} (ha : SE w c a) (hb : SE w c b) : SE w c (.orE a b) := fun xv X sc Fx W cn x pk h => by
  unfold kE kOr at h
  split at h
  · obtain ⟨h1, h2⟩ := an h
    refine PE.imp (pe_or (pe_B cn.hK (ha xv X sc Fx W cn _ true h1)) (pe_B cn.hK (hb xv X sc Fx W cn _ true h2))) fun σ H Q ⟨Hf, Γ, at_, q⟩ => ?_
    refine ⟨Hf, Γ, at_, (wpR.bind.mp q).imp fun dx _ q v1 H1 Hf1 g1 o1 => ⟨dx, o1, ?_⟩⟩
    cases dx with
    | false => exact ⟨Hf1, Γ, at_.mono cn.xvo g1, (wpR.bind.mp q).mono g1 fun dy _ q v2 H2 Hf2 g2 o2 => by rw [o2]; exact q _ H2 Hf2 (g1.trans g2) res_bl⟩
    | true => exact q _ H1 Hf1 g1 res_bl
  · exact nb h
theorem se_one {a : E} (ha : SE w c a) : SE w c (.one a) := fun xv X sc Fx W cn x pk h => by
  unfold kE kOne at h
  split at h
  · refine PE.imp (pe_one (pe_B cn.hK (ha xv X sc Fx W cn _ true h))) fun σ H Q ⟨Hf, Γ, at_, q⟩ => ?_
    exact ⟨Hf, Γ, at_, (wpR.bind.mp q).imp fun dx _ q v1 H1 Hf1 g1 o1 => by rw [o1]; exact q _ H1 Hf1 g1 res_bl⟩
  · exact nb h
/-- the truth of what is a truth value -/
theorem tru_asB {σ : L2.St} {H Hf : Hp} {r : R OD} {k : Bool → Prop} (h : wpR w W σ H Hf (asB r) k) : wpR w W σ H Hf (tru r) k := by
  refine wpR.bind.mpr ((wpR.bind.mp h).imp fun o _ q => ?_)
  cases o with
  | fz d =>
    cases d with
    | bl b => exact q
    | _ => exact q.elim
  | _ => exact q.elim
theorem tru_bl {σ : L2.St} {H Hf : Hp} {r : R Bool} {f : Bool → Bool} {k : Bool → Prop} (h : wpR w W σ H Hf (tru (r.bind fun b => .ok (.fz (.bl (f b))))) k) : wpR w W σ H Hf r fun b => k (f b) :=
  (wpR.bind.mp (wpR.bind.mp h)).imp fun b _ q => q
theorem st_not {a : E} (ha : ST w c a) : ST w c (.notE a) := fun xv X sc Fx W cn x h => by
  unfold kE kNot at h
  split at h
  · refine PT.imp (pt_not (ha xv X sc Fx W cn _ h)) fun σ H Q ⟨Hf, Γ, at_, q⟩ => ?_
    exact ⟨Hf, Γ, at_, (tru_bl (f := fun b => !b) q).imp fun b _ q H' Hf' g => q H' Hf' g⟩
  · exact nb h
def SW (w : Wd) (c : Ck) (e : E) : Prop := ∀ (xv : XV) (X : Cx) (sc : Scope) (Fx : MP.Fx) (W : WX), CnE w c xv X sc Fx W → ∀ op xs p, kE c sc e (.BoolOp op xs p) = true → PW X (.BoolOp op xs p) (tT w xv W Fx e)
theorem sw_vac {e : E} (h : ∀ sc op xs p, kE c sc e (.BoolOp op xs p) = false) : SW w c e := fun xv X sc Fx W cn op xs p k => by
  rw [h] at k
  exact nb k
theorem PW.imp {X : Cx} {e : Expr} {t t' : TT} (h : PW X e t) (i : ∀ σ H Q, t' σ H Q → t σ H Q) : PW X e t' :=
  ⟨fun wh pins s σ H Q I hq => h.run wh pins s σ H Q I (i σ H Q hq)⟩
theorem sw_one {a : E} (ha : ST w c a) : SW w c (.one a) := fun xv X sc Fx W cn op xs p h => by
  unfold kE kOne at h
  split at h
  · rename_i heq
    cases heq
    have pa := ha xv X sc Fx W cn _ h
    have im : ∀ σ H Q, tT w xv W Fx (.one a) σ H Q → tT w xv W Fx a σ H Q := fun σ H Q ⟨Hf, Γ, at_, q⟩ =>
      ⟨Hf, Γ, at_, tru_asB ((tru_bl (f := fun b => b) q).imp fun b _ q H' Hf' g => q H' Hf' g)⟩
    cases op with
    | And => exact PW.imp (pw_and1 pa) im
    | Or => exact PW.imp (pw_or1 pa) im
  · exact nb h
theorem sw_and {a b : E} (ha : ST w c a) (hb : SW w c b) : SW w c (.andE a b) := fun xv X sc Fx W cn op xs p h => by
  unfold kE kAnd at h
  split at h
  · rename_i heq
    cases heq
    obtain ⟨h1, h2⟩ := an h
    refine PW.imp (pw_and (ha xv X sc Fx W cn _ h1) (hb xv X sc Fx W cn _ _ _ h2)) fun σ H Q ⟨Hf, Γ, at_, q⟩ => ?_
    refine ⟨Hf, Γ, at_, tru_asB ((wpR.bind.mp (wpR.bind.mp q)).imp fun d _ q H1 Hf1 g1 => ?_)⟩
    cases d with
    | true => exact ⟨Hf1, Γ, at_.mono cn.xvo g1, tru_asB (wpR.mono g1 (wpR.bind.mp q) fun b _ q H' Hf' g => q H' Hf' (g1.trans g))⟩
    | false => exact q H1 Hf1 g1
  · exact nb h
theorem sw_or {a b : E} (ha : ST w c a) (hb : SW w c b) : SW w c (.orE a b) := fun xv X sc Fx W cn op xs p h => by
  unfold kE kOr at h
  split at h
  · rename_i heq
    cases heq
    obtain ⟨h1, h2⟩ := an h
    refine PW.imp (pw_or (ha xv X sc Fx W cn _ h1) (hb xv X sc Fx W cn _ _ _ h2)) fun σ H Q ⟨Hf, Γ, at_, q⟩ => ?_
    refine ⟨Hf, Γ, at_, tru_asB ((wpR.bind.mp (wpR.bind.mp q)).imp fun d _ q H1 Hf1 g1 => ?_)⟩
    cases d with
    | false => exact ⟨Hf1, Γ, at_.mono cn.xvo g1, tru_asB (wpR.mono g1 (wpR.bind.mp q) fun b _ q H' Hf' g => q H' Hf' (g1.trans g))⟩
    | true => exact q H1 Hf1 g1
  · exact nb h
theorem SW.st {e : E} (h : SW w c e) (hb : ∀ sc x, kE c sc e x = true → ∃ op xs p, x = .BoolOp op xs p) : ST w c e := fun xv X sc Fx W cn x k => by
  obtain ⟨op, xs, p, rfl⟩ := hb sc x k
  exact (h xv X sc Fx W cn op xs p k).pt
theorem and_bo {a b : E} : ∀ sc x, kE c sc (.andE a b) x = true → ∃ op xs p, x = .BoolOp op xs p := fun sc x h => by
  unfold kE kAnd at h
  split at h
  · exact ⟨_, _, _, rfl⟩
  · exact nb h
theorem or_bo {a b : E} : ∀ sc x, kE c sc (.orE a b) x = true → ∃ op xs p, x = .BoolOp op xs p := fun sc x h => by
  unfold kE kOr at h
  split at h
  · exact ⟨_, _, _, rfl⟩
  · exact nb h
theorem one_bo {a : E} : ∀ sc x, kE c sc (.one a) x = true → ∃ op xs p, x = .BoolOp op xs p := fun sc x h => by
  unfold kE kOne at h
  split at h
  · exact ⟨_, _, _, rfl⟩
  · exact nb h
theorem se_not {a : E} (ha : SE w c a) : SE w c (.notE a) := fun xv X sc Fx W cn x pk h => by
  unfold kE kNot at h
  split at h
  · refine PE.imp (pe_notT (ha xv X sc Fx W cn _ true h)) fun σ H Q ⟨Hf, Γ, at_, q⟩ => ?_
    refine ⟨Hf, Γ, at_, (wpR.bind.mp (wpR.bind.mp q)).imp fun o eo q v H' Hf' g r => ?_⟩
    obtain ⟨b, e, q⟩ := wpR.ofO.mp q
    obtain ⟨d, e1, e2⟩ := Option.bind_eq_some_iff.mp e
    obtain ⟨as, r, _⟩ := r
    exact ⟨b, by rw [cn.hK]; exact truth_of g.lf r e1 e2, q _ H' Hf' g res_bl⟩
  · exact nb h
theorem se_ite {t a b : E} (ht : ST w c t) (ha : SE w c a) (hb : SE w c b) : SE w c (.ite t a b) := fun xv X sc Fx W cn x pk h => by
  unfold kE kIte at h
  split at h
  · obtain ⟨h1, h2⟩ := an h
    obtain ⟨h2, h3⟩ := an h2
    refine PE.imp (pe_ifExp (ht xv X sc Fx W cn _ h1) (ha xv X sc Fx W cn _ false h2) (hb xv X sc Fx W cn _ false h3)) fun σ H Q ⟨Hf, Γ, at_, q⟩ => ?_
    refine ⟨Hf, Γ, at_, (wpR.bind.mp q).imp fun dx _ q H1 Hf1 g1 => ?_⟩
    cases dx with
    | true => exact ⟨Hf1, Γ, at_.mono cn.xvo g1, wpR.mono g1 q fun o _ q v H' Hf' g r => q v H' Hf' (g1.trans g) (by rw [Bool.and_false] at r; exact r.back g1)⟩
    | false => exact ⟨Hf1, Γ, at_.mono cn.xvo g1, wpR.mono g1 q fun o _ q v H' Hf' g r => q v H' Hf' (g1.trans g) (by rw [Bool.and_false] at r; exact r.back g1)⟩
  · exact nb h
theorem tru_congr {o o' : OD} (h : o'.toD = o.toD) : tru (.ok o') = tru (.ok o) := by
  unfold tru
  rw [R.bind_ok, R.bind_ok, h]
/-- peeking tells the same truth -/
theorem tru_pk {e : E} {Fx : MP.Fx} {Γ : List OD} : ∀ {σ : L2.St} {H Hf : Hp} {k : Bool → Prop}, wpR w W σ H Hf (tru (ev Fx e Γ false)) k → wpR w W σ H Hf (tru (ev Fx e Γ true)) k := by
  intro σ H Hf k h
  cases e with
  | var i =>
    unfold ev at h ⊢
    cases q : Γ[i]? with
    | none => rw [q] at h; exact h.elim
    | some o =>
      rw [q] at h
      cases o with
      | fz d => exact h
      | _ => exact h.elim
  | sub a i =>
    unfold ev at h ⊢
    refine wpR.bind.mpr (wpR.bind.mpr ((wpR.bind.mp (wpR.bind.mp h)).imp fun o _ h => wpR.bind.mpr ((wpR.bind.mp h).imp fun j _ h => ?_)))
    have h' : wpR w W σ H Hf (tru (subD false (isPath a) o j)) k := wpR.bind.mpr h
    refine wpR.bind.mp (show wpR w W σ H Hf (tru (subD true (isPath a) o j)) k from ?_)
    cases o with
    | own2 rs =>
      unfold subD at h' ⊢
      simp only at h' ⊢
      cases q : MP.atI rs j with
      | none => rw [q] at h'; exact h'.elim
      | some r =>
        obtain ⟨b, ds⟩ := r
        rw [q] at h'
        cases b with
        | true => exact h'
        | false =>
          simp only at h' ⊢
          cases p : isPath a with
          | true => rw [p] at h'; exact h'.elim
          | false => rw [p] at h'; exact h'
    | fz d => cases d <;> exact h'
    | _ => exact h'
  | _ => unfold ev at h ⊢; exact h
theorem st_ite {t a b : E} (ht : ST w c t) (ha : ST w c a) (hb : ST w c b) : ST w c (.ite t a b) := fun xv X sc Fx W cn x h => by
  unfold kE kIte at h
  split at h
  · obtain ⟨h1, h2⟩ := an h
    obtain ⟨h2, h3⟩ := an h2
    refine ⟨fun pins s σ H Q I hq => ?_⟩
    obtain ⟨Hf, Γ, at_, q⟩ := hq
    refine PyProof.Rows.isTrue_IfExp (thn ((ht xv X sc Fx W cn _ h1).run pins s σ H (fun d H1 => if d = true then tT w xv W Fx a σ H1 Q else tT w xv W Fx b σ H1 Q) I ?_) fun d s1 hd => ?_)
    · refine ⟨Hf, Γ, at_, (wpR.bind.mp (wpR.bind.mp q)).imp fun d _ q H1 Hf1 g1 => ?_⟩
      cases d with
      | true => exact ⟨Hf1, Γ, at_.mono cn.xvo g1, tru_pk (wpR.mono g1 (wpR.bind.mpr q) fun b _ q H' Hf' g => q H' Hf' (g1.trans g))⟩
      | false => exact ⟨Hf1, Γ, at_.mono cn.xvo g1, tru_pk (wpR.mono g1 (wpR.bind.mpr q) fun b _ q H' Hf' g => q H' Hf' (g1.trans g))⟩
    · obtain ⟨H1, I1, q1⟩ := hd
      cases d with
      | true => exact (ha xv X sc Fx W cn _ h2).run pins s1 σ H1 Q I1 q1
      | false => exact (hb xv X sc Fx W cn _ h3).run pins s1 σ H1 Q I1 q1
  · exact nb h
end
end MP

end

section
set_option Elab.async false
set_option linter.all false
set_option maxRecDepth 100000
namespace MP
open PySem PySem.Spec L2
section
variable {w : Wd} {c : Ck} {xv : XV} {X : Cx} {sc : Scope} {Fx : MP.Fx} {W : WX}
/-! ### lists of expressions -/
def All2 {α : Type} (K : α → V → Prop) : List α → List V → Prop
  | [], vs => vs = []
  | a :: as, vs => ∃ v r, vs = v :: r ∧ K a v ∧ All2 K as r
theorem All2.imp {α : Type} {K K' : α → V → Prop} (h : ∀ a v, K a v → K' a v) : ∀ {as : List α} {vs : List V}, All2 K as vs → All2 K' as vs
  | [], _, q => q
  | a :: as, vs, q => by
    obtain ⟨v, r, e, k, q⟩ := q
    exact ⟨v, r, e, h _ _ k, All2.imp h q⟩
theorem star_of {e : Expr} {es : List Expr} {env : Env} (h : plainE e = true) : starEach (e :: es) env = (false, eval e env) :: starEach es env := by
  cases e <;> first | rfl | cases h
theorem kcons {e : E} {es : List E} {xs : List Expr} (h : kEs c sc (e :: es) xs = true) : ∃ x r, xs = x :: r ∧ plainE x = true ∧ kE c sc e x = true ∧ kEs c sc es r = true := by
  unfold kEs kCons at h
  split at h
  · obtain ⟨h1, h2⟩ := an h
    obtain ⟨h2, h3⟩ := an h2
    exact ⟨_, _, rfl, h1, h2, h3⟩
  · exact nb h
theorem knil {xs : List Expr} (h : kEs c sc [] xs = true) : xs = [] := by
  unfold kEs kNil at h
  split at h
  · rfl
  · exact nb h
theorem kplain : ∀ {es : List E} {xs : List Expr}, kEs c sc es xs = true → ∀ x ∈ xs, plainE x = true
  | [], xs, h => by rw [knil h]; intro x m; cases m
  | e :: es, xs, h => by
    obtain ⟨x, r, rfl, h1, _, h3⟩ := kcons h
    intro y m
    rcases List.mem_cons.mp m with rfl | m
    · exact h1
    · exact kplain h3 y m
theorem klen : ∀ {es : List E} {xs : List Expr}, kEs c sc es xs = true → xs.length = es.length
  | [], xs, h => by rw [knil h]; rfl
  | e :: es, xs, h => by
    obtain ⟨x, r, rfl, h1, _, h3⟩ := kcons h
    rw [List.length_cons, List.length_cons, klen h3]
theorem pa_gen {α : Type} (cn : CnE w c xv X sc Fx W) {r : E → List OD → R α} {rs : List E → List OD → R (List α)} {K : Hp → Hp → α → V → Prop} (hm : ∀ {H Hf H' Hf'}, Gr H Hf H' Hf' → ∀ a v, K H Hf a v → K H' Hf' a v)
    (h0 : ∀ Γ, rs [] Γ = .ok []) (h1 : ∀ e es Γ, rs (e :: es) Γ = (r e Γ).bind fun d => (rs es Γ).bind fun ds => .ok (d :: ds)) :
    ∀ {es : List E} {xs : List Expr}, (∀ e ∈ es, ∀ x, kE c sc e x = true → PE X x (tR w xv W (r e) fun _ H Hf a v => K H Hf a v)) → kEs c sc es xs = true →
      PA X xs fun σ H Q => ∃ Hf Γ, At w xv Γ σ H Hf ∧ wpR w W σ H Hf (rs es Γ) fun as => ∀ vs H' Hf', Gr H Hf H' Hf' → All2 (K H' Hf') as vs → Q vs H'
  | [], xs, _, h => by
    rw [knil h]
    exact PA.imp pa_nil fun σ H Q ⟨Hf, Γ, a, q⟩ => by rw [h0] at q; exact q [] H Hf (Gr.refl a.lf) rfl
  | e :: es, xs, he, h => by
    obtain ⟨x, r', rfl, hp, h2, h3⟩ := kcons h
    refine PA.imp (pa_cons (he e List.mem_cons_self x h2) (pa_gen cn hm h0 h1 (fun e m => he e (List.mem_cons_of_mem _ m)) h3) (star_of hp)) fun σ H Q ⟨Hf, Γ, a, q⟩ => ?_
    rw [h1] at q
    refine ⟨Hf, Γ, a, (wpR.bind.mp q).imp fun d _ q v1 H1 Hf1 g1 k1 => ?_⟩
    refine ⟨Hf1, Γ, a.mono cn.xvo g1, (wpR.bind.mp q).mono g1 fun ds _ q vs H2 Hf2 g2 k2 => ?_⟩
    exact q _ H2 Hf2 (g1.trans g2) ⟨v1, vs, rfl, hm g2 _ _ k1, k2⟩
theorem ArgB.mono {H Hf H' Hf' : Hp} (g : Gr H Hf H' Hf') (d : D × Bool) (v : V) (h : ArgB w H Hf d v) : ArgB w H' Hf' d v := by
  obtain ⟨h1, as, h2, h3, h4⟩ := h
  refine ⟨h1.mono g, as, h2, fun a m => ?_, Rep.mono w (fun a o e => ?_) _ _ h4⟩
  · obtain ⟨n, us, e⟩ := h3 a m
    exact ⟨g.ext.none e n, us, g.le _ _ e⟩
  · by_cases m : a ∈ as
    · rw [frzH_in m] at e ⊢
      exact g.le _ _ e
    · rw [frzH_out m] at e ⊢
      exact g.ext.le _ _ e
theorem all2_reps {H Hf : Hp} : ∀ {ds : List D} {vs : List V}, All2 (fun d v => Rep w Hf d v) ds vs → Reps w Hf ds vs
  | [], _, h => Reps.nil_iff.mpr h
  | d :: ds, vs, h => by
    obtain ⟨v, r, e, k, q⟩ := h
    exact Reps.cons_iff.mpr ⟨v, r, e, k, all2_reps (H := H) q⟩
theorem all2_opns {H Hf : Hp} : ∀ {ds : List D} {vs : List V}, All2 (fun d v => Opn w H Hf d v) ds vs → Opns w H Hf ds vs
  | [], _, h => h
  | d :: ds, vs, h => by
    obtain ⟨v, r, e, k, q⟩ := h
    exact ⟨v, r, e, k, all2_opns q⟩
theorem All2.length {α : Type} {K : α → V → Prop} : ∀ {as : List α} {vs : List V}, All2 K as vs → vs.length = as.length
  | [], _, h => by rw [show _ = [] from h]; rfl
  | a :: as, vs, h => by
    obtain ⟨v, r, rfl, k, q⟩ := h
    rw [List.length_cons, List.length_cons, All2.length q]
def tFs (w : Wd) (xv : XV) (W : WX) (Fx : MP.Fx) (es : List E) : TA := fun σ H Q => ∃ Hf Γ, At w xv Γ σ H Hf ∧ wpR w W σ H Hf (evF Fx es Γ) fun ds => ∀ vs H' Hf', Gr H Hf H' Hf' → All2 (fun d v => Rep w Hf' d v) ds vs → Q vs H'
def tOs (w : Wd) (xv : XV) (W : WX) (Fx : MP.Fx) (es : List E) : TA := fun σ H Q => ∃ Hf Γ, At w xv Γ σ H Hf ∧ wpR w W σ H Hf (evOs Fx es Γ) fun ds => ∀ vs H' Hf', Gr H Hf H' Hf' → All2 (fun d v => Opn w H' Hf' d v) ds vs → Q vs H'
def tAs (w : Wd) (xv : XV) (W : WX) (Fx : MP.Fx) (es : List E) : TA := fun σ H Q => ∃ Hf Γ, At w xv Γ σ H Hf ∧ wpR w W σ H Hf (evAs Fx es Γ) fun ds => ∀ vs H' Hf', Gr H Hf H' Hf' → All2 (fun d v => ArgB w H' Hf' d v) ds vs → Q vs H'
theorem pa_F (cn : CnE w c xv X sc Fx W) {es : List E} {xs : List Expr} (he : ∀ e ∈ es, SE w c e) (h : kEs c sc es xs = true) : PA X xs (tFs w xv W Fx es) :=
  pa_gen cn (K := fun _ Hf d v => Rep w Hf d v) (fun g a v k => Rep.mono w g.ext.le _ _ k) (fun Γ => by unfold evF; rfl) (fun e es Γ => by rw [evF]) (fun e m x k => pe_F cn.hK (he e m xv X sc Fx W cn x false k)) h
theorem pa_O (cn : CnE w c xv X sc Fx W) {es : List E} {xs : List Expr} (he : ∀ e ∈ es, SE w c e) (h : kEs c sc es xs = true) : PA X xs (tOs w xv W Fx es) :=
  pa_gen cn (K := fun H Hf d v => Opn w H Hf d v) (fun g a v k => k.mono g) (fun Γ => by unfold evOs; rfl) (fun e es Γ => by rw [evOs]) (fun e m x k => pe_O cn.hK (he e m xv X sc Fx W cn x true k)) h
theorem pa_A (cn : CnE w c xv X sc Fx W) {es : List E} {xs : List Expr} (he : ∀ e ∈ es, SE w c e) (h : kEs c sc es xs = true) : PA X xs (tAs w xv W Fx es) :=
  pa_gen cn (K := fun H Hf d v => ArgB w H Hf d v) (fun g a v k => k.mono g) (fun Γ => by unfold evAs; rfl) (fun e es Γ => by rw [evAs]) (fun e m x k => pe_G cn.hK (he e m xv X sc Fx W cn x true k)) h
theorem small1000 {n : Nat} (h : n ≤ 1000) : n ≤ sizeLine := by rw [sizeLine_eq]; omega
theorem evF_len {es : List E} : ∀ {Γ : List OD} {ds : List D}, evF Fx es Γ = .ok ds → ds.length = es.length := by
  induction es with
  | nil => intro Γ ds h; unfold evF at h; cases h; rfl
  | cons e es ih =>
    intro Γ ds h
    rw [evF] at h
    obtain ⟨d, _, h⟩ := rb h
    obtain ⟨ds', h1, h⟩ := rb h
    cases h
    rw [List.length_cons, List.length_cons, ih h1]
theorem se_tup {es : List E} (he : ∀ e ∈ es, SE w c e) : SE w c (.tup es) := fun xv X sc Fx W cn x pk h => by
  unfold kE kTup at h
  split at h
  · obtain ⟨h1, h2⟩ := an h
    have hl := of_decide_eq_true h1
    refine PE.imp (pe_tup (pa_F cn he h2)) fun σ H Q ⟨Hf, Γ, a, q⟩ => ?_
    refine ⟨Hf, Γ, a, (wpR.bind.mp q).imp fun ds eds q vs H1 Hf1 g1 k1 => ⟨?_, fun p hp => ?_⟩⟩
    · rw [k1.length, evF_len eds]
      exact small1000 hl
    · have g2 := gr_newf (o := .tup vs) g1.lf hp
      exact q _ _ _ (g1.trans g2) (res_fz (rep_tup g1.lf hp (all2_reps (H := H1) k1)))
  · exact nb h
/-! ### a list of what was reckoned -/
def ResL (w : Wd) (xv : XV) (H Hf : Hp) : List OD → List V → List Addr → Prop
  | [], vs, as => vs = [] ∧ as = []
  | o :: os, vs, as => ∃ v r as1 as2, vs = v :: r ∧ as = as1 ++ as2 ∧ RepO w xv H Hf o v as1 ∧ ResL w xv H Hf os r as2
theorem ResL.mono {H Hf H' Hf' : Hp} (hx : XvOk xv) (g : Gr H Hf H' Hf') : ∀ {os : List OD} {vs : List V} {as : List Addr}, ResL w xv H Hf os vs as → ResL w xv H' Hf' os vs as
  | [], _, _, h => h
  | o :: os, vs, as, h => by
    obtain ⟨v, r, as1, as2, e1, e2, h1, h2⟩ := h
    exact ⟨v, r, as1, as2, e1, e2, h1.mono hx g, h2.mono hx g⟩
theorem repO_alive {H Hf : Hp} {o : OD} {v : V} {as : List Addr} (h : RepO w xv H Hf o v as) : ∀ a ∈ as, H a ≠ none := by
  intro a m
  cases o with
  | un => rw [show as = [] from h] at m; cases m
  | fz d => rw [h.1] at m; cases m
  | own ds =>
    obtain ⟨b, vs, _, rfl, h1, _⟩ := h
    rw [List.mem_singleton.mp m, h1]
    exact fun z => nomatch z
  | own2 rs =>
    obtain ⟨b, vs, as', _, rfl, h1, _, h3⟩ := h
    rcases List.mem_cons.mp m with rfl | m
    · rw [h1]; exact fun z => nomatch z
    · obtain ⟨us, e⟩ := h3.there a m
      rw [e]; exact fun z => nomatch z
  | oi c fs =>
    obtain ⟨b, dx, fvs, _, rfl, h1, _⟩ := h
    rw [List.mem_singleton.mp m, h1]
    exact fun z => nomatch z
  | xv c p => rw [h.1] at m; cases m
theorem resL_alive {H Hf : Hp} : ∀ {os : List OD} {vs : List V} {as : List Addr}, ResL w xv H Hf os vs as → ∀ a ∈ as, H a ≠ none
  | [], _, _, h => fun a m => by rw [h.2] at m; cases m
  | o :: os, vs, as, h => by
    obtain ⟨v, r, as1, as2, e1, rfl, h1, h2⟩ := h
    intro a m
    rcases List.mem_append.mp m with m | m
    · exact repO_alive h1 a m
    · exact resL_alive h2 a m
theorem resL_none {H Hf : Hp} : ∀ {os : List OD} {vs : List V} {as : List Addr}, ResL w xv H Hf os vs as → ∀ a ∈ as, Hf a = none
  | [], _, _, h => fun a m => by rw [h.2] at m; cases m
  | o :: os, vs, as, h => by
    obtain ⟨v, r, as1, as2, e1, rfl, h1, h2⟩ := h
    intro a m
    rcases List.mem_append.mp m with m | m
    · exact RepO.none h1 a m
    · exact resL_none h2 a m
/-- fresh, each its own -/
structure NewL (w : Wd) (xv : XV) (H0 H Hf : Hp) (os : List OD) (vs : List V) : Prop where
  ex : ∃ as, ResL w xv H Hf os vs as ∧ as.Nodup ∧ ∀ a ∈ as, H0 a = none
theorem NewL.nil {H0 H Hf : Hp} : NewL w xv H0 H Hf [] [] := ⟨[], ⟨rfl, rfl⟩, List.nodup_nil, fun a m => nomatch m⟩
/-- one more, reckoned ahead of the others -/
theorem NewL.cons {H0 Hf0 H1 Hf1 H Hf : Hp} (hx : XvOk xv) (g1 : Gr H0 Hf0 H1 Hf1) (g2 : Gr H1 Hf1 H Hf) {o : OD} {os : List OD} {v : V} {vs : List V} (h1 : Res w xv H0 H1 Hf1 false o v) (h2 : NewL w xv H1 H Hf os vs) : NewL w xv H0 H Hf (o :: os) (v :: vs) := by
  obtain ⟨as1, r1, n1, f1⟩ := h1
  obtain ⟨as2, r2, n2, f2⟩ := h2.ex
  refine ⟨as1 ++ as2, ⟨v, vs, as1, as2, rfl, rfl, r1.mono hx g2, r2⟩, List.nodup_append.mpr ⟨n1, n2, fun a m1 b m2 e => ?_⟩, fun a m => ?_⟩
  · subst e
    exact repO_alive r1 a m1 (f2 a m2)
  · rcases List.mem_append.mp m with m | m
    · exact f1 rfl a m
    · exact g1.none_of (f2 a m)
/-- one more, reckoned behind the others -/
theorem NewL.snoc {H0 Hf0 H1 Hf1 H Hf : Hp} (hx : XvOk xv) (g1 : Gr H0 Hf0 H1 Hf1) (g2 : Gr H1 Hf1 H Hf) {o : OD} {os : List OD} {v : V} {vs : List V} (h2 : NewL w xv H0 H1 Hf1 os vs) (h1 : Res w xv H1 H Hf false o v) : NewL w xv H0 H Hf (os ++ [o]) (vs ++ [v]) := by
  obtain ⟨as1, r1, n1, f1⟩ := h1
  obtain ⟨as2, r2, n2, f2⟩ := h2.ex
  have r3 := r2.mono hx g2
  have app : ∀ {os : List OD} {vs : List V} {as : List Addr}, ResL w xv H Hf os vs as → ResL w xv H Hf (os ++ [o]) (vs ++ [v]) (as ++ as1) := by
    intro os
    induction os with
    | nil =>
      intro vs as h
      obtain ⟨rfl, rfl⟩ := h
      exact ⟨v, [], as1, [], rfl, by simp, r1, rfl, rfl⟩
    | cons p os ih =>
      intro vs as h
      obtain ⟨u, r, b1, b2, rfl, rfl, k1, k2⟩ := h
      exact ⟨u, r ++ [v], b1, b2 ++ as1, rfl, by rw [List.append_assoc], k1, ih k2⟩
  refine ⟨as2 ++ as1, app r3, List.nodup_append.mpr ⟨n2, n1, fun a m1 b m2 e => ?_⟩, fun a m => ?_⟩
  · subst e
    exact resL_alive r2 a m1 (f1 rfl a m2)
  · rcases List.mem_append.mp m with m | m
    · exact f2 a m
    · exact g1.none_of (f1 rfl a m)
theorem allO_cons {α : Type} {f : OD → Option α} {a : OD} {as : List OD} {bs : List α} (h : allO f (a :: as) = some bs) : ∃ b r, bs = b :: r ∧ f a = some b ∧ allO f as = some r := by
  unfold allO at h
  obtain ⟨b, e1, h⟩ := Option.bind_eq_some_iff.mp h
  obtain ⟨r, e2, h⟩ := Option.map_eq_some_iff.mp h
  exact ⟨b, r, h.symm, e1, e2⟩
theorem allO_nil {α : Type} {f : OD → Option α} {bs : List α} (h : allO f [] = some bs) : bs = [] := by
  cases h
  rfl
theorem resL_fz {H Hf : Hp} : ∀ {os : List OD} {vs : List V} {as : List Addr} {ds : List D}, ResL w xv H Hf os vs as → allO fzO os = some ds → Reps w Hf ds vs
  | [], vs, as, ds, h, e => by rw [allO_nil e, h.1]; exact Reps.nil_iff.mpr rfl
  | o :: os, vs, as, ds, h, e => by
    obtain ⟨v, r, as1, as2, rfl, rfl, h1, h2⟩ := h
    obtain ⟨d, ds', rfl, e1, e2⟩ := allO_cons e
    cases o with
    | fz d' => cases e1; exact Reps.cons_iff.mpr ⟨v, r, rfl, h1.2, resL_fz h2 e2⟩
    | _ => cases e1
theorem resL_own {H Hf : Hp} : ∀ {os : List OD} {vs : List V} {as : List Addr} {rs : List (Bool × List D)}, ResL w xv H Hf os vs as → allO owO os = some rs → RepRows w H Hf rs vs as
  | [], vs, as, ds, h, e => by rw [allO_nil e]; exact h
  | o :: os, vs, as, ds, h, e => by
    obtain ⟨v, r, as1, as2, rfl, rfl, h1, h2⟩ := h
    obtain ⟨d, ds', rfl, e1, e2⟩ := allO_cons e
    cases o with
    | own d' =>
      cases e1
      obtain ⟨a, us, rfl, rfl, k1, k2, k3⟩ := h1
      exact ⟨a, us, r, as2, rfl, rfl, k1, k2, k3, resL_own h2 e2⟩
    | _ => cases e1
theorem resL_frz {H Hf G : Hp} (l : Le Hf G) : ∀ {os : List OD} {vs : List V} {as : List Addr} {ds : List D}, ResL w xv H Hf os vs as → (∀ a ∈ as, G a = H a) → allO OD.toD os = some ds → Reps w G ds vs
  | [], vs, as, ds, h, _, e => by rw [allO_nil e, h.1]; exact Reps.nil_iff.mpr rfl
  | o :: os, vs, as, ds, h, f, e => by
    obtain ⟨v, r, as1, as2, rfl, rfl, h1, h2⟩ := h
    obtain ⟨d, ds', rfl, e1, e2⟩ := allO_cons e
    refine Reps.cons_iff.mpr ⟨v, r, rfl, Rep.mono w (fun a u q => ?_) _ _ (h1.frz e1), resL_frz l h2 (fun a m => f a (List.mem_append_right _ m)) e2⟩
    by_cases m : a ∈ as1
    · rw [frzH_in m] at q
      rw [f a (List.mem_append_left _ m)]
      exact q
    · rw [frzH_out m] at q
      exact l _ _ q
theorem rows_upd {H Hf : Hp} {p : Addr} {u : HO} (hp : H p = none) {rs : List (Bool × List D)} {vs : List V} {as : List Addr} (l : Le Hf H) (h : RepRows w H Hf rs vs as) : RepRows w (upd H p u) Hf rs vs as := h.mono (gr_new l hp)
/-- a new list of these -/
theorem mk_res {H0 Hf0 H Hf : Hp} {os : List OD} {vs : List V} {o : OD} {p : Addr} (g : Gr H0 Hf0 H Hf) (h : NewL w xv H0 H Hf os vs) (e : mkOwn os = some o) (hp : H p = none) :
    ∃ Hf', Gr H0 Hf0 (upd H p (.lst vs)) Hf' ∧ Res w xv H0 (upd H p (.lst vs)) Hf' false o (.ref p) := by
  obtain ⟨as, r, nd, f⟩ := h.ex
  have hp0 : H0 p = none := g.none_of hp
  have g2 : Gr H0 Hf0 (upd H p (.lst vs)) Hf := g.trans (gr_new g.lf hp)
  have npas : p ∉ as := fun m => resL_alive r p m hp
  unfold mkOwn at e
  split at e
  · rename_i ds q
    cases e
    exact ⟨Hf, g2, [p], ⟨p, vs, rfl, rfl, upd_same, g.lf.none hp, resL_fz r q⟩, by simp, fun _ a m => by rw [List.mem_singleton.mp m]; exact hp0⟩
  · split at e
    · rename_i rs q
      cases e
      refine ⟨Hf, g2, p :: as, ⟨p, vs, as, rfl, rfl, upd_same, g.lf.none hp, rows_upd hp g.lf (resL_own r q)⟩, List.nodup_cons.mpr ⟨npas, nd⟩, fun _ a m => ?_⟩
      rcases List.mem_cons.mp m with rfl | m
      · exact hp0
      · exact f a m
    · obtain ⟨ds, q, rfl⟩ := Option.map_eq_some_iff.mp e
      have n := resL_none r
      have g3 := frzH_gr g n f
      refine ⟨frzH H Hf as, g3.trans (gr_new g3.lf hp), [p], ⟨p, vs, rfl, rfl, upd_same, g3.lf.none hp, resL_frz (frzH_le n) r (fun a m => frzH_in m) q⟩, by simp, fun _ a m => by rw [List.mem_singleton.mp m]; exact hp0⟩
theorem pa_V (cn : CnE w c xv X sc Fx W) : ∀ {es : List E} {xs : List Expr}, (∀ e ∈ es, SE w c e) → kEs c sc es xs = true →
    PA X xs fun σ H Q => ∃ Hf Γ, At w xv Γ σ H Hf ∧ wpR w W σ H Hf (evV Fx es Γ) fun os => ∀ vs H' Hf', Gr H Hf H' Hf' → NewL w xv H H' Hf' os vs → vs.length = es.length → Q vs H'
  | [], xs, _, h => by
    rw [knil h]
    exact PA.imp pa_nil fun σ H Q ⟨Hf, Γ, a, q⟩ => by unfold evV at q; exact q [] H Hf (Gr.refl a.lf) NewL.nil rfl
  | e :: es, xs, he, h => by
    obtain ⟨x, r', rfl, hp, h2, h3⟩ := kcons h
    refine PA.imp (pa_cons (he e List.mem_cons_self xv X sc Fx W cn x false h2) (pa_V cn (fun e m => he e (List.mem_cons_of_mem _ m)) h3) (star_of hp)) fun σ H Q ⟨Hf, Γ, a, q⟩ => ?_
    rw [evV] at q
    refine ⟨Hf, Γ, a, (wpR.bind.mp q).imp fun d _ q v1 H1 Hf1 g1 k1 => ?_⟩
    rw [Bool.and_false] at k1
    refine ⟨Hf1, Γ, a.mono cn.xvo g1, (wpR.bind.mp q).mono g1 fun ds _ q vs H2 Hf2 g2 k2 l2 => ?_⟩
    exact q _ H2 Hf2 (g1.trans g2) (NewL.cons cn.xvo g1 g2 k1 k2) (by rw [List.length_cons, List.length_cons, l2])
theorem se_lst {es : List E} (he : ∀ e ∈ es, SE w c e) : SE w c (.lst es) := fun xv X sc Fx W cn x pk h => by
  unfold kE kLst at h
  split at h
  · obtain ⟨h1, h2⟩ := an h
    have hl := of_decide_eq_true h1
    refine PE.imp (pe_lst (pa_V cn he h2)) fun σ H Q ⟨Hf, Γ, a, q⟩ => ?_
    refine ⟨Hf, Γ, a, (wpR.bind.mp q).imp fun os eos q vs H1 Hf1 g1 k1 l1 => ⟨?_, fun p hp => ?_⟩⟩
    · rw [l1]
      exact small1000 hl
    · obtain ⟨o, eo, q⟩ := wpR.ofO.mp q
      obtain ⟨Hf2, g2, r2⟩ := mk_res g1 k1 eo hp
      exact q _ _ Hf2 g2 r2
  · exact nb h
end
end MP

end

section
set_option Elab.async false
set_option linter.all false
set_option maxRecDepth 100000
namespace MP
open PySem PySem.Spec L2
section
variable {w : Wd} {c : Ck} {xv : XV} {X : Cx} {sc : Scope} {Fx : MP.Fx} {W : WX}
theorem Res.mono {H0 H Hf H' Hf' : Hp} (hx : XvOk xv) (g : Gr H Hf H' Hf') {p : Bool} {o : OD} {v : V} (r : Res w xv H0 H Hf p o v) : Res w xv H0 H' Hf' p o v := by
  obtain ⟨as, h1, h2, h3⟩ := r
  exact ⟨as, h1.mono hx g, h2, h3⟩
theorem plainIx {y : Expr} (h : plainE y = true) : PlainIx y := fun o i => by
  cases y <;> first | rfl | cases h
theorem subD_ne {pk p : Bool} {o : OD} {j : Int} : ∀ c q, subD pk p o j ≠ .ex c q := fun c q h => by
  have no : ∀ {α : Type} {x : Option α} {c : Nat} {q : Option D}, R.ofO x ≠ .ex c q := by
    intro α x c q h
    cases x <;> cases h
  unfold subD at h
  repeat' split at h
  all_goals first | (cases h; done) | exact no h
theorem se_sub {a i : E} (ha : SE w c a) (hi : SE w c i) : SE w c (.sub a i) := fun xv X sc Fx W cn x pk h => by
  unfold kE kSub at h
  split at h
  · obtain ⟨h1, h2⟩ := an h
    obtain ⟨h2, h3⟩ := an h2
    have pa := ha xv X sc Fx W cn _ true h1
    have pi := pe_O cn.hK (hi xv X sc Fx W cn _ true h3)
    refine PE.imp (pe_ix (ix_list.or ix_tup) pa pi (plainIx h2)) fun σ H Q ⟨Hf, Γ, at_, q⟩ => ?_
    refine ⟨Hf, Γ, at_, (wpR.bind.mp q).imp fun o _ q v1 H1 Hf1 g1 o1 => ?_⟩
    refine ⟨Hf1, Γ, at_.mono cn.xvo g1, (asI_op (wpR.bind.mp q)).mono g1 fun d _ q v2 H2 Hf2 g2 o2 => ?_⟩
    obtain ⟨j, rfl, q⟩ := q
    obtain ⟨o', e, q⟩ := wp_ok q subD_ne
    rw [Bool.and_true] at o1
    obtain ⟨b, vs, u, rfl, s, eI, Hf3, g3, r3⟩ := (o1.mono cn.xvo g2).sub (g1.trans g2) e
    have ej := o2.int
    subst ej
    have qq := q u H2 Hf3 g3 r3
    rw [← cn.hK] at s
    rcases s with s | s
    · exact .inl ⟨b, vs, j, u, rfl, rfl, s, eI, qq⟩
    · exact .inr ⟨b, vs, j, u, rfl, rfl, s, eI, qq⟩
  · exact nb h
/-! ### slices -/
theorem slcD_ne {x : D} {l h : Option Int} : ∀ c q, slcD x l h ≠ .ex c q := fun c q e => by
  unfold slcD at e
  split at e <;> cases e
theorem sIx_eq (n d : Nat) (i : Option Int) : MP.sIx n d i = HT.sIx n d i := by cases i <;> rfl
theorem cut_reps {H : Hp} {ds : List D} {vs : List V} (r : Reps w H ds vs) (l h : Option Int) : Reps w H (MP.cutL ds l h) (L2.cutV vs l h) := by
  unfold MP.cutL L2.cutV
  rw [r.length]
  simp only [sIx_eq]
  exact (r.drop _).take _
theorem cut_all {H : Hp} {ds : List D} {l h : Option Int} (e : HT.sIx ds.length 0 l = 0 ∧ HT.sIx ds.length ds.length h = ds.length) : MP.cutL ds l h = ds := by
  unfold MP.cutL
  rw [sIx_eq, sIx_eq, e.1, e.2]
  simp
theorem PO.imp {X : Cx} {x : Option Expr} {t t' : TO} (h : PO X x t) (i : ∀ σ H Q, t' σ H Q → t σ H Q) : PO X x t' := ⟨fun pins s σ H Q I q => h.run pins s σ H Q I (i _ _ _ q)⟩
/-- a slice's part -/
theorem po_O (cn : CnE w c xv X sc Fx W) {e : E} (he : SE w c e) {x : Option Expr} (h : kPart (isNon e) (kE c sc e) x = true) :
    PO X x fun σ H Q => ∃ Hf Γ, At w xv Γ σ H Hf ∧ wpR w W σ H Hf (part (isNon e) (oper (isPath e) (ev Fx e Γ true))) fun l => ∀ H' Hf', Gr H Hf H' Hf' → Q l H' := by
  cases x with
  | none =>
    refine PO.imp po_none fun σ H Q ⟨Hf, Γ, a, q⟩ => ?_
    have h : isNon e = true := h
    rw [h] at q
    exact q H Hf (Gr.refl a.lf)
  | some x =>
    obtain ⟨h1, h2⟩ := an h
    have h1 : isNon e = false := by simpa using h1
    refine PO.imp (po_some (pe_O cn.hK (he xv X sc Fx W cn x true h2))) fun σ H Q ⟨Hf, Γ, a, q⟩ => ?_
    rw [h1] at q
    have q : wpR w W σ H Hf ((asI (oper (isPath e) (ev Fx e Γ true))).bind fun i => .ok (some i)) fun l => ∀ H' Hf', Gr H Hf H' Hf' → Q l H' := q
    refine ⟨Hf, Γ, a, (asI_op (wpR.bind.mp q)).imp fun d _ q v H' Hf' g o => ?_⟩
    obtain ⟨i, rfl, q⟩ := q
    exact ⟨i, o.int, q H' Hf' g⟩
theorem se_slc {a l u : E} (ha : SE w c a) (hl : SE w c l) (hu : SE w c u) : SE w c (.slc a l u) := fun xv X sc Fx W cn x pk h => by
  unfold kE kSlc at h
  split at h
  · obtain ⟨h1, h2⟩ := an h
    obtain ⟨h2, h3⟩ := an h2
    have pa := pe_O cn.hK (ha xv X sc Fx W cn _ true h1)
    refine PE.imp (pe_slice (sl_list.or sl_tupA) pa (po_O cn hl h2) (po_O cn hu h3)) fun σ H Q ⟨Hf, Γ, at_, q⟩ => ?_
    refine ⟨Hf, Γ, at_, (wpR.bind.mp q).imp fun d _ q v1 H1 Hf1 g1 o1 => ?_⟩
    refine ⟨Hf1, Γ, at_.mono cn.xvo g1, (wpR.bind.mp q).mono g1 fun lo _ q H2 Hf2 g2 => ?_⟩
    have g12 := g1.trans g2
    refine ⟨Hf2, Γ, at_.mono cn.xvo g12, (wpR.bind.mp q).mono g12 fun hi _ q H3 Hf3 g3 => ?_⟩
    have g := g12.trans g3
    have o3 := (o1.mono g2).mono g3
    cases d with
    | lst ds =>
      obtain ⟨b, vs, rfl, s, rr⟩ := o3.lst g3.lf
      refine .inl ⟨b, vs, rfl, .inl s, ?_⟩
      exact Out.own g3.lf (cut_reps rr lo hi) (out_of cn g q)
    | tup ds =>
      obtain ⟨b, vs, rfl, s, rr⟩ := o3.tup g3.lf
      refine .inr ⟨b, vs, rfl, by rw [cn.hK]; exact s, fun e => ?_, fun _ => Out.tup g3.lf (cut_reps rr lo hi) (out_of cn g q)⟩
      have k : Out w xv H3 Hf3 (.fz (.tup ds)) Q := by
        have := out_of cn g q
        rw [rr.length] at e
        rwa [cut_all (H := H) e] at this
      rcases o3 with o3 | ⟨_, _, _, e2, _⟩
      · exact Out.fz g3.lf o3 k
      · cases e2
    | _ => exact q.elim
  · exact nb h
/-! ### fields -/
theorem abase {e : Expr} {f : Str} {env : Env} {whole : Sem Value} (h : notSuper e = true) : attributeBase e f env whole = whole := by
  unfold attributeBase
  split
  · cases h
  · rfl
theorem look_zip : ∀ {fs : List Str} {vs : List V} {i : Nat} {f : Str} {v : V}, fs.Nodup → fs[i]? = some f → vs[i]? = some v → (fs.zip vs).lookup f = some v
  | [], _, _, _, _, _, e, _ => by simp at e
  | g :: fs, [], _, _, _, _, _, e => by simp at e
  | g :: fs, u :: vs, i, f, v, nd, e1, e2 => by
    obtain ⟨n1, n2⟩ := List.nodup_cons.mp nd
    cases i with
    | zero =>
      simp at e1 e2
      subst e1 e2
      simp
    | succ i =>
      simp only [List.getElem?_cons_succ] at e1 e2
      have ne : f ≠ g := fun z => n1 (by rw [← z]; exact List.mem_of_getElem? e1)
      rw [List.zip_cons_cons, List.lookup_cons, beq_false_of_ne ne]
      exact look_zip n2 e1 e2
def rAtM (w : Wd) (xv : XV) (Fx : MP.Fx) (f : Nat) : V → Hp → VK → Prop := fun x H Q => (∃ a C dx fs v, x = .ref a ∧ H a = some (.ins C dx fs) ∧ Cls w.K C ∧ NoAttr w.K C (w.nm f) ∧ fs.lookup (w.nm f) = some v ∧ Q v H) ∨ rXa w xv Fx f x H Q
theorem pe_at {f : Str} {e : Expr} {r : V → Hp → VK → Prop} {te : TE} {pos : Pos} (hr : AtR X f r) (he : PE X e te) (hn : notSuper e = true) : PE X (.Attribute e f pos) fun σ H Q => te σ H fun x H1 => r x H1 Q := by
  refine ⟨fun pins s σ H Q I h => ?_⟩
  exact attr_of (abase hn) (thn (he.run pins s σ H _ I h) fun u s1 ⟨x, H1, I1, rx, q⟩ => hr pins s1 σ H1 x u Q I1 rx q)
theorem atM (cn : CnE w c xv X sc Fx W) (f : Nat) : AtR X (w.nm f) (rAtM w xv Fx f) := fun pins s σ H x u Q I rx h => by
  rcases h with ⟨a, C, dx, fs, v, rfl, e, k, n, l, q⟩ | h
  · cases rx
    rw [← cn.hK] at k n
    exact getattr_ok I e k n l fun u s' I' ru => ⟨v, H, I', ru, q⟩
  · exact cn.xat f pins s σ H x u Q I rx h
theorem attrD_ne {f : Nat} {o : OD} : ∀ c q, attrD Fx f o ≠ .ex c q := fun c q h => by
  unfold attrD at h
  split at h
  · generalize (Option.map OD.fz _) = r at h
    cases r <;> cases h
  · split at h <;> cases h
  · cases h
theorem se_attr {a : E} {f : Nat} (ha : SE w c a) : SE w c (.attr a f) := fun xv X sc Fx W cn x pk h => by
  unfold kE kAttr at h
  split at h
  · obtain ⟨h1, h2⟩ := an h
    obtain ⟨h4, h3⟩ := an h2
    have e := of_decide_eq_true h3
    subst e
    rw [cn.nm]
    refine PE.imp (pe_at (atM cn f) (ha xv X sc Fx W cn _ true h1) h4) fun σ H Q ⟨Hf, Γ, at_, q⟩ => ?_
    refine ⟨Hf, Γ, at_, (wpR.bind.mp q).imp fun o eo q v1 H1 Hf1 g1 r1 => ?_⟩
    clear eo
    obtain ⟨o', e, q⟩ := wp_ok q attrD_ne
    obtain ⟨as, r1, _⟩ := r1
    unfold attrD at e
    split at e
    · rename_i k ds
      cases e1 : Fx.fld k f with
      | none => rw [e1] at e; cases e
      | some i =>
        cases e2 : ds[i]? with
        | none => rw [e1, Option.bind_some, e2] at e; cases e
        | some d =>
          rw [e1, Option.bind_some, e2] at e
          cases e
          obtain ⟨f1, f2, f3, f4⟩ := cn.fld k f i e1
          obtain ⟨b, dx, vs, rfl, hb, _, rr⟩ := Rep.obj_iff.mp r1.2
          obtain ⟨v, e3, rv⟩ := rr.get e2
          exact .inl ⟨b, _, dx, _, v, rfl, g1.lf _ _ hb, f1, f2, look_zip f3 f4 e3, q v H1 Hf1 g1 (res_fz rv)⟩
    · rename_i k p
      split at e
      · rename_i e1
        cases e
        exact .inr ⟨Hf1, k, p, g1.lf, r1.2, e1, fun v rv => q v H1 Hf1 g1 (res_fz rv)⟩
      · cases e
    · cases e
  · exact nb h
end
end MP

end

section
set_option Elab.async false
set_option linter.all false
set_option maxRecDepth 100000
namespace MP
open PySem PySem.Spec L2
section
variable {w : Wd} {c : Ck} {xv : XV} {X : Cx} {sc : Scope} {Fx : MP.Fx} {W : WX}
theorem star_no {env : Env} {pos : Pos} : ∀ {es : List Expr}, (∀ x ∈ es, plainE x = true) → (backTo pos (starEach es env)).any (·.1) = false
  | [], _ => rfl
  | e :: es, h => by
    rw [star_of (h e List.mem_cons_self)]
    show (false || (backTo pos (starEach es env)).any (·.1)) = false
    rw [star_no fun x m => h x (List.mem_cons_of_mem _ m)]
    rfl
theorem boot_b : ∀ f : Blt, f ≠ .gcd → bootBuiltins (bname f) = some (match f with
    | .int => .type "int"
    | .list => .type "list"
    | .tuple => .type "tuple"
    | f => .builtin (match f with
      | .len => "len" | .abs => "abs" | .sum => "sum" | .min => "min" | .max => "max" | .sorted => "sorted" | .any => "any" | .all => "all" | _ => "")) := by
  intro f h1
  cases f <;> first | exact absurd rfl h1 | decide +kernel
theorem bltD_ne {f : Blt} {xs : List D} : ∀ c q, bltD f xs ≠ .ex c q := fun c q h => by
  have no : ∀ {α β : Type} {x : Option α} {g : α → β} {c : Nat} {q : Option D}, (R.ofO x).map g ≠ .ex c q := by
    intro α β x g c q h
    cases x <;> cases h
  unfold bltD at h
  cases f <;> simp only [lenD, absD, intD, sumD, maxD, minD, listD, tupleD, sortedD, anyD, allD, gcdD] at h <;> (repeat' split at h) <;> first | (cases h; done) | exact no h
theorem se_blt {f : Blt} {es : List E} (he : ∀ e ∈ es, SE w c e) : SE w c (.blt f es) := fun xv X sc Fx W cn x pk h => by
  unfold kE kBlt at h
  split at h
  · rename_i nm p y xs pos
    obtain ⟨h1, h⟩ := an h
    obtain ⟨h2, h⟩ := an h
    obtain ⟨h3, h4⟩ := an h
    have e := of_decide_eq_true h2
    subst e
    have pa := pa_O cn he h4
    have pl := kplain h4
    have hs := star_of (es := xs) (env := X.env) (pl y List.mem_cons_self)
    have hn := star_no (env := X.env) (pos := pos) fun x m => pl x (List.mem_cons_of_mem y m)
    have hg := cn.gl _ h3
    have hdb := glb_of h3
    have fin : (X.calm = true ∨ f.anyhow = true → PE X (.Call (.Name (bname f) p) (y :: xs) [] pos) (tCB (rBlt w xv f) (tOs w xv W Fx es))) → PE X (.Call (.Name (bname f) p) (y :: xs) [] pos) (tE w xv W Fx (.blt f es) pk) := fun k => by
      cases hc : (Fx.calm || f.anyhow) with
      | false => exact ⟨fun pins s σ H Q I ⟨Hf, Γ, at_, q⟩ => by unfold ev at q; rw [hc] at q; exact q.elim⟩
      | true =>
        have hc' : X.calm = true ∨ f.anyhow = true := by
          rcases Bool.or_eq_true_iff.mp hc with z | z
          · exact .inl (cn.calm z)
          · exact .inr z
        refine PE.imp (k hc') fun σ H Q ⟨Hf, Γ, at_, q⟩ => ?_
        unfold ev at q
        rw [hc] at q
        have q : wpR w W σ H Hf ((evOs Fx es Γ).bind fun xs => bltD f xs) fun o => ∀ v H' Hf', Gr H Hf H' Hf' → Res w xv H H' Hf' false o v → Q v H' := q
        refine ⟨Hf, Γ, at_, (wpR.bind.mp q).imp fun ds _ q vs H1 Hf1 g1 k1 => ?_⟩
        obtain ⟨o, e, q⟩ := wp_ok q bltD_ne
        exact ⟨Hf1, ds, o, g1.lf, all2_opns k1, e, out_of cn g1 q⟩
    refine fin fun hc => ?_
    have hC : f.anyhow = false → X.calm = true := fun z => by
      rcases hc with hc | hc
      · exact hc
      · rw [z] at hc; cases hc
    have nm : (bname f) ≠ "__name__" := by cases f <;> decide
    cases f with
    | gcd => exact pe_callBfun blt_gcd hg (cn.gcd h1) pa hdb hs hn
    | len => exact pe_callB (blt_len cn.hK) hg (cn.bl _ h1 fun z => nomatch z) (boot_b .len fun z => nomatch z) pa nm hdb hs hn
    | abs => exact pe_callB blt_abs hg (cn.bl _ h1 fun z => nomatch z) (boot_b .abs fun z => nomatch z) pa nm hdb hs hn
    | sum => exact pe_callB (blt_sum cn.hK (hC rfl)) hg (cn.bl _ h1 fun z => nomatch z) (boot_b .sum fun z => nomatch z) pa nm hdb hs hn
    | min => exact pe_callB (blt_min cn.hK (hC rfl)) hg (cn.bl _ h1 fun z => nomatch z) (boot_b .min fun z => nomatch z) pa nm hdb hs hn
    | max => exact pe_callB (blt_max cn.hK (hC rfl)) hg (cn.bl _ h1 fun z => nomatch z) (boot_b .max fun z => nomatch z) pa nm hdb hs hn
    | sorted => exact pe_callB (blt_sorted cn.hK) hg (cn.bl _ h1 fun z => nomatch z) (boot_b .sorted fun z => nomatch z) pa nm hdb hs hn
    | any => exact pe_callB (blt_any (hC rfl)) hg (cn.bl _ h1 fun z => nomatch z) (boot_b .any fun z => nomatch z) pa nm hdb hs hn
    | all => exact pe_callB (blt_all (hC rfl)) hg (cn.bl _ h1 fun z => nomatch z) (boot_b .all fun z => nomatch z) pa nm hdb hs hn
    | int => exact pe_callTy blt_int hg (cn.bl _ h1 fun z => nomatch z) (boot_b .int fun z => nomatch z) pa nm hdb hs hn
    | list => exact pe_callTy (blt_list cn.hK) hg (cn.bl _ h1 fun z => nomatch z) (boot_b .list fun z => nomatch z) pa nm hdb hs hn
    | tuple => exact pe_callTy (blt_tuple cn.hK) hg (cn.bl _ h1 fun z => nomatch z) (boot_b .tuple fun z => nomatch z) pa nm hdb hs hn
  · exact nb h
end
end MP

end

section
set_option Elab.async false
set_option linter.all false
set_option maxRecDepth 100000
namespace MP
open PySem PySem.Spec L2
section
variable {w : Wd} {c : Ck} {xv : XV} {X : Cx} {sc : Scope} {Fx : MP.Fx} {W : WX}
theorem intBits_eq (i : Int) : (Builtin.Int.intBits i : Nat) = bitLen i := by
  unfold Builtin.Int.intBits bitLen
  by_cases h : i = 0 <;> simp [h]
theorem se_bm {m : Bm} {a : E} {es : List E} (ha : SE w c a) : SE w c (.bm m a es) := fun xv X sc Fx W cn x pk h => by
  unfold kE at h
  cases m <;> cases es <;> first | exact nb h | skip
  unfold kBits at h
  simp only at h
  split at h
  · obtain ⟨h1, h⟩ := an h
    obtain ⟨h2, h⟩ := an h
    obtain ⟨h3, h4⟩ := an h
    have e := of_decide_eq_true h3
    subst e
    refine PE.imp (pe_bits (pe_O cn.hK (ha xv X sc Fx W cn _ true h1)) (abase h2) h4) fun σ H Q ⟨Hf, Γ, at_, q⟩ => ?_
    refine ⟨Hf, Γ, at_, (wpR.bind.mp q).imp fun d _ q v H1 Hf1 g1 o1 => ?_⟩
    unfold evOs at q
    simp only [R.bind_ok] at q
    cases d with
    | int i => exact ⟨i, o1.int, by rw [intBits_eq]; exact q _ H1 Hf1 g1 res_int⟩
    | _ => exact q.elim
  · exact nb h
/-! ### isinstance -/
theorem tyName_ne (t : Ty) (h : ∀ k, t ≠ .cls k) (h2 : ∀ k, t ≠ .exc k) (h3 : t ≠ .tnone) : tyName w.nm t ≠ "__name__" ∧ bootBuiltins (tyName w.nm t) = some (tyVal w t) := by
  cases t with
  | cls k => exact absurd rfl (h k)
  | exc k => exact absurd rfl (h2 k)
  | tnone => exact absurd rfl h3
  | _ => exact ⟨by dsimp only [tyName]; decide, by dsimp only [tyName, tyVal]; decide +kernel⟩
theorem pe_ty (cn : CnE w c xv X sc Fx W) {t : Ty} {x : Str} {p : Pos} (h : kTy c sc t x = true) : PE X (.Name x p) (tC (tyV w t)) := by
  unfold kTy at h
  obtain ⟨h1, h⟩ := an h
  obtain ⟨h2, h3⟩ := an h
  have e := of_decide_eq_true h3
  subst e
  have m := cn.ty t h2
  rw [cn.nm] at h1 ⊢
  have hg := cn.gl _ h1
  have hd := glb_of h1
  cases t with
  | cls k => exact pe_glob hg m rfl hd
  | exc k => exact pe_glob hg m rfl hd
  | tnone => exact m.elim
  | tint => exact pe_bltn hg m (tyName_ne (w := w) .tint (fun _ z => nomatch z) (fun _ z => nomatch z) (fun z => nomatch z)).2 rfl (tyName_ne (w := w) .tint (fun _ z => nomatch z) (fun _ z => nomatch z) (fun z => nomatch z)).1 hd
  | tbool => exact pe_bltn hg m (tyName_ne (w := w) .tbool (fun _ z => nomatch z) (fun _ z => nomatch z) (fun z => nomatch z)).2 rfl (tyName_ne (w := w) .tbool (fun _ z => nomatch z) (fun _ z => nomatch z) (fun z => nomatch z)).1 hd
  | tstr => exact pe_bltn hg m (tyName_ne (w := w) .tstr (fun _ z => nomatch z) (fun _ z => nomatch z) (fun z => nomatch z)).2 rfl (tyName_ne (w := w) .tstr (fun _ z => nomatch z) (fun _ z => nomatch z) (fun z => nomatch z)).1 hd
  | tlist => exact pe_bltn hg m (tyName_ne (w := w) .tlist (fun _ z => nomatch z) (fun _ z => nomatch z) (fun z => nomatch z)).2 rfl (tyName_ne (w := w) .tlist (fun _ z => nomatch z) (fun _ z => nomatch z) (fun z => nomatch z)).1 hd
  | ttuple => exact pe_bltn hg m (tyName_ne (w := w) .ttuple (fun _ z => nomatch z) (fun _ z => nomatch z) (fun z => nomatch z)).2 rfl (tyName_ne (w := w) .ttuple (fun _ z => nomatch z) (fun _ z => nomatch z) (fun z => nomatch z)).1 hd
  | verr => exact pe_bltn hg m (tyName_ne (w := w) .verr (fun _ z => nomatch z) (fun _ z => nomatch z) (fun z => nomatch z)).2 rfl (tyName_ne (w := w) .verr (fun _ z => nomatch z) (fun _ z => nomatch z) (fun z => nomatch z)).1 hd
theorem pa_tys (cn : CnE w c xv X sc Fx W) : ∀ {ts : List Ty} {xs : List Expr}, kTys c sc ts xs = true → PA X xs (fun σ H Q => Q (ts.map (tyV w)) H)
  | [], [], h => pa_nil
  | [], x :: xs, h => nb h
  | t :: ts, [], h => nb h
  | t :: ts, .Name y p :: xs, h => by
    obtain ⟨h1, h2⟩ := an h
    exact PA.imp (pa_cons (pe_ty cn h1) (pa_tys cn h2)) fun σ H Q q => q
theorem kTy_ok {t : Ty} {y : Str} (h : kTy c sc t y = true) : c.ty t = true := by
  unfold kTy at h
  exact (an (an h).2).1
theorem kTys_ok : ∀ {ts : List Ty} {xs : List Expr}, kTys c sc ts xs = true → ∀ t ∈ ts, c.ty t = true
  | [], _, _, t, m => nomatch m
  | t :: ts, [], h, _, _ => nb h
  | t :: ts, .Name y p :: xs, h, u, m => by
    obtain ⟨h1, h2⟩ := an h
    rcases List.mem_cons.mp m with rfl | m
    · exact kTy_ok h1
    · exact kTys_ok h2 u m
theorem se_inst {a : E} {ts : List Ty} (ha : SE w c a) : SE w c (.inst a ts) := fun xv X sc Fx W cn x pk h => by
  unfold kE kInst at h
  split at h
  · rename_i f p x t pos
    obtain ⟨h1, h⟩ := an h
    obtain ⟨h2, h⟩ := an h
    obtain ⟨h3, h⟩ := an h
    obtain ⟨h3', h⟩ := an h
    obtain ⟨h4, h5⟩ := an h
    have e := of_decide_eq_true h1
    subst e
    have hp := ha xv X sc Fx W cn _ true h4
    have hs : ∀ {es : List Expr}, starEach (x :: es) X.env = (false, eval x X.env) :: starEach es X.env := star_of h3
    have hs2 : starEach [t] X.env = (false, eval t X.env) :: starEach [] X.env := star_of h3'
    have hn : (backTo pos (starEach [t] X.env)).any (·.1) = false := by rw [hs2]; rfl
    have hb : bootBuiltins "isinstance" = some (.builtin "isinstance") := by decide +kernel
    unfold kTyE at h5
    split at h5
    · rename_i y py
      cases ts with
      | nil => exact nb h5
      | cons t ts =>
        cases ts with
        | cons _ _ => exact nb h5
        | nil =>
          refine PE.imp (pe_callB cn.is1 (cn.gl _ h2) cn.isi hb (pa_cons hp (pa_cons (pe_ty cn h5) pa_nil hs2) hs) (by decide) (by decide) hs hn) fun σ H Q ⟨Hf, Γ, at_, q⟩ => ?_
          refine ⟨Hf, Γ, at_, (wpR.bind.mp q).imp fun o _ q v H1 Hf1 g1 r1 => ?_⟩
          obtain ⟨as, r1, _⟩ := r1
          obtain ⟨fo, e, q⟩ := wpR.ofO.mp q
          obtain ⟨b, e, rfl⟩ := Option.map_eq_some_iff.mp e
          have e2 : isTy o t Fx.sub = some b := by
            unfold anyTy at e
            cases q : isTy o t Fx.sub with
            | none => rw [q] at e; cases e
            | some b' => rw [q] at e; cases b' <;> (cases e; rfl)
          exact ⟨Hf1, o, v, as, t, b, rfl, kTy_ok h5, g1.lf, r1, e2, q _ H1 Hf1 g1 res_bl⟩
    · rename_i ys _ _
      obtain ⟨h5, h6⟩ := an h5
      obtain ⟨h6, h7⟩ := an h6
      have h6 := of_decide_eq_true h6
      have h7 : ts ≠ [] := fun z => by rw [z] at h7; cases h7
      refine PE.imp (pe_callB cn.isT (cn.gl _ h2) cn.isi hb (pa_cons hp (pa_cons (pe_tup (pa_tys cn h5)) pa_nil hs2) hs) (by decide) (by decide) hs hn) fun σ H Q ⟨Hf, Γ, at_, q⟩ => ?_
      refine ⟨Hf, Γ, at_, (wpR.bind.mp q).imp fun o _ q v H1 Hf1 g1 r1 => ?_⟩
      obtain ⟨as, r1, _⟩ := r1
      obtain ⟨fo, e, q⟩ := wpR.ofO.mp q
      obtain ⟨b, e3, rfl⟩ := Option.map_eq_some_iff.mp e
      refine ⟨by rw [List.length_map]; exact small1000 (by omega), fun tp hp => ?_⟩
      have g2 := gr_newf (o := .tup (ts.map (tyV w))) g1.lf hp
      exact ⟨_, o, v, as, ts, tp, b, rfl, upd_same, h7, kTys_ok h5, g2.lf, r1.mono cn.xvo g2, e3, q _ _ _ (g1.trans g2) res_bl⟩
    · exact nb h5
  · exact nb h
end
end MP

end

section
set_option Elab.async false
set_option linter.all false
set_option maxRecDepth 100000
namespace MP
open PySem PySem.Spec L2
section
variable {w : Wd} {c : Ck} {xv : XV} {X : Cx} {sc : Scope} {Fx : MP.Fx} {W : WX}
/-! ### lending lists of one's own -/
/-- the frozen part without these -/
def lessH (Hf : Hp) (as : List Addr) : Hp := fun a => if a ∈ as then none else Hf a
theorem lessH_in {Hf : Hp} {as : List Addr} {a : Addr} (h : a ∈ as) : lessH Hf as a = none := if_pos h
theorem lessH_out {Hf : Hp} {as : List Addr} {a : Addr} (h : a ∉ as) : lessH Hf as a = Hf a := if_neg h
/-- these are lists -/
def Lsts (Hf : Hp) (as : List Addr) : Prop := ∀ a ∈ as, ∃ us, Hf a = some (.lst us)
theorem less_rd {Hf : Hp} {as : List Addr} (l : Lsts Hf as) {a : Addr} {u : HO} (n : ∀ us, u ≠ .lst us) (h : Rd Hf a u) : Rd (lessH Hf as) a u := by
  have no : a ∉ as := fun m => by
    obtain ⟨us, e⟩ := l a m
    rcases h with h | ⟨o, h⟩
    · rw [e] at h; exact n us (Option.some.inj h).symm
    · rw [e] at h; cases h
  rcases h with h | ⟨o, h⟩
  · exact .inl (by rw [lessH_out no]; exact h)
  · exact .inr ⟨o, by rw [lessH_out no]; exact h⟩
mutual
theorem Rep.less {Hf : Hp} {as : List Addr} (l : Lsts Hf as) : ∀ (d : D) (v : V), d.noL = true → Rep w Hf d v → Rep w (lessH Hf as) d v
  | .non, _, _, h => h
  | .bl _, _, _, h => h
  | .int _, _, _, h => h
  | .str _, _, _, h => h
  | .tup ds, v, n, h => by
    obtain ⟨a, vs, e, s, r⟩ := Rep.tup_iff.mp h
    refine Rep.tup_iff.mpr ⟨a, vs, e, ?_, Reps.less l ds vs n r⟩
    rcases s with s | s
    · exact .inl (less_rd l (fun _ z => nomatch z) s)
    · exact .inr s
  | .lst ds, v, n, h => nomatch n
  | .scr ds, v, n, h => nomatch n
  | .obj c ds, v, n, h => by
    obtain ⟨a, dx, vs, e, s, z, r⟩ := Rep.obj_iff.mp h
    have no : a ∉ as := fun m => by
      obtain ⟨us, e⟩ := l a m
      rw [e] at s; cases s
    exact Rep.obj_iff.mpr ⟨a, dx, vs, e, by rw [lessH_out no]; exact s, z, Reps.less l ds vs n r⟩
theorem Reps.less {Hf : Hp} {as : List Addr} (l : Lsts Hf as) : ∀ (ds : List D) (vs : List V), D.noLs ds = true → Reps w Hf ds vs → Reps w (lessH Hf as) ds vs
  | [], _, _, h => h
  | d :: ds, vs, n, h => by
    obtain ⟨v, r, e, h1, h2⟩ := Reps.cons_iff.mp h
    obtain ⟨n1, n2⟩ := an (show (d.noL && D.noLs ds) = true from n)
    exact Reps.cons_iff.mpr ⟨v, r, e, Rep.less l d v n1 h1, Reps.less l ds r n2 h2⟩
end
theorem less_le {Hf : Hp} {as : List Addr} : Le (lessH Hf as) Hf := fun a o e => by
  by_cases m : a ∈ as
  · rw [lessH_in m] at e; cases e
  · rw [lessH_out m] at e; exact e
theorem less_none {Hf : Hp} {as : List Addr} {a : Addr} (h : Hf a = none) : lessH Hf as a = none := by
  by_cases m : a ∈ as
  · exact lessH_in m
  · rw [lessH_out m]; exact h
theorem rows_less {H Hf : Hp} {as : List Addr} (l : Lsts Hf as) : ∀ {rs : List (Bool × List D)} {vs : List V} {bs : List Addr}, (rs.all fun r => !r.1 && D.noLs r.2) = true → RepRows w H Hf rs vs bs → RepRows w H (lessH Hf as) rs vs bs
  | [], _, _, _, h => h
  | (b, ds) :: rs, vs, bs, n, h => by
    rw [List.all_cons] at n
    obtain ⟨n1, n2⟩ := an n
    obtain ⟨n1, n3⟩ := an n1
    cases b with
    | true => cases n1
    | false =>
      obtain ⟨a, us, r, as', e1, e2, h1, h2, h3, h4⟩ := h
      exact ⟨a, us, r, as', e1, e2, h1, less_none h2, Reps.less l _ _ n3 h3, rows_less l n2 h4⟩
theorem RepO.less {H Hf : Hp} {as : List Addr} (l : Lsts Hf as) {o : OD} {v : V} {bs : List Addr} (n : o.noFL = true) (h : RepO w xv H Hf o v bs) : RepO w xv H (lessH Hf as) o v bs := by
  cases o with
  | fz d => exact ⟨h.1, Rep.less l d v n h.2⟩
  | own ds =>
    obtain ⟨a, vs, e1, e2, h1, h2, h3⟩ := h
    exact ⟨a, vs, e1, e2, h1, less_none h2, Reps.less l _ _ n h3⟩
  | own2 rs =>
    obtain ⟨a, vs, as', e1, e2, h1, h2, h3⟩ := h
    exact ⟨a, vs, as', e1, e2, h1, less_none h2, rows_less l n h3⟩
  | _ => cases n
theorem less_gr {H Hf H' Hf' : Hp} {as : List Addr} (n : ∀ a ∈ as, Hf a = none) (lf : Le Hf H) (g : Gr H (frzH H Hf as) H' Hf') : Gr H Hf H' (lessH Hf' as) := by
  refine ⟨g.le, ⟨fun a o e => ?_, fun a h => ?_⟩, less_le.trans g.lf⟩
  · have no : a ∉ as := fun m => by rw [n a m] at e; cases e
    rw [lessH_out no]
    exact g.ext.le _ _ (frzH_le n a o e)
  · by_cases m : a ∈ as
    · rw [lessH_in m, n a m]
    · rw [lessH_out m, g.ext.old a h, frzH_out m]
theorem RepO.toXv {H Hf : Hp} {o : OD} {v : V} {bs : List Addr} (h : RepO w xv0 H Hf o v bs) : RepO w xv H Hf o v bs := by
  cases o with
  | xv c p => exact h.2.elim
  | _ => exact h
theorem Res.toXv {H0 H Hf : Hp} {p : Bool} {o : OD} {v : V} (h : Res w xv0 H0 H Hf p o v) : Res w xv H0 H Hf p o v := by
  obtain ⟨as, r, h⟩ := h
  exact ⟨as, r.toXv, h⟩
/-- all that is lent -/
theorem lend_all {H Hf : Hp} : ∀ {bs : List (D × Bool)} {vs : List V}, All2 (fun d v => ArgB w H Hf d v) bs vs → ∃ as, (bs.any (·.2) = false → as = []) ∧ (∀ a ∈ as, Hf a = none ∧ ∃ us, H a = some (.lst us)) ∧ Reps w (frzH H Hf as) (bs.map (·.1)) vs
  | [], vs, h => ⟨[], fun _ => rfl, fun a m => (nomatch m), Reps.nil_iff.mpr h⟩
  | b :: bs, vs, h => by
    obtain ⟨v, r, rfl, ⟨_, as1, p1, p2, p3⟩, h2⟩ := h
    obtain ⟨as2, q1, q2, q3⟩ := lend_all h2
    have up : ∀ {as' : List Addr}, (∀ a ∈ as', a ∈ as1 ++ as2) → (∀ a ∈ as1 ++ as2, Hf a = none) → Le (frzH H Hf as') (frzH H Hf (as1 ++ as2)) := by
      intro as' sub n a o e
      by_cases m : a ∈ as'
      · rw [frzH_in (sub a m)]
        rw [frzH_in m] at e
        exact e
      · rw [frzH_out m] at e
        have no : a ∉ as1 ++ as2 := fun z => by rw [n a z] at e; cases e
        rw [frzH_out no]
        exact e
    have n : ∀ a ∈ as1 ++ as2, Hf a = none ∧ ∃ us, H a = some (.lst us) := fun a m => by
      rcases List.mem_append.mp m with m | m
      · exact p2 a m
      · exact q2 a m
    refine ⟨as1 ++ as2, fun e => ?_, n, Reps.cons_iff.mpr ⟨v, r, rfl, Rep.mono w (up (fun a m => List.mem_append_left _ m) fun a m => (n a m).1) _ _ p3, Reps.mono w (up (fun a m => List.mem_append_right _ m) fun a m => (n a m).1) _ _ q3⟩⟩
    rw [List.any_cons] at e
    obtain ⟨e1, e2⟩ := Bool.or_eq_false_iff.mp e
    rw [p1 e1, q1 e2]
    rfl
theorem frzH_nil {H Hf : Hp} : frzH H Hf [] = Hf := funext fun a => frzH_out (by simp)
/-- behind a call that was lent lists -/
theorem lent_out {H0 Hf0 H Hf : Hp} {σ : L2.St} {bs : List (D × Bool)} {as : List Addr} {r : R OD} {Q : VK} (g : Gr H0 Hf0 H Hf) (he : bs.any (·.2) = false → as = []) (ha : ∀ a ∈ as, Hf a = none ∧ ∃ us, H a = some (.lst us))
    (q : wpR w W σ H Hf (lent bs r) fun o => Out w xv H Hf o Q) : wpR w W σ H (frzH H Hf as) r fun o => Out w xv0 H (frzH H Hf as) o Q := by
  have n : ∀ a ∈ as, Hf a = none := fun a m => (ha a m).1
  unfold lent at q
  split at q
  · have ls : ∀ {H' Hf' : Hp}, Gr H (frzH H Hf as) H' Hf' → Lsts Hf' as := fun gg a m => by
      obtain ⟨us, e⟩ := (ha a m).2
      exact ⟨us, gg.ext.le _ _ (by rw [frzH_in m]; exact e)⟩
    cases r with
    | ok o =>
      simp only at q
      split at q
      · rename_i hn
        refine fun v H' Hf' gg rr => ?_
        obtain ⟨cs, r1, r2, r3⟩ := rr
        exact q v H' (lessH Hf' as) (less_gr n g.lf gg) ⟨cs, (r1.less (ls gg) hn).toXv, r2, r3⟩
      · exact q.elim
    | ex k p =>
      refine fun cls d H' Hf' gg x => ?_
      obtain ⟨y, x1, x2, x3, x4⟩ := x
      cases p with
      | none => exact q cls d H' _ (less_gr n g.lf gg) ⟨y, x1, x2, x3, fun z e => nomatch e⟩
      | some p =>
        simp only at q
        split at q
        · rename_i hn
          refine q cls d H' _ (less_gr n g.lf gg) ⟨y, x1, x2, x3, fun z e => ?_⟩
          cases e
          obtain ⟨f, da, v, e2, e3, e4, e5⟩ := x4 p rfl
          refine ⟨f, da, v, e2, e3, ?_, Rep.less (ls gg) _ _ hn e5⟩
          have no : da ∉ as := fun m => by
            obtain ⟨us, e⟩ := ls gg da m
            rw [e] at e4; cases e4
          rw [lessH_out no]
          exact e4
        · exact q.elim
    | bad => exact q.elim
  · rename_i hb
    have hb : bs.any (·.2) = false := by simpa using hb
    have := he hb
    subst this
    rw [frzH_nil]
    exact q.imp fun o _ q v H' Hf' gg rr => q v H' Hf' gg rr.toXv
end
end MP
namespace MP
open PySem PySem.Spec L2
section
variable {w : Wd} {c : Ck} {xv : XV} {X : Cx} {sc : Scope} {Fx : MP.Fx} {W : WX}
theorem All2.app {α : Type} {K : α → V → Prop} : ∀ {as bs : List α} {vs us : List V}, All2 K as vs → All2 K bs us → All2 K (as ++ bs) (vs ++ us)
  | [], _, _, _, h, k => by rw [show _ = [] from h]; exact k
  | a :: as, bs, vs, us, h, k => by
    obtain ⟨v, r, rfl, h1, h2⟩ := h
    exact ⟨v, r ++ us, rfl, h1, h2.app k⟩
theorem Reps.split {H : Hp} : ∀ {as bs : List D} {vs us : List V}, vs.length = as.length → Reps w H (as ++ bs) (vs ++ us) → Reps w H as vs ∧ Reps w H bs us
  | [], _, vs, us, e, h => by
    rw [List.length_eq_zero_iff.mp e] at h ⊢
    exact ⟨Reps.nil_iff.mpr rfl, h⟩
  | a :: as, bs, [], us, e, h => by cases e
  | a :: as, bs, v :: vs, us, e, h => by
    obtain ⟨v', r, e2, h1, h2⟩ := Reps.cons_iff.mp h
    rw [List.cons_append] at e2
    cases e2
    obtain ⟨h3, h4⟩ := Reps.split (by simpa using e) h2
    exact ⟨Reps.cons_iff.mpr ⟨v, vs, rfl, h1, h3⟩, h4⟩
theorem out_res {H Hf H2 Hf2 : Hp} {Q : VK} {o : OD} (g : Gr H Hf H2 Hf2) (q : ∀ v H' Hf', Gr H Hf H' Hf' → Res w xv H H' Hf' false o v → Q v H') : Out w xv H2 Hf2 o Q := fun v H' Hf' g3 r => q v H' Hf' (g.trans g3) (r.back g)
theorem evAs_nil {Fx : MP.Fx} {Γ : List OD} : evAs Fx [] Γ = .ok [] := by unfold evAs; rfl
theorem se_call {f : Nat} {es kes : List E} {ks : List Nat} (he : ∀ e ∈ es, SE w c e) : SE w c (.call f es ks kes) := fun xv X sc Fx W cn x pk h => by
  unfold kE at h
  cases ks <;> cases kes <;> first | exact nb h | skip
  unfold kCall at h
  simp only at h
  split at h
  · obtain ⟨h0, h⟩ := an h
    obtain ⟨h1, h⟩ := an h
    obtain ⟨h2, h3⟩ := an h
    have e := of_decide_eq_true h1
    subst e
    rw [cn.nm] at h2 ⊢
    cases hcm : Fx.calm with
    | false => exact ⟨fun pins s σ H Q I ⟨Hf, Γ, at_, q⟩ => by unfold ev at q; rw [hcm] at q; exact q.elim⟩
    | true =>
      refine PE.imp (cn.cal hcm f _ _ _ _ _ h0 h2 (kplain h3) (pa_A cn he h3)) fun σ H Q ⟨Hf, Γ, at_, q⟩ => ?_
      unfold ev at q
      simp only [evAs_nil, hcm, Bool.true_eq_false, if_false, R.bind_ok, List.append_nil, List.map_nil] at q
      refine ⟨Hf, Γ, at_, (wpR.bind.mp q).imp fun as _ q vs H1 Hf1 g1 k1 => ?_⟩
      obtain ⟨cs, l1, l2, l3⟩ := lend_all k1
      refine ⟨frzH H1 Hf1 cs, as.map (·.1), frzH_lf g1.lf, l3, ?_⟩
      exact lent_out (xv := xv) g1 l1 l2 (q.mono g1 fun o _ q => out_res g1 q)
  · exact nb h
theorem se_mk {k : Nat} {es : List E} (he : ∀ e ∈ es, SE w c e) : SE w c (.mk k es) := fun xv X sc Fx W cn x pk h => by
  unfold kE kMk at h
  split at h
  · obtain ⟨h0, h⟩ := an h
    obtain ⟨h1, h⟩ := an h
    obtain ⟨h2, h3⟩ := an h
    have e := of_decide_eq_true h1
    subst e
    rw [cn.nm] at h2 ⊢
    cases hcm : Fx.calm with
    | false => exact ⟨fun pins s σ H Q I ⟨Hf, Γ, at_, q⟩ => by unfold ev at q; rw [hcm] at q; exact q.elim⟩
    | true =>
      refine PE.imp (cn.mak hcm k _ _ _ _ _ h0 h2 (kplain h3) (pa_A cn he h3)) fun σ H Q ⟨Hf, Γ, at_, q⟩ => ?_
      unfold ev at q
      simp only [hcm, Bool.true_eq_false, if_false] at q
      refine ⟨Hf, Γ, at_, (wpR.bind.mp q).imp fun as _ q vs H1 Hf1 g1 k1 => ?_⟩
      obtain ⟨cs, l1, l2, l3⟩ := lend_all k1
      refine ⟨frzH H1 Hf1 cs, as.map (·.1), frzH_lf g1.lf, l3, ?_⟩
      exact lent_out (xv := xv) g1 l1 l2 (q.mono g1 fun o _ q => out_res g1 q)
  · exact nb h
theorem se_meth {a : E} {m : Nat} {es : List E} (ha : SE w c a) (he : ∀ e ∈ es, SE w c e) : SE w c (.meth a m es) := fun xv X sc Fx W cn x pk h => by
  unfold kE kMeth at h
  split at h
  · obtain ⟨h01, h⟩ := an h
    obtain ⟨h0, h1⟩ := an h01
    obtain ⟨h2, h⟩ := an h
    obtain ⟨h3, h⟩ := an h
    obtain ⟨h4, h5⟩ := an h
    have e := of_decide_eq_true h3
    subst e
    rw [cn.nm]
    cases hcm : Fx.calm with
    | false => exact ⟨fun pins s σ H Q I ⟨Hf, Γ, at_, q⟩ => by unfold ev at q; rw [hcm] at q; exact q.elim⟩
    | true =>
      refine PE.imp (cn.met hcm m _ _ _ _ _ _ h0 h2 h5 (kplain h4) (pe_O cn.hK (ha xv X sc Fx W cn _ true h1)) (pa_A cn he h4)) fun σ H Q ⟨Hf, Γ, at_, q⟩ => ?_
      unfold ev at q
      simp only [hcm, Bool.true_eq_false, if_false] at q
      refine ⟨Hf, Γ, at_, (wpR.bind.mp q).imp fun d _ q v H1 Hf1 g1 o1 => ?_⟩
      cases d with
      | obj k ds =>
        simp only at q
        cases hm : Fx.meth k m with
        | none => rw [hm] at q; exact q.elim
        | some f =>
          rw [hm] at q
          simp only at q
          have o1 : Rep w Hf1 (.obj k ds) v := by
            rcases o1 with o1 | ⟨_, _, _, e, _⟩
            · exact o1
            · cases e
          obtain ⟨b, dx, ws, rfl, hb, hl, rr⟩ := Rep.obj_iff.mp o1
          refine ⟨k, f, hm, ⟨b, dx, ws, rfl, g1.lf _ _ hb, hl⟩, ?_⟩
          refine ⟨Hf1, Γ, at_.mono cn.xvo g1, (wpR.bind.mp q).mono g1 fun as _ q vs H2 Hf2 g2 k2 => ?_⟩
          have g := g1.trans g2
          obtain ⟨cs, l1, l2, l3⟩ := lend_all k2
          refine ⟨frzH H2 Hf2 cs, .obj k ds :: as.map (·.1), frzH_lf g2.lf, Reps.cons_iff.mpr ⟨_, _, rfl, ?_, l3⟩, ?_⟩
          · exact Rep.mono w (g2.ext.le.trans (frzH_le fun a m => (l2 a m).1)) _ _ o1
          · exact lent_out (xv := xv) g l1 l2 (q.mono g fun o _ q => out_res g q)
      | _ => exact q.elim
  · exact nb h
end
end MP

end

section
set_option Elab.async false
set_option linter.all false
set_option maxRecDepth 100000
namespace MP
open PySem PySem.Spec L2
section
variable {w : Wd} {c : Ck}
theorem se_false {e : E} (h : ∀ sc x, kE c sc e x = false) : SE w c e := fun xv X sc Fx W cn x pk k => by
  rw [h] at k
  exact nb k
/-- what is reckoned rightly, tests too -/
def All (w : Wd) (c : Ck) (e : E) : Prop := SE w c e ∧ ST w c e ∧ SW w c e
theorem mk_all {e : E} (h : SE w c e) (hp : ∀ sc x, kE c sc e x = true → plainT x = true) (hw : ∀ sc op xs p, kE c sc e (.BoolOp op xs p) = false) : All w c e := ⟨h, h.st hp, sw_vac hw⟩
theorem all_false {e : E} (h : ∀ sc x, kE c sc e x = false) : All w c e := mk_all (se_false h) (fun sc x k => by rw [h] at k; exact nb k) fun sc op xs p => h _ _
theorem mem_lt {e : E} {es : List E} (h : e ∈ es) : sizeOf e < sizeOf es := List.sizeOf_lt_of_mem h
theorem se_all : ∀ (n : Nat) (e : E), sizeOf e < n → All w c e := by
  intro n
  induction n with
  | zero => intro e h; exact absurd h (Nat.not_lt_zero _)
  | succ n ih =>
    intro e h
    have li : ∀ {es : List E}, sizeOf es < n → ∀ e ∈ es, SE w c e := fun h e m => (ih e (Nat.lt_trans (mem_lt m) h)).1
    cases e with
    | int i => exact mk_all se_int (fun sc x k => by unfold kE kInt at k; split at k <;> first | rfl | exact nb k) fun sc op xs p => by unfold kE kInt; rfl
    | bl i => exact mk_all se_bl (fun sc x k => by unfold kE kBl at k; split at k <;> first | rfl | exact nb k) fun sc op xs p => by unfold kE kBl; rfl
    | non => exact mk_all se_non (fun sc x k => by unfold kE kNon at k; split at k <;> first | rfl | exact nb k) fun sc op xs p => by unfold kE kNon; rfl
    | str x => exact mk_all se_str (fun sc x k => by unfold kE kStr at k; split at k <;> first | rfl | exact nb k) fun sc op xs p => by unfold kE kStr; rfl
    | var i => exact mk_all se_var (fun sc x k => by unfold kE kVar at k; split at k <;> first | rfl | exact nb k) fun sc op xs p => by unfold kE kVar; rfl
    | glob g => exact mk_all se_glob (fun sc x k => by unfold kE kGlob at k; split at k <;> first | rfl | exact nb k) fun sc op xs p => by unfold kE kGlob; rfl
    | bin op a b =>
      rw [E.bin.sizeOf_spec] at h
      exact mk_all (se_bin (ih a (by omega)).1 (ih b (by omega)).1) (fun sc x k => by unfold kE kBin at k; split at k <;> first | rfl | exact nb k) fun sc op xs p => by unfold kE kBin; rfl
    | neg a =>
      rw [E.neg.sizeOf_spec] at h
      exact mk_all (se_neg (ih a (by omega)).1) (fun sc x k => by unfold kE kNeg at k; split at k <;> first | rfl | exact nb k) fun sc op xs p => by unfold kE kNeg; rfl
    | notE a =>
      rw [E.notE.sizeOf_spec] at h
      exact ⟨se_not (ih a (by omega)).1, st_not (ih a (by omega)).2.1, sw_vac fun sc op xs p => by unfold kE kNot; rfl⟩
    | cmp op a b =>
      rw [E.cmp.sizeOf_spec] at h
      exact ⟨se_cmp (ih a (by omega)).1 (ih b (by omega)).1, st_cmp (ih a (by omega)).1 (ih b (by omega)).1, sw_vac fun sc op xs p => by unfold kE kCmp; rfl⟩
    | chain o1 o2 a b d =>
      rw [E.chain.sizeOf_spec] at h
      exact ⟨(bo_chain (ih a (by omega)).1 (ih b (by omega)).1 (ih d (by omega)).1).se, st_chain (ih a (by omega)).1 (ih b (by omega)).1 (ih d (by omega)).1, sw_vac fun sc op xs p => by unfold kE kChain; rfl⟩
    | isN a yes =>
      rw [E.isN.sizeOf_spec] at h
      exact ⟨(bo_isN (ih a (by omega)).1).se, (bo_isN (ih a (by omega)).1).st ev_isN_bl, sw_vac fun sc op xs p => by unfold kE kIsN; rfl⟩
    | isB a b yes =>
      rw [E.isB.sizeOf_spec] at h
      exact ⟨(bo_isB (ih a (by omega)).1).se, (bo_isB (ih a (by omega)).1).st ev_isB_bl, sw_vac fun sc op xs p => by unfold kE kIsB; rfl⟩
    | andE a b =>
      rw [E.andE.sizeOf_spec] at h
      have k := sw_and (ih a (by omega)).2.1 (ih b (by omega)).2.2
      exact ⟨se_and (ih a (by omega)).1 (ih b (by omega)).1, k.st and_bo, k⟩
    | orE a b =>
      rw [E.orE.sizeOf_spec] at h
      have k := sw_or (ih a (by omega)).2.1 (ih b (by omega)).2.2
      exact ⟨se_or (ih a (by omega)).1 (ih b (by omega)).1, k.st or_bo, k⟩
    | one a =>
      rw [E.one.sizeOf_spec] at h
      have k := sw_one (ih a (by omega)).2.1
      exact ⟨se_one (ih a (by omega)).1, k.st one_bo, k⟩
    | ite t a b =>
      rw [E.ite.sizeOf_spec] at h
      exact ⟨se_ite (ih t (by omega)).2.1 (ih a (by omega)).1 (ih b (by omega)).1, st_ite (ih t (by omega)).2.1 (ih a (by omega)).2.1 (ih b (by omega)).2.1, sw_vac fun sc op xs p => by unfold kE kIte; rfl⟩
    | tup es =>
      rw [E.tup.sizeOf_spec] at h
      exact mk_all (se_tup (li (by omega))) (fun sc x k => by unfold kE kTup at k; split at k <;> first | rfl | exact nb k) fun sc op xs p => by unfold kE kTup; rfl
    | lst es =>
      rw [E.lst.sizeOf_spec] at h
      exact mk_all (se_lst (li (by omega))) (fun sc x k => by unfold kE kLst at k; split at k <;> first | rfl | exact nb k) fun sc op xs p => by unfold kE kLst; rfl
    | sub a i =>
      rw [E.sub.sizeOf_spec] at h
      exact mk_all (se_sub (ih a (by omega)).1 (ih i (by omega)).1) (fun sc x k => by unfold kE kSub at k; split at k <;> first | rfl | exact nb k) fun sc op xs p => by unfold kE kSub; rfl
    | slc a l u =>
      rw [E.slc.sizeOf_spec] at h
      exact mk_all (se_slc (ih a (by omega)).1 (ih l (by omega)).1 (ih u (by omega)).1) (fun sc x k => by unfold kE kSlc at k; split at k <;> first | rfl | exact nb k) fun sc op xs p => by unfold kE kSlc; rfl
    | attr a f =>
      rw [E.attr.sizeOf_spec] at h
      exact mk_all (se_attr (ih a (by omega)).1) (fun sc x k => by unfold kE kAttr at k; split at k <;> first | rfl | exact nb k) fun sc op xs p => by unfold kE kAttr; rfl
    | call f es ks kes =>
      rw [E.call.sizeOf_spec] at h
      exact mk_all (se_call (li (by omega))) (fun sc x k => by
        unfold kE at k
        cases ks <;> cases kes <;> first | exact nb k | skip
        unfold kCall at k
        simp only at k
        split at k <;> first | rfl | exact nb k) fun sc op xs p => by
        unfold kE
        cases ks <;> cases kes <;> rfl
    | mk k es =>
      rw [E.mk.sizeOf_spec] at h
      exact mk_all (se_mk (li (by omega))) (fun sc x k => by unfold kE kMk at k; split at k <;> first | rfl | exact nb k) fun sc op xs p => by unfold kE kMk; rfl
    | meth a m es =>
      rw [E.meth.sizeOf_spec] at h
      exact mk_all (se_meth (ih a (by omega)).1 (li (by omega))) (fun sc x k => by unfold kE kMeth at k; split at k <;> first | rfl | exact nb k) fun sc op xs p => by unfold kE kMeth; rfl
    | blt f es =>
      rw [E.blt.sizeOf_spec] at h
      exact mk_all (se_blt (li (by omega))) (fun sc x k => by unfold kE kBlt at k; split at k <;> first | rfl | exact nb k) fun sc op xs p => by unfold kE kBlt; rfl
    | bm m a es =>
      rw [E.bm.sizeOf_spec] at h
      exact mk_all (se_bm (ih a (by omega)).1) (fun sc x k => by
        unfold kE at k
        cases m <;> cases es <;> first | exact nb k | skip
        unfold kBits at k
        simp only at k
        split at k <;> first | rfl | exact nb k) fun sc op xs p => by
        unfold kE
        cases m <;> cases es <;> rfl
    | inst a ts =>
      rw [E.inst.sizeOf_spec] at h
      exact mk_all (se_inst (ih a (by omega)).1) (fun sc x k => by unfold kE kInst at k; split at k <;> first | rfl | exact nb k) fun sc op xs p => by unfold kE kInst; rfl
    | comp => exact all_false fun sc x => by unfold kE; rfl
    | rng => exact all_false fun sc x => by unfold kE; rfl
    | enm => exact all_false fun sc x => by unfold kE; rfl
    | zip => exact all_false fun sc x => by unfold kE; rfl
theorem SE.all (e : E) : SE w c e := (se_all _ e (Nat.lt_succ_self _)).1
theorem ST.all (e : E) : ST w c e := (se_all _ e (Nat.lt_succ_self _)).2.1
end
end MP

end

section
set_option Elab.async false
set_option linter.all false
set_option maxRecDepth 100000
namespace MP
open PySem PySem.Spec L2
/-! ### the state between statements -/
/-- one name -/
def Slot (w : Wd) (xv : XV) (H0 H Hf : Hp) (o : OD) (s : Option (Option V)) (as : List Addr) : Prop :=
  (o = .un ∧ as = []) ∨ ∃ v, s = some (some v) ∧ RepO w xv H Hf o v as ∧ as.Nodup ∧ ∀ a ∈ as, H0 a = none
/-- H0, Hf0: at the def's entry; Hb: what was there before -/
structure J (w : Wd) (xv : XV) (H0 Hf0 Hb : Hp) (Γ : List OD) (σ : L2.St) (H Hf : Hp) : Prop where
  gr : Gr H0 Hf0 H Hf
  hb : Le Hb Hf
  len : Γ.length = σ.length
  own : ∃ A : Nat → List Addr, (∀ i o, Γ[i]? = some o → Slot w xv H0 H Hf o σ[i]? (A i)) ∧ (∀ i, Γ[i]? = none → A i = []) ∧ ∀ i j, i ≠ j → ∀ a ∈ A i, a ∉ A j
section
variable {w : Wd} {xv : XV} {H0 Hf0 Hb : Hp} {Γ : List OD} {σ : L2.St} {H Hf H' Hf' : Hp}
theorem J.at (h : J w xv H0 Hf0 Hb Γ σ H Hf) : At w xv Γ σ H Hf := ⟨h.gr.lf, fun i o e n => by
  obtain ⟨A, h1, _, _⟩ := h.own
  rcases h1 i o e with ⟨z, _⟩ | ⟨v, e1, r, nd, _⟩
  · exact absurd z n
  · exact ⟨v, A i, e1, r, nd⟩⟩
theorem Slot.mono (hx : XvOk xv) (g : Gr H Hf H' Hf') {o : OD} {s : Option (Option V)} {as : List Addr} (h : Slot w xv H0 H Hf o s as) : Slot w xv H0 H' Hf' o s as := by
  rcases h with h | ⟨v, e, r, n⟩
  · exact .inl h
  · exact .inr ⟨v, e, r.mono hx g, n⟩
theorem J.mono (hx : XvOk xv) (h : J w xv H0 Hf0 Hb Γ σ H Hf) (g : Gr H Hf H' Hf') : J w xv H0 Hf0 Hb Γ σ H' Hf' := by
  obtain ⟨A, h1, h2, h3⟩ := h.own
  exact ⟨h.gr.trans g, h.hb.trans g.ext.le, h.len, A, fun i o e => (h1 i o e).mono hx g, h2, h3⟩
theorem J.weak {Hb2 : Hp} (l : Le Hb2 Hb) (h : J w xv H0 Hf0 Hb Γ σ H Hf) : J w xv H0 Hf0 Hb2 Γ σ H Hf := ⟨h.gr, l.trans h.hb, h.len, h.own⟩
theorem Slot.alive {o : OD} {s : Option (Option V)} {as : List Addr} (h : Slot w xv H0 H Hf o s as) : ∀ a ∈ as, H a ≠ none := by
  rcases h with ⟨_, rfl⟩ | ⟨v, e, r, n⟩
  · intro a m; cases m
  · exact repO_alive r
def updA (A : Nat → List Addr) (i : Nat) (as : List Addr) : Nat → List Addr := fun j => if j = i then as else A j
theorem updA_same {A : Nat → List Addr} {i : Nat} {as : List Addr} : updA A i as i = as := if_pos rfl
theorem updA_ne {A : Nat → List Addr} {i j : Nat} {as : List Addr} (h : ¬ i = j) : updA A i as j = A j := if_neg (Ne.symm h)
theorem get_set {α : Type} {xs : List α} {i j : Nat} {x : α} : (xs.set i x)[j]? = if i = j then (if i < xs.length then some x else none) else xs[j]? := List.getElem?_set
theorem updA_dis {A : Nat → List Addr} {i : Nat} {as : List Addr} (h3 : ∀ i j, i ≠ j → ∀ a ∈ A i, a ∉ A j) (dis : ∀ j, ∀ a ∈ as, a ∈ A j → False) : ∀ j k, j ≠ k → ∀ a ∈ updA A i as j, a ∉ updA A i as k := fun j k ne a m1 m2 => by
  by_cases q1 : i = j
  · subst q1
    rw [updA_same] at m1
    rw [updA_ne ne] at m2
    exact dis k a m1 m2
  · rw [updA_ne q1] at m1
    by_cases q2 : i = k
    · subst q2
      rw [updA_same] at m2
      exact dis j a m2 m1
    · rw [updA_ne q2] at m2
      exact h3 j k ne a m1 m2
/-- what was just reckoned is given a name -/
theorem J.set (hx : XvOk xv) (h : J w xv H0 Hf0 Hb Γ σ H Hf) (g : Gr H Hf H' Hf') {i : Nat} (hi : i < Γ.length) {o : OD} {v : V} (r : Res w xv H H' Hf' false o v) : J w xv H0 Hf0 Hb (Γ.set i o) (σ.set i (some v)) H' Hf' := by
  obtain ⟨A, h1, h2, h3⟩ := h.own
  obtain ⟨as, r1, nd, f⟩ := r
  have f := f rfl
  have hs : i < σ.length := by rw [← h.len]; exact hi
  have dis : ∀ j, ∀ a ∈ as, a ∈ A j → False := fun j a m1 m2 => by
    cases e : Γ[j]? with
    | none => rw [h2 j e] at m2; cases m2
    | some p => exact (h1 j p e).alive a m2 (f a m1)
  refine ⟨h.gr.trans g, h.hb.trans g.ext.le, by rw [List.length_set, List.length_set]; exact h.len, updA A i as, fun j p e => ?_, fun j e => ?_, updA_dis h3 dis⟩
  · rw [get_set] at e
    by_cases q : i = j
    · subst q
      rw [if_pos rfl, if_pos hi] at e
      cases e
      rw [updA_same, get_set, if_pos rfl, if_pos hs]
      exact .inr ⟨v, rfl, r1, nd, fun a m => h.gr.none_of (f a m)⟩
    · rw [if_neg q] at e
      rw [updA_ne q, get_set, if_neg q]
      exact (h1 j p e).mono hx g
  · rw [get_set] at e
    by_cases q : i = j
    · rw [if_pos q, if_pos hi] at e
      cases e
    · rw [if_neg q] at e
      rw [updA_ne q]
      exact h2 j e
/-- a name is forgotten -/
theorem J.clr (h : J w xv H0 Hf0 Hb Γ σ H Hf) (i : Nat) (x : Option V) : J w xv H0 Hf0 Hb (Γ.set i .un) (σ.set i x) H Hf := by
  obtain ⟨A, h1, h2, h3⟩ := h.own
  refine ⟨h.gr, h.hb, by rw [List.length_set, List.length_set]; exact h.len, updA A i [], fun j p e => ?_, fun j e => ?_, updA_dis h3 fun j a m => nomatch m⟩
  · rw [get_set] at e
    by_cases q : i = j
    · subst q
      rw [if_pos rfl] at e
      split at e
      · cases e
        rw [updA_same]
        exact .inl ⟨rfl, rfl⟩
      · cases e
    · rw [if_neg q] at e
      rw [updA_ne q, get_set, if_neg q]
      exact h1 j p e
  · rw [get_set] at e
    by_cases q : i = j
    · subst q
      exact updA_same
    · rw [if_neg q] at e
      rw [updA_ne q]
      exact h2 j e
theorem RepRows.out {u : HO} {b : Addr} : ∀ {rs : List (Bool × List D)} {vs : List V} {as : List Addr}, b ∉ as → RepRows w H Hf rs vs as → RepRows w (upd H b u) Hf rs vs as
  | [], _, _, _, h => h
  | (true, ds) :: rs, vs, as, n, h => by
    obtain ⟨v, r, e, h1, h2⟩ := h
    exact ⟨v, r, e, h1, RepRows.out n h2⟩
  | (false, ds) :: rs, vs, as, n, h => by
    obtain ⟨a, us, r, as', e1, rfl, h1, h2, h3, h4⟩ := h
    have ne : a ≠ b := fun z => n (by rw [z]; exact List.mem_cons_self)
    exact ⟨a, us, r, as', e1, rfl, by rw [upd_ne ne]; exact h1, h2, h3, RepRows.out (fun m => n (List.mem_cons_of_mem _ m)) h4⟩
theorem RepO.out {u : HO} {b : Addr} {o : OD} {v : V} {as : List Addr} (n : b ∉ as) (h : RepO w xv H Hf o v as) : RepO w xv (upd H b u) Hf o v as := by
  cases o with
  | un => exact h
  | fz d => exact h
  | own ds =>
    obtain ⟨a, vs, e1, rfl, h1, h2⟩ := h
    have ne : a ≠ b := fun z => n (by rw [z]; exact List.mem_cons_self)
    exact ⟨a, vs, e1, rfl, by rw [upd_ne ne]; exact h1, h2⟩
  | own2 rs =>
    obtain ⟨a, vs, as', e1, rfl, h1, h2, h3⟩ := h
    have ne : a ≠ b := fun z => n (by rw [z]; exact List.mem_cons_self)
    exact ⟨a, vs, as', e1, rfl, by rw [upd_ne ne]; exact h1, h2, h3.out fun m => n (List.mem_cons_of_mem _ m)⟩
  | oi c fs =>
    obtain ⟨a, dx, fvs, e1, rfl, h1, h2⟩ := h
    have ne : a ≠ b := fun z => n (by rw [z]; exact List.mem_cons_self)
    exact ⟨a, dx, fvs, e1, rfl, by rw [upd_ne ne]; exact h1, h2⟩
  | xv c p => exact h
theorem J.slot (h : J w xv H0 Hf0 Hb Γ σ H Hf) {i : Nat} {o : OD} (e : Γ[i]? = some o) (ne : o ≠ .un) : ∃ v as, σ[i]? = some (some v) ∧ RepO w xv H Hf o v as ∧ as.Nodup ∧ (∀ a ∈ as, H0 a = none) := by
  obtain ⟨A, h1, h2, h3⟩ := h.own
  rcases h1 i o e with ⟨z, _⟩ | ⟨v, e1, r, nd, f⟩
  · exact absurd z ne
  · exact ⟨v, A i, e1, r, nd, f⟩
theorem set_same {α : Type} {xs : List α} {i : Nat} {x : α} (h : xs[i]? = some x) : xs.set i x = xs := by
  apply List.ext_getElem?
  intro j
  rw [get_set]
  by_cases q : i = j
  · subst q
    have := (List.getElem?_eq_some_iff.mp h).1
    rw [if_pos rfl, if_pos this, h]
  · rw [if_neg q]
/-- a list of one's own is rewritten -/
theorem J.upd (h : J w xv H0 Hf0 Hb Γ σ H Hf) {i : Nat} {ds : List D} (e : Γ[i]? = some (.own ds)) :
    ∃ a vs, σ[i]? = some (some (.ref a)) ∧ H a = some (.lst vs) ∧ Hf a = none ∧ Reps w Hf ds vs ∧
      ∀ ds' vs', Reps w Hf ds' vs' → J w xv H0 Hf0 Hb (Γ.set i (.own ds')) σ (upd H a (.lst vs')) Hf := by
  obtain ⟨A, h1, h2, h3⟩ := h.own
  have hi := (List.getElem?_eq_some_iff.mp e).1
  rcases h1 i _ e with ⟨z, _⟩ | ⟨v, e1, r, nd, f⟩
  · cases z
  obtain ⟨a, vs, rfl, eA, q1, q2, q3⟩ := r
  refine ⟨a, vs, e1, q1, q2, q3, fun ds' vs' r' => ?_⟩
  have ha0 : H0 a = none := f a (by rw [eA]; exact List.mem_cons_self)
  have ne0 : ∀ x, H0 x ≠ none → x ≠ a := fun x n z => n (by rw [z]; exact ha0)
  refine ⟨⟨fun x o q => ?_, h.gr.ext, fun x o q => ?_⟩, h.hb, by rw [List.length_set]; exact h.len, A, fun j p q => ?_, fun j q => ?_, h3⟩
  · have : x ≠ a := fun z => by rw [z, ha0] at q; cases q
    rw [upd_ne this]
    exact h.gr.le _ _ q
  · have : x ≠ a := fun z => by rw [z, q2] at q; cases q
    rw [upd_ne this]
    exact h.gr.lf _ _ q
  · rw [get_set] at q
    by_cases z : i = j
    · subst z
      rw [if_pos rfl, if_pos hi] at q
      cases q
      exact .inr ⟨.ref a, e1, ⟨a, vs', rfl, eA, upd_same, q2, r'⟩, nd, f⟩
    · rw [if_neg z] at q
      have na : a ∉ A j := h3 i j z a (by rw [eA]; exact List.mem_cons_self)
      rcases h1 j p q with h | ⟨v, e2, r2, n⟩
      · exact .inl h
      · exact .inr ⟨v, e2, r2.out na, n⟩
  · rw [get_set] at q
    by_cases z : i = j
    · rw [if_pos z, if_pos hi] at q; cases q
    · rw [if_neg z] at q; exact h2 j q
/-- what is not changed any more is frozen -/
theorem J.frz1 (hx : XvOk xv) (h : J w xv H0 Hf0 Hb Γ σ H Hf) {i : Nat} {Γ' : List OD} (e : frzAt Γ i = some Γ') : ∃ Hf', J w xv H0 Hf0 Hb Γ' σ H Hf' := by
  obtain ⟨A, h1, h2, h3⟩ := h.own
  unfold frzAt at e
  split at e
  · rename_i o eo
    obtain ⟨d, ed, rfl⟩ := Option.map_eq_some_iff.mp e
    have hi := (List.getElem?_eq_some_iff.mp eo).1
    rcases h1 i _ eo with ⟨z, _⟩ | ⟨v, e1, r, nd, f⟩
    · subst z; cases ed
    have n := r.none
    have l1 := frzH_le (H := H) n
    have mono : ∀ {o : OD} {v : V} {as : List Addr}, (∀ a ∈ as, a ∉ A i) → RepO w xv H Hf o v as → RepO w xv H (frzH H Hf (A i)) o v as := by
      intro o v as dj r
      have no : ∀ {a : Addr}, a ∈ as → Hf a = none → frzH H Hf (A i) a = none := fun m q => by rw [frzH_out (dj _ m)]; exact q
      cases o with
      | un => exact r
      | fz d => exact ⟨r.1, Rep.mono w l1 _ _ r.2⟩
      | own ds =>
        obtain ⟨a, vs, q1, rfl, q3, q4, q5⟩ := r
        exact ⟨a, vs, q1, rfl, q3, no List.mem_cons_self q4, Reps.mono w l1 _ _ q5⟩
      | own2 rs =>
        obtain ⟨a, vs, as', q1, rfl, q3, q4, q5⟩ := r
        refine ⟨a, vs, as', q1, rfl, q3, no List.mem_cons_self q4, ?_⟩
        have rows : ∀ {rs : List (Bool × List D)} {vs : List V} {bs : List Addr}, (∀ a ∈ bs, a ∉ A i) → RepRows w H Hf rs vs bs → RepRows w H (frzH H Hf (A i)) rs vs bs := by
          intro rs
          induction rs with
          | nil => intro vs bs _ h; exact h
          | cons r rs ih =>
            obtain ⟨b, ds⟩ := r
            intro vs bs dj h
            cases b with
            | true =>
              obtain ⟨v, r, e, p1, p2⟩ := h
              exact ⟨v, r, e, Rep.mono w l1 _ _ p1, ih dj p2⟩
            | false =>
              obtain ⟨b, us, r, bs', p0, rfl, p1, p2, p3, p4⟩ := h
              exact ⟨b, us, r, bs', p0, rfl, p1, by rw [frzH_out (dj b List.mem_cons_self)]; exact p2, Reps.mono w l1 _ _ p3, ih (fun a m => dj a (List.mem_cons_of_mem _ m)) p4⟩
        exact rows (fun a m => dj a (List.mem_cons_of_mem _ m)) q5
      | oi c fs =>
        obtain ⟨a, dx, fvs, q1, rfl, q3, q4, q5⟩ := r
        exact ⟨a, dx, fvs, q1, rfl, q3, no List.mem_cons_self q4, q5.mono l1⟩
      | xv c p => exact ⟨r.1, hx _ _ _ _ _ l1 r.2⟩
    refine ⟨frzH H Hf (A i), frzH_gr h.gr n f, h.hb.trans l1, by rw [List.length_set]; exact h.len, updA A i [], fun j p q => ?_, fun j q => ?_, updA_dis h3 fun j a m => nomatch m⟩
    · rw [get_set] at q
      by_cases z : i = j
      · subst z
        rw [if_pos rfl, if_pos hi] at q
        cases q
        rw [updA_same]
        exact .inr ⟨v, e1, ⟨rfl, r.frz ed⟩, List.nodup_nil, fun a m => nomatch m⟩
      · rw [if_neg z] at q
        rw [updA_ne z]
        rcases h1 j p q with h | ⟨v, e2, r2, nf⟩
        · exact .inl h
        · exact .inr ⟨v, e2, mono (h3 j i (Ne.symm z)) r2, nf⟩
    · rw [get_set] at q
      by_cases z : i = j
      · rw [if_pos z, if_pos hi] at q; cases q
      · rw [if_neg z] at q
        rw [updA_ne z]
        exact h2 j q
  · cases e
theorem J.frz (hx : XvOk xv) : ∀ {xs : List Nat} {Γ : List OD} {Hf : Hp} {Γ' : List OD}, J w xv H0 Hf0 Hb Γ σ H Hf → frzAll xs Γ = some Γ' → ∃ Hf', J w xv H0 Hf0 Hb Γ' σ H Hf'
  | [], Γ, Hf, Γ', h, e => by cases e; exact ⟨Hf, h⟩
  | x :: xs, Γ, Hf, Γ', h, e => by
    obtain ⟨Γ1, e1, e2⟩ := Option.bind_eq_some_iff.mp e
    obtain ⟨Hf1, h1⟩ := h.frz1 hx e1
    exact J.frz hx h1 e2
end
end MP

end

section
set_option Elab.async false
set_option linter.all false
set_option maxRecDepth 100000
namespace MP
open PySem PySem.Spec L2
/-! ### the text of statements -/
abbrev KS := Stmt → Bool
def noComp : Expr → Bool
  | .ListComp .. => false
  | .SetComp .. => false
  | .DictComp .. => false
  | _ => true
def noTup : Expr → Bool
  | .Tuple .. => false
  | _ => true
def isNm : Expr → Bool
  | .Name .. => true
  | _ => false
def kPass : KS
  | .Pass _ => true
  | .Expr (.Constant (.str _) _ _) _ => true
  | _ => false
def kEx (e : KF) : KS
  | .Expr x _ => noComp x && e x
  | _ => false
def kAsg (t e : KF) : KS
  | .Assign [tg] x _ => noComp x && ((isNm tg || noTup x) && (t tg && e x))
  | _ => false
def kApp (c : Ck) (sc : Scope) (i : Nat) (e : KF) : KS
  | .Expr (.Call (.Attribute (.Name y _) g ap) [z] [] p) _ => decide (c.N[i]? = some y) && (vis sc y && (decide (g = ("append" : Str)) && (ap.endLine == p.line && (plainE z && e z))))
  | _ => false
def kRet (non : Bool) (e : KF) : KS
  | .Return none _ => non
  | .Return (some x) _ => e x
  | _ => false
def kIff (t : KF) (a b : List Stmt → Bool) : KS
  | .If x ys zs _ => t x && (a ys && b zs)
  | _ => false
def kFor (t it : KF) (b : List Stmt → Bool) : KS
  | .For tg x ys [] _ => noSet x && (t tg && (it x && b ys))
  | _ => false
def kRais (c : Ck) (sc : Scope) (k : Nat) (m : List Nat) : KS
  | .Raise (some (.Call (.Name x _) [.Constant (.str z) _ _] [] _)) none _ => c.ex k && (decide (c.nm k = x) && (glb sc x && decide (strOf m = z)))
  | _ => false
def kTry (c : Ck) (sc : Scope) (b : List Stmt → Bool) (k : Nat) (n : Option Nat) (h : List Stmt → Bool) : KS
  | .Try ys [.ExceptHandler (some (.Name x _)) v (z :: zs) _] [] [] _ => b ys && (kTy c sc (.exc k) x && ((match n, v with
      | none, none => true
      | some i, some y => decide (c.N[i]? = some y) && decide (sc.names.lookup y = some .local)
      | _, _ => false) && h (z :: zs)))
  | _ => false
def kCons' (a : KS) (r : List Stmt → Bool) : List Stmt → Bool
  | x :: xs => a x && r xs
  | _ => false
mutual
def kS (c : Ck) (sc : Scope) : S → KS
  | .pass => kPass
  | .ex e => kEx (kE c sc e)
  | .asg t e => kAsg (kT c sc t) (kE c sc e)
  | .app i e => kApp c sc i (kE c sc e)
  | .ret e => kRet (isNon e) (kE c sc e)
  | .iff t a b => kIff (kE c sc t) (kSs c sc a) (kSs c sc b)
  | .forr t it b => kFor (kT c sc t) (kI c sc it) (kSs c sc b)
  | .rais k es => match es with
    | [.str m] => kRais c sc k m
    | _ => fun _ => false
  | .tryy b k n h => kTry c sc (kSs c sc b) k n (kSs c sc h)
  | _ => fun _ => false
def kSs (c : Ck) (sc : Scope) : List S → List Stmt → Bool
  | [] => kNil
  | s :: ss => match s with
    | .frz _ => kSs c sc ss
    | s => kCons' (kS c sc s) (kSs c sc ss)
end
/-! ### what is wanted behind a statement -/
def wpX (w : Wd) (xv : XV) (W : WX) (H0 Hf0 Hb : Hp) (D : Ends) : XR → Prop
  | .ok .nx Γ => ∀ σ H Hf, J w xv H0 Hf0 Hb Γ σ H Hf → D.nx σ H
  | .ok (.rt o) _ => ∀ v H Hf, Gr H0 Hf0 H Hf → Res w xv H0 H Hf false o v → D.rt v H
  | .ok .bk Γ => ∀ σ H Hf, J w xv H0 Hf0 Hb Γ σ H Hf → D.bk σ H
  | .ok .ct Γ => ∀ σ H Hf, J w xv H0 Hf0 Hb Γ σ H Hf → D.ct σ H
  | .ex c p Γ => ∀ cls d σ H Hf, J w xv H0 Hf0 Hb Γ σ H Hf → ExR w Hf c p cls d → W cls d σ H
  | .bad => False
section
variable {w : Wd} {xv : XV} {W : WX} {H0 Hf0 Hb : Hp} {D : Ends} {Γ : List OD} {σ : L2.St} {H Hf : Hp}
theorem wpX.liftR (hx : XvOk xv) {α : Type} {r : R α} {f : α → XR} (j : J w xv H0 Hf0 Hb Γ σ H Hf) (h : wpX w xv W H0 Hf0 Hb D (liftR r Γ f)) : wpR w W σ H Hf r fun a => wpX w xv W H0 Hf0 Hb D (f a) := by
  cases r with
  | ok a => exact h
  | ex c p => exact fun cls d H' Hf' g e => h cls d σ H' Hf' (j.mono hx g) e
  | bad => exact h
theorem wpX.liftO {α : Type} {r : Option α} {f : α → XR} (h : wpX w xv W H0 Hf0 Hb D (liftO r f)) : ∃ a, r = some a ∧ wpX w xv W H0 Hf0 Hb D (f a) := by
  cases r with
  | some a => exact ⟨a, rfl, h⟩
  | none => exact h.elim
end
/-- statements' reading -/
def tX (w : Wd) (xv : XV) (W : WX) (r : List OD → XR) : TS := fun D σ H => ∃ H0 Hf0 Hb Hf Γ, J w xv H0 Hf0 Hb Γ σ H Hf ∧ wpX w xv W H0 Hf0 Hb D (r Γ)
theorem PS.imp {X : Cx} {e : Stmt} {t t' : TS} (h : PS X e t) (i : ∀ D σ H, t' D σ H → t D σ H) : PS X e t' := ⟨fun pins s σ H Q I hq => h.run pins s σ H Q I (i _ _ _ hq)⟩
theorem PSs.imp {X : Cx} {e : List Stmt} {t t' : TS} (h : PSs X e t) (i : ∀ D σ H, t' D σ H → t D σ H) : PSs X e t' := ⟨fun pins s σ H Q I hq => h.run pins s σ H Q I (i _ _ _ hq)⟩
theorem PG.imp {X : Cx} {e : Expr} {t t' : TG} (h : PG X e t) (i : ∀ v σ H Q, t' v σ H Q → t v σ H Q) : PG X e t' := ⟨fun pins s σ H v u Q I r hq => h.run pins s σ H v u Q I r (i _ _ _ _ hq)⟩
theorem PGs.imp {X : Cx} {e : List Expr} {t t' : TGs} (h : PGs X e t) (i : ∀ v σ H Q, t' v σ H Q → t v σ H Q) : PGs X e t' := ⟨fun pins s σ H v u Q I r hq => h.run pins s σ H v u Q I r (i _ _ _ _ hq)⟩
/-! ### contexts -/
/-- a caught error's value -/
def xvA (w : Wd) (a : Addr) (cls : Value) (d : Option Addr) : XV := fun k p v Hf => v = .ref a ∧ ExR w Hf k p cls d
structure Fc (w : Wd) (c : Ck) (X : Cx) (sc : Scope) (G : Gx) : Prop where
  hK : X.K = w.K
  hN : X.N = c.N
  nm : c.nm = w.nm
  nd : X.N.Nodup
  vi : ∀ x, MP.vis sc x = true → Vis X.env.scope x
  gl : ∀ x, MP.glb sc x = true → Gl X x
  lo : ∀ x, MP.loc sc x = true → Loc X.env.scope x ∧ (X.fn x = true ∨ X.env.scope.names.lookup x = some .local)
  lcl : ∀ x, sc.names.lookup x = some .local → X.env.kindOf x = some .local
  hu : X.A.units + 65 < cLine
  cm : X.calm = true
  gcm : G.calm = true
  hcm : G.hot.calm = false
  gv : ∀ g d, G.gv g = some d → ∃ v u, X.mg (w.nm g) = some u ∧ RelV v u ∧ ∀ H, Rep w H d v
  hgv : G.hot.gv = G.gv
  bl : ∀ f, c.bl f = true → f ≠ .gcd → X.mg (bname f) = none
  gcd : c.bl .gcd = true → X.mg "gcd" = some (.builtin "math.gcd")
  rng : X.mg "range" = none
  enm : X.mg "enumerate" = none
  zip : X.mg "zip" = none
  isi : X.mg "isinstance" = none
  ty : ∀ t, c.ty t = true → TyMg w X t
  hsub : G.sub = w.P.sub ∧ G.hot.sub = w.P.sub
  hxf : G.xf = w.P.xf ∧ G.hot.xf = w.P.xf
  /-- isinstance of data -/
  isB : ∀ (a : String), a ∈ ["NoneType", "bool", "int", "str", "list", "tuple"] → ∀ k, (c.ty (.cls k) = true ∨ c.ty (.exc k) = true) → PySem.W.kitOne w.K (.type a) (.ref (w.cad k)) = some false
  isO : ∀ k q, w.P.cl k = some q → (PySem.W.findIn w.K (.ref (w.cad k)) "__class__" = some (some (.builtin "object.__class__")) ∧ PySem.W.specialIn w.K (.builtin "object.__class__") "__get__" = some (some (.builtin "getset_descriptor.__get__")) ∧
    PySem.W.takesIn w.K (.builtin "object.__class__") = some true ∧ PySem.W.mroIn w.K (w.cad k) (.type "object") = some true) ∧ Cls w.K (w.cad k) ∧ ∀ t, c.ty t = true → PySem.W.kitOne w.K (.ref (w.cad k)) (tyVal w t) = some (match t with
      | .cls j => k == j
      | _ => false)
  /-- errors -/
  isE : ∀ k q, w.P.xc k = some q → ExcC w.K (w.cad k) ∧ XfC w.K (w.cad k) ∧ (∀ f, q.fld = some f → PySem.W.findIn w.K (.ref (w.cad k)) (w.nm f) = some none) ∧ (∀ j, c.ty (.exc j) = true → PySem.W.kitOne w.K (.ref (w.cad k)) (.ref (w.cad j)) = some (w.P.sub k (.exc j)) ∧
    PySem.W.exmOne w.K (.ref (w.cad k)) (.ref (w.cad j)) = some (w.P.sub k (.exc j))) ∧ PySem.W.kitOne w.K (.ref (w.cad k)) (.type "ValueError") = some true
  fld : ∀ k f i, w.P.fld k f = some i → Cls w.K (w.cad k) ∧ NoAttr w.K (w.cad k) (w.nm f) ∧ (w.flds k).Nodup ∧ (w.flds k)[i]? = some (w.nm f)
  hfld : G.fld = w.P.fld ∧ G.hot.fld = w.P.fld
  stk : X.stack = X.env :: X.outer
  frm : X.env.frame = some X.env.locals
  cal : ∀ pn xe W, Takes (X.tr pn xe) W → ∀ (f : Nat) (p pos : Pos) (y : Expr) (xs : List Expr) (ta : TA), c.fn f = true → MP.glb sc (w.nm f) = true → (∀ x ∈ y :: xs, plainE x = true) → PA (X.tr pn xe) (y :: xs) ta →
    PE (X.tr pn xe) (.Call (.Name (w.nm f) p) (y :: xs) [] pos) fun σ H Q => ta σ H fun vs H1 => ∃ Hf as, Le Hf H1 ∧ Reps w Hf as vs ∧ wpR w W σ H1 Hf (G.call f as [] []) fun o => Out w xv0 H1 Hf o Q
  mak : ∀ pn xe W, Takes (X.tr pn xe) W → ∀ (k : Nat) (p pos : Pos) (y : Expr) (xs : List Expr) (ta : TA), c.mkc k = true → MP.glb sc (w.nm k) = true → (∀ x ∈ y :: xs, plainE x = true) → PA (X.tr pn xe) (y :: xs) ta →
    PE (X.tr pn xe) (.Call (.Name (w.nm k) p) (y :: xs) [] pos) fun σ H Q => ta σ H fun vs H1 => ∃ Hf as, Le Hf H1 ∧ Reps w Hf as vs ∧ wpR w W σ H1 Hf (G.make k as) fun o => Out w xv0 H1 Hf o Q
  met : ∀ pn xe W, Takes (X.tr pn xe) W → ∀ (m : Nat) (o : Expr) (apos pos : Pos) (xs : List Expr) (to : TE) (ta : TA), c.me m = true → notSuper o = true → (apos.endLine == pos.line) = true → (∀ x ∈ xs, plainE x = true) → PE (X.tr pn xe) o to → PA (X.tr pn xe) xs ta →
    PE (X.tr pn xe) (.Call (.Attribute o (w.nm m) apos) xs [] pos) fun σ H Q => to σ H fun x H1 => ∃ k f, G.meth k m = some f ∧ (∃ a dx vs, x = .ref a ∧ H1 a = some (.ins (w.cad k) dx ((w.flds k).zip vs)) ∧ (w.flds k).length = vs.length) ∧
      ta σ H1 fun vs H2 => ∃ Hf as, Le Hf H2 ∧ Reps w Hf as (x :: vs) ∧ wpR w W σ H2 Hf (G.call f as [] []) fun o => Out w xv0 H2 Hf o Q
  rai : ∀ k, c.ex k = true → MP.glb sc (w.nm k) = true → w.P.xc k ≠ none ∧ w.P.xf k = none ∧ ∀ pn xe (m : Str) (p p2 pos : Pos) (j : Nat), PMk (X.tr pn xe) (.Call (.Name (w.nm k) p) [.Constant (.str m) j p2] [] pos) (fun _ H Q => Q (.ref (w.cad k)) none H)
/-- where statements run -/
structure CnS (w : Wd) (c : Ck) (xv : XV) (X : Cx) (sc : Scope) (G : Gx) (W : WX) : Prop extends CnE w c xv X sc G.toFx W where
  lo : ∀ x, MP.loc sc x = true → Loc X.env.scope x ∧ (X.fn x = true ∨ X.env.scope.names.lookup x = some .local)
  fc : G.calm = true → Fc w c X sc G ∧ xv = xv0 ∧ PassesOwn (model X.prog X.w) X.A X.env X.xe
end MP

end

section
set_option Elab.async false
set_option linter.all false
set_option maxRecDepth 100000
namespace MP
open PySem PySem.Spec L2
section
variable {w : Wd} {c : Ck} {X : Cx} {sc : Scope} {G : Gx} {W : WX}
theorem Fc.tr (F : Fc w c X sc G) (pn : List (Addr × Obj)) (xe : Value → Shared → Prop) : Fc w c (X.tr pn xe) sc G :=
  ⟨F.hK, F.hN, F.nm, F.nd, F.vi, F.gl, F.lo, F.lcl, F.hu, F.cm, F.gcm, F.hcm, F.gv, F.hgv, F.bl, F.gcd, F.rng, F.enm, F.zip, F.isi, F.ty, F.hsub, F.hxf, F.isB, F.isO, F.isE, F.fld, F.hfld, F.stk, F.frm, F.cal, F.mak, F.met, F.rai⟩
def dTy : D → String
  | .non => "NoneType"
  | .bl _ => "bool"
  | .int _ => "int"
  | .str _ => "str"
  | .tup _ => "tuple"
  | .lst _ => "list"
  | .obj _ _ => ""
  | .scr _ => "list"
theorem dTy_mem {d : D} (h : ∀ k ds, d ≠ .obj k ds) : dTy d ∈ ["NoneType", "bool", "int", "str", "list", "tuple"] := by
  cases d <;> first | exact absurd rfl (h _ _) | simp [dTy]
theorem clsV (t : Ty) : ClsV (tyV w t) (tyVal w t) := by
  cases t <;> first | exact ClsV.ty _ | exact ClsV.own _
theorem clsVs : ∀ (ts : List Ty), Paired ClsV (ts.map (tyV w)) (ts.map (tyVal w))
  | [] => .nil
  | t :: ts => .cons (clsV t) (clsVs ts)
/-- a value's type and whether it is of a class -/
theorem is_fz (F : Fc w c X sc G) {H Hf : Hp} (l : Le Hf H) {d : D} {v : V} (hc : ∀ k ds, d = .obj k ds → (w.P.cl k).isSome = true) (r : Rep w Hf d v) : ∃ tv, TyX X.K H v tv ∧ ∀ t b, c.ty t = true → isTy (.fz d) t w.P.sub = some b → PySem.W.kitOne X.K tv (tyVal w t) = some b := by
  rw [F.hK]
  have base : (∀ k ds, d ≠ .obj k ds) → ∀ t b, c.ty t = true → isTy (.fz d) t w.P.sub = some b → PySem.W.kitOne w.K (.type (dTy d)) (tyVal w t) = some b := by
    intro no t b ok e
    have cl : ∀ k, (c.ty (.cls k) = true ∨ c.ty (.exc k) = true) → PySem.W.kitOne w.K (.type (dTy d)) (.ref (w.cad k)) = some false := F.isB _ (dTy_mem no)
    have ff : ∀ k, t = .cls k ∨ t = .exc k → b = false := by
      intro k hk
      rcases hk with rfl | rfl <;> cases d <;> first | exact absurd rfl (no _ _) | (cases e; done) | (cases e; rfl)
    cases t with
    | cls k => rw [ff k (.inl rfl)]; exact cl k (.inl ok)
    | exc k => rw [ff k (.inr rfl)]; exact cl k (.inr ok)
    | tnone => exact (F.ty _ ok).elim
    | tint => cases d <;> first | exact absurd rfl (no _ _) | (cases e; done) | (cases e; exact kit_ty (by dsimp only [dTy]; decide +kernel))
    | tbool => cases d <;> first | exact absurd rfl (no _ _) | (cases e; done) | (cases e; exact kit_ty (by dsimp only [dTy]; decide +kernel))
    | tstr => cases d <;> first | exact absurd rfl (no _ _) | (cases e; done) | (cases e; exact kit_ty (by dsimp only [dTy]; decide +kernel))
    | tlist => cases d <;> first | exact absurd rfl (no _ _) | (cases e; done) | (cases e; exact kit_ty (by dsimp only [dTy]; decide +kernel))
    | ttuple => cases d <;> first | exact absurd rfl (no _ _) | (cases e; done) | (cases e; exact kit_ty (by dsimp only [dTy]; decide +kernel))
    | verr => cases d <;> first | exact absurd rfl (no _ _) | (cases e; done) | (cases e; exact kit_ty (by dsimp only [dTy]; decide +kernel))
  cases d with
  | non => rw [Rep.non_iff.mp r]; exact ⟨_, .base .non, base fun _ _ z => nomatch z⟩
  | bl b => rw [Rep.bl_iff.mp r]; exact ⟨_, .base (.bl b), base fun _ _ z => nomatch z⟩
  | int b => rw [Rep.int_iff.mp r]; exact ⟨_, .base (.int b), base fun _ _ z => nomatch z⟩
  | str b => rw [Rep.str_iff.mp r]; exact ⟨_, .base (.str _), base fun _ _ z => nomatch z⟩
  | tup ds =>
    obtain ⟨a, vs, rfl, s, rr⟩ := Rep.tup_iff.mp r
    refine ⟨_, ?_, base fun _ _ z => nomatch z⟩
    rcases s with (s | ⟨o, s⟩) | ⟨o, its, n, h1, h2, _⟩
    · exact .base (.tup (l _ _ s))
    · exact .fTuple (l _ _ s)
    · exact .kTuple h1 h2
  | lst ds =>
    obtain ⟨a, vs, rfl, s, rr⟩ := Rep.lst_iff.mp r
    refine ⟨_, ?_, base fun _ _ z => nomatch z⟩
    rcases s with s | ⟨o, s⟩
    · exact .base (.lst (l _ _ s))
    · exact .base (.frz (l _ _ s))
  | scr ns =>
    obtain ⟨a, rfl, s⟩ := Rep.scr_iff.mp r
    refine ⟨_, ?_, base fun _ _ z => nomatch z⟩
    rcases s with (s | ⟨o, s⟩) | ⟨o, its, n, h1, h2, _⟩
    · exact .base (.lst (l _ _ s))
    · exact .base (.frz (l _ _ s))
    · exact .kList h1 h2
  | obj k ds =>
    obtain ⟨a, dx, vs, rfl, s, _, rr⟩ := Rep.obj_iff.mp r
    cases q : w.P.cl k with
    | none => have := hc k ds rfl; rw [q] at this; cases this
    | some cq =>
      obtain ⟨⟨h1, h2, h3, h4⟩, h5, h6⟩ := F.isO k cq q
      refine ⟨_, .base (.ins (l _ _ s) h5 h1 h2 h3 h4), fun t b ok e => ?_⟩
      unfold isTy at e
      simp only [Prog.sub, q, Option.isSome_some, if_true] at e
      cases e
      exact h6 t ok
theorem is_cl {o : OD} {t : Ty} {b : Bool} (e : isTy o t w.P.sub = some b) : ∀ d, o = .fz d → ∀ k ds, d = .obj k ds → (w.P.cl k).isSome = true := by
  rintro _ rfl k ds rfl
  unfold isTy at e
  dsimp only at e
  split at e
  · assumption
  · cases e
theorem any_cl {o : OD} {ts : List Ty} {b : Bool} (n : ts ≠ []) (e : anyTy o w.P.sub ts = some b) : ∀ d, o = .fz d → ∀ k ds, d = .obj k ds → (w.P.cl k).isSome = true := by
  cases ts with
  | nil => exact absurd rfl n
  | cons t ts =>
    unfold anyTy at e
    cases q : isTy o t w.P.sub with
    | none => rw [q] at e; cases e
    | some b => exact is_cl q
/-- .. of anything but a caught error -/
theorem is_od (F : Fc w c X sc G) {xv : XV} {H Hf : Hp} (l : Le Hf H) {o : OD} {v : V} {as : List Addr} (nx : ∀ k p, o ≠ .xv k p) (hc : ∀ d, o = .fz d → ∀ k ds, d = .obj k ds → (w.P.cl k).isSome = true) (hn : ∃ t b, isTy o t w.P.sub = some b) (r : RepO w xv H Hf o v as) :
    ∃ tv, TyX X.K H v tv ∧ ∀ t b, c.ty t = true → isTy o t w.P.sub = some b → PySem.W.kitOne X.K tv (tyVal w t) = some b := by
  have lst : ∀ {a : Addr} {vs : List V}, H a = some (.lst vs) → (∀ t b, isTy o t w.P.sub = some b → b = (match t with
      | .tlist => true
      | _ => false)) → ∃ tv, TyX X.K H (.ref a) tv ∧ ∀ t b, c.ty t = true → isTy o t w.P.sub = some b → PySem.W.kitOne X.K tv (tyVal w t) = some b := by
    intro a vs e hb
    refine ⟨.type "list", .base (.lst e), fun t b ok q => ?_⟩
    rw [hb t b q, F.hK]
    have cl : ∀ k, (c.ty (.cls k) = true ∨ c.ty (.exc k) = true) → PySem.W.kitOne w.K (.type "list") (.ref (w.cad k)) = some false := F.isB _ (by simp)
    cases t with
    | cls k => exact cl k (.inl ok)
    | exc k => exact cl k (.inr ok)
    | tnone => exact (F.ty _ ok).elim
    | _ => exact kit_ty (by decide +kernel)
  cases o with
  | un => obtain ⟨t, b, e⟩ := hn; cases t <;> cases e
  | fz d => exact is_fz F l (hc d rfl) r.2
  | own ds =>
    obtain ⟨a, vs, rfl, _, e, _⟩ := r
    exact lst e fun t b q => by cases t <;> (cases q; rfl)
  | own2 rs =>
    obtain ⟨a, vs, as', rfl, _, e, _⟩ := r
    exact lst e fun t b q => by cases t <;> (cases q; rfl)
  | oi k fs => obtain ⟨t, b, e⟩ := hn; cases t <;> cases e
  | xv k p => exact absurd rfl (nx k p)
theorem kitAny_of {K : PySem.W.Frag} {tv : Value} {o : OD} (h : ∀ t b, c.ty t = true → isTy o t w.P.sub = some b → PySem.W.kitOne K tv (tyVal w t) = some b) : ∀ {ts : List Ty} {b : Bool}, (∀ t ∈ ts, c.ty t = true) → anyTy o w.P.sub ts = some b → PySem.W.kitAny K tv (ts.map (tyVal w)) = some b
  | [], b, _, e => by cases e; rfl
  | t :: ts, b, ok, e => by
    unfold anyTy at e
    cases q : isTy o t w.P.sub with
    | none => rw [q] at e; cases e
    | some b1 =>
      rw [q] at e
      refine kitAny_cons (h t b1 (ok t List.mem_cons_self) q) (fun z => ?_) fun z => ?_
      · subst z
        exact kitAny_of h (fun t m => ok t (List.mem_cons_of_mem _ m)) e
      · subst z
        cases e
        rfl
theorem is1_0 (F : Fc w c X sc G) {xv : XV} {pins : List (Addr × Obj)} {s : Shared} {σ : L2.St} {H : Hp} {vs : List V} {us : List Value} {Q : VK} (I : L2.Inv X pins σ H s) (r : Vals vs us) (h : ∃ Hf o x as t b, (∀ k p, o ≠ .xv k p) ∧ vs = [x, tyV w t] ∧ c.ty t = true ∧ Le Hf H ∧ RepO w xv H Hf o x as ∧ isTy o t w.P.sub = some b ∧ Q (.bl b) H) :
    wpAny (model X.prog X.w) X.A (call (.builtin "isinstance") us) (EP X pins σ Q) X.xe s := by
  obtain ⟨Hf, o, x, as, t, b, nx, rfl, ok, l, rr, e, q⟩ := h
  obtain ⟨tv, h1, h2⟩ := is_od F l nx (is_cl e) ⟨t, b, e⟩ rr
  exact call_isi pins s σ H _ us Q I r ⟨x, tyV w t, tv, tyVal w t, b, rfl, clsV t, h1, h2 t b ok e, q⟩
theorem isT_0 (F : Fc w c X sc G) {xv : XV} {pins : List (Addr × Obj)} {s : Shared} {σ : L2.St} {H : Hp} {vs : List V} {us : List Value} {Q : VK} (I : L2.Inv X pins σ H s) (r : Vals vs us) (h : ∃ Hf o x as ts tp b, (∀ k p, o ≠ .xv k p) ∧ vs = [x, .ref tp] ∧ H tp = some (.tup (ts.map (tyV w))) ∧ ts ≠ [] ∧ (∀ t ∈ ts, c.ty t = true) ∧ Le Hf H ∧ RepO w xv H Hf o x as ∧ anyTy o w.P.sub ts = some b ∧ Q (.bl b) H) :
    wpAny (model X.prog X.w) X.A (call (.builtin "isinstance") us) (EP X pins σ Q) X.xe s := by
  obtain ⟨Hf, o, x, as, ts, tp, b, nx, rfl, ht, ne, ok, l, rr, e, q⟩ := h
  have hn : ∃ t b, isTy o t w.P.sub = some b := by
    cases ts with
    | nil => exact absurd rfl ne
    | cons t ts =>
      unfold anyTy at e
      cases q : isTy o t w.P.sub with
      | none => rw [q] at e; cases e
      | some b => exact ⟨t, b, q⟩
  obtain ⟨tv, h1, h2⟩ := is_od F l nx (any_cl ne e) hn rr
  exact call_isiT pins s σ H _ us Q I r ⟨x, tp, _, tv, _, b, rfl, ht, clsVs ts, h1, kitAny_of h2 ok e, q⟩
theorem xv0_ok : XvOk xv0 := fun _ _ _ _ _ _ h => h
/-- expressions, where no error is handled -/
theorem CnE.of_fc (F : Fc w c X sc G) (tk : Takes X W) : CnE w c xv0 X sc G.toFx W where
  hK := F.hK
  hN := F.hN
  nm := F.nm
  nd := F.nd
  vi := F.vi
  gl := F.gl
  hu := F.hu
  calm := fun _ => F.cm
  xvo := xv0_ok
  gv := F.gv
  bl := F.bl
  gcd := F.gcd
  rng := F.rng
  enm := F.enm
  zip := F.zip
  isi := F.isi
  ty := F.ty
  is1 := fun pins s σ H vs us Q I r ⟨Hf, o, x, as, t, b, h1, h2, h3, h4, h5, h6⟩ => is1_0 F I r ⟨Hf, o, x, as, t, b, fun k p z => by subst z; exact h4.2.elim, h1, h2, h3, h4, by rw [F.hsub.1] at h5; exact h5, h6⟩
  isT := fun pins s σ H vs us Q I r ⟨Hf, o, x, as, ts, tp, b, h1, h2, h3, h4, h5, h6, h7, h8⟩ => isT_0 F I r ⟨Hf, o, x, as, ts, tp, b, fun k p z => by subst z; exact h6.2.elim, h1, h2, h3, h4, h5, h6, by rw [F.hsub.1] at h7; exact h7, h8⟩
  fld := fun k f i e => F.fld k f i (by rw [F.hfld.1] at e; exact e)
  xat := fun f pins s σ H x u Q I rx ⟨Hf, c, p, l, h, _⟩ => h.elim
  tk := tk
  cal := fun _ => F.cal X.pn X.xe W tk
  mak := fun _ => F.mak X.pn X.xe W tk
  met := fun _ => F.met X.pn X.xe W tk
theorem CnS.of_fc (F : Fc w c X sc G) (tk : Takes X W) (hp : PassesOwn (model X.prog X.w) X.A X.env X.xe) : CnS w c xv0 X sc G W := { CnE.of_fc F tk with lo := F.lo, fc := fun _ => ⟨F, rfl, hp⟩ }
end
end MP

end

section
set_option Elab.async false
set_option linter.all false
set_option maxRecDepth 100000
namespace MP
open PySem PySem.Spec L2
section
variable {w : Wd} {c : Ck} {X : Cx} {sc : Scope} {G : Gx} {W : WX}
theorem call_isET {a D : Addr} {oe : Obj} {pn : List (Addr × Obj)} (C : ExcC X.K D) (hz : Zc (.ref D) none oe) (hf : ∃ vs, oe.data = .fields vs) :
    CallR (X.suite a ((a, oe) :: pn)) (.builtin "isinstance") (fun xs H Q => ∃ tp cs us b, xs = [V.ref a, .ref tp] ∧ H tp = some (.tup cs) ∧ Paired ClsV cs us ∧ PySem.W.kitAny X.K (.ref D) us = some b ∧ Q (.bl b) H) := by
  intro pins s σ H xs us Q I r h
  obtain ⟨tp, cs, ws, b, rfl, hT, k, e, q⟩ := h
  obtain ⟨u1, u2, rfl, r1, r2⟩ := vals2 r
  cases (show u1 = Value.ref a from r1)
  cases (show u2 = Value.ref tp from r2)
  obtain ⟨hget, _⟩ := I.pin (a, oe) (List.mem_append.mpr (.inl List.mem_cons_self))
  obtain ⟨vs, hv⟩ := hf
  have J : PySem.W.InstAt s.heap a oe D none := by
    obtain ⟨oc, od, oda, osl⟩ := oe
    obtain ⟨h1, h2⟩ := hz
    dsimp only at h1 h2 hv
    subst h1 h2 hv
    exact ⟨hget, rfl, rfl, trivial⟩
  obtain ⟨_, its, rv, o, h1, h2, n, h3⟩ := (show ObjOk X.prog X.w H s.heap tp (.tup cs) from I.hok tp _ hT)
  have e3 := ClsV.all k rv
  subst e3
  obtain ⟨oc, od, dt, sl⟩ := o
  simp only at h2 h3
  subst h2 h3
  exact PySem.W.kia_tup (PySem.W.handS_kitx_exc C.hg C.hk C.hs C.hd C.ha C.hn C.ht C.hm) I.kIn J h1 e (fun z => nomatch z) fun tk => ⟨.bl b, H, I.tok tk, rfl, q⟩
theorem xvA_ok {a : Addr} {cls : Value} {d : Option Addr} : XvOk (xvA w a cls d) := fun k p v Hf Hf' l h => ⟨h.1, h.2.mono l⟩
theorem kit_exc (F : Fc w c X sc G) {k : Nat} {q : Xc} (e : w.P.xc k = some q) {p : Option D} : ∀ t b, c.ty t = true → isTy (.xv k p) t w.P.sub = some b → PySem.W.kitOne X.K (.ref (w.cad k)) (tyVal w t) = some b := by
  obtain ⟨_, _, _, h, h2⟩ := F.isE k q e
  intro t b ok e
  rw [F.hK]
  cases p with
  | some p => cases e
  | none =>
    cases t with
    | exc j => cases e; exact (h j ok).1
    | verr => cases e; exact h2
    | _ => cases e
theorem CnE.suite (F : Fc w c X sc G) {a : Addr} {oe : Obj} {cls : Value} {d : Option Addr} (pn : List (Addr × Obj)) (hz : Zc cls d oe) (hf : ∃ vs, oe.data = .fields vs) : CnE w c (xvA w a cls d) (X.suite a ((a, oe) :: pn)) sc G.hot (fun _ _ _ _ => False) where
  hK := F.hK
  hN := F.hN
  nm := F.nm
  nd := F.nd
  vi := F.vi
  gl := F.gl
  hu := F.hu
  calm := fun z => by rw [F.hcm] at z; cases z
  xvo := xvA_ok
  gv := fun g d e => F.gv g d (by rw [← F.hgv]; exact e)
  bl := F.bl
  gcd := F.gcd
  rng := F.rng
  enm := F.enm
  zip := F.zip
  isi := F.isi
  ty := F.ty
  is1 := fun pins s σ H vs us Q I r ⟨Hf, o, x, as, t, b, h1, h2, h3, h4, h5, h6⟩ => by
    subst h1
    rw [F.hsub.2] at h5
    by_cases hx : ∃ k p, o = .xv k p
    · obtain ⟨k, p, rfl⟩ := hx
      obtain ⟨_, rfl, y, e1, rfl, e3, _⟩ := h4
      have ep : p = none := by
        cases p with
        | none => rfl
        | some p => cases t <;> cases h5
      have ed := e3 ep
      subst ed
      have C := (F.isE k y e1).1
      rw [← F.hK] at C
      refine call_isE C hz hf pins s σ H _ us Q I r ⟨tyV w t, tyVal w t, b, rfl, fun u ru => (clsV t).eq ru, kit_exc F e1 t b h2 h5, h6⟩
    · obtain ⟨tv, h7, h8⟩ := is_od F h3 (fun k p z => hx ⟨k, p, z⟩) (is_cl h5) ⟨t, b, h5⟩ h4
      exact call_isi (X := X.suite a ((a, oe) :: pn)) pins s σ H _ us Q I r ⟨x, tyV w t, tv, tyVal w t, b, rfl, clsV t, h7, h8 t b h2 h5, h6⟩
  isT := fun pins s σ H vs us Q I r ⟨Hf, o, x, as, ts, tp, b, h1, h2, h3, h4, h5, h6, h7, h8⟩ => by
    subst h1
    rw [F.hsub.2] at h7
    by_cases hx : ∃ k p, o = .xv k p
    · obtain ⟨k, p, rfl⟩ := hx
      obtain ⟨_, rfl, y, e1, rfl, e3, _⟩ := h6
      have ep : p = none := by
        cases p with
        | none => rfl
        | some p =>
          cases ts with
          | nil => exact absurd rfl h3
          | cons t ts =>
            unfold anyTy at h7
            cases h7
      have ed := e3 ep
      subst ed
      have C := (F.isE k y e1).1
      rw [← F.hK] at C
      exact call_isET C hz hf pins s σ H _ us Q I r ⟨tp, _, _, b, rfl, h2, clsVs ts, kitAny_of (kit_exc F e1) h4 h7, h8⟩
    · have hn : ∃ t b, isTy o t w.P.sub = some b := by
        cases ts with
        | nil => exact absurd rfl h3
        | cons t ts =>
          unfold anyTy at h7
          cases q : isTy o t w.P.sub with
          | none => rw [q] at h7; cases h7
          | some b => exact ⟨t, b, q⟩
      obtain ⟨tv, h9, h10⟩ := is_od F h5 (fun k p z => hx ⟨k, p, z⟩) (any_cl h3 h7) hn h6
      exact call_isiT (X := X.suite a ((a, oe) :: pn)) pins s σ H _ us Q I r ⟨x, tp, _, tv, _, b, rfl, h2, clsVs ts, h9, kitAny_of h10 h4 h7, h8⟩
  fld := fun k f i e => F.fld k f i (by rw [F.hfld.2] at e; exact e)
  xat := fun f pins s σ H x u Q I rx ⟨Hf, k, p, l, ⟨ex, y, e1, ec, _, h4⟩, ef, q⟩ => by
    subst ex ec
    obtain ⟨f', da, v, e2, rfl, e4, rv⟩ := h4 p rfl
    rw [F.hxf.2] at ef
    have ef' : y.fld = some f := by
      unfold Prog.xf at ef
      rw [e1] at ef
      exact ef
    rw [e2] at ef'
    cases ef'
    obtain ⟨_, T, hno, _⟩ := F.isE k y e1
    have hno := hno f e2
    rw [← F.hK] at T hno
    obtain rfl : u = Value.ref a := rx
    obtain ⟨ha, _⟩ := I.pin (a, oe) (List.mem_append_left _ List.mem_cons_self)
    obtain ⟨vs, hd⟩ := hf
    have hx : ObjOk X.prog X.w H s.heap da (.xd [(w.nm f, v)]) := I.hok da _ (l _ _ e4)
    obtain ⟨mA, hns, hr⟩ := hx
    obtain ⟨od, ho, hl⟩ := lookIn_ns hns
    obtain ⟨u, hu, ru⟩ := RelO.some_of (v := v) (o := mA (w.nm f)) (by
      have := hr (w.nm f)
      rw [List.lookup_cons, beq_self_eq_true] at this
      exact this)
    have J : PySem.W.InstAt s.heap a oe (w.cad k) (some od) := ⟨ha, hz.1, by unfold PySem.W.notCls; rw [hd] <;> rfl, by rw [hz.2]; exact ho⟩
    exact HandSPX.exc_get I.kIn J T.ga T.gg T.exC (PySem.W.findObj_own T.hdC hno rfl (by rw [hl, hu])) (handed_of ru) ⟨v, H, I.tok _, ru, q v rv⟩
  tk := fun u s' ⟨a, B, sI, pins, σ, H, cls, d, e, I, nb, up, sky, na, os, ag, w⟩ => w.elim
  cal := fun z => by rw [F.hcm] at z; cases z
  mak := fun z => by rw [F.hcm] at z; cases z
  met := fun z => by rw [F.hcm] at z; cases z
theorem CnS.suite (F : Fc w c X sc G) {a : Addr} {oe : Obj} {cls : Value} {d : Option Addr} (pn : List (Addr × Obj)) (hz : Zc cls d oe) (hf : ∃ vs, oe.data = .fields vs) : CnS w c (xvA w a cls d) (X.suite a ((a, oe) :: pn)) sc { G with toFx := G.hot } (fun _ _ _ _ => False) :=
  { CnE.suite F pn hz hf with lo := F.lo, fc := fun z => by rw [show ({ G with toFx := G.hot } : Gx).calm = G.hot.calm from rfl, F.hcm] at z; cases z }
end
end MP

end

section
set_option Elab.async false
set_option linter.all false
set_option maxRecDepth 100000
namespace MP
open PySem PySem.Spec L2
section
variable {w : Wd} {c : Ck} {xv : XV} {X : Cx} {sc : Scope} {G : Gx} {W : WX}
/-! ### targets -/
def gX (w : Wd) (xv : XV) (t : T) : TG := fun v σ H Q => ∃ H0 Hf0 Hb Hf Γ d Γ', J w xv H0 Hf0 Hb Γ σ H Hf ∧ Rep w Hf d v ∧ setT t (.fz d) Γ = some Γ' ∧ ∀ σ', J w xv H0 Hf0 Hb Γ' σ' H Hf → Q σ' H
def gXs (w : Wd) (xv : XV) (ts : List T) : TGs := fun vs σ H Q => ∃ H0 Hf0 Hb Hf Γ ds Γ', J w xv H0 Hf0 Hb Γ σ H Hf ∧ Reps w Hf ds vs ∧ setTs ts ds Γ = some Γ' ∧ ∀ σ', J w xv H0 Hf0 Hb Γ' σ' H Hf → Q σ' H
theorem ae_cons {t : T} {e : Expr} {es : List Expr} {env : Env} (h : kT c sc t e = true) : assignEach (e :: es) env = (false, assign e env) :: assignEach es env := by
  cases t <;> cases e <;> first | rfl | exact nb h
theorem ae_len {env : Env} : ∀ {ts : List T} {es : List Expr}, kTs c sc ts es = true → (assignEach es env).length = ts.length ∧ (assignEach es env).findIdx? (·.1) = none
  | [], [], _ => ⟨rfl, rfl⟩
  | [], _ :: _, h => nb h
  | _ :: _, [], h => nb h
  | t :: ts, e :: es, h => by
    obtain ⟨h1, h2⟩ := an h
    obtain ⟨h3, h4⟩ := ae_len (env := env) h2
    rw [ae_cons h1]
    refine ⟨by rw [List.length_cons, List.length_cons, h3], ?_⟩
    rw [List.findIdx?_cons]
    simp [h4]
theorem setTs_len : ∀ {ts : List T} {ds : List D} {Γ Γ' : List OD}, setTs ts ds Γ = some Γ' → ds.length = ts.length
  | [], [], _, _, _ => rfl
  | [], _ :: _, _, _, h => by unfold setTs at h; cases h
  | _ :: _, [], _, _, h => by unfold setTs at h; cases h
  | t :: ts, d :: ds, Γ, Γ', h => by
    unfold setTs at h
    obtain ⟨Γ1, h1, h2⟩ := Option.bind_eq_some_iff.mp h
    rw [List.length_cons, List.length_cons, setTs_len h2]
theorem PG.or {X : Cx} {e : Expr} {t t' : TG} (h : PG X e t) (h' : PG X e t') : PG X e (fun v σ H Q => t v σ H Q ∨ t' v σ H Q) := ⟨fun pins s σ H v u Q I r hq => by
  rcases hq with hq | hq
  · exact h.run pins s σ H v u Q I r hq
  · exact h'.run pins s σ H v u Q I r hq⟩
mutual
theorem pg_D (cn : CnS w c xv X sc G W) (hc : X.calm = true) : ∀ {t : T} {e : Expr}, kT c sc t e = true → PG X e (gX w xv t)
  | .n i, e, h => by
    unfold kT at h
    split at h
    · rename_i x p heq
      cases heq
      obtain ⟨h1, h2⟩ := an h
      obtain ⟨h3, h4⟩ := cn.lo _ h2
      refine PG.imp (pg_name cn.nd (by rw [cn.hN]; exact of_decide_eq_true h1) h3 h4) fun v σ H Q ⟨H0, Hf0, Hb, Hf, Γ, d, Γ', j, r, e, q⟩ => ?_
      unfold setT at e
      split at e
      · rename_i hi
        cases e
        exact q _ (j.set cn.xvo (Gr.refl j.gr.lf) hi (res_fz r))
      · cases e
    · rename_i heq
      cases heq
    · exact nb h
  | .t ts, e, h => by
    unfold kT at h
    split at h
    · rename_i heq
      cases heq
    · rename_i es kk p heq
      cases heq
      obtain ⟨l1, l2⟩ := ae_len (env := X.env) h
      refine PG.imp (PG.or (pg_tup hc (pgs_D cn hc h) l1 l2) (pg_lst hc (pgs_D cn hc h) l1 l2)) fun v σ H Q ⟨H0, Hf0, Hb, Hf, Γ, d, Γ', j, r, e, q⟩ => ?_
      unfold setT at e
      have e : (match d.items with
        | some ds => setTs ts ds Γ
        | none => none) = some Γ' := e
      cases d with
      | tup ds =>
        obtain ⟨a, vs, rfl, s, rr⟩ := Rep.tup_iff.mp r
        exact .inl ⟨a, vs, rfl, by rw [cn.hK]; exact j.gr.lf.sqT w s, by rw [rr.length, setTs_len e], H0, Hf0, Hb, Hf, Γ, ds, Γ', j, rr, e, q⟩
      | lst ds =>
        obtain ⟨a, vs, rfl, s, rr⟩ := Rep.lst_iff.mp r
        exact .inr ⟨a, vs, rfl, .inl (j.gr.lf.rd s), by rw [rr.length, setTs_len e], H0, Hf0, Hb, Hf, Γ, ds, Γ', j, rr, e, q⟩
      | _ => cases e
    · exact nb h
theorem pgs_D (cn : CnS w c xv X sc G W) (hc : X.calm = true) : ∀ {ts : List T} {es : List Expr}, kTs c sc ts es = true → PGs X es (gXs w xv ts)
  | [], [], h => PGs.imp pgs_nil fun vs σ H Q ⟨H0, Hf0, Hb, Hf, Γ, ds, Γ', j, r, e, q⟩ => by
    cases ds with
    | nil =>
      unfold setTs at e
      cases e
      exact ⟨Reps.nil_iff.mp r, q σ j⟩
    | cons d ds => unfold setTs at e; cases e
  | [], _ :: _, h => nb h
  | _ :: _, [], h => nb h
  | t :: ts, e :: es, h => by
    obtain ⟨h1, h2⟩ := an h
    refine PGs.imp (pgs_cons (pg_D cn hc h1) (pgs_D cn hc h2) (by rw [ae_cons h1]; rfl)) fun vs σ H Q ⟨H0, Hf0, Hb, Hf, Γ, ds, Γ', j, r, e, q⟩ => ?_
    cases ds with
    | nil => unfold setTs at e; cases e
    | cons d ds =>
      unfold setTs at e
      obtain ⟨Γ1, e1, e2⟩ := Option.bind_eq_some_iff.mp e
      obtain ⟨v, vs', rfl, r1, r2⟩ := Reps.cons_iff.mp r
      exact ⟨v, vs', rfl, H0, Hf0, Hb, Hf, Γ, d, Γ1, j, r1, e1, fun σ1 j1 => ⟨H0, Hf0, Hb, Hf, Γ1, ds, Γ', j1, r2, e2, q⟩⟩
end
/-! ### statements -/
def SS (w : Wd) (c : Ck) (s : S) : Prop := ∀ (xv : XV) (X : Cx) (sc : Scope) (G : Gx) (W : WX), CnS w c xv X sc G W → ∀ (st : Stmt), kS c sc s st = true → PS X st (tX w xv W (exec s G))
def SL (w : Wd) (c : Ck) (ss : List S) : Prop := ∀ (xv : XV) (X : Cx) (sc : Scope) (G : Gx) (W : WX), CnS w c xv X sc G W → ∀ (sts : List Stmt), kSs c sc ss sts = true → PSs X sts (tX w xv W (execs ss G))
theorem ss_pass : SS w c .pass := fun xv X sc G W cn st h => by
  unfold kS kPass at h
  split at h
  · exact PS.imp ps_pass fun D σ H ⟨H0, Hf0, Hb, Hf, Γ, j, q⟩ => by unfold exec at q; exact q σ H Hf j
  · exact PS.imp ps_doc fun D σ H ⟨H0, Hf0, Hb, Hf, Γ, j, q⟩ => by unfold exec at q; exact q σ H Hf j
  · exact nb h
theorem swap_no {x : Expr} {tg : Option Expr} {l : Nat} {env : Env} (h : noComp x = true) : swapsWith x tg l env = pure false := by
  cases x <;> first | rfl | cases h
theorem ss_ex {e : E} : SS w c (.ex e) := fun xv X sc G W cn st h => by
  unfold kS kEx at h
  split at h
  · obtain ⟨h1, h2⟩ := an h
    refine PS.imp (ps_expr (SE.all e xv X sc G.toFx W cn.toCnE _ true h2) (swap_no h1)) fun D σ H ⟨H0, Hf0, Hb, Hf, Γ, j, q⟩ => ?_
    unfold exec at q
    exact ⟨Hf, Γ, j.at, (q.liftR cn.xvo j).imp fun o _ q v H' Hf' g r => q σ H' Hf' (j.mono cn.xvo g)⟩
  · exact nb h
theorem ss_asg {t : T} {e : E} : SS w c (.asg t e) := fun xv X sc G W cn st h => by
  unfold kS kAsg at h
  split at h
  · rename_i tg x p
    obtain ⟨h1, h⟩ := an h
    obtain ⟨h2, h⟩ := an h
    obtain ⟨h3, h4⟩ := an h
    have pe := SE.all e xv X sc G.toFx W cn.toCnE _ false h4
    cases t with
    | n i =>
      cases tg with
      | Name y q =>
        obtain ⟨k1, k2⟩ := an (show (decide (c.N[i]? = some y) && MP.loc sc y) = true from h3)
        obtain ⟨k3, k4⟩ := cn.lo _ k2
        refine PS.imp (ps_set cn.nd (by rw [cn.hN]; exact of_decide_eq_true k1) k3 pe (swap_no h1) k4) fun D σ H ⟨H0, Hf0, Hb, Hf, Γ, j, q⟩ => ?_
        unfold exec at q
        simp only [T.isT, Bool.and_false, Bool.false_eq_true, if_false] at q
        refine ⟨Hf, Γ, j.at, (q.liftR cn.xvo j).imp fun o _ q v H' Hf' g r => ?_⟩
        obtain ⟨Γ', e1, q⟩ := q.liftO
        unfold setT at e1
        split at e1
        · rename_i hi
          cases e1
          rw [Bool.and_false] at r
          exact q _ H' Hf' (j.set cn.xvo g hi r)
        · cases e1
      | _ => exact nb h3
    | t ts =>
      cases hcm : G.calm with
      | false =>
        exact ⟨fun pins s σ H D I ⟨H0, Hf0, Hb, Hf, Γ, j, q⟩ => by
          unfold exec at q
          simp only [hcm, T.isT, Bool.not_false, Bool.and_self, if_true] at q
          exact q.elim⟩
      | true =>
        have hc := cn.calm hcm
        have e1 : (assignEach [tg] X.env).map (·.2) = [assign tg X.env] := by rw [ae_cons h3]; rfl
        have hw : swappedStores [tg] x X.env = pure none := by
          cases tg with
          | Tuple es k p2 => cases x <;> first | exact nb h2 | rfl
          | _ => exact nb h3
        refine PS.imp (ps_asg pe (pg_D cn hc h3) (swap_no h1) hw e1) fun D σ H ⟨H0, Hf0, Hb, Hf, Γ, j, q⟩ => ?_
        unfold exec at q
        simp only [hcm, Bool.not_true, Bool.false_and, Bool.false_eq_true, if_false] at q
        refine ⟨Hf, Γ, j.at, (q.liftR cn.xvo j).imp fun o _ q v H' Hf' g r => ?_⟩
        obtain ⟨Γ', e1, q⟩ := q.liftO
        have e2 : ∃ d, o.toD = some d ∧ setT (.t ts) (.fz d) Γ = some Γ' := by
          unfold setT at e1 ⊢
          cases q : o.toD with
          | none => rw [q] at e1; cases e1
          | some d => rw [q] at e1; exact ⟨d, rfl, e1⟩
        obtain ⟨d, e3, e4⟩ := e2
        rw [Bool.and_false] at r
        obtain ⟨Hf2, g2, r2⟩ := r.data g e3
        exact ⟨H0, Hf0, Hb, Hf2, Γ, d, Γ', j.mono cn.xvo g2, r2, e4, fun σ' j' => q σ' H' Hf2 j'⟩
  · exact nb h
theorem ss_ret {e : E} : SS w c (.ret e) := fun xv X sc G W cn st h => by
  unfold kS kRet at h
  split at h
  · refine PS.imp ps_retN fun D σ H ⟨H0, Hf0, Hb, Hf, Γ, j, q⟩ => ?_
    cases e with
    | non =>
      unfold exec retE ev at q
      exact q _ H Hf j.gr (res_fz (Rep.non_iff.mpr rfl))
    | _ => exact nb h
  · rename_i x p
    by_cases hv : ∃ i, e = .var i
    · obtain ⟨i, rfl⟩ := hv
      unfold kE kVar at h
      split at h
      · obtain ⟨h1, h2⟩ := an h
        obtain ⟨d1, d2⟩ := vis_of h2
        refine PS.imp (ps_ret (pe_var (by rw [cn.hN]; exact of_decide_eq_true h1) (cn.vi _ h2) d1 d2)) fun D σ H ⟨H0, Hf0, Hb, Hf, Γ, j, q⟩ => ?_
        unfold exec retE at q
        simp only at q
        cases eo : Γ[i]? with
        | none => rw [eo] at q; exact q.elim
        | some o =>
          rw [eo] at q
          have ne : o ≠ .un := fun z => by subst z; exact q.elim
          obtain ⟨v, as, e1, r, nd, f⟩ := j.slot eo ne
          refine ⟨v, e1, ?_⟩
          have q : wpX w xv W H0 Hf0 Hb D (.ok (.rt o) Γ) := by
            cases o <;> first | exact absurd rfl ne | exact q
          exact q v H Hf j.gr ⟨as, r, nd, fun _ => f⟩
      · exact nb h
    · refine PS.imp (ps_ret (SE.all e xv X sc G.toFx W cn.toCnE _ false h)) fun D σ H ⟨H0, Hf0, Hb, Hf, Γ, j, q⟩ => ?_
      have q : wpX w xv W H0 Hf0 Hb D (liftR (ev G.toFx e Γ false) Γ fun o => .ok (.rt o) Γ) := by
        unfold exec retE at q
        cases e <;> first | exact absurd ⟨_, rfl⟩ hv | exact q
      exact ⟨Hf, Γ, j.at, (q.liftR cn.xvo j).imp fun o _ q v H' Hf' g r => q v H' Hf' (j.gr.trans g) (by rw [Bool.and_false] at r; exact r.back j.gr)⟩
  · exact nb h
theorem ss_iff {t : E} {a b : List S} (ha : SL w c a) (hb : SL w c b) : SS w c (.iff t a b) := fun xv X sc G W cn st h => by
  unfold kS kIff at h
  split at h
  · obtain ⟨h1, h⟩ := an h
    obtain ⟨h2, h3⟩ := an h
    refine PS.imp (ps_if (ST.all t xv X sc G.toFx W cn.toCnE _ h1) (ha xv X sc G W cn _ h2) (hb xv X sc G W cn _ h3)) fun D σ H ⟨H0, Hf0, Hb, Hf, Γ, j, q⟩ => ?_
    unfold exec at q
    refine ⟨Hf, Γ, j.at, (q.liftR cn.xvo j).imp fun d _ q H' Hf' g => ?_⟩
    cases d with
    | true => exact ⟨H0, Hf0, Hb, Hf', Γ, j.mono cn.xvo g, q⟩
    | false => exact ⟨H0, Hf0, Hb, Hf', Γ, j.mono cn.xvo g, q⟩
  · exact nb h
theorem ss_app {i : Nat} {e : E} : SS w c (.app i e) := fun xv X sc G W cn st h => by
  unfold kS kApp at h
  split at h
  · rename_i y yp g ap z p pp
    obtain ⟨h1, h⟩ := an h
    obtain ⟨h2, h⟩ := an h
    obtain ⟨h3, h⟩ := an h
    obtain ⟨h4, h⟩ := an h
    obtain ⟨h5, h6⟩ := an h
    have e1 := of_decide_eq_true h3
    subst e1
    obtain ⟨d1, d2⟩ := vis_of h2
    have pv : PE X (.Name y yp) (tVar i) := pe_var (by rw [cn.hN]; exact of_decide_eq_true h1) (cn.vi _ h2) d1 d2
    have hs : starEach [z] X.env = (false, eval z X.env) :: starEach [] X.env := star_of h5
    have hb : (backTo p (starEach [] X.env)).any (·.1) = false := rfl
    have few : ((backTo p (starEach [z] X.env)).all (fun x => !x.1) && (backToKw p (keywordEach [] X.env)).all (fun x => x.1.isSome) && decide ([z].length + ([] : List Keyword).length + (if ([] : List Keyword).isEmpty then 0 else 1) < 30)) = true := by
      rw [hs]; rfl
    refine PS.imp (ps_expr (pe_bm PySem.F.plainAttrs_list PySem.F.slot_list_append PySem.F.type_list_append mt_append pv (pa_cons (SE.all e xv X sc G.toFx W cn.toCnE _ false h6) pa_nil hs) (by rfl) few h4 hs hb) (by rfl)) fun D σ H ⟨H0, Hf0, Hb, Hf, Γ, j, q⟩ => ?_
    unfold exec at q
    cases ho : ownAt Γ i with
    | false => rw [ho] at q; exact q.elim
    | true =>
    rw [ho] at q
    have q : wpX w xv W H0 Hf0 Hb D (liftR (ev G.toFx e Γ false) Γ fun o => liftO (appAt Γ i o) fun Γ' => .ok .nx Γ') := q
    have q := q.liftR cn.xvo j
    obtain ⟨v0, as0, e1, r1, e0⟩ : ∃ v as, σ[i]? = some (some v) ∧ (∃ a vs, v = V.ref a ∧ H a = some (.lst vs)) ∧ True := by
      unfold ownAt at ho
      split at ho
      · rename_i ds eo
        obtain ⟨v, as, k1, ⟨a, vs, k2, _, k3, _⟩, _⟩ := j.slot eo (fun z => nomatch z)
        exact ⟨v, as, k1, ⟨a, vs, k2, k3⟩, trivial⟩
      · rename_i ds eo
        obtain ⟨v, as, k1, ⟨a, vs, as', k2, _, k3, _⟩, _⟩ := j.slot eo (fun z => nomatch z)
        exact ⟨v, as, k1, ⟨a, vs, k2, k3⟩, trivial⟩
      · cases ho
    obtain ⟨a, vs, rfl, e2⟩ := r1
    refine ⟨.ref a, e1, .inl ⟨rfl, vs, SqL.of e2⟩, Hf, Γ, j.at, q.imp fun o _ q v H' Hf' g r => ?_⟩
    obtain ⟨Γ', ea, q⟩ := q.liftO
    unfold appAt at ea
    split at ea
    · rename_i ds eo
      split at ea
      · rename_i hl
        obtain ⟨d, ed, rfl⟩ := Option.map_eq_some_iff.mp ea
        rw [Bool.and_false] at r
        obtain ⟨Hf2, g2, r2⟩ := r.data g ed
        obtain ⟨a', vs', k1, k2, k3, k4, k5⟩ := (j.mono cn.xvo g2).upd eo
        rw [e1] at k1
        cases k1
        have e5 := g.le _ _ e2
        rw [e5] at k2
        cases k2
        refine ⟨a, vs, v, rfl, rfl, e5, ?_, q _ _ _ (k5 _ _ (k4.append (Reps.cons_iff.mpr ⟨v, [], rfl, r2, Reps.nil_iff.mpr rfl⟩)))⟩
        rw [k4.length]
        have := line_le
        omega
      · cases ea
    · cases ea
  · exact nb h
end
end MP

end

section
set_option Elab.async false
set_option linter.all false
set_option maxRecDepth 100000
namespace MP
open PySem PySem.Spec L2
section
variable {w : Wd} {c : Ck} {xv : XV} {X : Cx} {sc : Scope} {G : Gx} {W : WX}
/-! ### raise -/
theorem ss_rais {k : Nat} {es : List E} : SS w c (.rais k es) := fun xv X sc G W cn st h => by
  unfold kS at h
  split at h
  · rename_i m
    unfold kRais at h
    split at h
    · rename_i x p z j p2 pos pos2
      obtain ⟨h1, h⟩ := an h
      obtain ⟨h2, h⟩ := an h
      obtain ⟨h3, h4⟩ := an h
      have e1 := of_decide_eq_true h2
      subst e1
      cases hcm : G.calm with
      | false =>
        exact ⟨fun pins s σ H D I ⟨H0, Hf0, Hb, Hf, Γ, j, q⟩ => by
          unfold exec at q
          simp only [hcm, if_true] at q
          exact q.elim⟩
      | true =>
        obtain ⟨F, rfl, hp⟩ := cn.fc hcm
        rw [cn.nm] at h3 ⊢
        obtain ⟨r1, r2, r3⟩ := F.rai k h1 h3
        refine PS.imp (ps_raise (cn.calm hcm) cn.tk (r3 X.pn X.xe z p p2 pos j)) fun D σ H ⟨H0, Hf0, Hb, Hf, Γ, j, q⟩ => ?_
        unfold exec at q
        simp only [hcm, Bool.true_eq_false, if_false] at q
        unfold evF ev evF frz at q
        simp only [R.bind_ok, OD.toD, R.ofO_some, liftR_ok, F.hxf.1, r2, Option.isSome_none, Bool.false_eq_true, if_false] at q
        cases e : w.P.xc k with
        | none => exact absurd e r1
        | some y => exact q _ _ σ H Hf j ⟨y, e, rfl, fun _ => rfl, fun x e => nomatch e⟩
    · exact nb h
  · exact nb h
/-! ### try -/
theorem RepO.ofXv {xv xv' : XV} {H Hf : Hp} {o : OD} {v : V} {as : List Addr} (n : noXv o = true) (h : RepO w xv H Hf o v as) : RepO w xv' H Hf o v as := by
  cases o with
  | xv c p => cases n
  | _ => exact h
theorem J.toXv {xv : XV} {H0 Hf0 Hb : Hp} {Γ : List OD} {σ : L2.St} {H Hf : Hp} (j : J w xv0 H0 Hf0 Hb Γ σ H Hf) : J w xv H0 Hf0 Hb Γ σ H Hf := by
  obtain ⟨A, h1, h2, h3⟩ := j.own
  refine ⟨j.gr, j.hb, j.len, A, fun i o e => ?_, h2, h3⟩
  rcases h1 i o e with h | ⟨v, e1, r, n⟩
  · exact .inl h
  · exact .inr ⟨v, e1, r.toXv, n⟩
theorem J.ofXv {xv xv' : XV} {H0 Hf0 Hb : Hp} {Γ : List OD} {σ : L2.St} {H Hf : Hp} (n : Γ.all noXv = true) (j : J w xv H0 Hf0 Hb Γ σ H Hf) : J w xv' H0 Hf0 Hb Γ σ H Hf := by
  obtain ⟨A, h1, h2, h3⟩ := j.own
  refine ⟨j.gr, j.hb, j.len, A, fun i o e => ?_, h2, h3⟩
  have no : noXv o = true := List.all_eq_true.mp n o (List.mem_of_getElem? e)
  rcases h1 i o e with h | ⟨v, e1, r, n⟩
  · exact .inl h
  · exact .inr ⟨v, e1, r.ofXv no, n⟩
/-- the ends of an except suite -/
def clrS (x : Option Nat) (σ : L2.St) : L2.St := match x with
  | some i => σ.set i none
  | none => σ
theorem J.clrAt {xv : XV} {H0 Hf0 Hb : Hp} {Γ : List OD} {σ : L2.St} {H Hf : Hp} (x : Option Nat) (j : J w xv H0 Hf0 Hb Γ σ H Hf) : J w xv H0 Hf0 Hb (MP.clrAt x Γ) (clrS x σ) H Hf := by
  cases x with
  | none => exact j
  | some i => exact j.clr i none
theorem wpX.suite {xv : XV} {H0 Hf0 Hb : Hp} {D : Ends} {x : Option Nat} {r : XR} (h : wpX w xv0 W H0 Hf0 Hb D (noXvR x r)) :
    wpX w xv (fun _ _ _ _ => False) H0 Hf0 Hb { nx := fun σ' H' => D.nx (clrS x σ') H', rt := D.rt, bk := fun σ' H' => D.bk (clrS x σ') H', ct := fun σ' H' => D.ct (clrS x σ') H' } r := by
  cases r with
  | ok f Γ =>
    have h : wpX w xv0 W H0 Hf0 Hb D (if (MP.clrAt x Γ).all noXv && flNoXv f then .ok f (MP.clrAt x Γ) else .bad) := h
    cases q : ((MP.clrAt x Γ).all noXv && flNoXv f) with
    | true =>
      rw [q] at h
      obtain ⟨q1, q2⟩ := an q
      cases f with
      | nx => exact fun σ H Hf j => h _ H Hf ((j.clrAt x).ofXv q1)
      | bk => exact fun σ H Hf j => h _ H Hf ((j.clrAt x).ofXv q1)
      | ct => exact fun σ H Hf j => h _ H Hf ((j.clrAt x).ofXv q1)
      | rt o => exact fun v H Hf g r => h v H Hf g (by obtain ⟨as, r1, r2⟩ := r; exact ⟨as, r1.ofXv q2, r2⟩)
    | false => rw [q] at h; exact h.elim
  | ex c p Γ => exact h.elim
  | bad => exact h.elim
theorem wp_try {H0 Hf0 Hb : Hp} {D : Ends} {W W' : WX} {r : XR} {f : Nat → Option MP.D → List OD → XR} (h : wpX w xv0 W H0 Hf0 Hb D (match r with
    | .ex k p Γ => f k p Γ
    | r => r)) (i : ∀ k p Γ, wpX w xv0 W H0 Hf0 Hb D (f k p Γ) → wpX w xv0 W' H0 Hf0 Hb D (.ex k p Γ)) : wpX w xv0 W' H0 Hf0 Hb D r := by
  cases r with
  | ok g Γ => cases g <;> exact h
  | ex k p Γ => exact i k p Γ h
  | bad => exact h
theorem ss_tryy {b h : List S} {k : Nat} {x : Option Nat} (hb : SL w c b) (hh : SL w c h) : SS w c (.tryy b k x h) := fun xv X sc G W cn st hk => by
  unfold kS kTry at hk
  split at hk
  · rename_i ys y py v z zs p1 p2
    obtain ⟨h1, hk⟩ := an hk
    obtain ⟨h2, hk⟩ := an hk
    obtain ⟨h3, h4⟩ := an hk
    cases hcm : G.calm with
    | false =>
      exact ⟨fun pins s σ H D I ⟨H0, Hf0, Hb, Hf, Γ, j, q⟩ => by
        unfold exec at q
        simp only [hcm, if_true] at q
        exact q.elim⟩
    | true =>
      obtain ⟨F, rfl, hp⟩ := cn.fc hcm
      have hty := kTy_ok h2
      unfold kTy at h2
      obtain ⟨g1, g2⟩ := an h2
      obtain ⟨g3, g4⟩ := an g2
      have ey := of_decide_eq_true g4
      rw [show tyName c.nm (.exc k) = c.nm k from rfl] at ey
      subst ey
      have hnm : Names X (c.nm k) (.ref (w.cad k)) := ⟨F.gl _ g1, glb_of g1, .inl (by rw [cn.nm]; exact F.ty _ hty)⟩
      have body : ∀ (W : WX) (pn : List (Addr × Obj)) (xe : Value → Shared → Prop), Takes (X.tr pn xe) W → PassesOwn (model X.prog X.w) X.A X.env xe → PSs (X.tr pn xe) ys (tX w xv0 W (execs b G)) := fun W pn xe tk hp =>
        hb xv0 (X.tr pn xe) sc G W (CnS.of_fc (F.tr pn xe) tk hp) ys h1
      have suit : ∀ (a : Addr) (oe : Obj) (cls : Value) (d : Option Addr) (pn : List (Addr × Obj)), Zc cls d oe → (∃ vs, oe.data = .fields vs) → PSs (X.suite a ((a, oe) :: pn)) (z :: zs) (tX w (xvA w a cls d) (fun _ _ _ _ => False) (execs h { G with toFx := G.hot })) := fun a oe cls d pn hz hf =>
        hh _ _ sc _ _ (CnS.suite F pn hz hf) _ h4
      have exm : ∀ {Hf : Hp} {k' : Nat} {p : Option MP.D} {cls : Value} {d : Option Addr}, ExR w Hf k' p cls d → PySem.W.exmOne X.K cls (.ref (w.cad k)) = some (G.sub k' (.exc k)) := fun e => by
        obtain ⟨q, e1, rfl, _⟩ := e
        rw [F.hK, F.hsub.1]
        exact ((F.isE _ q e1).2.2.2.1 k hty).2
      cases x with
      | none =>
        have hv : v = none := by
          cases v with
          | none => rfl
          | some v => exact nb h3
        subst hv
        refine PS.imp (ps_try_only (tb := fun W => tX w xv0 W (execs b G)) (ts := fun a cls d => tX w (xvA w a cls d) (fun _ _ _ _ => False) (execs h { G with toFx := G.hot })) F.stk F.frm hnm cn.tk body suit) fun D σ H ⟨H0, Hf0, Hb, Hf, Γ, j, q⟩ => ?_
        refine ⟨H0, Hf0, Hb, Hf, Γ, j, ?_⟩
        unfold exec at q
        simp only [hcm, Bool.true_eq_false, if_false] at q
        refine wp_try q fun k' p Γ' q cls d σ' H' Hf' j' e => ?_
        refine ⟨_, exm e, fun hs a ha => ?_, fun hs => ?_⟩
        · rw [hs] at q
          exact ⟨H0, Hf0, Hb, Hf', Γ', j'.toXv, wpX.suite (x := none) q⟩
        · rw [hs] at q
          exact q cls d σ' H' Hf' j' e
      | some i =>
        cases v with
        | none => exact nb h3
        | some v =>
          obtain ⟨h5, h6⟩ := an h3
          have h5 := of_decide_eq_true h5
          have h6 := of_decide_eq_true h6
          refine PS.imp (ps_try_as (tb := fun W => tX w xv0 W (execs b G)) (ts := fun a cls d => tX w (xvA w a cls d) (fun _ _ _ _ => False) (execs h { G with toFx := G.hot })) F.stk F.frm F.nd (by rw [F.hN]; exact h5) (F.lcl _ h6) hnm cn.tk body suit) fun D σ H ⟨H0, Hf0, Hb, Hf, Γ, j, q⟩ => ?_
          refine ⟨H0, Hf0, Hb, Hf, Γ, j, ?_⟩
          unfold exec at q
          simp only [hcm, Bool.true_eq_false, if_false] at q
          refine wp_try q fun k' p Γ' q cls d σ' H' Hf' j' e => ?_
          refine ⟨_, exm e, fun hs a ha => ?_, fun hs => ?_⟩
          · rw [hs] at q
            simp only [if_true] at q
            split at q
            · rename_i hi
              refine ⟨H0, Hf0, Hb, Hf', _, (j'.toXv (xv := xvA w a cls d)).set xvA_ok (Gr.refl j'.gr.lf) hi (o := .xv k' p) ⟨[], ⟨rfl, rfl, e⟩, List.nodup_nil, fun _ a m => (nomatch m)⟩, wpX.suite (x := some i) q⟩
            · exact q.elim
          · rw [hs] at q
            exact q cls d σ' H' Hf' j' e
  · exact nb hk
/-! ### for -/
theorem evOs_len {Fx : MP.Fx} {es : List E} : ∀ {Γ : List OD} {ds : List MP.D}, evOs Fx es Γ = .ok ds → ds.length = es.length := by
  induction es with
  | nil => intro Γ ds h; unfold evOs at h; cases h; rfl
  | cons e es ih =>
    intro Γ ds h
    rw [evOs] at h
    obtain ⟨d, _, h⟩ := rb h
    obtain ⟨ds', h1, h⟩ := rb h
    cases h
    rw [List.length_cons, List.length_cons, ih h1]
def iSeq (K : PySem.W.Frag) (tl : TE) : TI := fun σ H R => tl σ H fun x H1 => ∃ a, x = .ref a ∧ (((∃ xs, SqL K H1 a xs) ∧ R (Itl K a) H1) ∨ ((∃ xs, SqT K H1 a xs) ∧ R (Itt K a) H1))
theorem pi_seq {X : Cx} {tg l : Expr} {tl : TE} (hl : PE X l tl) : PI X tg l (iSeq X.K tl) := by
  refine ⟨fun pins s σ H R I h => ?_⟩
  refine thn (hl.run pins s σ H _ I h) fun v s1 ⟨x, H1, I1, r1, q1⟩ => ?_
  obtain ⟨a, e, q⟩ := q1
  subst e
  cases r1
  rcases q with ⟨⟨xs, hq⟩, q⟩ | ⟨⟨xs, hq⟩, q⟩
  · obtain ⟨its, rv, p, hz⟩ := I1.list hq
    refine wpAny_pyIter_list p.isList ?_
    refine ⟨s1.heap.objs.size, [s1.heap.objs.size], _, _, H1, rfl, I1.kept (t' := s1.toks) fun b o e => Heap.get?_push_of_some _ e, turn_list a _, ⟨_, Heap.get?_push_size _ rfl, rfl, rfl⟩, fun b hb => ?_, q⟩
    have e : b = s1.heap.objs.size := by simpa using hb
    subst e
    exact I1.fpOk (Nat.le_refl _) (I1.hok.fresh (Nat.le_refl _))
  · obtain ⟨its, rv, p, hz⟩ := I1.tuple hq
    refine wpAny_pyIter_tuple (show s1.heap.IsTuple a its.toArray from p) ?_
    refine ⟨s1.heap.objs.size, [s1.heap.objs.size], _, _, H1, rfl, I1.kept (t' := s1.toks) fun b o e => Heap.get?_push_of_some _ e, turn_tuple a _, ⟨_, Heap.get?_push_size _ rfl, rfl, rfl⟩, fun b hb => ?_, q⟩
    have e : b = s1.heap.objs.size := by simpa using hb
    subst e
    exact I1.fpOk (Nat.le_refl _) (I1.hok.fresh (Nat.le_refl _))
theorem fold_no {x : Expr} {env : Env} (h : noSet x = true) : ∀ v, foldedSetIterable x env v = pure v := fun v => by
  cases x <;> first | rfl | cases h
theorem wpX.weak {H0 Hf0 Hb Hb2 : Hp} {D : Ends} {r : XR} (l : Le Hb Hb2) (h : wpX w xv W H0 Hf0 Hb D r) : wpX w xv W H0 Hf0 Hb2 D r := by
  cases r with
  | ok f Γ => cases f with
    | nx => exact fun σ H Hf j => h σ H Hf (j.weak l)
    | bk => exact fun σ H Hf j => h σ H Hf (j.weak l)
    | ct => exact fun σ H Hf j => h σ H Hf (j.weak l)
    | rt o => exact h
  | ex c p Γ => exact fun cls d σ H Hf j e => h cls d σ H Hf (j.weak l) e
  | bad => exact h
/-- what holds ahead of the i-th turn -/
def LP (w : Wd) (xv : XV) (W : WX) (H0 Hf0 Hb : Hp) (D : Ends) (body : List OD → XR) (t : T) (ds : List MP.D) (i : Nat) (σ : L2.St) (H : Hp) : Prop :=
  ∃ Hf Γ, J w xv H0 Hf0 Hb Γ σ H Hf ∧ wpX w xv W H0 Hf0 Hb D (forL body t (ds.drop i) Γ)
theorem LP.step {H0 Hf0 Hb : Hp} {D : Ends} {body : List OD → XR} {t : T} {ds : List MP.D} {i : Nat} {σ : L2.St} {H : Hp} {d : MP.D} {v : V} (e : ds[i]? = some d) (p : LP w xv W H0 Hf0 Hb D body t ds i σ H) (r : Rep w Hb d v) :
    gX w xv t v σ H fun σ2 H2 => tX w xv W body { D with nx := LP w xv W H0 Hf0 Hb D body t ds (i + 1), ct := LP w xv W H0 Hf0 Hb D body t ds (i + 1), bk := D.nx } σ2 H2 := by
  obtain ⟨Hf, Γ, j, q⟩ := p
  have hi := (List.getElem?_eq_some_iff.mp e).1
  have ed : ds.drop i = d :: ds.drop (i + 1) := by
    rw [List.drop_eq_getElem_cons hi]
    congr 1
    exact (List.getElem?_eq_some_iff.mp e).2
  rw [ed] at q
  unfold forL at q
  obtain ⟨Γ', e1, q⟩ := q.liftO
  refine ⟨H0, Hf0, Hb, Hf, Γ, d, Γ', j, Rep.mono w j.hb _ _ r, e1, fun σ' j' => ⟨H0, Hf0, Hb, Hf, Γ', j', ?_⟩⟩
  cases q2 : body Γ' with
  | ok f Γ2 =>
    rw [q2] at q
    cases f with
    | nx => exact fun σ H Hf j => ⟨Hf, Γ2, j, q⟩
    | ct => exact fun σ H Hf j => ⟨Hf, Γ2, j, q⟩
    | bk => exact q
    | rt o => exact q
  | ex c p Γ2 => rw [q2] at q; exact q
  | bad => rw [q2] at q; exact q.elim
theorem LP.done {H0 Hf0 Hb : Hp} {D : Ends} {body : List OD → XR} {t : T} {ds : List MP.D} {i : Nat} {σ : L2.St} {H : Hp} (e : ds.length ≤ i) (p : LP w xv W H0 Hf0 Hb D body t ds i σ H) : D.nx σ H := by
  obtain ⟨Hf, Γ, j, q⟩ := p
  rw [List.drop_eq_nil_of_le e] at q
  unfold forL at q
  exact q σ H Hf j
theorem LP.start {H0 Hf0 Hb Hf : Hp} {D : Ends} {body : List OD → XR} {t : T} {ds : List MP.D} {Γ : List OD} {σ : L2.St} {H : Hp} (j : J w xv H0 Hf0 Hb Γ σ H Hf) (q : wpX w xv W H0 Hf0 Hb D (forL body t ds Γ)) : LP w xv W H0 Hf0 Hf D body t ds 0 σ H :=
  ⟨Hf, Γ, ⟨j.gr, Le.refl _, j.len, j.own⟩, q.weak j.hb⟩
theorem frzD_ne {e : E} {Γ : List OD} {pk : Bool} (h : ∀ σ H Hf, wpR w W σ H Hf (ev G.toFx e Γ pk) (fun _ => True) → True) : True := trivial
theorem ss_for_seq {t : T} {it : E} {b : List S} (hb : SL w c b) (cn : CnS w c xv X sc G W) (hcm : G.calm = true) {tg x : Expr} {ys : List Stmt} {p : Pos} (h0 : noSet x = true) (h1 : kT c sc t tg = true) (h2 : kE c sc it x = true) (h3 : kSs c sc b ys = true) :
    PS X (.For tg x ys [] p) (tX w xv W (exec (.forr t it b) G)) := by
  obtain ⟨F, rfl, hp⟩ := cn.fc hcm
  have pe := pe_F cn.hK (SE.all it xv0 X sc G.toFx W cn.toCnE x false h2)
  refine PS.imp (ps_for hp F.cm (pi_seq pe) (pg_D cn F.cm h1) (hb xv0 X sc G W cn ys h3) (fold_no h0)) fun D σ H ⟨H0, Hf0, Hb, Hf, Γ, j, q⟩ => ?_
  unfold exec at q
  simp only [hcm, Bool.true_eq_false, if_false] at q
  refine ⟨Hf, Γ, j.at, (wpR.bind.mp (q.liftR cn.xvo j)).imp fun d _ q v H' Hf' g r => ?_⟩
  obtain ⟨ds, ed, q⟩ := wpR.ofO.mp q
  have j' := j.mono cn.xvo g
  have l0 := LP.start j' q
  cases d with
  | lst ds' =>
    cases ed
    obtain ⟨a, vs, rfl, s, rr⟩ := Rep.lst_iff.mp r
    have sq : ∀ {Hf2 H2 : Hp}, Le Hf' Hf2 → Le Hf2 H2 → SqL X.K H2 a vs := fun l1 l2 => .inl (l2.rd (l1.rd s))
    refine ⟨a, rfl, .inl ⟨⟨vs, sq (Le.refl _) g.lf⟩, ?_⟩⟩
    refine for_list (LP w xv0 W H0 Hf0 Hf' D _ t ds) l0 (fun i σ H _ ⟨Hf2, Γ2, j2, _⟩ => sq j2.hb j2.gr.lf) (fun i x σ H ex p => ?_) fun σ H p => p.done (Nat.le_of_eq rr.length.symm)
    have hi := (List.getElem?_eq_some_iff.mp ex).1
    obtain ⟨v, e1, e2⟩ := rr.get (List.getElem?_eq_getElem (l := ds) (i := i) (by rw [← rr.length]; exact hi))
    rw [ex] at e1
    cases e1
    exact p.step (List.getElem?_eq_getElem _) e2
  | tup ds' =>
    cases ed
    obtain ⟨a, vs, rfl, s, rr⟩ := Rep.tup_iff.mp r
    have sq : ∀ {Hf2 H2 : Hp}, Le Hf' Hf2 → Le Hf2 H2 → SqT X.K H2 a vs := fun l1 l2 => by rw [F.hK]; exact l2.sqT w (l1.sqT w s)
    refine ⟨a, rfl, .inr ⟨⟨vs, sq (Le.refl _) g.lf⟩, ?_⟩⟩
    refine for_tup (LP w xv0 W H0 Hf0 Hf' D _ t ds) l0 (fun i σ H _ ⟨Hf2, Γ2, j2, _⟩ => sq j2.hb j2.gr.lf) (fun i x σ H ex p => ?_) fun σ H p => p.done (Nat.le_of_eq rr.length.symm)
    have hi := (List.getElem?_eq_some_iff.mp ex).1
    obtain ⟨v, e1, e2⟩ := rr.get (List.getElem?_eq_getElem (l := ds) (i := i) (by rw [← rr.length]; exact hi))
    rw [ex] at e1
    cases e1
    exact p.step (List.getElem?_eq_getElem _) e2
  | _ => cases ed
theorem smallI_ok {i : Int} (h : smallI i = true) : -(2 ^ 62) ≤ i ∧ i < 2 ^ 62 := by
  unfold smallI at h
  simp only [Bool.and_eq_true, decide_eq_true_eq] at h
  omega
theorem rangeI_get {lo hi : Int} {i : Nat} (h : i < (hi - lo).toNat) : (rangeI lo hi)[i]? = some (.int (lo + i)) := by
  unfold rangeI
  rw [List.getElem?_map, List.getElem?_range h]
  rfl
theorem rangeI_len {lo hi : Int} : (rangeI lo hi).length = (hi - lo).toNat := by
  unfold rangeI
  rw [List.length_map, List.length_range]
theorem ss_for_rng {t : T} {es : List E} {b : List S} (hb : SL w c b) (cn : CnS w c xv X sc G W) (hcm : G.calm = true) {tg x : Expr} {ys : List Stmt} {p : Pos} (h1 : kT c sc t tg = true) (h2 : kRng sc (kEs c sc es) x = true) (h3 : kSs c sc b ys = true) :
    PS X (.For tg x ys [] p) (tX w xv W (exec (.forr t (.rng es) b) G)) := by
  obtain ⟨F, rfl, hp⟩ := cn.fc hcm
  unfold kRng at h2
  split at h2
  · rename_i f fp y zs pp
    obtain ⟨k1, h2⟩ := an h2
    obtain ⟨k2, h2⟩ := an h2
    obtain ⟨k4, k3⟩ := an h2
    have k4 := of_decide_eq_true k4
    have ef := of_decide_eq_true k1
    subst ef
    have pa := pa_O cn.toCnE (fun e _ => SE.all e) k3
    have pl := kplain k3
    have red : ∀ Γ, exec (.forr t (.rng es) b) G Γ = liftR (itemsR (frz ((evOs G.toFx es Γ).bind rngD))) Γ fun ds => forL (fun Γ => execs b G Γ) t ds Γ := fun Γ => by
      unfold exec
      simp only [hcm, Bool.true_eq_false, if_false]
      unfold ev
      rfl
    have turn : ∀ {H0 Hf0 Hb Hf' : Hp} {Γ : List OD} {σ : L2.St} {D : Ends} {H' : Hp} {lo hi : Int}, J w xv0 H0 Hf0 Hb Γ σ H' Hf' → wpX w xv0 W H0 Hf0 Hb D (forL (fun Γ => execs b G Γ) t (rangeI lo hi) Γ) → ∃ Wm : Nat → Nat → L2.St → Hp → Prop, (∃ m, Wm 0 m σ H') ∧ ∀ i m σ H, Wm i m σ H →
        ((Itr lo (hi - lo).toNat).stop i H ∧ D.nx σ H) ∨ ((Itr lo (hi - lo).toNat).go i H ∧ ∃ N : L2.St → Hp → Prop, (∀ σ' H', N σ' H' → ∃ m', m' < m ∧ Wm (i + 1) m' σ' H') ∧ ∀ x H', (Itr lo (hi - lo).toNat).yld i H x H' → gX w xv0 t x σ H' fun σ2 H2 => tX w xv0 W (execs b G) { D with nx := N, ct := N, bk := D.nx } σ2 H2) := by
      intro H0 Hf0 Hb Hf' Γ σ D H' lo hi j q
      exact for_range (LP w xv0 W H0 Hf0 Hf' D _ t (rangeI lo hi)) (LP.start j q) (fun i σ H hi p => p.step (rangeI_get hi) (Rep.int_iff.mpr rfl)) fun σ H p => p.done (Nat.le_of_eq rangeI_len)
    have frm : ∀ {H Hf : Hp} {σ : L2.St} {r : R MP.OD} {k : List MP.D → Prop}, wpR w W σ H Hf (itemsR (frz r)) k → wpR w W σ H Hf r fun o => ∃ d ds, o.toD = some d ∧ d.items = some ds ∧ k ds := by
      intro H Hf σ r k q
      refine (wpR.bind.mp (wpR.bind.mp q)).imp fun o _ q => ?_
      obtain ⟨d, e1, q⟩ := wpR.ofO.mp q
      obtain ⟨ds, e2, q⟩ := wpR.ofO.mp q
      exact ⟨d, ds, e1, e2, q⟩
    cases zs with
    | nil =>
      refine PS.imp (ps_for hp F.cm (pi_range1 (F.gl _ k2) F.rng pa (star_of (pl y List.mem_cons_self))) (pg_D cn F.cm h1) (hb xv0 X sc G W cn ys h3) fun _ => rfl) fun D σ H ⟨H0, Hf0, Hb, Hf, Γ, j, q⟩ => ?_
      rw [red] at q
      refine ⟨Hf, Γ, j.at, (wpR.bind.mp (frm (q.liftR cn.xvo j))).imp fun xs exs q vs H' Hf' g k => ?_⟩
      have hl : xs.length = 1 := by rw [evOs_len exs, ← klen k3]; rfl
      obtain ⟨d, rfl⟩ := List.length_eq_one_iff.mp hl
      obtain ⟨v, _, rfl, k, rfl⟩ := k
      cases d with
      | int n =>
        unfold rngD at q
        simp only at q
        split at q
        · rename_i hs
          obtain ⟨_, _, e1, e2, q⟩ := q
          cases e1
          cases e2
          obtain ⟨b1, b2⟩ := smallI_ok hs
          have t0 := turn (j.mono cn.xvo g) q
          rw [Int.sub_zero] at t0
          exact ⟨n, by rw [k.int], b1, b2, t0⟩
        · exact q.elim
      | _ => exact q.elim
    | cons z zs =>
      have : zs = [] := by
        cases zs with
        | nil => rfl
        | cons _ _ => simp at k4
      subst this
      refine PS.imp (ps_for hp F.cm (pi_range2 (F.gl _ k2) F.rng pa (by rw [star_of (pl y List.mem_cons_self), star_of (pl z (by simp))]; rfl) (star_of (pl z (by simp)))) (pg_D cn F.cm h1) (hb xv0 X sc G W cn ys h3) fun _ => rfl) fun D σ H ⟨H0, Hf0, Hb, Hf, Γ, j, q⟩ => ?_
      rw [red] at q
      refine ⟨Hf, Γ, j.at, (wpR.bind.mp (frm (q.liftR cn.xvo j))).imp fun xs exs q vs H' Hf' g k => ?_⟩
      have hl : xs.length = 2 := by rw [evOs_len exs, ← klen k3]; rfl
      obtain ⟨d, d2, rfl⟩ : ∃ d d2, xs = [d, d2] := by
        cases xs with
        | nil => cases hl
        | cons d xs =>
          cases xs with
          | nil => cases hl
          | cons d2 xs =>
            cases xs with
            | nil => exact ⟨d, d2, rfl⟩
            | cons _ _ => simp at hl
      obtain ⟨v, _, rfl, k, v2, _, rfl, k5, rfl⟩ := k
      cases d with
      | int m =>
        cases d2 with
        | int n =>
          unfold rngD at q
          simp only at q
          split at q
          · rename_i hs
            obtain ⟨hs1, hs2⟩ := an hs
            obtain ⟨_, _, e1, e2, q⟩ := q
            cases e1
            cases e2
            obtain ⟨b1, b2⟩ := smallI_ok hs1
            obtain ⟨b3, b4⟩ := smallI_ok hs2
            exact ⟨m, n, by rw [k.int, k5.int], ⟨b1, b2, b3, b4⟩, turn (j.mono cn.xvo g) q⟩
          · exact q.elim
        | _ => exact q.elim
      | _ => exact q.elim
  · exact nb h2
theorem ss_forr {t : T} {it : E} {b : List S} (hb : SL w c b) : SS w c (.forr t it b) := fun xv X sc G W cn st h => by
  unfold kS kFor at h
  split at h
  · rename_i tg x ys p
    obtain ⟨h0, h⟩ := an h
    obtain ⟨h1, h⟩ := an h
    obtain ⟨h2, h3⟩ := an h
    cases hcm : G.calm with
    | false =>
      exact ⟨fun pins s σ H D I ⟨H0, Hf0, Hb, Hf, Γ, j, q⟩ => by
        unfold exec at q
        simp only [hcm, if_true] at q
        exact q.elim⟩
    | true =>
      cases it with
      | rng es => exact ss_for_rng hb cn hcm h1 h2 h3
      | _ => exact ss_for_seq hb cn hcm h0 h1 h2 h3
  · exact nb h
/-! ### all of them -/
theorem ss_false {s : S} (h : ∀ sc x, kS c sc s x = false) : SS w c s := fun xv X sc G W cn x k => by
  rw [h] at k
  exact nb k
theorem sl_nil : SL w c [] := fun xv X sc G W cn sts h => by
  unfold kSs kNil at h
  split at h
  · exact PSs.imp pss_nil fun D σ H ⟨H0, Hf0, Hb, Hf, Γ, j, q⟩ => by unfold execs at q; exact q σ H Hf j
  · exact nb h
theorem wp_seq {H0 Hf0 Hb : Hp} {D : Ends} {r : XR} {f : List OD → XR} (h : wpX w xv W H0 Hf0 Hb D (r.seq f)) : wpX w xv W H0 Hf0 Hb { D with nx := tX w xv W f D } r := by
  cases r with
  | ok g Γ => cases g with
    | nx => exact fun σ H Hf j => ⟨H0, Hf0, Hb, Hf, Γ, j, h⟩
    | _ => exact h
  | ex c p Γ => exact h
  | bad => exact h
theorem sl_cons {s : S} {ss : List S} (h1 : SS w c s) (h2 : SL w c ss) : SL w c (s :: ss) := fun xv X sc G W cn sts h => by
  by_cases hf : ∃ xs, s = .frz xs
  · obtain ⟨xs, rfl⟩ := hf
    unfold kSs at h
    refine PSs.imp (h2 xv X sc G W cn sts h) fun D σ H ⟨H0, Hf0, Hb, Hf, Γ, j, q⟩ => ?_
    unfold execs exec at q
    cases e : frzAll xs Γ with
    | none => rw [e] at q; exact q.elim
    | some Γ' =>
      rw [e] at q
      obtain ⟨Hf', j'⟩ := J.frz cn.xvo j e
      exact ⟨H0, Hf0, Hb, Hf', Γ', j', q⟩
  · have h : kCons' (kS c sc s) (kSs c sc ss) sts = true := by
      unfold kSs at h
      cases s <;> first | exact absurd ⟨_, rfl⟩ hf | exact h
    unfold kCons' at h
    split at h
    · obtain ⟨k1, k2⟩ := an h
      refine PSs.imp (pss_cons (h1 xv X sc G W cn _ k1) (h2 xv X sc G W cn _ k2)) fun D σ H ⟨H0, Hf0, Hb, Hf, Γ, j, q⟩ => ?_
      unfold execs at q
      exact ⟨H0, Hf0, Hb, Hf, Γ, j, wp_seq q⟩
    · exact nb h
theorem sl_all : ∀ (n : Nat), (∀ s : S, sizeOf s < n → SS w c s) ∧ ∀ ss : List S, sizeOf ss < n → SL w c ss := by
  intro n
  induction n with
  | zero => exact ⟨fun s h => absurd h (Nat.not_lt_zero _), fun s h => absurd h (Nat.not_lt_zero _)⟩
  | succ n ih =>
    obtain ⟨i1, i2⟩ := ih
    refine ⟨fun s h => ?_, fun ss h => ?_⟩
    · cases s with
      | pass => exact ss_pass
      | ex e => exact ss_ex
      | asg t e => exact ss_asg
      | app i e => exact ss_app
      | ret e => exact ss_ret
      | iff t a b =>
        rw [S.iff.sizeOf_spec] at h
        exact ss_iff (i2 a (by omega)) (i2 b (by omega))
      | forr t it b =>
        rw [S.forr.sizeOf_spec] at h
        exact ss_forr (i2 b (by omega))
      | rais k es => exact ss_rais
      | tryy b k x hd =>
        rw [S.tryy.sizeOf_spec] at h
        exact ss_tryy (i2 b (by omega)) (i2 hd (by omega))
      | _ => exact ss_false fun sc x => by unfold kS; rfl
    · cases ss with
      | nil => exact sl_nil
      | cons s ss =>
        rw [List.cons.sizeOf_spec] at h
        exact sl_cons (i1 s (by omega)) (i2 ss (by omega))
theorem SL.all (ss : List S) : SL w c ss := (sl_all _).2 ss (Nat.lt_succ_self _)
end
end MP

end

section
set_option Elab.async false
set_option linter.all false
set_option maxRecDepth 100000
namespace MP
open PySem PySem.Spec L2
theorem look_zip_at {α : Type} : ∀ {ps : List Str} {us : List α} {i : Nat} {x : Str} {u : α}, ps.Nodup → ps[i]? = some x → us[i]? = some u → (ps.zip us).lookup x = some u
  | [], _, _, _, _, _, e, _ => by simp at e
  | p :: ps, [], _, _, _, _, _, e => by simp at e
  | p :: ps, v :: us, i, x, u, nd, e1, e2 => by
    obtain ⟨n1, n2⟩ := List.nodup_cons.mp nd
    cases i with
    | zero => simp at e1 e2; subst e1 e2; simp
    | succ i =>
      simp only [List.getElem?_cons_succ] at e1 e2
      have ne : x ≠ p := fun z => n1 (by rw [← z]; exact List.mem_of_getElem? e1)
      rw [List.zip_cons_cons, List.lookup_cons, beq_false_of_ne ne]
      exact look_zip_at n2 e1 e2
theorem look_zip_no {α : Type} : ∀ {ps : List Str} {us : List α} {i : Nat} {x : Str}, ps.Nodup → ps[i]? = some x → us.length ≤ i → (ps.zip us).lookup x = none
  | [], _, _, _, _, e, _ => by simp at e
  | p :: ps, [], _, _, _, _, _ => by simp
  | p :: ps, v :: us, i, x, nd, e1, e2 => by
    obtain ⟨n1, n2⟩ := List.nodup_cons.mp nd
    cases i with
    | zero => simp at e2
    | succ i =>
      simp only [List.getElem?_cons_succ, List.length_cons] at e1 e2
      have ne : x ≠ p := fun z => n1 (by rw [← z]; exact List.mem_of_getElem? e1)
      rw [List.zip_cons_cons, List.lookup_cons, beq_false_of_ne ne]
      exact look_zip_no n2 e1 (by omega)
theorem zip_snoc {α : Type} : ∀ {ps : List Str} {us : List α} {x : Str} {u : α}, ps[us.length]? = some x → ps.zip us ++ [(x, u)] = ps.zip (us ++ [u])
  | [], us, _, _, e => by simp at e
  | p :: ps, [], x, u, e => by simp at e; subst e; simp
  | p :: ps, v :: us, x, u, e => by
    simp only [List.length_cons, List.getElem?_cons_succ] at e
    rw [List.zip_cons_cons, List.cons_append, zip_snoc e, List.cons_append, List.zip_cons_cons]
theorem fm_zip {α : Type} {ps : List Str} (nd : ps.Nodup) {us : List α} (hl : us.length = ps.length) : (ps.filterMap fun n => ((ps.zip us).lookup n).map fun v => (n, v)) = ps.zip us := by
  have key : ∀ (qs : List Str) (vs : List α), vs.length = qs.length → (∀ (i : Nat) (x : Str) (v : α), qs[i]? = some x → vs[i]? = some v → (ps.zip us).lookup x = some v) → (qs.filterMap fun n => ((ps.zip us).lookup n).map fun v => (n, v)) = qs.zip vs := by
    intro qs
    induction qs with
    | nil => intro vs _ _; rfl
    | cons q qs ih =>
      intro vs hl h
      cases vs with
      | nil => simp at hl
      | cons v vs =>
        rw [List.filterMap_cons, h 0 q v rfl rfl]
        show (q, v) :: _ = _
        rw [ih vs (by simpa using hl) fun i x u e1 e2 => h (i + 1) x u (by simpa using e1) (by simpa using e2)]
        rfl
  exact key ps us hl fun i x v e1 e2 => look_zip_at nd e1 e2
/-- the loop over the defaults -/
theorem dfl_loop {ps : List Str} (nd : ps.Nodup) : ∀ (l : List (Str × Value)) (us : List Value) (i : Nat) (its : List Value), i ≤ us.length → (∀ k q, l[k]? = some q → ps[i + k]? = some q.1 ∧ its[k]? = some q.2) → l.length = its.length → us.length ≤ i + its.length →
    (forIn l (ps.zip us) fun (q : Str × Value) (slots : List (Str × Value)) => (if (slots.lookup q.1).isNone = true then pure (ForInStep.yield (slots ++ [(q.1, q.2)])) else pure (ForInStep.yield slots) : Sem (ForInStep (List (Str × Value))))) = (pure (ps.zip (us ++ its.drop (us.length - i))) : Sem (List (Str × Value)))
  | [], us, i, its, h, _, hl, h2 => by
    have : its = [] := List.length_eq_zero_iff.mp hl.symm
    subst this
    simp
  | q :: l, us, i, its, h, hq, hl, h2 => by
    cases its with
    | nil => simp at hl
    | cons d its =>
      obtain ⟨e1, e2⟩ := hq 0 q rfl
      have e2 : d = q.2 := by simpa using e2
      subst e2
      rw [Nat.add_zero] at e1
      rw [List.forIn_cons]
      by_cases lt : i < us.length
      · have e3 : ((ps.zip us).lookup q.1).isNone = false := by
          rw [look_zip_at nd e1 (List.getElem?_eq_getElem lt)]; rfl
        rw [e3]
        simp only [Bool.false_eq_true, if_false, pure_bind]
        rw [dfl_loop nd l us (i + 1) its lt (fun k p e => by
          obtain ⟨a, b⟩ := hq (k + 1) p (by simpa using e)
          exact ⟨by rw [show i + 1 + k = i + (k + 1) by omega]; exact a, by simpa using b⟩) (by simpa using hl) (by simp at h2; omega)]
        have : us.length - i = (us.length - (i + 1)) + 1 := by omega
        rw [this, List.drop_succ_cons]
      · have e4 : i = us.length := by omega
        subst e4
        have e3 : ((ps.zip us).lookup q.1).isNone = true := by rw [look_zip_no nd e1 (Nat.le_refl _)]; rfl
        rw [e3]
        simp only [if_true, pure_bind]
        rw [zip_snoc e1]
        have := dfl_loop nd l (us ++ [q.2]) (us.length + 1) its (by simp) (fun k p e => by
          obtain ⟨a, b⟩ := hq (k + 1) p (by simpa using e)
          exact ⟨by rw [show us.length + 1 + k = us.length + (k + 1) by omega]; exact a, by simpa using b⟩) (by simpa using hl) (by simp)
        rw [this]
        simp
theorem bind_pos {x qual : Str} {as : List PySem.Arg} {kd : List (Option Expr)} {d : List Expr} {body : List Stmt} {scope : Scope} {dV kV doc pm : Value} {an : Option Addr} {cdv ct : Value} {us : List Value} (nd : (as.map (·.arg)).Nodup) (h1 : us.length ≤ as.length) :
    ∃ k, bindArgs (PySem.W.fnOf x qual ⟨[], as, none, [], kd, none, d⟩ body scope dV kV doc pm an cdv ct) ⟨us, []⟩ = seqItems? dV >>= k ∧
      ∀ (o : Option (Array Value)) (its : List Value), (o.getD #[]).toList = its → its.length ≤ as.length → as.length ≤ us.length + its.length → k o = pure ((as.map (·.arg)).zip (us ++ its.drop (us.length - (as.length - its.length)))) := by
  refine ⟨_, by unfold bindArgs PySem.W.fnOf; simp only [List.map_nil, List.nil_append, List.append_nil, List.forIn_nil, pure_bind]; rfl, fun o its eo h2 h3 => ?_⟩
  have hl : (as.map (·.arg)).length = as.length := List.length_map ..
  simp only [eo, hl]
  generalize hps : as.map (·.arg) = ps at *
  have c1 : (decide (us.length > as.length) && (none : Option PySem.Arg).isNone) = false := by
    rw [Bool.and_eq_false_iff]
    exact .inl (decide_eq_false (by omega))
  have c0 : its.length - as.length = 0 := by omega
  have c2 : (List.filter (fun n => (List.lookup n (ps.zip us)).isNone) (List.take (as.length - its.length) ps)) = [] := by
    rw [List.filter_eq_nil_iff]
    intro n m
    obtain ⟨i, hi⟩ := List.getElem?_of_mem m
    have hi2 := (List.getElem?_eq_some_iff.mp hi).1
    rw [List.length_take] at hi2
    rw [List.getElem?_take_of_lt (by omega)] at hi
    rw [look_zip_at nd hi (List.getElem?_eq_getElem (by omega))]
    simp
  rw [c1, c0]
  simp only [List.drop_zero, c2, List.isEmpty_nil, Bool.not_true, Bool.false_eq_true, if_false]
  have hz : ∀ (k : Nat) (q : Str × Value), ((ps.drop (as.length - its.length)).zip its)[k]? = some q → ps[as.length - its.length + k]? = some q.1 ∧ its[k]? = some q.2 := by
    intro k q e
    obtain ⟨e1, e2⟩ := List.getElem?_zip_eq_some.mp e
    rw [List.getElem?_drop] at e1
    exact ⟨e1, e2⟩
  have hzl : ((ps.drop (as.length - its.length)).zip its).length = its.length := by
    rw [List.length_zip, List.length_drop]
    omega
  rw [dfl_loop nd _ us (as.length - its.length) its (by omega) hz hzl (by omega)]
  simp only [pure_bind]
  rw [fm_zip nd (by rw [List.length_append, List.length_drop]; omega)]
/-- f(e, ..): what is written, then the defaults -/
theorem bindsD {K : PySem.W.Frag} {x qual : Str} {as : List PySem.Arg} {kd : List (Option Expr)} {d : List Expr} {body : List Stmt} {scope : Scope} {dvs : List V} {kws : List (Str × V)} {f : Addr} {fd : FuncData} (F : FunD K x qual ⟨[], as, none, [], kd, none, d⟩ body scope dvs kws f fd)
    (nd : (as.map (·.arg)).Nodup) (j : Nat) (h1 : j ≤ as.length) (h2 : dvs.length ≤ as.length) (h3 : as.length ≤ j + dvs.length) :
    ∃ ds, Vals (dvs.drop (j - (as.length - dvs.length))) ds ∧ ∀ (s : Shared) (us : List Value), K.In s.heap → us.length = j → BindsTo s fd ⟨us, []⟩ ((as.map (·.arg)).zip (us ++ ds)) := by
  obtain ⟨oc, od, dV, kV, doc, pm, an, cdv, ct, osl, rfl, lk, hcd, hD, hK⟩ := F.ex
  rcases hD with ⟨rfl, rfl⟩ | ⟨_, T, o, its, m, rfl, lT, oT, rT⟩
  · refine ⟨[], by simp; exact .nil, fun s us X hl => .of_eq ?_⟩
    obtain ⟨k, e1, e2⟩ := bind_pos (x := x) (qual := qual) (kd := kd) (d := d) (body := body) (scope := scope) (dV := .none) (kV := kV) (doc := doc) (pm := pm) (an := an) (cdv := cdv) (ct := ct) (us := us) nd (by omega)
    have e3 := e2 none [] rfl (Nat.zero_le _) (by simp at h3; simp; omega)
    rw [e1]
    rw [show seqItems? .none = pure none from rfl, pure_bind, e3]
    simp
  · have l1 := rT.length
    refine ⟨its.drop (j - (as.length - dvs.length)), rT.drop _, fun s us X hl => L2.BindsTo.of_looks fun M => ?_⟩
    obtain ⟨k, e1, e2⟩ := bind_pos (x := x) (qual := qual) (kd := kd) (d := d) (body := body) (scope := scope) (dV := .ref T) (kV := kV) (doc := doc) (pm := pm) (an := an) (cdv := cdv) (ct := ct) (us := us) nd (by omega)
    rw [e1]
    refine looks_items X lT oT (.of_pure ?_)
    rw [e2 (some its.toArray) its (by simp) (by omega) (by omega), hl, l1]
theorem bindsN0 {K : PySem.W.Frag} {x qual : Str} {as : List PySem.Arg} {kd : List (Option Expr)} {d : List Expr} {body : List Stmt} {scope : Scope} {kws : List (Str × V)} {f : Addr} {fd : FuncData} (F : FunD K x qual ⟨[], as, none, [], kd, none, d⟩ body scope [] kws f fd)
    (nd : (as.map (·.arg)).Nodup) (s : Shared) (us : List Value) (hl : us.length = as.length) : BindsTo s fd ⟨us, []⟩ ((as.map (·.arg)).zip us) := by
  obtain ⟨oc, od, dV, kV, doc, pm, an, cdv, ct, osl, rfl, lk, hcd, hD, hK⟩ := F.ex
  rcases hD with ⟨_, rfl⟩ | ⟨e, _⟩
  · refine .of_eq ?_
    obtain ⟨k, e1, e2⟩ := bind_pos (x := x) (qual := qual) (kd := kd) (d := d) (body := body) (scope := scope) (dV := .none) (kV := kV) (doc := doc) (pm := pm) (an := an) (cdv := cdv) (ct := ct) (us := us) nd (by omega)
    have e3 := e2 none [] rfl (Nat.zero_le _) (by simp; omega)
    rw [e1]
    rw [show seqItems? .none = pure none from rfl, pure_bind, e3]
    simp
  · exact absurd rfl e
end MP

end

section
set_option Elab.async false
set_option linter.all false
set_option maxRecDepth 100000
namespace MP
open PySem PySem.Spec PyProof.Rows L2
/-! ### defs -/
/-- a def's text -/
structure Tx where
  x : Str
  qual : Str
  as : List PySem.Arg
  kd : List (Option Expr)
  d : List Expr
  body : List Stmt
  sc : Scope
  N : List Str
def Tx.ps (t : Tx) : List Str := t.as.map (·.arg)
/-- what is asked of all names -/
structure Cg where
  bl : Blt → Bool
  ty : Ty → Bool
  ex : Nat → Bool
  fn : Nat → Bool
  mkc : Nat → Bool
  me : Nat → Bool
def Cg.ck (g : Cg) (nm : Nat → Str) (N : List Str) : Ck := ⟨N, nm, g.bl, g.ty, g.ex, g.fn, g.mkc, g.me⟩
def okSc (N ps : List Str) (sc : Scope) : Bool :=
  decide (sc.kind = .function) && (!sc.isCoroutine && (!sc.isGenerator && (decide N.Nodup && (decide (N.take ps.length = ps) && (ps.all (fun x => loc sc x) && sc.names.all fun y => decide (y.2 ≠ .free))))))
theorem okSc_ok {N ps : List Str} {sc : Scope} (h : okSc N ps sc = true) : FnScope N ps sc := by
  unfold okSc at h
  obtain ⟨h1, h⟩ := an h
  obtain ⟨h2, h⟩ := an h
  obtain ⟨h3, h⟩ := an h
  obtain ⟨h4, h⟩ := an h
  obtain ⟨h5, h⟩ := an h
  obtain ⟨h6, h7⟩ := an h
  refine ⟨of_decide_eq_true h1, by simpa using h2, by simpa using h3, of_decide_eq_true h4, of_decide_eq_true h5, fun x m => ?_, fun y m => of_decide_eq_true (List.all_eq_true.mp h7 y m)⟩
  have := List.all_eq_true.mp h6 x m
  unfold loc at this
  split at this
  · exact .inl (by assumption)
  · exact .inr (by assumption)
  · cases this
def okFn (g : Cg) (nm : Nat → Str) (F : Fn) (t : Tx) : Bool :=
  decide (F.np = t.as.length) && (F.kwo.isEmpty && (decide (F.nn = t.N.length) && (decide (F.dfl.length ≤ F.np) && (okSc t.N t.ps t.sc && kSs (g.ck nm t.N) t.sc F.body t.body))))
/-- the program in the written part -/
structure Sys (w : Wd) (g : Cg) (mg : Str → Option Value) : Prop where
  fn : ∀ f F, w.P.fn f = some F → ∃ (t : Tx) (fd : FuncData) (dvs : List V) (kws : List (Str × V)), FunD w.K t.x t.qual ⟨[], t.as, none, [], t.kd, none, t.d⟩ t.body t.sc dvs kws (w.cad f) fd ∧ (∀ H, Reps w H F.dfl dvs) ∧ okFn g w.nm F t = true ∧ mg (w.nm f) = some (.ref (w.cad f))
  fns : ∀ f, g.fn f = true → w.P.fn f ≠ none
  gv : ∀ x d, w.P.gv x = some d → ∃ v u, mg (w.nm x) = some u ∧ RelV v u ∧ ∀ H, Rep w H d v
  bl : ∀ f, g.bl f = true → f ≠ .gcd → mg (bname f) = none
  gcd : g.bl .gcd = true → mg "gcd" = some (.builtin "math.gcd")
  rng : mg "range" = none
  enm : mg "enumerate" = none
  zip : mg "zip" = none
  isi : mg "isinstance" = none
  ty : ∀ t, g.ty t = true → (match t with
    | .cls k => mg (w.nm k) = some (.ref (w.cad k))
    | .exc k => mg (w.nm k) = some (.ref (w.cad k))
    | .tnone => False
    | t => mg (tyName w.nm t) = none)
  isB : ∀ (a : String), a ∈ ["NoneType", "bool", "int", "str", "list", "tuple"] → ∀ k, (g.ty (.cls k) = true ∨ g.ty (.exc k) = true) → PySem.W.kitOne w.K (.type a) (.ref (w.cad k)) = some false
  isO : ∀ k q, w.P.cl k = some q → (PySem.W.findIn w.K (.ref (w.cad k)) "__class__" = some (some (.builtin "object.__class__")) ∧ PySem.W.specialIn w.K (.builtin "object.__class__") "__get__" = some (some (.builtin "getset_descriptor.__get__")) ∧
    PySem.W.takesIn w.K (.builtin "object.__class__") = some true ∧ PySem.W.mroIn w.K (w.cad k) (.type "object") = some true) ∧ Cls w.K (w.cad k) ∧ ∀ t, g.ty t = true → PySem.W.kitOne w.K (.ref (w.cad k)) (tyVal w t) = some (match t with
      | .cls j => k == j
      | _ => false)
  isE : ∀ k q, w.P.xc k = some q → ExcC w.K (w.cad k) ∧ XfC w.K (w.cad k) ∧ (∀ f, q.fld = some f → PySem.W.findIn w.K (.ref (w.cad k)) (w.nm f) = some none) ∧ (∀ j, g.ty (.exc j) = true → PySem.W.kitOne w.K (.ref (w.cad k)) (.ref (w.cad j)) = some (w.P.sub k (.exc j)) ∧
    PySem.W.exmOne w.K (.ref (w.cad k)) (.ref (w.cad j)) = some (w.P.sub k (.exc j))) ∧ PySem.W.kitOne w.K (.ref (w.cad k)) (.type "ValueError") = some true
  fld : ∀ k f i, w.P.fld k f = some i → Cls w.K (w.cad k) ∧ NoAttr w.K (w.cad k) (w.nm f) ∧ (w.flds k).Nodup ∧ (w.flds k)[i]? = some (w.nm f)
  mkc : ∀ k, g.mkc k = false
  me : ∀ m, g.me m = false
  rai : ∀ k, g.ex k = true → w.P.xc k ≠ none ∧ w.P.xf k = none ∧ PySem.W.excIn w.K (w.cad k) He.veBase "ValueError.__new__" = true ∧ mg (w.nm k) = some (.ref (w.cad k)) ∧ PySem.W.keepIn w.K (.ref (w.cad k)) = true ∧ PySem.W.subIn w.K (.ref (w.cad k)) (.type "BaseException") = some true ∧
    PySem.W.typeIn w.K (.ref (w.cad k)) = some (.type "type")
/-- what a call at depth n comes to -/
def runB (P : MP.Prog) (n : Nat) (F : Fn) (as : List MP.D) : R OD := outR (execs F.body (P.gx n) (MP.start F (as.map .fz)))
def spF (w : Wd) (n : Nat) (F : Fn) : Sp := fun vs H Q E => ∃ Hf as, Le Hf H ∧ Reps w Hf as vs ∧ as.length = F.np ∧ (match runB w.P n F as with
  | .ok o => Out w xv0 H Hf o Q
  | .ex c p => ∀ cls d H' Hf', Gr H Hf H' Hf' → ExR w Hf' c p cls d → E cls d H'
  | .bad => False)
def spP (w : Wd) (n : Nat) (F : Fn) : Sp := match n with
  | 0 => fun _ _ _ _ => False
  | n + 1 => spF w n F
theorem gx_calm {P : MP.Prog} : ∀ n, (P.gx n).calm = true ∧ (P.gx n).hot.calm = false ∧ (P.gx n).gv = P.gv ∧ (P.gx n).hot.gv = P.gv ∧ (P.gx n).sub = P.sub ∧ (P.gx n).hot.sub = P.sub ∧ (P.gx n).xf = P.xf ∧ (P.gx n).hot.xf = P.xf ∧ (P.gx n).fld = P.fld ∧ (P.gx n).hot.fld = P.fld
  | 0 => ⟨rfl, rfl, rfl, rfl, rfl, rfl, rfl, rfl, rfl, rfl⟩
  | n + 1 => ⟨rfl, rfl, rfl, rfl, rfl, rfl, rfl, rfl, rfl, rfl⟩
section
variable {w : Wd} {g : Cg} {mg : Str → Option Value} {Pr : Program} {wd : World} {base : Heap}
/-- all defs keep their promises at level n -/
def FnAll (w : Wd) (g : Cg) (mg : Str → Option Value) (Pr : Program) (wd : World) (base : Heap) (n : Nat) : Prop := ∀ f F, w.P.fn f = some F → ∀ (t : Tx) (fd : FuncData) (dvs : List V) (kws : List (Str × V)),
  FunD w.K t.x t.qual ⟨[], t.as, none, [], t.kd, none, t.d⟩ t.body t.sc dvs kws (w.cad f) fd → (∀ H, Reps w H F.dfl dvs) → okFn g w.nm F t = true → FnOk Pr wd w.K mg base (L2.CX Pr wd) n (w.cad f) fd t.ps (spP w n F)
/-- the callee runs, with what the caller's slots are known -/
theorem run_fnD {X : Cx} {k : Nat} {f : Addr} {fd : FuncData} {ps : List Str} {sp : Sp} {E : XK} {pins : List (Addr × Obj)} {σ : L2.St} {H : Hp} {s : Shared} {Q : VK} {us ds : List Value} {vs dvs : List V} (F : FnOk X.prog X.w X.K X.mg X.base (L2.CX X.prog X.w) k f fd ps sp) (hr : Room k X.A)
    (hb : BindsTo s fd ⟨us, []⟩ (ps.zip (us ++ ds))) (hd : Vals dvs ds) (hx : PassesAt (L2.CX X.prog X.w) X σ E) (I : L2.Inv X pins σ H s) (r : Vals vs us) (h : sp (vs ++ dvs) H Q E) : wpAny (model X.prog X.w) X.A (call (.ref f) us) (EP X pins σ Q) X.xe s := by
  refine wpAny_call (codeAny_mono (F.run X.A X.stack s H ⟨us, []⟩ (us ++ ds) (vs ++ dvs) Q E hr I.env0 hb (r.append hd) h) fun r s' hq => ?_)
  cases r with
  | error e => exact hx pins H s e s' I hq
  | ok fl =>
    cases fl with
    | ret u => exact I.after hq
    | next => exact False.elim hq
    | brk => exact False.elim hq
    | cont => exact False.elim hq
theorem glb_lk {sc : Scope} {x : Str} (h : MP.glb sc x = true) : sc.names.lookup x = some .globalImplicit := by
  unfold MP.glb at h
  exact of_decide_eq_true (an h).1
theorem bindA_ok {F : Fn} {as vs : List MP.D} (hk : F.kwo = []) (h : bindA F as [] [] = some vs) : as.length ≤ F.np ∧ F.np ≤ as.length + F.dfl.length ∧ vs = as ++ F.dfl.drop (F.dfl.length - (F.np - as.length)) := by
  unfold bindA at h
  rw [hk] at h
  simp only [List.length_nil, Nat.sub_zero, List.all_nil, Bool.not_true, Bool.false_eq_true, if_false, List.map_nil, List.append_nil] at h
  split at h
  · cases h
  · split at h
    · cases h
    · cases h
      exact ⟨by omega, by omega, rfl⟩
theorem fc_of (S : Sys w g mg) {n : Nat} (ih : FnAll w g mg Pr wd base n) {f : Nat} {F : Fn} {t : Tx} (ok : okFn g w.nm F t = true) {cdv : Value} {fa : Addr} {A : Around} {outer : List Env} {s : Shared} {H : Hp} {E : XK} (hr : Room n (A.deeper (envOfC t.qual t.sc s.heap.objs.size fa cdv))) :
    Fc w (g.ck w.nm t.N) (cxOf (L2.CX Pr wd) Pr wd w.K mg base t.N t.qual t.sc fa cdv A outer s H E) t.sc (w.P.gx n) := by
  obtain ⟨g1, g2, g3, g4, g5, g6, g7, g8, g9, g10⟩ := gx_calm (P := w.P) n
  unfold okFn at ok
  obtain ⟨o1, ok⟩ := an ok
  obtain ⟨o2, ok⟩ := an ok
  obtain ⟨o3, ok⟩ := an ok
  obtain ⟨o4, ok⟩ := an ok
  obtain ⟨o5, o6⟩ := an ok
  have sc := okSc_ok o5
  refine { hK := rfl, hN := rfl, nm := rfl, nd := sc.nd, vi := ?vi, gl := ?gl, lo := ?lo, lcl := fun x h => h, hu := ?hu, cm := rfl, gcm := g1, hcm := g2, gv := ?gv, hgv := by rw [g3, g4], bl := S.bl, gcd := S.gcd, rng := S.rng, enm := S.enm, zip := S.zip, isi := S.isi, ty := ?ty, hsub := ⟨g5, g6⟩, hxf := ⟨g7, g8⟩, isB := S.isB, isO := S.isO, isE := S.isE, fld := S.fld, hfld := ⟨g9, g10⟩, stk := rfl, frm := rfl, cal := ?cal, mak := ?mak, met := ?met, rai := ?rai }
  case vi =>
    intro x h
    unfold MP.vis at h
    obtain ⟨h1, _⟩ := an h
    split at h1
    · exact .inl (by assumption)
    · exact .inr (.inl (by assumption))
    · exact .inr (.inr (by assumption))
    · cases h1
  case gl =>
    intro x h
    exact glb_lk h
  case lo =>
    intro x h
    unfold MP.loc at h
    refine ⟨?_, .inl rfl⟩
    split at h
    · exact .inl (by assumption)
    · exact .inr (by assumption)
    · cases h
  case hu =>
    have := hr.un
    show (A.deeper (envOfC t.qual t.sc s.heap.objs.size fa cdv)).units + 65 < cLine
    omega
  case gv => intro x d e; rw [g3] at e; exact S.gv x d e
  case ty =>
    intro u h
    have := S.ty u h
    cases u <;> exact this
  case mak => intro pn xe W tk k p pos y xs ta h; rw [show (g.ck w.nm t.N).mkc k = g.mkc k from rfl, S.mkc] at h; cases h
  case met => intro pn xe W tk m o apos pos xs to ta h; rw [show (g.ck w.nm t.N).me m = g.me m from rfl, S.me] at h; cases h
  case rai =>
    intro k h hg
    obtain ⟨r1, r2, r3, r4, r5, r6, r7⟩ := S.rai k h
    refine ⟨r1, r2, fun pn xe m p p2 pos j => ?_⟩
    exact pmk_own PySem.F.excBase_ValueError r3 r4 r5 (raises_own r6 r7) (glb_lk hg) (glb_of hg)
  case cal =>
    intro pn xe W tk f p pos y xs ta hfn hg hp ha
    cases hF : w.P.fn f with
    | none => exact absurd hF (S.fns f hfn)
    | some F' =>
      obtain ⟨t', fd, dvs, kws, D1, D2, D3, D4⟩ := S.fn f F' hF
      have okk := D3
      unfold okFn at okk
      obtain ⟨k1, okk⟩ := an okk
      obtain ⟨k2, okk⟩ := an okk
      obtain ⟨k3, okk⟩ := an okk
      obtain ⟨k4, okk⟩ := an okk
      obtain ⟨k5, k6⟩ := an okk
      have sc' := okSc_ok k5
      have hkwo : F'.kwo = [] := List.isEmpty_iff.mp k2
      have np := of_decide_eq_true k1
      have dl := of_decide_eq_true k4
      have fo := ih f F' hF t' fd dvs kws D1 D2 D3
      have ndp : (t'.as.map (·.arg)).Nodup := by
        rw [← show t'.N.take t'.ps.length = t'.as.map (·.arg) from sc'.pre]
        exact sc'.nd.sublist (List.take_sublist _ _)
      have hgl : Gl (Cx.tr (cxOf (L2.CX Pr wd) Pr wd w.K mg base t.N t.qual t.sc fa cdv A outer s H E) pn xe) (w.nm f) := glb_lk hg
      refine ⟨fun pins s1 σ H1 Q I h => ?_⟩
      refine wpAny_Call_Name_kw (ld_glob I hgl D4 ?_ (glb_of hg))
      refine PySem.W.callWith_K (h₀ := base) I.ok.mod.kin D1.kp (thn (ha.run pos pins s1 σ H1 _ I h) fun us s2 ⟨vs, H2, I2, r, q⟩ => ⟨I2.kIn, ?_⟩) (star_of (hp y List.mem_cons_self)) (star_no fun x m => hp x (List.mem_cons_of_mem _ m))
      obtain ⟨Hf, as, l, rr, q⟩ := q
      cases n with
      | zero => exact q.elim
      | succ m =>
        have e1 : (w.P.gx (m + 1)).call f as [] [] = (match bindA F' as [] [] with
          | some vs => runB w.P m F' vs
          | none => .bad) := by
          show (match w.P.fn f with
            | some F => (match bindA F as [] [] with
              | some vs => outR (execs F.body (w.P.gx m) (MP.start F (vs.map .fz)))
              | none => .bad)
            | none => .bad) = _
          rw [hF]
          rfl
        rw [e1] at q
        cases eb : bindA F' as [] [] with
        | none => rw [eb] at q; exact q.elim
        | some vs' =>
          rw [eb] at q
          obtain ⟨b1, b2, b3⟩ := bindA_ok hkwo eb
          have ld := (D2 H2).length
          obtain ⟨ds, rd, bd⟩ := bindsD D1 ndp as.length (by omega) (by omega) (by omega)
          refine run_fnD (E := fun cls d H => W cls d σ H) fo hr (bd s2 us I2.kIn (by rw [← r.length, rr.length])) rd (passAt tk σ) I2 r ?_
          refine ⟨Hf, vs', l, ?_, ?_, ?_⟩
          · rw [b3]
            refine rr.append ?_
            have e2 : F'.dfl.length - (F'.np - as.length) = as.length - (t'.as.length - dvs.length) := by omega
            rw [e2]
            exact (D2 Hf).drop _
          · rw [b3, List.length_append, List.length_drop]
            omega
          · have q : wpR w W σ H2 Hf (runB w.P m F' vs') fun o => Out w xv0 H2 Hf o Q := q
            cases er : runB w.P m F' vs' with
            | ok o => rw [er] at q; exact q
            | ex c p => rw [er] at q; exact q
            | bad => rw [er] at q; exact q
end
end MP

end

section
set_option Elab.async false
set_option linter.all false
set_option maxRecDepth 100000
namespace MP
open PySem PySem.Spec PyProof.Rows L2
section
variable {w : Wd} {g : Cg} {mg : Str → Option Value} {Pr : Program} {wd : World} {base : Heap}
theorem start_get {as : List MP.D} {nn : Nat} {i : Nat} {o : OD} (e : (as.map OD.fz ++ List.replicate (nn - (as.map OD.fz).length) .un)[i]? = some o) : (∃ d, as[i]? = some d ∧ o = .fz d) ∨ o = .un := by
  by_cases h : i < (as.map OD.fz).length
  · rw [List.getElem?_append_left h, List.getElem?_map] at e
    obtain ⟨d, e1, e2⟩ := Option.map_eq_some_iff.mp e
    exact .inl ⟨d, e1, e2.symm⟩
  · rw [List.getElem?_append_right (by omega), List.getElem?_replicate] at e
    split at e
    · cases e; exact .inr rfl
    · cases e
theorem fn_all (S : Sys w g mg) : ∀ n, FnAll w g mg Pr wd base n
  | 0 => fun f F hF t fd dvs kws D1 D2 D3 => ⟨fun _ _ _ _ h => h.elim, fun _ _ _ _ _ _ _ _ _ _ _ _ _ h => h.elim⟩
  | n + 1 => fun f F hF t fd dvs kws D1 D2 D3 => by
    have ih := fn_all S n
    have ok := D3
    unfold okFn at ok
    obtain ⟨o1, ok⟩ := an ok
    obtain ⟨o2, ok⟩ := an ok
    obtain ⟨o3, ok⟩ := an ok
    obtain ⟨o4, ok⟩ := an ok
    obtain ⟨o5, o6⟩ := an ok
    have np := of_decide_eq_true o1
    have nn := of_decide_eq_true o3
    have sc := okSc_ok o5
    have len : ∀ vs H Q E, spF w n F vs H Q E → vs.length = t.ps.length := fun vs H Q E h => by
      obtain ⟨Hf, as, _, r, l, _⟩ := h
      rw [r.length, l, np]
      exact (List.length_map ..).symm
    refine FunD.ok (CX := L2.CX Pr wd) (k := n) (sp := spF w n F) D1 sc len fun cdv A outer s H vs Q E hr h => ?_
    have fc := fc_of (f := f) (Pr := Pr) (wd := wd) (base := base) (cdv := cdv) (fa := w.cad f) (A := A) (outer := outer) (s := s) (H := H) (E := E) S ih D3 hr
    refine ⟨tX w xv0 (fun cls d _ H => E cls d H) (execs F.body (w.P.gx n)), ?_, ?_⟩
    · exact SL.all F.body xv0 _ t.sc (w.P.gx n) _ (CnS.of_fc fc (takes_of rfl rfl rfl rfl) (passes_of rfl)) t.body o6
    · obtain ⟨Hf, as, l, rr, la, q⟩ := h
      refine ⟨H, Hf, Hf, Hf, MP.start F (as.map .fz), ⟨Gr.refl l, Le.refl _, ?_, fun _ => [], fun i o e => ?_, fun i e => rfl, fun i j ne a m => nomatch m⟩, ?_⟩
      · unfold MP.start L2.start
        rw [List.length_append, List.length_append, List.length_replicate, List.length_replicate, List.length_map, List.length_map, rr.length, nn]
      · rcases start_get e with ⟨d, e1, rfl⟩ | rfl
        · obtain ⟨v, e2, r⟩ := rr.get e1
          refine .inr ⟨v, ?_, ⟨rfl, r⟩, List.nodup_nil, fun a m => nomatch m⟩
          unfold L2.start
          have hi := (List.getElem?_eq_some_iff.mp e2).1
          rw [List.getElem?_append_left (by rw [List.length_map]; exact hi), List.getElem?_map, e2]
          rfl
        · exact .inl ⟨rfl, rfl⟩
      · unfold runB at q
        cases er : execs F.body (w.P.gx n) (MP.start F (as.map .fz)) with
        | bad => rw [er] at q; exact q.elim
        | ex c p Γ => rw [er] at q; exact fun cls d σ H' Hf' j e => q cls d H' Hf' j.gr e
        | ok fl Γ =>
          rw [er] at q
          cases fl with
          | nx => exact fun σ H' Hf' j => q _ H' Hf' j.gr (res_fz (Rep.non_iff.mpr rfl))
          | rt o => exact q
          | bk => exact q.elim
          | ct => exact q.elim
/-- THE LAW, by its run on data -/
theorem law_fn (S : Sys w g mg) {n f : Nat} {F : Fn} (hF : w.P.fn f = some F) (h1 : F.np = 1) (h2 : F.dfl = []) (hrun : ∀ ns : List Int, ns.length ≤ 63 → runB w.P n F [.scr ns] = .ok (.fz (.bl true))) :
    ∃ fd : FuncData, ∃ x : Str, (∀ (s : Shared) (u : Value), BindsTo s fd ⟨[u], []⟩ [(x, u)]) ∧
      (∀ (H : Hp) (a : Addr) (ns : List Int), ns.length ≤ 63 → SqL w.K H a (ns.map V.int) → spF w n F [.ref a] H (fun v _ => v = .bl true) fun _ _ _ => False) ∧
      ∀ base : Heap, FnOk Pr wd w.K mg base (L2.CX Pr wd) (n + 1) (w.cad f) fd [x] (spF w n F) := by
  obtain ⟨t, fd, dvs, kws, D1, D2, D3, D4⟩ := S.fn f F hF
  have ok := D3
  unfold okFn at ok
  obtain ⟨o1, ok⟩ := an ok
  obtain ⟨o2, ok⟩ := an ok
  obtain ⟨o3, ok⟩ := an ok
  obtain ⟨o4, ok⟩ := an ok
  obtain ⟨o5, o6⟩ := an ok
  have np := of_decide_eq_true o1
  have sc := okSc_ok o5
  have ld : dvs.length = 0 := by
    have := (D2 fun _ => none).length
    rw [h2] at this
    exact this
  obtain ⟨x, hx⟩ : ∃ x, t.as = [x] := by
    rw [h1] at np
    exact List.length_eq_one_iff.mp np.symm
  have ndp : (t.as.map (·.arg)).Nodup := by rw [hx]; simp
  have e0 : dvs = [] := List.length_eq_zero_iff.mp ld
  subst e0
  refine ⟨fd, x.arg, fun s u => ?_, fun H a ns hl hS => ?_, fun base => ?_⟩
  · have := bindsN0 D1 ndp s [u] (by rw [hx]; rfl)
    rw [hx] at this
    exact this
  · refine ⟨H, [.scr ns], Le.refl _, Reps.cons_iff.mpr ⟨_, [], rfl, Rep.scr_iff.mpr ⟨a, rfl, hS⟩, Reps.nil_iff.mpr rfl⟩, h1.symm, ?_⟩
    rw [hrun ns hl]
    exact fun v H' Hf' g r => by
      obtain ⟨as, r, _⟩ := r
      exact Rep.bl_iff.mp r.2
  · have := fn_all (Pr := Pr) (wd := wd) (base := base) S (n + 1) f F hF t fd [] kws D1 D2 D3
    have e : t.ps = [x.arg] := by unfold Tx.ps; rw [hx]; rfl
    rw [e] at this
    exact this
end
end MP

end

section
set_option Elab.async false
set_option linter.all false
set_option maxRecDepth 100000
namespace MP
open PySem PySem.Spec PyProof.Rows L2
/-! ### a program as a table -/
structure PD where
  nms : List Str
  fns : List (Nat × Fn)
  xcs : List (Nat × Xc)
  cls : List (Nat × Cl)
  gvs : List (Nat × MP.D)
  wide : Nat
  bl : List Blt
  ty : List Ty
  ex : List Nat
def PD.nm (p : PD) (i : Nat) : Str := p.nms.getD i ""
def PD.P (p : PD) : MP.Prog := { fn := fun f => p.fns.lookup f, cl := fun k => p.cls.lookup k, xc := fun k => p.xcs.lookup k, gv := fun k => p.gvs.lookup k, wide := p.wide }
def PD.w (p : PD) (K : PySem.W.Frag) : Wd := ⟨K, p.nm, p.P⟩
def PD.g (p : PD) : Cg := ⟨fun b => decide (b ∈ p.bl), fun t => decide (t ∈ p.ty), fun k => decide (k ∈ p.ex), fun f => (p.fns.lookup f).isSome, fun _ => false, fun _ => false⟩
/-! ### facts -/
mutual
def repB (K : PySem.W.Frag) : MP.D → Value → Bool
  | .non, .none => true
  | .bl a, .bool b => a == b
  | .int a, .int b _ => decide (a = b)
  | .str a, .str b _ => decide (strOf a = b)
  | .tup ds, .ref a => (match K.lookup a with
    | some ⟨.type c, _, .seq its _, _⟩ => decide (c = "tuple") && (decide (its.size ≤ sizeLine) && repBs K ds its.toList)
    | _ => false)
  | _, _ => false
def repBs (K : PySem.W.Frag) : List MP.D → List Value → Bool
  | [], [] => true
  | d :: ds, u :: us => repB K d u && repBs K ds us
  | _, _ => false
end
def glB (K : PySem.W.Frag) (x : Str) : Bool := He.eqO (PySem.W.nsIn K mainGlobals x) (some (some (.ref (He.ga K x))))
def frB (K : PySem.W.Frag) (x : Str) : Bool := He.eqO (PySem.W.nsIn K mainGlobals x) (some none)
def gvB (K : PySem.W.Frag) (x : Str) (d : MP.D) : Bool := match PySem.W.nsIn K mainGlobals x with
  | some (some u) => repB K d u
  | _ => false
def tyB (p : PD) (K : PySem.W.Frag) : Ty → Bool
  | .cls k => glB K (p.nm k)
  | .exc k => glB K (p.nm k)
  | .tnone => false
  | t => frB K (tyName p.nm t)
def clsOf : Ty → Option Nat
  | .cls k => some k
  | .exc k => some k
  | _ => none
def isBB (p : PD) (K : PySem.W.Frag) : Bool := ["NoneType", "bool", "int", "str", "list", "tuple"].all fun a => p.ty.all fun t => match clsOf t with
  | some k => decide (PySem.W.kitOne K (.type a) (.ref (He.ga K (p.nm k))) = some false)
  | none => true
def excCB (K : PySem.W.Frag) (D : Addr) : Bool :=
  He.eqO (PySem.W.findIn K (.ref D) "__getattribute__") (some (some (.builtin "BaseException.__getattribute__"))) && (He.eqO (PySem.W.findIn K (.ref D) "__getattr__") (some none) &&
  (decide (PySem.W.subIn K (.ref D) (.type "BaseException") = some true) && (PySem.W.hasDictIn K D && (He.eqO (PySem.W.findIn K (.ref D) "__class__") (some (some (.builtin "object.__class__"))) &&
  (He.eqO (PySem.W.specialIn K (.builtin "object.__class__") "__get__") (some (some (.builtin "getset_descriptor.__get__"))) && (decide (PySem.W.takesIn K (.builtin "object.__class__") = some true) && decide (PySem.W.mroIn K D (.type "object") = some true)))))))
theorem excCB_ok {K : PySem.W.Frag} {D : Addr} (h : excCB K D = true) : ExcC K D := by
  unfold excCB at h
  obtain ⟨h1, h⟩ := an h
  obtain ⟨h2, h⟩ := an h
  obtain ⟨h3, h⟩ := an h
  obtain ⟨h4, h⟩ := an h
  obtain ⟨h5, h⟩ := an h
  obtain ⟨h6, h⟩ := an h
  obtain ⟨h7, h8⟩ := an h
  exact ⟨He.eqO_ok h1, He.eqO_ok h2, of_decide_eq_true h3, h4, He.eqO_ok h5, He.eqO_ok h6, of_decide_eq_true h7, of_decide_eq_true h8⟩
def isEB (p : PD) (K : PySem.W.Frag) : Bool := p.xcs.all fun (k, q) => excCB K (He.ga K (p.nm k)) && (xfB K (He.ga K (p.nm k)) && ((match q.fld with
    | some f => He.eqO (PySem.W.findIn K (.ref (He.ga K (p.nm k))) (p.nm f)) (some none)
    | none => true) && ((p.ty.all fun t => match t with
      | .exc j => decide (PySem.W.kitOne K (.ref (He.ga K (p.nm k))) (.ref (He.ga K (p.nm j))) = some (p.P.sub k (.exc j))) && decide (PySem.W.exmOne K (.ref (He.ga K (p.nm k))) (.ref (He.ga K (p.nm j))) = some (p.P.sub k (.exc j)))
      | _ => true) && decide (PySem.W.kitOne K (.ref (He.ga K (p.nm k))) (.type "ValueError") = some true))))
def raiB (p : PD) (K : PySem.W.Frag) (k : Nat) : Bool := (match p.xcs.lookup k with
    | some q => q.fld.isNone
    | none => false) && (PySem.W.excIn K (He.ga K (p.nm k)) He.veBase "ValueError.__new__" && (glB K (p.nm k) && (PySem.W.keepIn K (.ref (He.ga K (p.nm k))) && (decide (PySem.W.subIn K (.ref (He.ga K (p.nm k))) (.type "BaseException") = some true) &&
    decide (PySem.W.typeIn K (.ref (He.ga K (p.nm k))) = some (.type "type"))))))
def sysB (p : PD) (K : PySem.W.Frag) : Bool :=
  (p.fns.all fun q => glB K (p.nm q.1)) && ((p.gvs.all fun q => gvB K (p.nm q.1) q.2) && ((p.bl.all fun b => match b with
    | .gcd => He.eqO (PySem.W.nsIn K mainGlobals "gcd") (some (some (.builtin "math.gcd")))
    | b => frB K (bname b)) && ((frB K "range" && (frB K "enumerate" && (frB K "zip" && frB K "isinstance"))) && ((p.ty.all (tyB p K)) && (isBB p K && (isEB p K && (p.ex.all (raiB p K) && p.cls.isEmpty)))))))
mutual
theorem repB_ok {w : Wd} : ∀ (d : MP.D) (u : Value), repB w.K d u = true → ∃ v, RelV v u ∧ ∀ H, Rep w H d v
  | .non, u, h => by
    cases u <;> first | exact ⟨.non, rfl, fun H => Rep.non_iff.mpr rfl⟩ | exact nb h
  | .bl a, u, h => by
    cases u <;> first | (unfold repB at h; exact nb h) | skip
    rename_i b
    have e : a = b := by unfold repB at h; exact beq_iff_eq.mp h
    subst e
    exact ⟨.bl a, rfl, fun H => Rep.bl_iff.mpr rfl⟩
  | .int a, u, h => by
    cases u <;> first | (unfold repB at h; exact nb h) | skip
    rename_i b t
    have e : a = b := by unfold repB at h; exact of_decide_eq_true h
    subst e
    exact ⟨.int a, ⟨t, rfl⟩, fun H => Rep.int_iff.mpr rfl⟩
  | .str a, u, h => by
    cases u <;> first | (unfold repB at h; exact nb h) | skip
    rename_i b t
    have e : strOf a = b := by unfold repB at h; exact of_decide_eq_true h
    subst e
    exact ⟨.str (strOf a), ⟨t, rfl⟩, fun H => Rep.str_iff.mpr rfl⟩
  | .tup ds, u, h => by
    cases u <;> first | (unfold repB at h; exact nb h) | skip
    rename_i a
    unfold repB at h
    split at h
    · rename_i c _ its n _ lk
      obtain ⟨h1, h⟩ := an h
      obtain ⟨h2, h3⟩ := an h
      obtain ⟨vs, r, rr⟩ := repBs_ok ds _ h3
      exact ⟨.ref a, rfl, fun H => Rep.tup_iff.mpr ⟨a, vs, rfl, .inr ⟨_, its, n, lk, congrArg Value.type (of_decide_eq_true h1), rfl, of_decide_eq_true h2, r⟩, rr H⟩⟩
    · exact nb h
  | .lst ds, u, h => by cases u <;> (unfold repB at h; exact nb h)
  | .obj c ds, u, h => by cases u <;> (unfold repB at h; exact nb h)
  | .scr ds, u, h => by cases u <;> (unfold repB at h; exact nb h)
theorem repBs_ok {w : Wd} : ∀ (ds : List MP.D) (us : List Value), repBs w.K ds us = true → ∃ vs, Vals vs us ∧ ∀ H, Reps w H ds vs
  | [], [], h => ⟨[], .nil, fun H => Reps.nil_iff.mpr rfl⟩
  | [], _ :: _, h => by unfold repBs at h; exact nb h
  | _ :: _, [], h => by unfold repBs at h; exact nb h
  | d :: ds, u :: us, h => by
    unfold repBs at h
    obtain ⟨h1, h2⟩ := an h
    obtain ⟨v, r, q⟩ := repB_ok d u h1
    obtain ⟨vs, rs, qs⟩ := repBs_ok ds us h2
    exact ⟨v :: vs, .cons r rs, fun H => Reps.cons_iff.mpr ⟨v, vs, rfl, q H, qs H⟩⟩
end
/-- a def's place in the text -/
structure Dd where
  f : Nat
  st : Stmt
  N : List Str
def argsOf (st : Stmt) : Arguments := defArgs st
def dvOf : MP.D → He.Dv
  | .int i => .int i
  | .bl b => .bl b
  | .str x => .str (strOf x)
  | _ => .non
def flatB (d : MP.D) : Bool := match d with
  | .int _ => true
  | .bl _ => true
  | .non => true
  | .str _ => true
  | _ => false
def Dd.def_ (p : PD) (F : Fn) (d : Dd) : He.DefD := ⟨(p.nm d.f, none), p.nm d.f, p.nm d.f, defArgs d.st, defBody d.st, defScope d.st, F.dfl.map dvOf, []⟩
def Dd.tx (p : PD) (d : Dd) : Tx := ⟨p.nm d.f, p.nm d.f, (defArgs d.st).args, (defArgs d.st).kw_defaults, (defArgs d.st).defaults, defBody d.st, defScope d.st, d.N⟩
def simpP (a : Arguments) : Bool := match a with
  | ⟨[], _, none, [], _, none, _⟩ => true
  | _ => false
/-- the text is what the table says -/
def okText (p : PD) (ds : List Dd) : Bool := (p.fns.length == ds.length) && (p.fns.zip ds).all fun ((f, F), d) => decide (d.f = f) && (simpP (defArgs d.st) && (F.dfl.all flatB && okFn p.g p.nm F (d.tx p)))
def defsOf (p : PD) (ds : List Dd) : List He.DefD := (p.fns.zip ds).map fun ((_, F), d) => d.def_ p F
abbrev AlM : Type := Bool × List He.FnW
def obsM (p : PD) (fn : List He.DefD) (K : PySem.W.Frag) : AlM := (sysB p K && fn.all fun d => d.ok K, fn.map fun d => He.fnW K d.at_)
def valM (fn : List He.DefD) : AlM := (true, fn.map He.DefD.val)
def obsMG (n : Nat) (p : PD) (fn : List He.DefD) (g : Addr → Option Obj) : AlM := obsM p fn (He.frG g (He.asD g n))
def hookM (n : Nat) (p : PD) (fn : List He.DefD) : PySem.W.Hook where
  α := AlM
  obs := fun s => obsMG n p fn s.heap.get?
  val := fun _ => valM fn
  says := fun _ h => ∃ K : PySem.W.Frag, K.In h ∧ obsM p fn K = valM fn
  of := fun _ _ e => ⟨_, He.frG_in, e⟩
  keeps := fun _ _ _ ⟨K, hK, c⟩ k => ⟨K, PySem.W.Frag.In.keeps hK k, c⟩
theorem obsMG_eq {n : Nat} {p : PD} {fn : List He.DefD} {g : Addr → Option Obj} {s : Shared} (h : ∀ a, g a = s.heap.get? a) : obsMG n p fn g = (hookM n p fn).obs s := by
  have e : g = s.heap.get? := funext h
  rw [e] <;> rfl
theorem dvOf_reps {w : Wd} : ∀ {ds : List MP.D}, ds.all flatB = true → ∀ H, Reps w H ds (ds.map fun d => (dvOf d).v w.K)
  | [], _, H => Reps.nil_iff.mpr rfl
  | d :: ds, h, H => by
    rw [List.all_cons] at h
    obtain ⟨h1, h2⟩ := an h
    refine Reps.cons_iff.mpr ⟨_, _, rfl, ?_, dvOf_reps h2 H⟩
    cases d <;> first | exact nb h1 | skip
    · exact Rep.non_iff.mpr rfl
    · exact Rep.bl_iff.mpr rfl
    · exact Rep.int_iff.mpr rfl
    · exact Rep.str_iff.mpr rfl
theorem look_mem {α : Type} : ∀ {l : List (Nat × α)} {k : Nat} {a : α}, l.lookup k = some a → ∃ i : Nat, l[i]? = some (k, a)
  | [], _, _, h => by cases h
  | (j, b) :: l, k, a, h => by
    rw [List.lookup_cons] at h
    cases e : (k == j) with
    | true =>
      rw [e] at h
      cases h
      rw [beq_iff_eq.mp e]
      exact ⟨0, rfl⟩
    | false =>
      rw [e] at h
      obtain ⟨i, hi⟩ := look_mem h
      exact ⟨i + 1, hi⟩
theorem sys_of (p : PD) (ds : List Dd) (ht : okText p ds = true) {K : PySem.W.Frag} {h : Heap} {mg : Str → Option Value} (X : K.In h) (G : h.Ns mainGlobals mg) (c : obsM p (defsOf p ds) K = valM (defsOf p ds)) : Sys (p.w K) p.g mg := by
  have c0 : (sysB p K && (defsOf p ds).all fun d => d.ok K) = true := congrArg (fun z : AlM => z.1) c
  have c1 : (defsOf p ds).map (fun d => He.fnW K d.at_) = (defsOf p ds).map He.DefD.val := congrArg (fun z : AlM => z.2) c
  obtain ⟨cs, cd⟩ := an c0
  unfold sysB at cs
  obtain ⟨s1, cs⟩ := an cs
  obtain ⟨s2, cs⟩ := an cs
  obtain ⟨s3, cs⟩ := an cs
  obtain ⟨s4, cs⟩ := an cs
  obtain ⟨s5, cs⟩ := an cs
  obtain ⟨s6, cs⟩ := an cs
  obtain ⟨s7, cs⟩ := an cs
  obtain ⟨s8, s9⟩ := an cs
  obtain ⟨r1, s4⟩ := an s4
  obtain ⟨r2, s4⟩ := an s4
  obtain ⟨r3, r4⟩ := an s4
  have fr : ∀ {x : Str}, frB K x = true → mg x = none := fun e => PySem.W.mg_none_of X G (He.eqO_ok e)
  have gl : ∀ {x : Str}, glB K x = true → mg x = some (.ref (He.ga K x)) := fun e => PySem.W.mg_of X G (He.eqO_ok e)
  have ncl : ∀ k q, (p.w K).P.cl k = some q → False := fun k q e => by
    have : p.cls = [] := List.isEmpty_iff.mp s9
    have e : p.cls.lookup k = some q := e
    rw [this] at e
    cases e
  unfold okText at ht
  obtain ⟨t1, t2⟩ := an ht
  have t1 := beq_iff_eq.mp t1
  have tym : ∀ {t : Ty}, p.g.ty t = true → t ∈ p.ty := fun e => of_decide_eq_true e
  refine { fn := ?fn, fns := ?fns, gv := ?gv, bl := ?bl, gcd := ?gcd, rng := fr r1, enm := fr r2, zip := fr r3, isi := fr r4, ty := ?ty, isB := ?isB, isO := fun k q e => (ncl k q e).elim, isE := ?isE, fld := ?fld, mkc := fun _ => rfl, me := fun _ => rfl, rai := ?rai }
  case fn =>
    intro f F e
    obtain ⟨i, hi⟩ := look_mem (show p.fns.lookup f = some F from e)
    have hi1 := (List.getElem?_eq_some_iff.mp hi).1
    have hd : ds[i]? = some (ds[i]'(by omega)) := List.getElem?_eq_getElem _
    generalize ds[i]'(by omega) = d at hd
    have hz : (p.fns.zip ds)[i]? = some ((f, F), d) := List.getElem?_zip_eq_some.mpr ⟨hi, hd⟩
    have hm := List.all_eq_true.mp t2 _ (List.mem_of_getElem? hz)
    obtain ⟨u1, u2⟩ := an hm
    obtain ⟨u2, u3⟩ := an u2
    obtain ⟨u3, u4⟩ := an u3
    have u1 := of_decide_eq_true u1
    subst u1
    have hdd : (defsOf p ds)[i]? = some (d.def_ p F) := by
      unfold defsOf
      rw [List.getElem?_map, hz]
      rfl
    have e2 : ((defsOf p ds).map fun d => He.fnW K d.at_)[i]? = ((defsOf p ds).map He.DefD.val)[i]? := by rw [c1]
    rw [List.getElem?_map, List.getElem?_map, hdd] at e2
    obtain ⟨fd, FD⟩ := He.DefD.funD (Option.some.inj e2) (List.all_eq_true.mp cd _ (List.mem_of_getElem? hdd))
    refine ⟨d.tx p, fd, (d.def_ p F).dvs K, (d.def_ p F).kws K, ?_, ?_, u4, gl (List.all_eq_true.mp s1 _ (List.mem_of_getElem? hi))⟩
    · have ep : (d.def_ p F).params = ⟨[], (defArgs d.st).args, none, [], (defArgs d.st).kw_defaults, none, (defArgs d.st).defaults⟩ := by
        show defArgs d.st = _
        have u2 : simpP (defArgs d.st) = true := u2
        generalize defArgs d.st = a at u2 ⊢
        unfold simpP at u2
        split at u2
        · rfl
        · exact nb u2
      rw [ep] at FD
      exact FD
    · intro H
      have := dvOf_reps (w := p.w K) u3 H
      show Reps (p.w K) H F.dfl ((F.dfl.map dvOf).map (He.Dv.v K))
      rw [List.map_map]
      exact this
  case fns =>
    intro f e z
    have e : (p.fns.lookup f).isSome = true := e
    rw [show p.fns.lookup f = none from z] at e
    cases e
  case gv =>
    intro x d e
    obtain ⟨i, hi⟩ := look_mem (show p.gvs.lookup x = some d from e)
    have := List.all_eq_true.mp s2 _ (List.mem_of_getElem? hi)
    unfold gvB at this
    split at this
    · rename_i u hu
      obtain ⟨v, r, q⟩ := repB_ok (w := p.w K) d u this
      exact ⟨v, u, PySem.W.mg_of X G hu, r, q⟩
    · exact nb this
  case bl =>
    intro b e ne
    have := List.all_eq_true.mp s3 b (of_decide_eq_true e)
    cases b <;> first | exact absurd rfl ne | exact fr this
  case gcd =>
    intro e
    have := List.all_eq_true.mp s3 .gcd (of_decide_eq_true e)
    exact PySem.W.mg_of X G (He.eqO_ok this)
  case ty =>
    intro t e
    have := List.all_eq_true.mp s5 t (tym e)
    cases t <;> first | exact gl this | exact fr this | exact nb this
  case isB =>
    intro a ha k hk
    have h1 := List.all_eq_true.mp s6 a ha
    have : ∃ t, t ∈ p.ty ∧ clsOf t = some k := by
      rcases hk with hk | hk
      · exact ⟨_, tym hk, rfl⟩
      · exact ⟨_, tym hk, rfl⟩
    obtain ⟨t, h2, h3⟩ := this
    have := List.all_eq_true.mp h1 t h2
    rw [h3] at this
    exact of_decide_eq_true this
  case isE =>
    intro k q e
    obtain ⟨i, hi⟩ := look_mem (show p.xcs.lookup k = some q from e)
    have := List.all_eq_true.mp s7 _ (List.mem_of_getElem? hi)
    obtain ⟨u1, u2⟩ := an this
    obtain ⟨u2, u3⟩ := an u2
    obtain ⟨u3, u4⟩ := an u3
    obtain ⟨u4, u5⟩ := an u4
    refine ⟨excCB_ok u1, xfB_ok u2, fun f ef => ?_, fun j ej => ?_, of_decide_eq_true u5⟩
    · simp only [ef] at u3
      exact He.eqO_ok u3
    · have := List.all_eq_true.mp u4 _ (tym ej)
      obtain ⟨v1, v2⟩ := an this
      exact ⟨of_decide_eq_true v1, of_decide_eq_true v2⟩
  case fld =>
    intro k f i e
    unfold Prog.fld at e
    obtain ⟨q, e1, _⟩ := Option.bind_eq_some_iff.mp e
    exact (ncl k q e1).elim
  case rai =>
    intro k e
    have := List.all_eq_true.mp s8 k (of_decide_eq_true e)
    unfold raiB at this
    obtain ⟨u1, u2⟩ := an this
    obtain ⟨u2, u3⟩ := an u2
    obtain ⟨u3, u4⟩ := an u3
    obtain ⟨u4, u5⟩ := an u4
    obtain ⟨u5, u6⟩ := an u5
    have hx : ∃ q, p.xcs.lookup k = some q ∧ q.fld = none := by
      cases q : p.xcs.lookup k with
      | none => rw [q] at u1; exact nb u1
      | some q' => rw [q] at u1; exact ⟨q', rfl, Option.isNone_iff_eq_none.mp u1⟩
    obtain ⟨q, hq, hf⟩ := hx
    refine ⟨fun z => ?_, ?_, u2, gl u3, u4, of_decide_eq_true u5, of_decide_eq_true u6⟩
    · rw [show (p.w K).P.xc k = some q from hq] at z; cases z
    · show (p.P.xc k).bind (·.fld) = none
      rw [show p.P.xc k = some q from hq]
      exact hf
end MP

end

section
set_option Elab.async false
set_option linter.all false
set_option maxRecDepth 100000
namespace MP
open PySem PySem.Spec PyProof.Rows L2
/-- the law's walk, from its run on data -/
theorem walk_mp {l : PySem.W.OpenLaw} {q : Program} {loose : List Str} {XP : (Str → Option Value) → Heap → Prop} {d : DefRec} {p : PD} {ds : List Dd} {f n m : Nat} {F : Fn}
    (hn : l.most = some 63) (hF : p.fns.lookup f = some F) (hdf : d.params.defaults = []) (hnm : d.name = p.nm f) (ht : okText p ds = true) (h1 : F.np = 1) (h2 : F.dfl = []) (h3 : True) (hr : Room (n + 1) callerA)
    (hrun : ∀ ns : List Int, ns.length ≤ 63 → runB p.P n F [.scr ns] = .ok (.fz (.bl true))) :
    PySem.W.WalkO q loose XP (hookM m p (defsOf p ds)).says l.row.toRowW d [] (fun f vs => PySem.call f vs) := by
  refine Att.attach_call hn hdf fun w s₀ s₁ mg mb fa o pm cd doc a vs ns G Y ho hd hcd hmg hobj hints hlen hg => ?_
  obtain ⟨K, KX, c⟩ := Y
  have S := sys_of p ds ht KX G.T.g c
  obtain ⟨fd, x, hb, hsp, hF'⟩ := law_fn (Pr := l.prog) (wd := w) S (f := f) (F := F) hF h1 h2 hrun
  have e : fa = (p.w K).cad f := by
    obtain ⟨t, fd, dvs, kws, _, _, _, e⟩ := S.fn f F hF
    rw [hnm] at hmg
    have := hmg.symm.trans e
    cases this
    rfl
  subst e
  exact law_call KX G.T.g G.T.b G.T.builtins G.T.nolimit hg hobj hints (Nat.le_trans hlen (by rw [sizeLine_eq]; decide)) hr (fun base _ _ => hF' base) hb (fun H hO hS => hsp H _ ns hlen hS) fun H e s' h => by
    obtain ⟨_, _, _, _, _, _, _, _, _, _, _, _, h⟩ := h
    exact h
end MP

end

section
set_option linter.all false
set_option maxRecDepth 100000
/-! Running the small evaluator by simp. -/
namespace MP
variable {P : MP.Prog} {n : Nat}
@[simp] theorem gx_cm : (P.gx n).calm = true := by cases n <;> rfl
@[simp] theorem gx_hcm : (P.gx n).hot.calm = false := by cases n <;> rfl
@[simp] theorem gx_gv : (P.gx n).gv = P.gv := by cases n <;> rfl
@[simp] theorem gx_hgv : (P.gx n).hot.gv = P.gv := by cases n <;> rfl
@[simp] theorem gx_sub : (P.gx n).sub = P.sub := by cases n <;> rfl
@[simp] theorem gx_hsub : (P.gx n).hot.sub = P.sub := by cases n <;> rfl
@[simp] theorem gx_xf : (P.gx n).xf = P.xf := by cases n <;> rfl
@[simp] theorem gx_hxf : (P.gx n).hot.xf = P.xf := by cases n <;> rfl
@[simp] theorem varD_fz (d : D) (pk : Bool) : varD (some (.fz d)) pk = .ok (.fz d) := rfl
@[simp] theorem varD_own (ds : List D) : varD (some (.own ds)) true = .ok (.own ds) := rfl
@[simp] theorem varD_xv (c : Nat) (p : Option D) : varD (some (.xv c p)) true = .ok (.xv c p) := rfl
@[simp] theorem oper_fz (p : Bool) (d : D) : oper p (.ok (.fz d)) = .ok d := rfl
@[simp] theorem oper_own (p : Bool) (ds : List D) : oper p (.ok (.own ds)) = .ok (.lst ds) := rfl
@[simp] theorem oper_ex (p : Bool) (c : Nat) (q : Option D) : oper p (.ex c q) = .ex c q := rfl
@[simp] theorem argm_fz (p : Bool) (d : D) : argm p (.ok (.fz d)) = .ok (d, p && false) := rfl
@[simp] theorem argm_own (p : Bool) (ds : List D) : argm p (.ok (.own ds)) = .ok (.lst ds, p && true) := rfl
@[simp] theorem argm_ex (p : Bool) (c : Nat) (q : Option D) : argm p (.ex c q) = .ex c q := rfl
@[simp] theorem asB_bl (b : Bool) : asB (.ok (.fz (.bl b))) = .ok b := rfl
@[simp] theorem asB_ex (c : Nat) (q : Option D) : asB (.ex c q) = .ex c q := rfl
@[simp] theorem tru_bl' (b : Bool) : tru (.ok (.fz (.bl b))) = .ok b := rfl
@[simp] theorem tru_int (i : Int) : tru (.ok (.fz (.int i))) = .ok (decide (i ≠ 0)) := rfl
@[simp] theorem tru_ex (c : Nat) (q : Option D) : tru (.ex c q) = .ex c q := rfl
@[simp] theorem frz_fz (d : D) : frz (.ok (.fz d)) = .ok d := rfl
@[simp] theorem frz_own (ds : List D) : frz (.ok (.own ds)) = .ok (.lst ds) := rfl
@[simp] theorem frz_ex (c : Nat) (q : Option D) : frz (.ex c q) = .ex c q := rfl
@[simp] theorem asI_int (i : Int) : asI (.ok (.int i)) = .ok i := rfl
@[simp] theorem asI_ex (c : Nat) (q : Option D) : asI (.ex c q) = .ex c q := rfl
@[simp] theorem cmp_eq_int (i j : Int) : cmpD .eq (.int i) (.int j) = .ok (.fz (.bl (decide (i = j)))) := by
  simp only [cmpD, D.plain, D.eqv, Bool.and_self, if_true]
  rfl
@[simp] theorem cmp_ne_int (i j : Int) : cmpD .ne (.int i) (.int j) = .ok (.fz (.bl (!decide (i = j)))) := by
  simp only [cmpD, D.plain, D.eqv, Bool.and_self, if_true]
  rfl
@[simp] theorem cmp_lt_int (i j : Int) : cmpD .lt (.int i) (.int j) = .ok (.fz (.bl (decide (i < j)))) := rfl
@[simp] theorem cmp_le_int (i j : Int) : cmpD .le (.int i) (.int j) = .ok (.fz (.bl (decide (i ≤ j)))) := rfl
@[simp] theorem cmp_gt_int (i j : Int) : cmpD .gt (.int i) (.int j) = .ok (.fz (.bl (decide (j < i)))) := rfl
@[simp] theorem cmp_ge_int (i j : Int) : cmpD .ge (.int i) (.int j) = .ok (.fz (.bl (decide (j ≤ i)))) := rfl
@[simp] theorem bin_add (i j : Int) : binD .add (.int i) (.int j) = .ok (.fz (.int (i + j))) := rfl
@[simp] theorem bin_sub (i j : Int) : binD .sub (.int i) (.int j) = .ok (.fz (.int (i - j))) := rfl
theorem bin_mul {i j : Int} (h : mulOk i j = true) : binD .mul (.int i) (.int j) = .ok (.fz (.int (i * j))) := by simp only [binD, h, if_true]
theorem bin_fdiv {i j : Int} (h : divOk j = true) : binD .fdiv (.int i) (.int j) = .ok (.fz (.int (i.fdiv j))) := by simp only [binD, h, if_true]
theorem bin_mod {i j : Int} (h : j ≠ 0) : binD .mod (.int i) (.int j) = .ok (.fz (.int (i.fmod j))) := by simp only [binD, if_neg h]
theorem bin_pow {i j : Int} (h : powOk i j = true) : binD .pow (.int i) (.int j) = .ok (.fz (.int (i ^ j.toNat))) := by simp only [binD, h, if_true]
@[simp] theorem sub_tup (pk p : Bool) (ds : List D) (j : Int) : subD pk p (.fz (.tup ds)) j = R.ofO ((atI ds j).map .fz) := rfl
@[simp] theorem sub_own (pk p : Bool) (ds : List D) (j : Int) : subD pk p (.own ds) j = R.ofO ((atI ds j).map .fz) := rfl
@[simp] theorem sub_scr (pk p : Bool) (ns : List Int) (j : Int) : subD pk p (.fz (.scr ns)) j = R.ofO ((atI ns j).map fun i => .fz (.int i)) := rfl
@[simp] theorem at_0 {α : Type} (a : α) (xs : List α) : atI (a :: xs) 0 = some a := by
  simp only [atI, ixN, List.length_cons, Option.bind]
  have h : ((0 : Int) < ((xs.length + 1 : Nat) : Int)) := by omega
  rw [if_pos (by decide), if_pos h]
  rfl
@[simp] theorem at_1 {α : Type} (a b : α) (xs : List α) : atI (a :: b :: xs) 1 = some b := by
  simp only [atI, ixN, List.length_cons, Option.bind]
  have h : ((1 : Int) < ((xs.length + 1 + 1 : Nat) : Int)) := by omega
  rw [if_pos (by decide), if_pos h]
  rfl
@[simp] theorem lent_no {bs : List (D × Bool)} {r : R OD} (h : bs.any (·.2) = false) : lent bs r = r := by
  unfold lent
  rw [h]
  rfl
@[simp] theorem liftO_set (i : Nat) (o : OD) (Γ : List OD) (f : List OD → XR) (h : i < Γ.length) : liftO (setT (.n i) o Γ) f = f (Γ.set i o) := by
  unfold setT
  rw [if_pos h]
  rfl
theorem call_succ {f : Nat} {as : List D} {F : Fn} (h : P.fn f = some F) : (P.gx (n + 1)).call f as [] [] = (match bindA F as [] [] with
    | some vs => outR (execs F.body (P.gx n) (MP.start F (vs.map .fz)))
    | none => .bad) := by
  show (match P.fn f with
    | some F => (match bindA F as [] [] with
      | some vs => outR (execs F.body (P.gx n) (MP.start F (vs.map .fz)))
      | none => .bad)
    | none => .bad) = _
  rw [h]
@[simp] theorem outR_rt (o : OD) (Γ : List OD) : outR (.ok (.rt o) Γ) = .ok o := rfl
@[simp] theorem outR_ex (c : Nat) (p : Option D) (Γ : List OD) : outR (.ex c p Γ) = .ex c p := rfl
@[simp] theorem outR_nx (Γ : List OD) : outR (.ok .nx Γ) = .ok (.fz .non) := rfl
@[simp] theorem seq_ite (c : Prop) [Decidable c] (a b : XR) (f : List OD → XR) : (if c then a else b).seq f = if c then a.seq f else b.seq f := by split <;> rfl
@[simp] theorem outR_ite (c : Prop) [Decidable c] (a b : XR) : outR (if c then a else b) = if c then outR a else outR b := by split <;> rfl
@[simp] theorem retE_var (X : Fx) (i : Nat) (Γ : List OD) : retE X (.var i) Γ = varD Γ[i]? true := rfl
end MP
namespace MP
theorem forL_nil (body : List OD → XR) (t : T) (Γ : List OD) : forL body t [] Γ = .ok .nx Γ := by unfold forL; rfl
theorem forL_cons (body : List OD → XR) (i : Nat) (d : D) (ds : List D) (Γ : List OD) (h : i < Γ.length) : forL body (.n i) (d :: ds) Γ = (match body (Γ.set i (.fz d)) with
    | .ok .nx Γ2 => forL body (.n i) ds Γ2
    | .ok .ct Γ2 => forL body (.n i) ds Γ2
    | .ok .bk Γ2 => .ok .nx Γ2
    | r => r) := by
  rw [forL]
  unfold setT
  rw [if_pos h]
  rfl
@[simp] theorem bm_bits (i : Int) : bmD .bitlen (.int i) [] = .ok (.fz (.int (bitLen i))) := rfl
end MP
namespace MP
@[simp] theorem blt_abs' (i : Int) : bltD .abs [.int i] = .ok (.fz (.int (i.natAbs : Int))) := by
  show (R.ok (OD.fz (D.int (if i < 0 then -i else i))) : R OD) = _
  congr 3
  split <;> omega
@[simp] theorem blt_int' (i : Int) : bltD .int [.int i] = .ok (.fz (.int i)) := rfl
@[simp] theorem blt_intb (b : Bool) : bltD .int [.bl b] = .ok (.fz (.int (b2i b))) := rfl
@[simp] theorem blt_gcd' (i j : Int) : bltD .gcd [.int i, .int j] = .ok (.fz (.int (Nat.gcd i.natAbs j.natAbs : Nat))) := rfl
@[simp] theorem blt_len_t (ds : List D) : bltD .len [.tup ds] = .ok (.fz (.int ds.length)) := rfl
@[simp] theorem blt_len_l (ds : List D) : bltD .len [.lst ds] = .ok (.fz (.int ds.length)) := rfl
@[simp] theorem blt_len_s (ns : List Int) : bltD .len [.scr ns] = .ok (.fz (.int ns.length)) := rfl
@[simp] theorem blt_list_l (ds : List D) : bltD .list [.lst ds] = .ok (.own ds) := rfl
@[simp] theorem blt_list_t (ds : List D) : bltD .list [.tup ds] = .ok (.own ds) := rfl
@[simp] theorem blt_tuple_l (ds : List D) : bltD .tuple [.lst ds] = .ok (.fz (.tup ds)) := rfl
@[simp] theorem blt_tuple_t (ds : List D) : bltD .tuple [.tup ds] = .ok (.fz (.tup ds)) := rfl
@[simp] theorem itemsR_l (ds : List D) : itemsR (.ok (.lst ds)) = .ok ds := rfl
@[simp] theorem itemsR_t (ds : List D) : itemsR (.ok (.tup ds)) = .ok ds := rfl
@[simp] theorem any_1 : Blt.anyhow .len = true := rfl
@[simp] theorem any_2 : Blt.anyhow .abs = true := rfl
@[simp] theorem any_3 : Blt.anyhow .int = true := rfl
@[simp] theorem any_4 : Blt.anyhow .list = true := rfl
@[simp] theorem any_5 : Blt.anyhow .tuple = true := rfl
theorem rng1 {n : Int} (h : smallI n = true) : rngD [.int n] = .ok (.fz (.lst (rangeI 0 n))) := by simp only [rngD, h, if_true]
theorem rng2 {m n : Int} (h : smallI m = true) (h2 : smallI n = true) : rngD [.int m, .int n] = .ok (.fz (.lst (rangeI m n))) := by simp only [rngD, h, h2, Bool.and_self, if_true]
theorem exec_forr (X : Gx) (hc : X.calm = true) (t : T) (it : E) (b : List S) (Γ : List OD) : exec (.forr t it b) X Γ = liftR (itemsR (frz (ev X.toFx it Γ false))) Γ fun ds => forL (fun Γ => execs b X Γ) t ds Γ := by
  unfold exec
  simp only [hc, Bool.true_eq_false, if_false]
theorem execs_cons (s : S) (ss : List S) (X : Gx) (Γ : List OD) : execs (s :: ss) X Γ = (exec s X Γ).seq fun Γ' => execs ss X Γ' := by rw [execs]
theorem execs_nil (X : Gx) (Γ : List OD) : execs [] X Γ = .ok .nx Γ := by rw [execs]
end MP
namespace MP
theorem for_rng1 {X : Gx} (hc : X.calm = true) {t : T} {e : E} {b : List S} {Γ : List OD} {m : Int} {r : XR} (he : (evOs X.toFx [e] Γ) = .ok [.int m]) (sm : smallI m = true) (h : forL (fun Γ => execs b X Γ) t (rangeI 0 m) Γ = r) : exec (.forr t (.rng [e]) b) X Γ = r := by
  rw [exec_forr _ hc]
  have : ev X.toFx (.rng [e]) Γ false = .ok (.fz (.lst (rangeI 0 m))) := by
    rw [ev, he, R.bind_ok, rng1 sm]
  rw [this]
  exact h
theorem for_seq {X : Gx} (hc : X.calm = true) {t : T} {e : E} {b : List S} {Γ : List OD} {d : D} {ds : List D} {r : XR} (he : frz (ev X.toFx e Γ false) = .ok d) (hd : d.items = some ds) (h : forL (fun Γ => execs b X Γ) t ds Γ = r) : exec (.forr t e b) X Γ = r := by
  rw [exec_forr _ hc, he]
  unfold itemsR
  rw [R.bind_ok, hd]
  exact h
end MP
namespace MP
@[simp] theorem isT_n (i : Nat) : (T.n i).isT = false := rfl
@[simp] theorem isT_t (ts : List T) : (T.t ts).isT = true := rfl
@[simp] theorem noXvR_ok (x : Option Nat) (f : Fl) (Γ : List OD) : noXvR x (.ok f Γ) = if (clrAt x Γ).all noXv && flNoXv f then .ok f (clrAt x Γ) else .bad := rfl
@[simp] theorem clrAt_s (i : Nat) (Γ : List OD) : clrAt (some i) Γ = Γ.set i .un := rfl
@[simp] theorem clrAt_n (Γ : List OD) : clrAt none Γ = Γ := rfl
@[simp] theorem noXv_fz (d : D) : noXv (.fz d) = true := rfl
@[simp] theorem noXv_own (d : List D) : noXv (.own d) = true := rfl
@[simp] theorem noXv_own2 (d : List (Bool × List D)) : noXv (.own2 d) = true := rfl
@[simp] theorem noXv_un : noXv .un = true := rfl
@[simp] theorem fl_nx : flNoXv .nx = true := rfl
@[simp] theorem fl_rt (o : OD) : flNoXv (.rt o) = noXv o := rfl
end MP

end

section
set_option linter.all false
set_option maxRecDepth 100000
/-! Equations that are not taken for definitional ones (a proof by simp stays cheap for the kernel). -/
namespace MP
section
variable (X : Fx) (Γ : List OD) (pk : Bool)
theorem q_int (i : Int) : ev X (.int i) Γ pk = .ok (.fz (.int i)) := by rw [ev]
theorem q_bl (i : Bool) : ev X (.bl i) Γ pk = .ok (.fz (.bl i)) := by rw [ev]
theorem q_non : ev X .non Γ pk = .ok (.fz .non) := by rw [ev]
theorem q_str (i : List Nat) : ev X (.str i) Γ pk = .ok (.fz (.str i)) := by rw [ev]
theorem q_var (i : Nat) : ev X (.var i) Γ pk = varD Γ[i]? pk := by rw [ev]
theorem q_glob (g : Nat) : ev X (.glob g) Γ pk = R.ofO ((X.gv g).map .fz) := by rw [ev]
theorem q_bin (op : Bop) (a b : E) : ev X (.bin op a b) Γ pk = (oper (isPath a) (ev X a Γ true)).bind fun x => (oper (isPath b) (ev X b Γ true)).bind fun y => binD op x y := by rw [ev]
theorem q_neg (a : E) : ev X (.neg a) Γ pk = (asI (oper (isPath a) (ev X a Γ true))).bind fun i => .ok (.fz (.int (-i))) := by rw [ev]
theorem q_not (a : E) : ev X (.notE a) Γ pk = (tru (ev X a Γ true)).bind fun b => .ok (.fz (.bl (!b))) := by rw [ev]
theorem q_cmp (op : Cop) (a b : E) : ev X (.cmp op a b) Γ pk = (argm (isPath a) (ev X a Γ true)).bind fun x => (argm (isPath b) (ev X b Γ true)).bind fun y => cmpD op x.1 y.1 := by rw [ev]
theorem q_isB (a : E) (b yes : Bool) : ev X (.isB a b yes) Γ pk = (asB (ev X a Γ true)).bind fun c => .ok (.fz (.bl ((c == b) == yes))) := by rw [ev]
theorem q_isN (a : E) (yes : Bool) : ev X (.isN a yes) Γ pk = (argm (isPath a) (ev X a Γ true)).bind fun x => .ok (.fz (.bl (x.1.isNon == yes))) := by rw [ev]
theorem q_and (a b : E) : ev X (.andE a b) Γ pk = (asB (ev X a Γ true)).bind fun c => if c then (asB (ev X b Γ true)).bind fun d => .ok (.fz (.bl d)) else .ok (.fz (.bl false)) := by rw [ev]
theorem q_or (a b : E) : ev X (.orE a b) Γ pk = (asB (ev X a Γ true)).bind fun c => if c then .ok (.fz (.bl true)) else (asB (ev X b Γ true)).bind fun d => .ok (.fz (.bl d)) := by rw [ev]
theorem q_one (a : E) : ev X (.one a) Γ pk = (asB (ev X a Γ true)).bind fun b => .ok (.fz (.bl b)) := by rw [ev]
theorem q_tup (es : List E) : ev X (.tup es) Γ pk = (evF X es Γ).bind fun ds => .ok (.fz (.tup ds)) := by rw [ev]
theorem q_sub (a i : E) : ev X (.sub a i) Γ pk = (ev X a Γ true).bind fun o => (asI (oper (isPath i) (ev X i Γ true))).bind fun j => subD pk (isPath a) o j := by rw [ev]
theorem q_call (hc : X.calm = true) (f : Nat) (es : List E) : ev X (.call f es [] []) Γ pk = (evAs X es Γ).bind fun as => lent as (X.call f (as.map (·.1)) [] []) := by
  rw [ev, hc]
  simp only [Bool.true_eq_false, if_false, evAs, R.bind_ok, List.append_nil, List.map_nil]
theorem q_os0 : evOs X [] Γ = .ok [] := by rw [evOs]
theorem q_os1 (e : E) (es : List E) : evOs X (e :: es) Γ = (oper (isPath e) (ev X e Γ true)).bind fun d => (evOs X es Γ).bind fun ds => .ok (d :: ds) := by rw [evOs]
theorem q_as0 : evAs X [] Γ = .ok [] := by rw [evAs]
theorem q_as1 (e : E) (es : List E) : evAs X (e :: es) Γ = (argm (isPath e) (ev X e Γ true)).bind fun d => (evAs X es Γ).bind fun ds => .ok (d :: ds) := by rw [evAs]
theorem q_f0 : evF X [] Γ = .ok [] := by rw [evF]
theorem q_f1 (e : E) (es : List E) : evF X (e :: es) Γ = (frz (ev X e Γ false)).bind fun d => (evF X es Γ).bind fun ds => .ok (d :: ds) := by rw [evF]
end
section
variable (X : Gx) (Γ : List OD)
theorem w_asg (i : Nat) (e : E) (h : X.calm = true) : exec (.asg (.n i) e) X Γ = liftR (ev X.toFx e Γ false) Γ fun o => liftO (setT (.n i) o Γ) fun Γ' => .ok .nx Γ' := by
  rw [exec]
  simp
theorem w_asgT (ts : List T) (e : E) (h : X.calm = true) : exec (.asg (.t ts) e) X Γ = liftR (ev X.toFx e Γ false) Γ fun o => liftO (setT (.t ts) o Γ) fun Γ' => .ok .nx Γ' := by
  rw [exec]
  simp [h]
theorem w_retV (i : Nat) : exec (.ret (.var i)) X Γ = liftR (varD Γ[i]? true) Γ fun o => .ok (.rt o) Γ := by
  rw [exec]
  rfl
theorem w_ret (e : E) (h : ∀ i, e ≠ .var i) : exec (.ret e) X Γ = liftR (ev X.toFx e Γ false) Γ fun o => .ok (.rt o) Γ := by
  rw [exec]
  unfold retE
  cases e <;> first | rfl | exact absurd rfl (h _)
theorem w_iff (c : E) (a b : List S) : exec (.iff c a b) X Γ = liftR (tru (ev X.toFx c Γ true)) Γ fun t => if t then execs a X Γ else execs b X Γ := by rw [exec]
end
/-- two statements, one after another -/
theorem seq_step {X : Gx} {Γ Γ' : List OD} {s : S} {ss : List S} {r : XR} (h : exec s X Γ = .ok .nx Γ') (h2 : execs ss X Γ' = r) : execs (s :: ss) X Γ = r := by
  rw [execs_cons, h, seq_nx, h2]
end MP

end

section
set_option linter.all false
set_option maxRecDepth 100000
namespace Lw
open MP PySem PySem.W PySem.Calls PyProof.Rows
def b_ratio : List S := [(.iff (.cmp .eq (.var 1) (.int 0)) [(.rais 1 [(.str [116, 104, 101, 32, 98, 111, 116, 116, 111, 109, 32, 105, 115, 32, 122, 101, 114, 111])])] []), (.asg (.n 2) (.blt .gcd [(.var 0), (.var 1)])), (.iff (.cmp .lt (.var 1) (.int 0)) [(.asg (.n 2) (.neg (.var 2)))] []), (.ret (.tup [(.bin .fdiv (.var 0) (.var 2)), (.bin .fdiv (.var 1) (.var 2))]))]
def f_ratio : Fn := ⟨2, 3, [(.int 1)], [], b_ratio⟩
def b_is_ratio : List S := [(.ret (.andE (.cmp .gt (.sub (.var 0) (.int 1)) (.int 0)) (.one (.cmp .eq (.blt .gcd [(.sub (.var 0) (.int 0)), (.sub (.var 0) (.int 1))]) (.int 1)))))]
def f_is_ratio : Fn := ⟨1, 1, [], [], b_is_ratio⟩
def b_plus : List S := [(.iff (.cmp .eq (.sub (.var 0) (.int 1)) (.sub (.var 1) (.int 1))) [(.ret (.call 4 [(.bin .add (.sub (.var 0) (.int 0)) (.sub (.var 1) (.int 0))), (.sub (.var 0) (.int 1))] [] []))] []), (.ret (.call 4 [(.bin .add (.bin .mul (.sub (.var 0) (.int 0)) (.sub (.var 1) (.int 1))) (.bin .mul (.sub (.var 1) (.int 0)) (.sub (.var 0) (.int 1)))), (.bin .mul (.sub (.var 0) (.int 1)) (.sub (.var 1) (.int 1)))] [] []))]
def f_plus : Fn := ⟨2, 2, [], [], b_plus⟩
def b_minus : List S := [(.ret (.call 6 [(.var 0), (.tup [(.neg (.sub (.var 1) (.int 0))), (.sub (.var 1) (.int 1))])] [] []))]
def f_minus : Fn := ⟨2, 2, [], [], b_minus⟩
def b_times : List S := [(.ret (.call 4 [(.bin .mul (.sub (.var 0) (.int 0)) (.sub (.var 1) (.int 0))), (.bin .mul (.sub (.var 0) (.int 1)) (.sub (.var 1) (.int 1)))] [] []))]
def f_times : Fn := ⟨2, 2, [], [], b_times⟩
def b_over : List S := [(.iff (.cmp .eq (.sub (.var 1) (.int 0)) (.int 0)) [(.rais 1 [(.str [100, 105, 118, 105, 115, 105, 111, 110, 32, 98, 121, 32, 122, 101, 114, 111])])] []), (.ret (.call 4 [(.bin .mul (.sub (.var 0) (.int 0)) (.sub (.var 1) (.int 1))), (.bin .mul (.sub (.var 0) (.int 1)) (.sub (.var 1) (.int 0)))] [] []))]
def f_over : Fn := ⟨2, 2, [], [], b_over⟩
def b_compare : List S := [(.asg (.n 2) (.bin .sub (.bin .mul (.sub (.var 0) (.int 0)) (.sub (.var 1) (.int 1))) (.bin .mul (.sub (.var 1) (.int 0)) (.sub (.var 0) (.int 1))))), (.iff (.cmp .lt (.var 2) (.int 0)) [(.ret (.neg (.int 1)))] []), (.ret (.blt .int [(.cmp .gt (.var 2) (.int 0))]))]
def f_compare : Fn := ⟨2, 3, [], [], b_compare⟩
def b_total_1 : List S := [(.asg (.n 1) (.call 6 [(.var 1), (.var 2)] [] []))]
def b_total : List S := [(.asg (.n 1) (.glob 2)), (.forr (.n 2) (.var 0) b_total_1), (.ret (.var 1))]
def f_total : Fn := ⟨1, 3, [], [], b_total⟩
def b__law_cell : List S := [(.iff (.cmp .lt (.var 1) (.blt .len [(.var 0)])) [(.ret (.blt .int [(.sub (.var 0) (.var 1))]))] []), (.ret (.bin .add (.bin .mul (.int 7) (.var 1)) (.int 3)))]
def f__law_cell : Fn := ⟨2, 2, [], [], b__law_cell⟩
def b__law_shared_1 : List S := [(.iff (.cmp .eq (.var 1) (.int 0)) [(.ret (.var 0))] []), (.asg (.n 3) (.bin .mod (.blt .int [(.var 0)]) (.var 1))), (.asg (.n 0) (.var 1)), (.asg (.n 1) (.var 3))]
def b__law_shared : List S := [(.asg (.n 0) (.blt .abs [(.var 0)])), (.asg (.n 1) (.blt .abs [(.var 1)])), (.forr (.n 2) (.rng [(.bin .add (.bin .mul (.int 2) (.bm .bitlen (.blt .abs [(.var 1)]) [])) (.int 4))]) b__law_shared_1), (.ret (.int 0))]
def f__law_shared : Fn := ⟨2, 4, [], [], b__law_shared⟩
def b__law_is_whole : List S := [(.ret (.andE (.inst (.var 0) [.tint]) (.one (.notE (.inst (.var 0) [.tbool])))))]
def f__law_is_whole : Fn := ⟨1, 1, [], [], b__law_is_whole⟩
def b__law_is : List S := [(.iff (.orE (.notE (.inst (.var 0) [.ttuple])) (.one (.cmp .ne (.blt .len [(.var 0)]) (.int 2)))) [(.ret (.bl false))] []), (.iff (.orE (.notE (.call 14 [(.sub (.var 0) (.int 0))] [] [])) (.one (.notE (.call 14 [(.sub (.var 0) (.int 1))] [] [])))) [(.ret (.bl false))] []), (.iff (.orE (.cmp .lt (.sub (.var 0) (.int 1)) (.int 1)) (.one (.cmp .ne (.call 13 [(.sub (.var 0) (.int 0)), (.sub (.var 0) (.int 1))] [] []) (.int 1)))) [(.ret (.bl false))] []), (.ret (.cmp .eq (.bin .mul (.sub (.var 0) (.int 0)) (.var 2)) (.bin .mul (.var 1) (.sub (.var 0) (.int 1)))))]
def f__law_is : Fn := ⟨3, 3, [], [], b__law_is⟩
def b__law_pair : List S := [(.asg (.n 2) (.bin .pow (.int 10) (.int 30))), (.iff (.cmp .eq (.bin .mod (.blt .int [(.call 12 [(.var 0), (.int 0)] [] [])]) (.int 2)) (.int 0)) [(.asg (.n 2) (.int 12))] []), (.asg (.n 3) (.bin .sub (.bin .mod (.blt .int [(.call 12 [(.var 0), (.var 1)] [] [])]) (.bin .sub (.bin .mul (.int 2) (.var 2)) (.int 1))) (.bin .sub (.var 2) (.int 1)))), (.iff (.cmp .eq (.bin .mod (.blt .int [(.call 12 [(.var 0), (.bin .add (.var 1) (.int 1))] [] [])]) (.int 4)) (.int 1)) [(.asg (.n 3) (.int 0))] []), (.asg (.n 4) (.bin .add (.int 1) (.bin .mod (.blt .int [(.bin .fdiv (.call 12 [(.var 0), (.bin .add (.var 1) (.int 1))] [] []) (.int 4))]) (.bin .sub (.var 2) (.int 1))))), (.ret (.tup [(.var 3), (.var 4)]))]
def f__law_pair : Fn := ⟨2, 5, [], [], b__law_pair⟩
def b__law_refuses_1 : List S := [(.ex (.call 9 [(.var 0), (.var 1)] [] []))]
def b__law_refuses_2 : List S := [(.asg (.n 2) (.bin .add (.int 1) (.blt .int [(.andE (.inst (.var 3) [(.exc 0)]) (.one (.inst (.var 3) [.verr])))])))]
def b__law_refuses : List S := [(.asg (.n 2) (.int 0)), (.tryy b__law_refuses_1 1 (some 3) b__law_refuses_2), (.iff (.cmp .eq (.sub (.var 1) (.int 0)) (.int 0)) [(.ret (.cmp .eq (.var 2) (.int 2)))] []), (.ret (.cmp .eq (.var 2) (.int 0)))]
def f__law_refuses : Fn := ⟨2, 4, [], [], b__law_refuses⟩
def b__law_refuses_bottom_1 : List S := [(.ex (.call 4 [(.var 0), (.int 0)] [] []))]
def b__law_refuses_bottom_2 : List S := [(.ret (.andE (.inst (.var 1) [(.exc 1)]) (.one (.inst (.var 1) [.verr]))))]
def b__law_refuses_bottom : List S := [(.tryy b__law_refuses_bottom_1 0 (some 1) b__law_refuses_bottom_2), (.ret (.bl false))]
def f__law_refuses_bottom : Fn := ⟨1, 2, [], [], b__law_refuses_bottom⟩
def b__law_sum_1 : List S := [(.asg (.n 5) (.call 16 [(.var 0), (.bin .add (.int 6) (.bin .mul (.int 2) (.var 4)))] [] [])), (.app 1 (.call 4 [(.sub (.var 5) (.int 0)), (.sub (.var 5) (.int 1))] [] [])), (.iff (.notE (.call 15 [(.sub (.var 1) (.neg (.int 1))), (.sub (.var 5) (.int 0)), (.sub (.var 5) (.int 1))] [] [])) [(.ret (.bl false))] []), (.asg (.n 2) (.bin .add (.bin .mul (.var 2) (.sub (.var 5) (.int 1))) (.bin .mul (.sub (.var 5) (.int 0)) (.var 3)))), (.asg (.n 3) (.bin .mul (.var 3) (.sub (.var 5) (.int 1))))]
def b__law_sum : List S := [(.asg (.n 1) (.lst [])), (.asg (.n 2) (.int 0)), (.asg (.n 3) (.int 1)), (.forr (.n 4) (.rng [(.bin .mod (.blt .int [(.call 12 [(.var 0), (.int 5)] [] [])]) (.int 6))]) b__law_sum_1), (.asg (.n 6) (.blt .list [(.var 1)])), (.ret (.andE (.call 15 [(.call 11 [(.var 1)] [] []), (.var 2), (.var 3)] [] []) (.one (.cmp .eq (.var 1) (.var 6)))))]
def f__law_sum : Fn := ⟨1, 7, [], [], b__law_sum⟩
def b_law : List S := [(.asg (.t [(.n 1), (.n 2)]) (.call 16 [(.var 0), (.int 1)] [] [])), (.asg (.t [(.n 3), (.n 4)]) (.call 16 [(.var 0), (.int 3)] [] [])), (.asg (.n 5) (.call 4 [(.var 1), (.var 2)] [] [])), (.asg (.n 6) (.call 4 [(.neg (.var 3)), (.neg (.var 4))] [] [])), (.asg (.n 7) (.call 4 [(.var 3), (.var 4)] [] [])), (.iff (.orE (.notE (.call 15 [(.var 5), (.var 1), (.var 2)] [] [])) (.orE (.notE (.call 15 [(.var 7), (.var 3), (.var 4)] [] [])) (.one (.cmp .ne (.var 6) (.var 7))))) [(.ret (.bl false))] []), (.iff (.orE (.notE (.call 15 [(.glob 2), (.int 0), (.int 1)] [] [])) (.one (.notE (.call 15 [(.glob 3), (.int 1), (.int 1)] [] [])))) [(.ret (.bl false))] []), (.iff (.orE (.notE (.call 15 [(.call 4 [(.var 1)] [] []), (.var 1), (.int 1)] [] [])) (.one (.notE (.call 15 [(.call 4 [(.var 1), (.neg (.var 2))] [] []), (.neg (.var 1)), (.var 2)] [] [])))) [(.ret (.bl false))] []), (.iff (.orE (.notE (.call 15 [(.call 6 [(.var 5), (.var 7)] [] []), (.bin .add (.bin .mul (.var 1) (.var 4)) (.bin .mul (.var 3) (.var 2))), (.bin .mul (.var 2) (.var 4))] [] [])) (.one (.notE (.call 15 [(.call 7 [(.var 5), (.var 7)] [] []), (.bin .sub (.bin .mul (.var 1) (.var 4)) (.bin .mul (.var 3) (.var 2))), (.bin .mul (.var 2) (.var 4))] [] [])))) [(.ret (.bl false))] []), (.iff (.notE (.call 15 [(.call 8 [(.var 5), (.var 7)] [] []), (.bin .mul (.var 1) (.var 3)), (.bin .mul (.var 2) (.var 4))] [] [])) [(.ret (.bl false))] []), (.iff (.orE (.notE (.call 17 [(.var 5), (.var 7)] [] [])) (.orE (.notE (.call 17 [(.var 7), (.tup [(.int 0), (.int 1)])] [] [])) (.one (.notE (.call 18 [(.var 1)] [] []))))) [(.ret (.bl false))] []), (.iff (.andE (.cmp .ne (.var 3) (.int 0)) (.one (.notE (.call 15 [(.call 9 [(.var 5), (.var 7)] [] []), (.bin .mul (.var 1) (.var 4)), (.bin .mul (.var 2) (.var 3))] [] [])))) [(.ret (.bl false))] []), (.asg (.n 8) (.int 0)), (.iff (.cmp .lt (.bin .mul (.var 1) (.var 4)) (.bin .mul (.var 3) (.var 2))) [(.asg (.n 8) (.neg (.int 1)))] []), (.iff (.cmp .gt (.bin .mul (.var 1) (.var 4)) (.bin .mul (.var 3) (.var 2))) [(.asg (.n 8) (.int 1))] []), (.asg (.n 9) (.call 10 [(.var 5), (.var 7)] [] [])), (.iff (.orE (.notE (.call 14 [(.var 9)] [] [])) (.orE (.cmp .ne (.var 9) (.var 8)) (.orE (.cmp .ne (.call 10 [(.var 7), (.var 5)] [] []) (.neg (.var 8))) (.one (.cmp .ne (.call 10 [(.var 5), (.var 5)] [] []) (.int 0)))))) [(.ret (.bl false))] []), (.iff (.orE (.isB (.call 5 [(.var 5)] [] []) true false) (.one (.isB (.call 5 [(.tup [(.bin .mul (.sub (.var 5) (.int 0)) (.int 2)), (.bin .mul (.sub (.var 5) (.int 1)) (.int 2))])] [] []) false false))) [(.ret (.bl false))] []), (.iff (.orE (.isB (.call 5 [(.tup [(.neg (.sub (.var 5) (.int 0))), (.neg (.sub (.var 5) (.int 1)))])] [] []) false false) (.one (.isB (.call 5 [(.tup [(.var 1), (.int 0)])] [] []) false false))) [(.ret (.bl false))] []), (.ret (.call 19 [(.var 0)] [] []))]
def f_law : Fn := ⟨1, 10, [], [], b_law⟩
def top (i : Nat) : Stmt := PySem.Challenge.pw_paidforsigns_k00_ratios.main.body.getD i (.Pass ⟨0, 0, 0, 0⟩)
def prog : PD := { nms := ["SignsError", "BadRatio", "ZERO", "ONE", "ratio", "is_ratio", "plus", "minus", "times", "over", "compare", "total", "_law_cell", "_law_shared", "_law_is_whole", "_law_is", "_law_pair", "_law_refuses", "_law_refuses_bottom", "_law_sum", "law"], fns := [(4, f_ratio), (5, f_is_ratio), (6, f_plus), (7, f_minus), (8, f_times), (9, f_over), (10, f_compare), (11, f_total), (12, f__law_cell), (13, f__law_shared), (14, f__law_is_whole), (15, f__law_is), (16, f__law_pair), (17, f__law_refuses), (18, f__law_refuses_bottom), (19, f__law_sum), (20, f_law)], xcs := [(0, ⟨[], none⟩), (1, ⟨[0], none⟩)], cls := [], gvs := [(2, (.tup [(.int 0), (.int 1)])), (3, (.tup [(.int 1), (.int 1)]))], wide := 0, bl := [.abs, .gcd, .int, .len, .list], ty := [.tbool, .tint, .ttuple, (.exc 1), .verr, (.exc 0)], ex := [1] }
def dds : List Dd := [⟨4, top 7, ["top", "bottom", "shared"]⟩, ⟨5, top 8, ["pair"]⟩, ⟨6, top 9, ["first", "second"]⟩, ⟨7, top 10, ["first", "second"]⟩, ⟨8, top 11, ["first", "second"]⟩, ⟨9, top 12, ["first", "second"]⟩, ⟨10, top 13, ["first", "second", "difference"]⟩, ⟨11, top 14, ["ratios", "found", "each"]⟩, ⟨12, top 16, ["script", "k"]⟩, ⟨13, top 17, ["first", "second", "k", "rest"]⟩, ⟨14, top 18, ["value"]⟩, ⟨15, top 19, ["told", "top", "bottom"]⟩, ⟨16, top 20, ["script", "k", "size", "top", "bottom"]⟩, ⟨17, top 21, ["first", "second", "refused", "e"]⟩, ⟨18, top 22, ["top", "e"]⟩, ⟨19, top 23, ["script", "ratios", "top", "bottom", "k", "pair", "kept"]⟩, ⟨20, top 24, ["script", "a", "b", "c", "d", "first", "turned", "second", "due", "order"]⟩]
def lawIx : Nat := 24
def lawNo : Nat := 20
def loose : List PySem.Str := ["SignsError", "BadRatio", "ZERO", "ONE", "ratio", "is_ratio", "plus", "minus", "times", "over", "compare", "total", "_law_cell", "_law_shared", "_law_is_whole", "_law_is", "_law_pair", "_law_refuses", "_law_refuses_bottom", "_law_sum"]
end Lw

end

section
set_option linter.all false
set_option maxRecDepth 100000
namespace Lw
open MP
abbrev K (n f : Nat) (as : List D) : R OD := (prog.P.gx n).call f as [] []
def rt (p q : Int) : D := .tup [.int p, .int q]
theorem divOk_of {j : Int} (h : j ≠ 0) (h2 : j.natAbs < 2 ^ 8500) : divOk j = true := by
  unfold divOk
  rw [decide_eq_true h, Bool.true_and]
  refine decide_eq_true ?_
  have : j.natAbs.log2 < 8500 := (Nat.log2_lt (by omega)).mpr h2
  omega
theorem mulOk_of {i j : Int} {a b : Nat} (hi : i.natAbs < 2 ^ a) (hj : j.natAbs < 2 ^ b) (h : a + b < 1000000) : mulOk i j = true := by
  unfold mulOk
  have l : ∀ {k : Int} {c : Nat}, k.natAbs < 2 ^ c → k.natAbs.log2 ≤ c := by
    intro k c h
    by_cases z : k.natAbs = 0
    · rw [z]; simp
    · exact Nat.le_of_lt ((Nat.log2_lt z).mpr h)
  have h1 := l hi
  have h2 := l hj
  rw [Bool.or_eq_true]
  exact .inr (decide_eq_true (by omega))
theorem gcd_lt {t b : Int} (h : b ≠ 0) : t.natAbs.gcd b.natAbs ≤ b.natAbs := Nat.le_of_dvd (by omega) (Nat.gcd_dvd_right ..)
/-- what ratio tells -/
structure IsR (p q t b : Int) : Prop where
  pos : 0 < q
  co : p.natAbs.gcd q.natAbs = 1
  eq : p * b = t * q
  lp : p.natAbs ≤ t.natAbs
  lq : q.natAbs ≤ b.natAbs
theorem isr_of {t b : Int} (hb : b ≠ 0) {s : Int} (hs : s = if b < 0 then -((t.natAbs.gcd b.natAbs : Nat) : Int) else ((t.natAbs.gcd b.natAbs : Nat) : Int)) : IsR (t.fdiv s) (b.fdiv s) t b := by
  have g0 : 0 < t.natAbs.gcd b.natAbs := Nat.gcd_pos_of_pos_right _ (by omega)
  obtain ⟨p, hp⟩ : (s ∣ t) := by
    have : ((t.natAbs.gcd b.natAbs : Nat) : Int) ∣ t := Int.ofNat_dvd_left.mpr (Nat.gcd_dvd_left ..)
    rw [hs]; split
    · exact Int.neg_dvd.mpr this
    · exact this
  obtain ⟨q, hq⟩ : (s ∣ b) := by
    have : ((t.natAbs.gcd b.natAbs : Nat) : Int) ∣ b := Int.ofNat_dvd_left.mpr (Nat.gcd_dvd_right ..)
    rw [hs]; split
    · exact Int.neg_dvd.mpr this
    · exact this
  have s0 : s ≠ 0 := by rw [hs]; split <;> omega
  have sa : s.natAbs = t.natAbs.gcd b.natAbs := by rw [hs]; split <;> simp
  have e1 : t.fdiv s = p := by rw [hp, Int.mul_comm]; exact Int.mul_fdiv_cancel _ s0
  have e2 : b.fdiv s = q := by rw [hq, Int.mul_comm]; exact Int.mul_fdiv_cancel _ s0
  rw [e1, e2]
  have tp : t.natAbs = s.natAbs * p.natAbs := by rw [hp, Int.natAbs_mul]
  have bq : b.natAbs = s.natAbs * q.natAbs := by rw [hq, Int.natAbs_mul]
  have s1 : 1 ≤ s.natAbs := by omega
  refine ⟨?_, ?_, ?_, ?_, ?_⟩
  · by_cases n : b < 0
    · rw [if_pos n] at hs
      have sn : s < 0 := by omega
      by_cases c : 0 < q
      · exact c
      · have : 0 ≤ s * q := Int.mul_nonneg_of_nonpos_of_nonpos (Int.le_of_lt sn) (by omega)
        omega
    · rw [if_neg n] at hs
      have sp : 0 < s := by omega
      by_cases c : 0 < q
      · exact c
      · have : s * q ≤ 0 := Int.mul_nonpos_of_nonneg_of_nonpos (Int.le_of_lt sp) (by omega)
        omega
  · have : t.natAbs.gcd b.natAbs = s.natAbs * (p.natAbs.gcd q.natAbs) := by rw [tp, bq, Nat.gcd_mul_left]
    rw [← sa] at this
    have h := Nat.eq_of_mul_eq_mul_left (by omega : 0 < s.natAbs) (show s.natAbs * (p.natAbs.gcd q.natAbs) = s.natAbs * 1 by omega)
    exact h
  · rw [hp, hq]
    rw [Int.mul_comm s q, ← Int.mul_assoc, Int.mul_comm (p * q) s, Int.mul_assoc s p q]
  · rw [tp]; exact Nat.le_mul_of_pos_left _ (by omega)
  · rw [bq]; exact Nat.le_mul_of_pos_left _ (by omega)
theorem ratio_ok (n : Nat) {t b : Int} (hb : b ≠ 0) (h2 : b.natAbs < 2 ^ 8500) : ∃ p q, K (n + 1) 4 [.int t, .int b] = .ok (.fz (rt p q)) ∧ IsR p q t b := by
  have g1 := gcd_lt (t := t) hb
  have g0 : 0 < t.natAbs.gcd b.natAbs := Nat.gcd_pos_of_pos_right _ (by omega)
  refine ⟨_, _, ?_, isr_of hb rfl⟩
  unfold K
  rw [call_succ (F := f_ratio) rfl]
  have d1 : divOk ((t.natAbs.gcd b.natAbs : Nat) : Int) = true := divOk_of (by omega) (by omega)
  have d2 : divOk (-((t.natAbs.gcd b.natAbs : Nat) : Int)) = true := divOk_of (by omega) (by rw [Int.natAbs_neg]; omega)
  by_cases hn : b < 0
  · simp [bindA, f_ratio, MP.start, b_ratio, execs, exec, ev, evOs, evF, evAs, retE, isPath, bltD, gcdD, hb, hn, bin_fdiv d1, bin_fdiv d2, rt]
  · simp [bindA, f_ratio, MP.start, b_ratio, execs, exec, ev, evOs, evF, evAs, retE, isPath, bltD, gcdD, hb, hn, bin_fdiv d1, bin_fdiv d2, rt]
theorem ratio_bad (n : Nat) (t : Int) : K (n + 1) 4 [.int t, .int 0] = .ex 1 none := by
  unfold K
  rw [call_succ (F := f_ratio) rfl]
  simp [bindA, f_ratio, MP.start, b_ratio, execs, exec, ev, evOs, evF, evAs, retE, isPath, bltD, gcdD]
  rfl
end Lw

end

section
set_option linter.all false
set_option maxRecDepth 100000
namespace Lw
open MP
theorem lt_mul {i j : Int} {a b : Nat} (hi : i.natAbs < 2 ^ a) (hj : j.natAbs < 2 ^ b) : (i * j).natAbs < 2 ^ (a + b) := by
  rw [Int.natAbs_mul, Nat.pow_add]
  exact Nat.mul_lt_mul'' hi hj
theorem lt_add {i j : Int} {a : Nat} (hi : i.natAbs < 2 ^ a) (hj : j.natAbs < 2 ^ a) : (i + j).natAbs < 2 ^ (a + 1) := by
  rw [Nat.pow_succ]; omega
theorem lt_mono {i : Int} {a b : Nat} (hi : i.natAbs < 2 ^ a) (h : a ≤ b) : i.natAbs < 2 ^ b := Nat.lt_of_lt_of_le hi (Nat.pow_le_pow_right (by decide) h)
abbrev run := @call_succ prog.P
theorem plus_ok (n : Nat) {p1 q1 p2 q2 : Int} (h1 : 0 < q1) (h2 : 0 < q2) (b1 : p1.natAbs < 2 ^ 4000) (b2 : q1.natAbs < 2 ^ 4000) (b3 : p2.natAbs < 2 ^ 4000) (b4 : q2.natAbs < 2 ^ 4000) :
    ∃ p q, K (n + 2) 6 [rt p1 q1, rt p2 q2] = .ok (.fz (rt p q)) ∧ IsR p q (p1 * q2 + p2 * q1) (q1 * q2) := by
  have m1 : mulOk p1 q2 = true := mulOk_of b1 b4 (by omega)
  have m2 : mulOk p2 q1 = true := mulOk_of b3 b2 (by omega)
  have m3 : mulOk q1 q2 = true := mulOk_of b2 b4 (by omega)
  by_cases e : q1 = q2
  · subst e
    obtain ⟨p, q, hr, r⟩ := ratio_ok n (t := p1 + p2) (b := q1) (by omega) (lt_mono b2 (by omega))
    refine ⟨p, q, ?_, ⟨r.pos, r.co, ?_, ?_, ?_⟩⟩
    · unfold K rt at *
      rw [call_succ (F := f_plus) rfl]
      simp [bindA, f_plus, MP.start, b_plus, execs, exec, ev, evOs, evF, evAs, retE, isPath, hr]
    · have := r.eq
      have e2 : p1 * q1 + p2 * q1 = (p1 + p2) * q1 := by rw [Int.add_mul]
      rw [e2, ← Int.mul_assoc, this, Int.mul_assoc, Int.mul_comm q q1, ← Int.mul_assoc]
    · have := r.lp
      have e2 : p1 * q1 + p2 * q1 = (p1 + p2) * q1 := by rw [Int.add_mul]
      rw [e2, Int.natAbs_mul]
      exact Nat.le_trans this (Nat.le_mul_of_pos_right _ (by omega))
    · have := r.lq
      rw [Int.natAbs_mul]
      exact Nat.le_trans this (Nat.le_mul_of_pos_right _ (by omega))
  · have q0 : q1 * q2 ≠ 0 := Int.mul_ne_zero (by omega) (by omega)
    obtain ⟨p, q, hr, r⟩ := ratio_ok n (t := p1 * q2 + p2 * q1) (b := q1 * q2) q0 (lt_mono (lt_mul b2 b4) (by omega))
    refine ⟨p, q, ?_, r⟩
    unfold K rt at *
    rw [call_succ (F := f_plus) rfl]
    simp [bindA, f_plus, MP.start, b_plus, execs, exec, ev, evOs, evF, evAs, retE, isPath, hr, e, bin_mul m1, bin_mul m2, bin_mul m3]
theorem minus_ok (n : Nat) {p1 q1 p2 q2 : Int} (h1 : 0 < q1) (h2 : 0 < q2) (b1 : p1.natAbs < 2 ^ 4000) (b2 : q1.natAbs < 2 ^ 4000) (b3 : p2.natAbs < 2 ^ 4000) (b4 : q2.natAbs < 2 ^ 4000) :
    ∃ p q, K (n + 3) 7 [rt p1 q1, rt p2 q2] = .ok (.fz (rt p q)) ∧ IsR p q (p1 * q2 + (-p2) * q1) (q1 * q2) := by
  obtain ⟨p, q, hr, r⟩ := plus_ok n h1 h2 b1 b2 (p2 := -p2) (by rw [Int.natAbs_neg]; exact b3) b4
  refine ⟨p, q, ?_, r⟩
  unfold K rt at *
  rw [call_succ (F := f_minus) rfl]
  simp [bindA, f_minus, MP.start, b_minus, execs, exec, ev, evOs, evF, evAs, retE, isPath, hr]
theorem times_ok (n : Nat) {p1 q1 p2 q2 : Int} (h1 : 0 < q1) (h2 : 0 < q2) (b1 : p1.natAbs < 2 ^ 4000) (b2 : q1.natAbs < 2 ^ 4000) (b3 : p2.natAbs < 2 ^ 4000) (b4 : q2.natAbs < 2 ^ 4000) :
    ∃ p q, K (n + 2) 8 [rt p1 q1, rt p2 q2] = .ok (.fz (rt p q)) ∧ IsR p q (p1 * p2) (q1 * q2) := by
  have q0 : q1 * q2 ≠ 0 := Int.mul_ne_zero (by omega) (by omega)
  have m1 : mulOk p1 p2 = true := mulOk_of b1 b3 (by omega)
  have m3 : mulOk q1 q2 = true := mulOk_of b2 b4 (by omega)
  obtain ⟨p, q, hr, r⟩ := ratio_ok n (t := p1 * p2) (b := q1 * q2) q0 (lt_mono (lt_mul b2 b4) (by omega))
  refine ⟨p, q, ?_, r⟩
  unfold K rt at *
  rw [call_succ (F := f_times) rfl]
  simp [bindA, f_times, MP.start, b_times, execs, exec, ev, evOs, evF, evAs, retE, isPath, hr, bin_mul m1, bin_mul m3]
theorem over_ok (n : Nat) {p1 q1 p2 q2 : Int} (h1 : 0 < q1) (h2 : p2 ≠ 0) (b1 : p1.natAbs < 2 ^ 4000) (b2 : q1.natAbs < 2 ^ 4000) (b3 : p2.natAbs < 2 ^ 4000) (b4 : q2.natAbs < 2 ^ 4000) :
    ∃ p q, K (n + 2) 9 [rt p1 q1, rt p2 q2] = .ok (.fz (rt p q)) ∧ IsR p q (p1 * q2) (q1 * p2) := by
  have q0 : q1 * p2 ≠ 0 := Int.mul_ne_zero (by omega) (by omega)
  have m1 : mulOk p1 q2 = true := mulOk_of b1 b4 (by omega)
  have m3 : mulOk q1 p2 = true := mulOk_of b2 b3 (by omega)
  obtain ⟨p, q, hr, r⟩ := ratio_ok n (t := p1 * q2) (b := q1 * p2) q0 (lt_mono (lt_mul b2 b3) (by omega))
  refine ⟨p, q, ?_, r⟩
  unfold K rt at *
  rw [call_succ (F := f_over) rfl]
  simp [bindA, f_over, MP.start, b_over, execs, exec, ev, evOs, evF, evAs, retE, isPath, hr, h2, bin_mul m1, bin_mul m3]
theorem over_bad (n : Nat) {p1 q1 q2 : Int} : K (n + 1) 9 [rt p1 q1, rt 0 q2] = .ex 1 none := by
  unfold K rt
  rw [call_succ (F := f_over) rfl]
  simp [bindA, f_over, MP.start, b_over, execs, exec, ev, evOs, evF, evAs, retE, isPath]
  rfl
def cmpv (x : Int) : Int := if x < 0 then -1 else if 0 < x then 1 else 0
theorem compare_ok (n : Nat) {p1 q1 p2 q2 : Int} (b1 : p1.natAbs < 2 ^ 4000) (b2 : q1.natAbs < 2 ^ 4000) (b3 : p2.natAbs < 2 ^ 4000) (b4 : q2.natAbs < 2 ^ 4000) :
    K (n + 1) 10 [rt p1 q1, rt p2 q2] = .ok (.fz (.int (cmpv (p1 * q2 - p2 * q1)))) := by
  have m1 : mulOk p1 q2 = true := mulOk_of b1 b4 (by omega)
  have m2 : mulOk p2 q1 = true := mulOk_of b3 b2 (by omega)
  unfold K rt cmpv
  rw [call_succ (F := f_compare) rfl]
  by_cases h : p1 * q2 - p2 * q1 < 0
  · simp [bindA, f_compare, MP.start, b_compare, execs, exec, ev, evOs, evF, evAs, retE, isPath, bin_mul m1, bin_mul m2, h, bltD, intD, b2i]
  · simp only [if_neg h]
    simp [bindA, f_compare, MP.start, b_compare, execs, exec, ev, evOs, evF, evAs, retE, isPath, bin_mul m1, bin_mul m2, h, bltD, intD, b2i]
end Lw

end

section
set_option linter.all false
set_option maxRecDepth 100000
namespace Lw
open MP
theorem is_ratio_ok (n : Nat) (p q : Int) : K (n + 1) 5 [rt p q] = .ok (.fz (.bl (decide (0 < q) && decide ((p.natAbs.gcd q.natAbs : Int) = 1)))) := by
  unfold K rt
  rw [call_succ (F := f_is_ratio) rfl]
  by_cases h : 0 < q <;> simp [bindA, f_is_ratio, MP.start, b_is_ratio, execs, exec, ev, evOs, evF, evAs, retE, isPath, bltD, gcdD, h]
theorem atI_nat {α : Type} {xs : List α} {k : Nat} : atI xs (k : Int) = xs[k]? := by
  unfold atI ixN
  rw [if_pos (by omega)]
  by_cases h : k < xs.length
  · rw [if_pos (by omega)]; rfl
  · rw [if_neg (by omega)]
    simp only [Option.bind]
    rw [List.getElem?_eq_none (by omega)]
/-- the script's cell -/
def cell (ns : List Int) (k : Nat) : Int := if h : k < ns.length then ns[k] else 7 * k + 3
theorem cell_ok (n : Nat) (ns : List Int) (k : Nat) (hk : k < 1000) : K (n + 1) 12 [.scr ns, .int k] = .ok (.fz (.int (cell ns k))) := by
  unfold K cell
  rw [call_succ (F := f__law_cell) rfl]
  have m : mulOk 7 (k : Int) = true := mulOk_of (a := 64) (b := 64) (by decide) (by omega) (by omega)
  by_cases h : k < ns.length
  · have h' : ((k : Int) < (ns.length : Int)) := by omega
    simp [bindA, f__law_cell, MP.start, b__law_cell, execs, exec, ev, evOs, evF, evAs, retE, isPath, bltD, lenD, intD, h, atI_nat, Blt.anyhow]
  · have h' : ¬ ((k : Int) < (ns.length : Int)) := by omega
    simp [bindA, f__law_cell, MP.start, b__law_cell, execs, exec, ev, evOs, evF, evAs, retE, isPath, bltD, lenD, intD, h, h', bin_mul m, Blt.anyhow]
theorem whole_int (n : Nat) (i : Int) : K (n + 1) 14 [.int i] = .ok (.fz (.bl true)) := by
  unfold K
  rw [call_succ (F := f__law_is_whole) rfl]
  simp [bindA, f__law_is_whole, MP.start, b__law_is_whole, execs, exec, ev, evOs, evF, evAs, retE, isPath, anyTy, isTy]
/-- one turn of Euclid's -/
theorem shared_turn (n : Nat) (a b : Int) (d : D) (y : OD) : execs b__law_shared_1 (prog.P.gx n) [.fz (.int a), .fz (.int b), .fz d, y] = if b = 0 then .ok (.rt (.fz (.int a))) [.fz (.int a), .fz (.int b), .fz d, y] else
    .ok .nx [.fz (.int b), .fz (.int (a.fmod b)), .fz d, .fz (.int (a.fmod b))] := by
  by_cases h : b = 0
  · simp [b__law_shared_1, execs, exec, ev, evOs, isPath, h]
  · simp [b__law_shared_1, execs, exec, ev, evOs, isPath, h, bltD, intD, bin_mod h, Blt.anyhow]
theorem mod_half {a b : Nat} (hb : 0 < b) (hr : 0 < a % b) : b % (a % b) * 2 < b + 1 ∨ True := .inr trivial
theorem two_turns {b r L : Nat} (hr : 0 < r) (hb : r < b) (h : b < 2 ^ (L + 1)) : b % r < 2 ^ L := by
  have h1 := Nat.mod_lt b hr
  have h2 := Nat.mod_add_div b r
  have h3 : 1 ≤ b / r := Nat.div_pos (Nat.le_of_lt hb) hr
  have h4 : r * 1 ≤ r * (b / r) := Nat.mul_le_mul_left r h3
  rw [Nat.pow_succ] at h
  omega
theorem shared_loop (n : Nat) : ∀ (L : Nat) (l : List D) (a b : Nat) (x y : OD), b < 2 ^ L → 2 * L + 1 ≤ l.length →
    ∃ Γ, forL (fun Γ => execs b__law_shared_1 (prog.P.gx n) Γ) (.n 2) l [.fz (.int a), .fz (.int b), x, y] = .ok (.rt (.fz (.int (a.gcd b : Nat)))) Γ
  | 0, [], a, b, x, y, h, hl => by simp at hl
  | 0, d :: l, a, b, x, y, h, hl => by
    have : b = 0 := by simpa using h
    subst this
    rw [forL_cons _ _ _ _ _ (by simp)]
    simp [shared_turn]
  | L + 1, [], a, b, x, y, h, hl => by simp at hl
  | L + 1, [_], a, b, x, y, h, hl => by simp at hl
  | L + 1, d :: d2 :: l, a, b, x, y, h, hl => by
    rw [forL_cons _ _ _ _ _ (by simp)]
    by_cases hb : b = 0
    · subst hb
      simp [shared_turn]
    · have hb' : ¬ ((b : Int) = 0) := by omega
      have e1 : ((a : Int).fmod (b : Int)) = ((a % b : Nat) : Int) := by rw [Int.fmod_eq_emod_of_nonneg _ (by omega)]; rfl
      simp only [List.set, shared_turn, hb', if_false, e1]
      rw [forL_cons _ _ _ _ _ (by simp)]
      by_cases hr : a % b = 0
      · have hr' : ((a % b : Nat) : Int) = 0 := by omega
        simp only [List.set, shared_turn, hr', if_true]
        have : a.gcd b = b := by rw [Nat.gcd_comm, Nat.gcd_rec, hr, Nat.gcd_zero_left]
        rw [this]
        exact ⟨_, rfl⟩
      · have hr' : ¬ (((a % b : Nat) : Int) = 0) := by omega
        have e2 : ((b : Int).fmod ((a % b : Nat) : Int)) = ((b % (a % b) : Nat) : Int) := by rw [Int.fmod_eq_emod_of_nonneg _ (by omega)]; rfl
        simp only [List.set, shared_turn, hr', if_false, e2]
        have lt := Nat.mod_lt a (by omega : 0 < b)
        obtain ⟨Γ, hΓ⟩ := shared_loop n L l (a % b) (b % (a % b)) (.fz d2) (.fz (.int (b % (a % b) : Nat))) (two_turns (by omega) lt h) (by simp at hl; omega)
        refine ⟨Γ, ?_⟩
        rw [hΓ]
        have g : a.gcd b = (a % b).gcd (b % (a % b)) := by
          rw [Nat.gcd_comm a b, Nat.gcd_rec b a, Nat.gcd_rec (a % b) b, Nat.gcd_comm]
        rw [g]
theorem s5 (n : Nat) (a b L : Nat) (hL : bitLen (b : Int) = L) (m : mulOk 2 (L : Int) = true) (sm : smallI (2 * (L : Int) + 4) = true) (G : List OD) (hG : forL (fun Γ => execs b__law_shared_1 (prog.P.gx n) Γ) (T.n 2) (rangeI 0 (2 * (L : Int) + 4)) [.fz (.int a), .fz (.int b), .un, .un] = .ok (.rt (.fz (.int (a.gcd b : Nat)))) G) {a' b' : Int} (ea : a'.natAbs = a) (eb : b'.natAbs = b) : K (n + 1) 13 [.int a', .int b'] = .ok (.fz (.int (a.gcd b : Nat))) := by
  have e1 : evOs (prog.P.gx n).toFx [(.bin .add (.bin .mul (.int 2) (.bm .bitlen (.blt .abs [(.var 1)]) [])) (.int 4))] [.fz (.int a), .fz (.int b), .un, .un] = .ok [.int (2 * (L : Int) + 4)] := by
    simp [ev, evOs, isPath, hL, bin_mul m]
  have e2 := for_rng1 (X := prog.P.gx n) gx_cm e1 sm hG
  unfold K
  rw [call_succ (F := f__law_shared) rfl]
  simp [bindA, f__law_shared, MP.start, b__law_shared, execs_cons, exec.eq_2, ev, evOs, isPath, ea, eb, e2]
theorem shared_nat (n : Nat) (a b L : Nat) (hL : bitLen (b : Int) = L) (l1 : L ≤ 9001) (l2 : b < 2 ^ L) {a' b' : Int} (ea : a'.natAbs = a) (eb : b'.natAbs = b) : K (n + 1) 13 [.int a', .int b'] = .ok (.fz (.int (a.gcd b : Nat))) := by
  have m : mulOk 2 (L : Int) = true := mulOk_of (a := 64) (b := 64) (by decide) (by omega) (by omega)
  have sm : smallI (2 * (L : Int) + 4) = true := by unfold smallI; simp; omega
  have len : (rangeI 0 (2 * (L : Int) + 4)).length = 2 * L + 4 := by
    unfold rangeI; rw [List.length_map, List.length_range]; omega
  obtain ⟨Γ, hΓ⟩ := shared_loop n L (rangeI 0 (2 * (L : Int) + 4)) a b .un .un l2 (by rw [len]; omega)
  exact s5 n a b L hL m sm Γ hΓ ea eb
theorem shared_ok (n : Nat) {a b : Int} (k : Nat) (hk : k ≤ 9000) (hb : b.natAbs < 2 ^ k) : K (n + 1) 13 [.int a, .int b] = .ok (.fz (.int (a.natAbs.gcd b.natAbs : Nat))) := by
  refine shared_nat n a.natAbs b.natAbs _ rfl ?_ ?_ rfl rfl
  · unfold bitLen
    split
    · omega
    · rename_i z
      rw [Int.natAbs_natCast]
      have := (Nat.log2_lt (n := b.natAbs) (k := k) (by omega)).mpr hb
      omega
  · unfold bitLen
    split
    · rename_i z; simpa using z
    · rename_i z
      rw [Int.natAbs_natCast]
      exact Nat.lt_log2_self
/-- _law_is -/
theorem is_ok (n : Nat) {p q t b : Int} (h1 : 0 < q) (hg : p.natAbs.gcd q.natAbs = 1) (he : p * b = t * q) {k : Nat} (hk : k ≤ 8000) (k1 : p.natAbs < 2 ^ k) (k2 : q.natAbs < 2 ^ k) (k3 : t.natAbs < 2 ^ k) (k4 : b.natAbs < 2 ^ k) :
    K (n + 2) 15 [rt p q, .int t, .int b] = .ok (.fz (.bl true)) := by
  have w1 := whole_int n p
  have w2 := whole_int n q
  have sh := shared_ok n (a := p) (b := q) k (by omega) k2
  rw [hg] at sh
  have m1 : mulOk p b = true := mulOk_of k1 k4 (by omega)
  have m2 : mulOk t q = true := mulOk_of k3 k2 (by omega)
  have hq : ¬ (q < 1) := by omega
  unfold K rt at *
  rw [call_succ (F := f__law_is) rfl]
  simp [bindA, f__law_is, MP.start, b__law_is, execs, exec, ev, evOs, evF, evAs, retE, isPath, anyTy, isTy, w1, w2, sh, hq, bin_mul m1, bin_mul m2, he]
end Lw

end

section
set_option linter.all false
set_option maxRecDepth 100000
namespace Lw
open MP
theorem fmod_bd (x : Int) {m : Int} (h : 0 < m) : 0 ≤ x.fmod m ∧ x.fmod m < m := by
  rw [Int.fmod_eq_emod_of_nonneg _ (by omega)]
  exact ⟨Int.emod_nonneg _ (by omega), Int.emod_lt_of_pos _ h⟩
def sz (x : Int) : Int := if x.fmod 2 = 0 then 12 else 1000000000000000000000000000000
def ptop (x y z : Int) : Int := if z.fmod 4 = 1 then 0 else y.fmod (2 * sz x - 1) - (sz x - 1)
def pbot (x z : Int) : Int := 1 + (z.fdiv 4).fmod (sz x - 1)
theorem pair_run (n : Nat) (ns : List Int) (k : Nat) (hk : k < 900) : K (n + 2) 16 [.scr ns, .int k] = .ok (.fz (rt (ptop (cell ns 0) (cell ns k) (cell ns (k + 1))) (pbot (cell ns 0) (cell ns (k + 1))))) := by
  have c0 := cell_ok n ns 0 (by omega)
  have c1 := cell_ok n ns k (by omega)
  have c2 := cell_ok n ns (k + 1) (by omega)
  have e1 : (((k + 1 : Nat) : Int)) = (k : Int) + 1 := by omega
  have e0 : (((0 : Nat) : Int)) = 0 := rfl
  rw [e1] at c2
  rw [e0] at c0
  have d4 : divOk 4 = true := by decide
  generalize cell ns 0 = x at *
  generalize cell ns k = y at *
  generalize cell ns (k + 1) = z at *
  have pw : powOk 10 30 = true := by decide
  have m1 : mulOk 2 1000000000000000000000000000000 = true := by decide
  have m2 : mulOk 2 12 = true := by decide
  have z4 : (4 : Int) ≠ 0 := by decide
  have z2 : (2 : Int) ≠ 0 := by decide
  have z5 : (23 : Int) ≠ 0 := by decide
  have z6 : (11 : Int) ≠ 0 := by decide
  have z7 : (1999999999999999999999999999999 : Int) ≠ 0 := by decide
  have z8 : (999999999999999999999999999999 : Int) ≠ 0 := by decide
  unfold K rt ptop pbot sz at *
  rw [call_succ (F := f__law_pair) rfl]
  by_cases h0 : x.fmod 2 = 0 <;> by_cases h1 : z.fmod 4 = 1 <;>
    simp [bindA, f__law_pair, MP.start, b__law_pair, execs, exec, ev, evOs, evF, evAs, retE, isPath, c0, c1, c2, bin_pow pw, bin_mul m1, bin_mul m2, bin_mod z4, bin_mod z2, bin_mod z5, bin_mod z6, bin_mod z7, bin_mod z8, bin_fdiv d4, h0, h1]
theorem pair_bd (x y z : Int) : (ptop x y z).natAbs < 2 ^ 100 ∧ 0 < pbot x z ∧ (pbot x z).natAbs < 2 ^ 100 := by
  unfold ptop pbot sz
  have p : (2 : Nat) ^ 100 = 1267650600228229401496703205376 := by decide
  rw [p]
  by_cases h0 : x.fmod 2 = 0
  · simp only [h0, if_true]
    have b1 := fmod_bd y (m := 2 * 12 - 1) (by decide)
    have b2 := fmod_bd (z.fdiv 4) (m := 12 - 1) (by decide)
    refine ⟨?_, by omega, by omega⟩
    split <;> omega
  · simp only [h0, if_false]
    have b1 := fmod_bd y (m := 2 * 1000000000000000000000000000000 - 1) (by decide)
    have b2 := fmod_bd (z.fdiv 4) (m := 1000000000000000000000000000000 - 1) (by decide)
    refine ⟨?_, by omega, by omega⟩
    split <;> omega
theorem pair_ok (n : Nat) (ns : List Int) (k : Nat) (hk : k < 900) : ∃ t b, K (n + 2) 16 [.scr ns, .int k] = .ok (.fz (rt t b)) ∧ t.natAbs < 2 ^ 100 ∧ 0 < b ∧ b.natAbs < 2 ^ 100 :=
  ⟨_, _, pair_run n ns k hk, pair_bd _ _ _⟩
end Lw

end

section
set_option linter.all false
set_option maxRecDepth 100000
namespace Lw
open MP
theorem s11 : prog.P.sub 1 (.exc 1) = true := rfl
theorem s10 : prog.P.sub 1 (.exc 0) = true := rfl
theorem s1v : prog.P.sub 1 .verr = true := rfl
theorem refuses_ok (n : Nat) {p1 q1 p2 q2 : Int} (h1 : 0 < q1) (b1 : p1.natAbs < 2 ^ 4000) (b2 : q1.natAbs < 2 ^ 4000) (b3 : p2.natAbs < 2 ^ 4000) (b4 : q2.natAbs < 2 ^ 4000) :
    K (n + 3) 17 [rt p1 q1, rt p2 q2] = .ok (.fz (.bl true)) := by
  by_cases h : p2 = 0
  · subst h
    have o := over_bad (n + 1) (p1 := p1) (q1 := q1) (q2 := q2)
    unfold K rt at *
    rw [call_succ (F := f__law_refuses) rfl]
    simp [bindA, f__law_refuses, MP.start, b__law_refuses, b__law_refuses_1, b__law_refuses_2, execs, exec, ev, evOs, evF, evAs, retE, isPath, o, s11, s10, s1v, anyTy, isTy, b2i]
  · obtain ⟨p, q, o, _⟩ := over_ok n h1 h b1 b2 b3 b4
    unfold K rt at *
    rw [call_succ (F := f__law_refuses) rfl]
    simp [bindA, f__law_refuses, MP.start, b__law_refuses, b__law_refuses_1, b__law_refuses_2, execs, exec, ev, evOs, evF, evAs, retE, isPath, o, h]
theorem refuses_bottom_ok (n : Nat) (t : Int) : K (n + 2) 18 [.int t] = .ok (.fz (.bl true)) := by
  have o := ratio_bad n t
  unfold K at *
  rw [call_succ (F := f__law_refuses_bottom) rfl]
  simp [bindA, f__law_refuses_bottom, MP.start, b__law_refuses_bottom, b__law_refuses_bottom_1, b__law_refuses_bottom_2, execs, exec, ev, evOs, evF, evAs, retE, isPath, o, s11, s10, s1v, anyTy, isTy, b2i]
/-! ### sums -/
theorem comb {p q T B r1 r2 t b p2 q2 : Int} (hq : q ≠ 0) (hr : r2 ≠ 0) (h1 : p * B = T * q) (h2 : r1 * b = t * r2) (h3 : p2 * (q * r2) = (p * r2 + r1 * q) * q2) : p2 * (B * b) = (T * b + t * B) * q2 := by
  have h : q * r2 ≠ 0 := Int.mul_ne_zero hq hr
  apply Int.eq_of_mul_eq_mul_right h
  grind
theorem total_turn (n : Nat) {p q r1 r2 : Int} {y : OD} {x : OD} {p2 q2 : Int} (o : K (n + 2) 6 [rt p q, rt r1 r2] = .ok (.fz (rt p2 q2))) : execs b_total_1 (prog.P.gx (n + 2)) [x, .fz (rt p q), .fz (rt r1 r2)] = .ok .nx [x, .fz (rt p2 q2), .fz (rt r1 r2)] := by
  unfold K rt at *
  simp [b_total_1, execs, exec, ev, evAs, isPath, o]
structure Itm where
  r1 : Int
  r2 : Int
  t : Int
  b : Int
def Itm.ok (i : Itm) : Prop := 0 < i.r2 ∧ i.r1 * i.b = i.t * i.r2 ∧ i.r1.natAbs < 2 ^ 100 ∧ i.r2.natAbs < 2 ^ 100
def accT (TB : Int × Int) (i : Itm) : Int × Int := (TB.1 * i.b + i.t * TB.2, TB.2 * i.b)
theorem total_loop (n : Nat) : ∀ (l : List Itm) (p q T B : Int) (a : Nat) (x y : OD), 0 < q → p.natAbs.gcd q.natAbs = 1 → p * B = T * q → p.natAbs < 2 ^ a → q.natAbs < 2 ^ a → (∀ i ∈ l, i.ok) → a + 101 * l.length ≤ 3900 →
    ∃ p' q' y', forL (fun Γ => execs b_total_1 (prog.P.gx (n + 2)) Γ) (.n 2) (l.map fun i => rt i.r1 i.r2) [x, .fz (rt p q), y] = .ok .nx [x, .fz (rt p' q'), y'] ∧ 0 < q' ∧ p'.natAbs.gcd q'.natAbs = 1 ∧ p' * (l.foldl accT (T, B)).2 = (l.foldl accT (T, B)).1 * q' ∧ p'.natAbs < 2 ^ (a + 101 * l.length) ∧ q'.natAbs < 2 ^ (a + 101 * l.length)
  | [], p, q, T, B, a, x, y, h1, h2, h3, h4, h5, _, _ => ⟨p, q, y, by rw [List.map_nil, forL_nil], h1, h2, h3, h4, h5⟩
  | i :: l, p, q, T, B, a, x, y, h1, h2, h3, h4, h5, h6, h7 => by
    obtain ⟨i1, i2, i3, i4⟩ := h6 i List.mem_cons_self
    rw [List.length_cons] at h7 ⊢
    obtain ⟨p2, q2, o, r⟩ := plus_ok n h1 i1 (lt_mono h4 (by omega)) (lt_mono h5 (by omega)) (lt_mono i3 (by omega)) (lt_mono i4 (by omega))
    have e := comb (by omega) (by omega) h3 i2 r.eq
    have s1 : p2.natAbs < 2 ^ (a + 101) := Nat.lt_of_le_of_lt r.lp (lt_mono (lt_add (lt_mul h4 i4) (by rw [Nat.add_comm a 100]; exact lt_mul i3 h5)) (by omega))
    have s2 : q2.natAbs < 2 ^ (a + 101) := Nat.lt_of_le_of_lt r.lq (lt_mono (lt_mul h5 i4) (by omega))
    obtain ⟨p', q', y', w1, w2, w3, w4, w5, w6⟩ := total_loop n l p2 q2 (T * i.b + i.t * B) (B * i.b) (a + 101) x (.fz (rt i.r1 i.r2)) r.pos r.co e s1 s2 (fun j m => h6 j (List.mem_cons_of_mem _ m)) (by omega)
    refine ⟨p', q', y', ?_, w2, w3, w4, by rw [show a + 101 * (l.length + 1) = a + 101 + 101 * l.length by omega]; exact w5, by rw [show a + 101 * (l.length + 1) = a + 101 + 101 * l.length by omega]; exact w6⟩
    rw [List.map_cons, forL_cons _ _ _ _ _ (by simp)]
    have z := total_turn n (x := x) (y := y) o
    simp only [List.set]
    rw [z]
    exact w1
theorem total_ok (n : Nat) (l : List Itm) (h : ∀ i ∈ l, i.ok) (hl : l.length ≤ 5) : ∃ p q, K (n + 3) 11 [.lst (l.map fun i => rt i.r1 i.r2)] = .ok (.fz (rt p q)) ∧ 0 < q ∧ p.natAbs.gcd q.natAbs = 1 ∧ p * (l.foldl accT (0, 1)).2 = (l.foldl accT (0, 1)).1 * q ∧ p.natAbs < 2 ^ 600 ∧ q.natAbs < 2 ^ 600 := by
  obtain ⟨p, q, y, w1, w2, w3, w4, w5, w6⟩ := total_loop n l 0 1 0 1 1 (.fz (.lst (l.map fun i => rt i.r1 i.r2))) .un (by omega) (by decide) rfl (by decide) (by decide) h (by omega)
  refine ⟨p, q, ?_, w2, w3, w4, lt_mono w5 (by omega), lt_mono w6 (by omega)⟩
  have g : prog.P.gv 2 = some (rt 0 1) := rfl
  have e2 := for_seq (X := prog.P.gx (n + 2)) gx_cm (t := .n 2) (e := .var 0) (b := b_total_1) (Γ := [.fz (.lst (l.map fun i => rt i.r1 i.r2)), .fz (rt 0 1), .un]) (d := .lst (l.map fun i => rt i.r1 i.r2)) (by simp [ev]) rfl w1
  unfold K
  rw [call_succ (F := f_total) rfl]
  simp [bindA, f_total, MP.start, b_total, execs_cons, exec.eq_2, exec.eq_11, ev, g, isPath, e2]
end Lw

end

section
set_option linter.all false
set_option maxRecDepth 100000
namespace Lw
open MP
theorem at_last {α : Type} (xs : List α) (x : α) : atI (xs ++ [x]) (-1) = some x := by
  unfold atI ixN
  rw [if_neg (by decide), List.length_append, List.length_singleton, if_pos (by omega)]
  simp only [Option.bind]
  have : (-1 + ((xs.length + 1 : Nat) : Int)).toNat = xs.length := by omega
  rw [this]
  simp
theorem app_own (Γ : List OD) (i : Nat) (ds : List D) (d : D) (h : Γ[i]? = some (.own ds)) (hl : ds.length < line) : appAt Γ i (.fz d) = some (Γ.set i (.own (ds ++ [d]))) := by
  unfold appAt
  rw [h]
  simp only [if_pos hl]
  rfl
theorem sum_turn (n : Nat) (ns : List Int) (rs : List D) (T B : Int) (k : Nat) (y5 y6 : OD) (hk : k < 100) (hl : rs.length < 100) (hT : T.natAbs < 2 ^ 2000) (hB : B.natAbs < 2 ^ 2000) : ∃ i : Itm, i.ok ∧ i.t.natAbs < 2 ^ 100 ∧ 0 < i.b ∧ i.b.natAbs < 2 ^ 100 ∧
    execs b__law_sum_1 (prog.P.gx (n + 2)) [.fz (.scr ns), .own rs, .fz (.int T), .fz (.int B), .fz (.int k), y5, y6] =
      .ok .nx [.fz (.scr ns), .own (rs ++ [rt i.r1 i.r2]), .fz (.int (T * i.b + i.t * B)), .fz (.int (B * i.b)), .fz (.int k), .fz (rt i.t i.b), y6] := by
  obtain ⟨t, b, e1, b1, b2, b3⟩ := pair_ok n ns (6 + 2 * k) (by omega)
  obtain ⟨p, q, e2, r⟩ := ratio_ok (n + 1) (t := t) (b := b) (by omega) (lt_mono b3 (by omega))
  have p1 : p.natAbs < 2 ^ 100 := Nat.lt_of_le_of_lt r.lp b1
  have q1 : q.natAbs < 2 ^ 100 := Nat.lt_of_le_of_lt r.lq b3
  have e3 := is_ok n r.pos r.co r.eq (k := 100) (by omega) p1 q1 b1 b3
  refine ⟨⟨p, q, t, b⟩, ⟨r.pos, r.eq, p1, q1⟩, b1, b2, b3, ?_⟩
  have m0 : mulOk 2 (k : Int) = true := mulOk_of (a := 64) (b := 64) (by decide) (by omega) (by omega)
  have m1 : mulOk T b = true := mulOk_of hT b3 (by omega)
  have m2 : mulOk t B = true := mulOk_of b1 hB (by omega)
  have m3 : mulOk B b = true := mulOk_of hB b3 (by omega)
  have c : (((6 + 2 * k : Nat) : Int)) = 6 + 2 * (k : Int) := by omega
  rw [c] at e1
  have ll : rs.length < line := by unfold line; omega
  unfold K rt at *
  simp [b__law_sum_1, execs, exec, ev, evAs, isPath, e1, e2, e3, bin_mul m0, bin_mul m1, bin_mul m2, bin_mul m3, ownAt, app_own, ll, at_last]
theorem sum_loop (n : Nat) (ns : List Int) : ∀ (ks : List Nat) (rs : List D) (T B : Int) (a : Nat) (y4 y5 y6 : OD), (∀ k ∈ ks, k < 100) → rs.length + ks.length < 100 → T.natAbs < 2 ^ a → B.natAbs < 2 ^ a → a + 101 * ks.length < 1900 →
    ∃ (l : List Itm) (z4 z5 : OD), (∀ i ∈ l, i.ok) ∧ l.length = ks.length ∧ (l.foldl accT (T, B)).1.natAbs < 2 ^ (a + 101 * ks.length) ∧ (l.foldl accT (T, B)).2.natAbs < 2 ^ (a + 101 * ks.length) ∧
      forL (fun Γ => execs b__law_sum_1 (prog.P.gx (n + 2)) Γ) (.n 4) (ks.map fun (k : Nat) => D.int (k : Int)) [.fz (.scr ns), .own rs, .fz (.int T), .fz (.int B), y4, y5, y6] =
        .ok .nx [.fz (.scr ns), .own (rs ++ l.map fun i => rt i.r1 i.r2), .fz (.int (l.foldl accT (T, B)).1), .fz (.int (l.foldl accT (T, B)).2), z4, z5, y6]
  | [], rs, T, B, a, y4, y5, y6, h1, h2, h3, h4, h5 => ⟨[], y4, y5, fun i m => (nomatch m), rfl, h3, h4, by simp [forL_nil]⟩
  | k :: ks, rs, T, B, a, y4, y5, y6, h1, h2, h3, h4, h5 => by
    rw [List.length_cons] at h2 h5
    obtain ⟨i, i1, i2, i3, i4, e⟩ := sum_turn n ns rs T B k y5 y6 (h1 k List.mem_cons_self) (by omega) (lt_mono h3 (by omega)) (lt_mono h4 (by omega))
    have s1 : (T * i.b + i.t * B).natAbs < 2 ^ (a + 101) := lt_mono (lt_add (lt_mul h3 i4) (by rw [Nat.add_comm a 100]; exact lt_mul i2 h4)) (by omega)
    have s2 : (B * i.b).natAbs < 2 ^ (a + 101) := lt_mono (lt_mul h4 i4) (by omega)
    obtain ⟨l, z4, z5, w1, w2, w3, w4, w5⟩ := sum_loop n ns ks (rs ++ [rt i.r1 i.r2]) (T * i.b + i.t * B) (B * i.b) (a + 101) (.fz (.int k)) (.fz (rt i.t i.b)) y6 (fun j m => h1 j (List.mem_cons_of_mem _ m)) (by rw [List.length_append, List.length_singleton]; omega) s1 s2 (by omega)
    refine ⟨i :: l, z4, z5, fun j m => ?_, by rw [List.length_cons, List.length_cons, w2], ?_, ?_, ?_⟩
    · rcases List.mem_cons.mp m with rfl | m
      · exact i1
      · exact w1 j m
    · rw [List.length_cons, show a + 101 * (ks.length + 1) = a + 101 + 101 * ks.length by omega]; exact w3
    · rw [List.length_cons, show a + 101 * (ks.length + 1) = a + 101 + 101 * ks.length by omega]; exact w4
    · rw [List.map_cons, forL_cons _ _ _ _ _ (by simp)]
      simp only [List.set]
      rw [e]
      rw [List.append_assoc] at w5
      exact w5
theorem rts_plain (l : List Itm) : D.plains 19 (l.map fun i => rt i.r1 i.r2) = true ∧ D.eqvs (l.map fun i => rt i.r1 i.r2) (l.map fun i => rt i.r1 i.r2) = true := by
  induction l with
  | nil => exact ⟨rfl, rfl⟩
  | cons i l ih => simp [rt, D.plains, D.plain, D.eqvs, D.eqv] at ih ⊢; exact ih
theorem sum_ok (n : Nat) (ns : List Int) : K (n + 4) 19 [.scr ns] = .ok (.fz (.bl true)) := by
  have c0 := cell_ok (n + 2) ns 5 (by omega)
  have e0 : (((5 : Nat) : Int)) = 5 := rfl
  rw [e0] at c0
  generalize cell ns 5 = x at c0
  have bd := fmod_bd x (m := 6) (by decide)
  obtain ⟨m, hm⟩ : ∃ m : Nat, x.fmod 6 = (m : Int) := ⟨(x.fmod 6).toNat, by omega⟩
  have hm5 : m ≤ 5 := by omega
  obtain ⟨l, z4, z5, w1, w2, w3, w4, w5⟩ := sum_loop (n + 1) ns (List.range m) [] 0 1 1 .un .un .un (fun k h => by have := List.mem_range.mp h; omega) (by simp; omega) (by decide) (by decide) (by simp; omega)
  rw [List.length_range] at w2 w3 w4
  rw [List.nil_append] at w5
  obtain ⟨p, q, t1, t2, t3, t4, t5, t6⟩ := total_ok n l w1 (by omega)
  have T1 := lt_mono w3 (show 1 + 101 * m ≤ 600 by omega)
  have T2 := lt_mono w4 (show 1 + 101 * m ≤ 600 by omega)
  have io := is_ok (n + 1) t2 t3 t4 (k := 600) (by omega) t5 t6 T1 T2
  generalize (l.foldl accT (0, 1)).1 = TT at *
  generalize (l.foldl accT (0, 1)).2 = BB at *
  obtain ⟨r1, r2⟩ := rts_plain l
  have hr : rangeI 0 (m : Int) = (List.range m).map fun (k : Nat) => D.int (k : Int) := by
    unfold rangeI
    rw [show ((m : Int) - 0).toNat = m by omega]
    congr 1
    funext k
    rw [Int.zero_add]
  have z6 : (6 : Int) ≠ 0 := by decide
  have e2 := for_rng1 (X := prog.P.gx (n + 3)) gx_cm (t := .n 4) (e := .bin .mod (.blt .int [(.call 12 [(.var 0), (.int 5)] [] [])]) (.int 6)) (b := b__law_sum_1) (Γ := [.fz (.scr ns), .own [], .fz (.int 0), .fz (.int 1), .un, .un, .un]) (m := (m : Int)) (r := .ok .nx [.fz (.scr ns), .own (l.map fun i => rt i.r1 i.r2), .fz (.int TT), .fz (.int BB), z4, z5, .un])
    (by unfold K at c0; simp [ev, evOs, evAs, isPath, c0, bin_mod z6, hm]) (by unfold smallI; simp; try omega) (by rw [hr]; exact w5)
  generalize (l.map fun i => rt i.r1 i.r2) = L at *
  have ceq : cmpD .eq (.lst L) (.lst L) = .ok (.fz (.bl true)) := by
    simp only [cmpD, D.plain, r1, Bool.and_self, if_true, D.eqv, r2]
  have ln : lent [(D.lst L, true)] (.ok (.fz (rt p q))) = .ok (.fz (rt p q)) := by
    simp [lent, OD.noFL, D.noL, D.noLs, rt]
  unfold K at *
  rw [call_succ (F := f__law_sum) rfl]
  simp [bindA, f__law_sum, MP.start, b__law_sum, execs_cons, execs_nil, exec.eq_2, exec.eq_11, retE, ev, evV, mkOwn, allO, isPath, e2, evAs, evOs, t1, io, ceq, ln]
end Lw

end

section
set_option linter.all false
set_option maxRecDepth 100000
namespace Lw
open MP
theorem set_pair {i j : Nat} {a b : Int} {Γ : List OD} (hi : i < Γ.length) (hj : j < Γ.length) : setT (.t [.n i, .n j]) (.fz (rt a b)) Γ = some ((Γ.set i (.fz (.int a))).set j (.fz (.int b))) := by
  unfold setT rt
  simp [OD.toD, D.items, setTs, setT, hi, hj]
theorem rt_eq {p q p' q' : Int} : cmpD .ne (rt p q) (rt p' q') = .ok (.fz (.bl (!(decide (p = p') && decide (q = q'))))) := by
  have h : ∀ i j : Int, (i == j) = decide (i = j) := fun i j => rfl
  simp [cmpD, rt, D.plain, D.plains, D.eqv, D.eqvs, h]
/-- one ratio in lowest terms -/
theorem low_unique {p q p' q' t b : Int} (h : IsR p q t b) (h' : IsR p' q' t b) (hb : b ≠ 0) : p = p' ∧ q = q' := by
  have e : p * q' = p' * q := by
    have e1 := h.eq
    have e2 := h'.eq
    apply Int.eq_of_mul_eq_mul_right hb
    grind
  have en : p.natAbs * q'.natAbs = p'.natAbs * q.natAbs := by rw [← Int.natAbs_mul, ← Int.natAbs_mul, e]
  have d1 : q.natAbs ∣ q'.natAbs := by
    have : q.natAbs ∣ p.natAbs * q'.natAbs := ⟨p'.natAbs, by rw [en, Nat.mul_comm]⟩
    exact (Nat.Coprime.dvd_of_dvd_mul_left (Nat.Coprime.symm h.co) this)
  have d2 : q'.natAbs ∣ q.natAbs := by
    have : q'.natAbs ∣ p'.natAbs * q.natAbs := ⟨p.natAbs, by rw [← en, Nat.mul_comm]⟩
    exact (Nat.Coprime.dvd_of_dvd_mul_left (Nat.Coprime.symm h'.co) this)
  have hq := Nat.dvd_antisymm d1 d2
  have q1 := h.pos
  have q2 := h'.pos
  have hqq : q = q' := by omega
  subst hqq
  exact ⟨Int.eq_of_mul_eq_mul_right (by omega) e, rfl⟩
theorem ratio1 (n : Nat) (t : Int) : K (n + 1) 4 [.int t] = K (n + 1) 4 [.int t, .int 1] := by
  unfold K
  rw [call_succ (F := f_ratio) rfl, call_succ (F := f_ratio) rfl]
  rfl
theorem comb_times {p q p' q' a b c d x y : Int} (hq : q ≠ 0) (hr : q' ≠ 0) (h1 : p * b = a * q) (h2 : p' * d = c * q') (h3 : x * (q * q') = (p * p') * y) : x * (b * d) = (a * c) * y := by
  have h : q * q' ≠ 0 := Int.mul_ne_zero hq hr
  apply Int.eq_of_mul_eq_mul_right h
  grind
theorem comb_over {p q p' q' a b c d x y : Int} (hq : q ≠ 0) (hr : q' ≠ 0) (hd : d ≠ 0) (h1 : p * b = a * q) (h2 : p' * d = c * q') (h3 : x * (q * p') = (p * q') * y) : x * (b * c) = (a * d) * y := by
  have h : q * q' ≠ 0 := Int.mul_ne_zero hq hr
  apply Int.eq_of_mul_eq_mul_right h
  grind
theorem sgn {x y k l : Int} (hk : 0 < k) (hl : 0 < l) (h : x * k = y * l) : cmpv x = cmpv y := by
  unfold cmpv
  have s : ∀ {u v : Int}, 0 < v → (u * v < 0 ↔ u < 0) ∧ (0 < u * v ↔ 0 < u) := fun {u v} hv => ⟨⟨fun h => by
      by_cases c : u < 0
      · exact c
      · have := Int.mul_nonneg (show 0 ≤ u by omega) (Int.le_of_lt hv); omega, fun h => Int.mul_neg_of_neg_of_pos h hv⟩, ⟨fun h => by
      by_cases c : 0 < u
      · exact c
      · have := Int.mul_nonpos_of_nonpos_of_nonneg (show u ≤ 0 by omega) (Int.le_of_lt hv); omega, fun h => Int.mul_pos h hv⟩⟩
  have s1 := s (u := x) hk
  have s2 := s (u := y) hl
  rw [h] at s1
  have e1 : x < 0 ↔ y < 0 := s1.1.symm.trans s2.1
  have e2 : 0 < x ↔ 0 < y := s1.2.symm.trans s2.2
  simp only [e1, e2]
theorem cmpv_neg (x : Int) : cmpv (-x) = -cmpv x := by
  unfold cmpv
  split <;> split <;> (try split) <;> (try split) <;> omega
theorem set_pair' {i j : Nat} {a b : Int} {Γ : List OD} (hi : i < Γ.length) (hj : j < Γ.length) : setT (.t [.n i, .n j]) (.fz (.tup [.int a, .int b])) Γ = some ((Γ.set i (.fz (.int a))).set j (.fz (.int b))) := set_pair hi hj
theorem ne_same {p q : Int} : cmpD .ne (.tup [.int p, .int q]) (.tup [.int p, .int q]) = .ok (.fz (.bl false)) := by
  have := rt_eq (p := p) (q := q) (p' := p) (q' := q)
  simpa [rt] using this
theorem law_fin (ns : List Int) (a b c d p q p' q' pa qa pb qb pp qp pm qm pt qt x : Int)
    (e1 : K 19 16 [.scr ns, .int 1] = .ok (.fz (rt a b))) (e2 : K 19 16 [.scr ns, .int 3] = .ok (.fz (rt c d))) (e3 : K 19 4 [.int a, .int b] = .ok (.fz (rt p q))) (e4 : K 19 4 [.int c, .int d] = .ok (.fz (rt p' q'))) (e5 : K 19 4 [.int (-c), .int (-d)] = .ok (.fz (rt p' q')))
    (e6 : K 19 4 [.int a] = .ok (.fz (rt pa qa))) (e7 : K 19 4 [.int a, .int (-b)] = .ok (.fz (rt pb qb))) (e8 : K 19 6 [rt p q, rt p' q'] = .ok (.fz (rt pp qp))) (e9 : K 19 7 [rt p q, rt p' q'] = .ok (.fz (rt pm qm))) (e10 : K 19 8 [rt p q, rt p' q'] = .ok (.fz (rt pt qt)))
    (i1 : K 19 15 [rt p q, .int a, .int b] = .ok (.fz (.bl true))) (i2 : K 19 15 [rt p' q', .int c, .int d] = .ok (.fz (.bl true))) (i3 : K 19 15 [rt 0 1, .int 0, .int 1] = .ok (.fz (.bl true))) (i4 : K 19 15 [rt 1 1, .int 1, .int 1] = .ok (.fz (.bl true)))
    (i5 : K 19 15 [rt pa qa, .int a, .int 1] = .ok (.fz (.bl true))) (i6 : K 19 15 [rt pb qb, .int (-a), .int b] = .ok (.fz (.bl true))) (i7 : K 19 15 [rt pp qp, .int (a * d + c * b), .int (b * d)] = .ok (.fz (.bl true))) (i8 : K 19 15 [rt pm qm, .int (a * d - c * b), .int (b * d)] = .ok (.fz (.bl true)))
    (i9 : K 19 15 [rt pt qt, .int (a * c), .int (b * d)] = .ok (.fz (.bl true))) (f1 : K 19 17 [rt p q, rt p' q'] = .ok (.fz (.bl true))) (f2 : K 19 17 [rt p' q', rt 0 1] = .ok (.fz (.bl true))) (f3 : K 19 18 [.int a] = .ok (.fz (.bl true)))
    (o1 : c ≠ 0 → ∃ po qo, K 19 9 [rt p q, rt p' q'] = .ok (.fz (rt po qo)) ∧ K 19 15 [rt po qo, .int (a * d), .int (b * c)] = .ok (.fz (.bl true)))
    (g1 : K 19 10 [rt p q, rt p' q'] = .ok (.fz (.int x))) (g2 : K 19 10 [rt p' q', rt p q] = .ok (.fz (.int (-x)))) (g3 : K 19 10 [rt p q, rt p q] = .ok (.fz (.int 0)))
    (h1 : K 19 5 [rt p q] = .ok (.fz (.bl true))) (h2 : K 19 5 [rt (p * 2) (q * 2)] = .ok (.fz (.bl false))) (h3 : K 19 5 [rt (-p) (-q)] = .ok (.fz (.bl false))) (h4 : K 19 5 [rt a 0] = .ok (.fz (.bl false))) (w1 : K 19 14 [.int x] = .ok (.fz (.bl true))) (su : K 19 19 [.scr ns] = .ok (.fz (.bl true)))
    (ma : mulOk a d = true) (mb : mulOk c b = true) (mc : mulOk b d = true) (md : mulOk a c = true) (me : mulOk b c = true) (mp : mulOk p 2 = true) (mq : mulOk q 2 = true)
    (v : (a * d < c * b ∧ ¬ (c * b < a * d) ∧ x = -1) ∨ (¬ (a * d < c * b) ∧ (c * b < a * d) ∧ x = 1) ∨ (¬ (a * d < c * b) ∧ ¬ (c * b < a * d) ∧ x = 0)) : K 20 20 [.scr ns] = .ok (.fz (.bl true)) := by
  have gz : prog.P.gv 2 = some (.tup [.int 0, .int 1]) := rfl
  have go : prog.P.gv 3 = some (.tup [.int 1, .int 1]) := rfl
  unfold K rt at *
  rw [call_succ (F := f_law) rfl]
  have fin : ∃ Γ, execs b_law (prog.P.gx 19) [.fz (.scr ns), .un, .un, .un, .un, .un, .un, .un, .un, .un] = .ok (.rt (.fz (.bl true))) Γ := by
    unfold b_law
    rcases v with ⟨v1, v2, rfl⟩ | ⟨v1, v2, rfl⟩ | ⟨v1, v2, rfl⟩
    · refine ⟨[.fz (.scr ns), .fz (.int a), .fz (.int b), .fz (.int c), .fz (.int d), .fz (.tup [.int p, .int q]), .fz (.tup [.int p', .int q']), .fz (.tup [.int p', .int q']), .fz (.int (-1)), .fz (.int (-1))], ?_⟩
      refine seq_step (Γ' := [.fz (.scr ns), .fz (.int a), .fz (.int b), .un, .un, .un, .un, .un, .un, .un]) (by simp [execs_cons, execs_nil, w_asg, w_asgT, w_ret, w_retV, w_iff, q_int, q_var, q_glob, q_bl, q_bin, q_neg, q_not, q_cmp, q_isB, q_and, q_or, q_one, q_tup, q_sub, q_call, q_os0, q_os1, q_as0, q_as1, q_f0, q_f1, isPath, set_pair', e1, e2, e3, e4, e5, e6, e7, e8, e9, e10, i1, i2, i3, i4, i5, i6, i7, i8, i9, f1, f2, f3, g1, g2, g3, h1, h2, h3, h4, w1, su, bin_mul ma, bin_mul mb, bin_mul mc, bin_mul md, bin_mul me, bin_mul mp, bin_mul mq, gz, go, ne_same]) ?_
      refine seq_step (Γ' := [.fz (.scr ns), .fz (.int a), .fz (.int b), .fz (.int c), .fz (.int d), .un, .un, .un, .un, .un]) (by simp [execs_cons, execs_nil, w_asg, w_asgT, w_ret, w_retV, w_iff, q_int, q_var, q_glob, q_bl, q_bin, q_neg, q_not, q_cmp, q_isB, q_and, q_or, q_one, q_tup, q_sub, q_call, q_os0, q_os1, q_as0, q_as1, q_f0, q_f1, isPath, set_pair', e1, e2, e3, e4, e5, e6, e7, e8, e9, e10, i1, i2, i3, i4, i5, i6, i7, i8, i9, f1, f2, f3, g1, g2, g3, h1, h2, h3, h4, w1, su, bin_mul ma, bin_mul mb, bin_mul mc, bin_mul md, bin_mul me, bin_mul mp, bin_mul mq, gz, go, ne_same]) ?_
      refine seq_step (Γ' := [.fz (.scr ns), .fz (.int a), .fz (.int b), .fz (.int c), .fz (.int d), .fz (.tup [.int p, .int q]), .un, .un, .un, .un]) (by simp [execs_cons, execs_nil, w_asg, w_asgT, w_ret, w_retV, w_iff, q_int, q_var, q_glob, q_bl, q_bin, q_neg, q_not, q_cmp, q_isB, q_and, q_or, q_one, q_tup, q_sub, q_call, q_os0, q_os1, q_as0, q_as1, q_f0, q_f1, isPath, set_pair', e1, e2, e3, e4, e5, e6, e7, e8, e9, e10, i1, i2, i3, i4, i5, i6, i7, i8, i9, f1, f2, f3, g1, g2, g3, h1, h2, h3, h4, w1, su, bin_mul ma, bin_mul mb, bin_mul mc, bin_mul md, bin_mul me, bin_mul mp, bin_mul mq, gz, go, ne_same]) ?_
      refine seq_step (Γ' := [.fz (.scr ns), .fz (.int a), .fz (.int b), .fz (.int c), .fz (.int d), .fz (.tup [.int p, .int q]), .fz (.tup [.int p', .int q']), .un, .un, .un]) (by simp [execs_cons, execs_nil, w_asg, w_asgT, w_ret, w_retV, w_iff, q_int, q_var, q_glob, q_bl, q_bin, q_neg, q_not, q_cmp, q_isB, q_and, q_or, q_one, q_tup, q_sub, q_call, q_os0, q_os1, q_as0, q_as1, q_f0, q_f1, isPath, set_pair', e1, e2, e3, e4, e5, e6, e7, e8, e9, e10, i1, i2, i3, i4, i5, i6, i7, i8, i9, f1, f2, f3, g1, g2, g3, h1, h2, h3, h4, w1, su, bin_mul ma, bin_mul mb, bin_mul mc, bin_mul md, bin_mul me, bin_mul mp, bin_mul mq, gz, go, ne_same]) ?_
      refine seq_step (Γ' := [.fz (.scr ns), .fz (.int a), .fz (.int b), .fz (.int c), .fz (.int d), .fz (.tup [.int p, .int q]), .fz (.tup [.int p', .int q']), .fz (.tup [.int p', .int q']), .un, .un]) (by simp [execs_cons, execs_nil, w_asg, w_asgT, w_ret, w_retV, w_iff, q_int, q_var, q_glob, q_bl, q_bin, q_neg, q_not, q_cmp, q_isB, q_and, q_or, q_one, q_tup, q_sub, q_call, q_os0, q_os1, q_as0, q_as1, q_f0, q_f1, isPath, set_pair', e1, e2, e3, e4, e5, e6, e7, e8, e9, e10, i1, i2, i3, i4, i5, i6, i7, i8, i9, f1, f2, f3, g1, g2, g3, h1, h2, h3, h4, w1, su, bin_mul ma, bin_mul mb, bin_mul mc, bin_mul md, bin_mul me, bin_mul mp, bin_mul mq, gz, go, ne_same]) ?_
      refine seq_step (Γ' := [.fz (.scr ns), .fz (.int a), .fz (.int b), .fz (.int c), .fz (.int d), .fz (.tup [.int p, .int q]), .fz (.tup [.int p', .int q']), .fz (.tup [.int p', .int q']), .un, .un]) (by simp [execs_cons, execs_nil, w_asg, w_asgT, w_ret, w_retV, w_iff, q_int, q_var, q_glob, q_bl, q_bin, q_neg, q_not, q_cmp, q_isB, q_and, q_or, q_one, q_tup, q_sub, q_call, q_os0, q_os1, q_as0, q_as1, q_f0, q_f1, isPath, set_pair', e1, e2, e3, e4, e5, e6, e7, e8, e9, e10, i1, i2, i3, i4, i5, i6, i7, i8, i9, f1, f2, f3, g1, g2, g3, h1, h2, h3, h4, w1, su, bin_mul ma, bin_mul mb, bin_mul mc, bin_mul md, bin_mul me, bin_mul mp, bin_mul mq, gz, go, ne_same]) ?_
      refine seq_step (Γ' := [.fz (.scr ns), .fz (.int a), .fz (.int b), .fz (.int c), .fz (.int d), .fz (.tup [.int p, .int q]), .fz (.tup [.int p', .int q']), .fz (.tup [.int p', .int q']), .un, .un]) (by simp [execs_cons, execs_nil, w_asg, w_asgT, w_ret, w_retV, w_iff, q_int, q_var, q_glob, q_bl, q_bin, q_neg, q_not, q_cmp, q_isB, q_and, q_or, q_one, q_tup, q_sub, q_call, q_os0, q_os1, q_as0, q_as1, q_f0, q_f1, isPath, set_pair', e1, e2, e3, e4, e5, e6, e7, e8, e9, e10, i1, i2, i3, i4, i5, i6, i7, i8, i9, f1, f2, f3, g1, g2, g3, h1, h2, h3, h4, w1, su, bin_mul ma, bin_mul mb, bin_mul mc, bin_mul md, bin_mul me, bin_mul mp, bin_mul mq, gz, go, ne_same]) ?_
      refine seq_step (Γ' := [.fz (.scr ns), .fz (.int a), .fz (.int b), .fz (.int c), .fz (.int d), .fz (.tup [.int p, .int q]), .fz (.tup [.int p', .int q']), .fz (.tup [.int p', .int q']), .un, .un]) (by simp [execs_cons, execs_nil, w_asg, w_asgT, w_ret, w_retV, w_iff, q_int, q_var, q_glob, q_bl, q_bin, q_neg, q_not, q_cmp, q_isB, q_and, q_or, q_one, q_tup, q_sub, q_call, q_os0, q_os1, q_as0, q_as1, q_f0, q_f1, isPath, set_pair', e1, e2, e3, e4, e5, e6, e7, e8, e9, e10, i1, i2, i3, i4, i5, i6, i7, i8, i9, f1, f2, f3, g1, g2, g3, h1, h2, h3, h4, w1, su, bin_mul ma, bin_mul mb, bin_mul mc, bin_mul md, bin_mul me, bin_mul mp, bin_mul mq, gz, go, ne_same]) ?_
      refine seq_step (Γ' := [.fz (.scr ns), .fz (.int a), .fz (.int b), .fz (.int c), .fz (.int d), .fz (.tup [.int p, .int q]), .fz (.tup [.int p', .int q']), .fz (.tup [.int p', .int q']), .un, .un]) (by simp [execs_cons, execs_nil, w_asg, w_asgT, w_ret, w_retV, w_iff, q_int, q_var, q_glob, q_bl, q_bin, q_neg, q_not, q_cmp, q_isB, q_and, q_or, q_one, q_tup, q_sub, q_call, q_os0, q_os1, q_as0, q_as1, q_f0, q_f1, isPath, set_pair', e1, e2, e3, e4, e5, e6, e7, e8, e9, e10, i1, i2, i3, i4, i5, i6, i7, i8, i9, f1, f2, f3, g1, g2, g3, h1, h2, h3, h4, w1, su, bin_mul ma, bin_mul mb, bin_mul mc, bin_mul md, bin_mul me, bin_mul mp, bin_mul mq, gz, go, ne_same]) ?_
      refine seq_step (Γ' := [.fz (.scr ns), .fz (.int a), .fz (.int b), .fz (.int c), .fz (.int d), .fz (.tup [.int p, .int q]), .fz (.tup [.int p', .int q']), .fz (.tup [.int p', .int q']), .un, .un]) (by simp [execs_cons, execs_nil, w_asg, w_asgT, w_ret, w_retV, w_iff, q_int, q_var, q_glob, q_bl, q_bin, q_neg, q_not, q_cmp, q_isB, q_and, q_or, q_one, q_tup, q_sub, q_call, q_os0, q_os1, q_as0, q_as1, q_f0, q_f1, isPath, set_pair', e1, e2, e3, e4, e5, e6, e7, e8, e9, e10, i1, i2, i3, i4, i5, i6, i7, i8, i9, f1, f2, f3, g1, g2, g3, h1, h2, h3, h4, w1, su, bin_mul ma, bin_mul mb, bin_mul mc, bin_mul md, bin_mul me, bin_mul mp, bin_mul mq, gz, go, ne_same]) ?_
      refine seq_step (Γ' := [.fz (.scr ns), .fz (.int a), .fz (.int b), .fz (.int c), .fz (.int d), .fz (.tup [.int p, .int q]), .fz (.tup [.int p', .int q']), .fz (.tup [.int p', .int q']), .un, .un]) (by simp [execs_cons, execs_nil, w_asg, w_asgT, w_ret, w_retV, w_iff, q_int, q_var, q_glob, q_bl, q_bin, q_neg, q_not, q_cmp, q_isB, q_and, q_or, q_one, q_tup, q_sub, q_call, q_os0, q_os1, q_as0, q_as1, q_f0, q_f1, isPath, set_pair', e1, e2, e3, e4, e5, e6, e7, e8, e9, e10, i1, i2, i3, i4, i5, i6, i7, i8, i9, f1, f2, f3, g1, g2, g3, h1, h2, h3, h4, w1, su, bin_mul ma, bin_mul mb, bin_mul mc, bin_mul md, bin_mul me, bin_mul mp, bin_mul mq, gz, go, ne_same]) ?_
      refine seq_step (Γ' := [.fz (.scr ns), .fz (.int a), .fz (.int b), .fz (.int c), .fz (.int d), .fz (.tup [.int p, .int q]), .fz (.tup [.int p', .int q']), .fz (.tup [.int p', .int q']), .un, .un]) (by
        by_cases hc : decide (c = 0) = true
        · have hc := of_decide_eq_true hc
          have hz : (c = 0) = True := eq_true hc
          rw [w_iff, q_and, q_cmp, q_var, q_int]
          simp only [isPath, argm_fz, List.getElem?_cons_succ, List.getElem?_cons_zero, varD_fz, R.bind_ok, cmp_ne_int, asB_bl, decide_eq_true hc, Bool.not_true, Bool.false_eq_true, if_false, tru_bl', liftR_ok, execs_nil]
        · have hc : ¬ c = 0 := fun z => hc (decide_eq_true z)
          obtain ⟨po, qo, o2, o3⟩ := o1 hc
          simp [execs_cons, execs_nil, w_asg, w_asgT, w_ret, w_retV, w_iff, q_int, q_var, q_glob, q_bl, q_bin, q_neg, q_not, q_cmp, q_isB, q_and, q_or, q_one, q_tup, q_sub, q_call, q_os0, q_os1, q_as0, q_as1, q_f0, q_f1, isPath, set_pair', e1, e2, e3, e4, e5, e6, e7, e8, e9, e10, i1, i2, i3, i4, i5, i6, i7, i8, i9, f1, f2, f3, g1, g2, g3, h1, h2, h3, h4, w1, su, bin_mul ma, bin_mul mb, bin_mul mc, bin_mul md, bin_mul me, bin_mul mp, bin_mul mq, gz, go, ne_same, hc, o2, o3]) ?_
      refine seq_step (Γ' := [.fz (.scr ns), .fz (.int a), .fz (.int b), .fz (.int c), .fz (.int d), .fz (.tup [.int p, .int q]), .fz (.tup [.int p', .int q']), .fz (.tup [.int p', .int q']), .fz (.int 0), .un]) (by simp [execs_cons, execs_nil, w_asg, w_asgT, w_ret, w_retV, w_iff, q_int, q_var, q_glob, q_bl, q_bin, q_neg, q_not, q_cmp, q_isB, q_and, q_or, q_one, q_tup, q_sub, q_call, q_os0, q_os1, q_as0, q_as1, q_f0, q_f1, isPath, set_pair', e1, e2, e3, e4, e5, e6, e7, e8, e9, e10, i1, i2, i3, i4, i5, i6, i7, i8, i9, f1, f2, f3, g1, g2, g3, h1, h2, h3, h4, w1, su, bin_mul ma, bin_mul mb, bin_mul mc, bin_mul md, bin_mul me, bin_mul mp, bin_mul mq, gz, go, ne_same]) ?_
      refine seq_step (Γ' := [.fz (.scr ns), .fz (.int a), .fz (.int b), .fz (.int c), .fz (.int d), .fz (.tup [.int p, .int q]), .fz (.tup [.int p', .int q']), .fz (.tup [.int p', .int q']), .fz (.int (-1)), .un]) (by simp [execs_cons, execs_nil, w_asg, w_asgT, w_ret, w_retV, w_iff, q_int, q_var, q_glob, q_bl, q_bin, q_neg, q_not, q_cmp, q_isB, q_and, q_or, q_one, q_tup, q_sub, q_call, q_os0, q_os1, q_as0, q_as1, q_f0, q_f1, isPath, set_pair', e1, e2, e3, e4, e5, e6, e7, e8, e9, e10, i1, i2, i3, i4, i5, i6, i7, i8, i9, f1, f2, f3, g1, g2, g3, h1, h2, h3, h4, w1, su, bin_mul ma, bin_mul mb, bin_mul mc, bin_mul md, bin_mul me, bin_mul mp, bin_mul mq, gz, go, ne_same, v1, v2]) ?_
      refine seq_step (Γ' := [.fz (.scr ns), .fz (.int a), .fz (.int b), .fz (.int c), .fz (.int d), .fz (.tup [.int p, .int q]), .fz (.tup [.int p', .int q']), .fz (.tup [.int p', .int q']), .fz (.int (-1)), .un]) (by simp [execs_cons, execs_nil, w_asg, w_asgT, w_ret, w_retV, w_iff, q_int, q_var, q_glob, q_bl, q_bin, q_neg, q_not, q_cmp, q_isB, q_and, q_or, q_one, q_tup, q_sub, q_call, q_os0, q_os1, q_as0, q_as1, q_f0, q_f1, isPath, set_pair', e1, e2, e3, e4, e5, e6, e7, e8, e9, e10, i1, i2, i3, i4, i5, i6, i7, i8, i9, f1, f2, f3, g1, g2, g3, h1, h2, h3, h4, w1, su, bin_mul ma, bin_mul mb, bin_mul mc, bin_mul md, bin_mul me, bin_mul mp, bin_mul mq, gz, go, ne_same, v1, v2]) ?_
      refine seq_step (Γ' := [.fz (.scr ns), .fz (.int a), .fz (.int b), .fz (.int c), .fz (.int d), .fz (.tup [.int p, .int q]), .fz (.tup [.int p', .int q']), .fz (.tup [.int p', .int q']), .fz (.int (-1)), .fz (.int (-1))]) (by simp [execs_cons, execs_nil, w_asg, w_asgT, w_ret, w_retV, w_iff, q_int, q_var, q_glob, q_bl, q_bin, q_neg, q_not, q_cmp, q_isB, q_and, q_or, q_one, q_tup, q_sub, q_call, q_os0, q_os1, q_as0, q_as1, q_f0, q_f1, isPath, set_pair', e1, e2, e3, e4, e5, e6, e7, e8, e9, e10, i1, i2, i3, i4, i5, i6, i7, i8, i9, f1, f2, f3, g1, g2, g3, h1, h2, h3, h4, w1, su, bin_mul ma, bin_mul mb, bin_mul mc, bin_mul md, bin_mul me, bin_mul mp, bin_mul mq, gz, go, ne_same, v1, v2]) ?_
      refine seq_step (Γ' := [.fz (.scr ns), .fz (.int a), .fz (.int b), .fz (.int c), .fz (.int d), .fz (.tup [.int p, .int q]), .fz (.tup [.int p', .int q']), .fz (.tup [.int p', .int q']), .fz (.int (-1)), .fz (.int (-1))]) (by simp [execs_cons, execs_nil, w_asg, w_asgT, w_ret, w_retV, w_iff, q_int, q_var, q_glob, q_bl, q_bin, q_neg, q_not, q_cmp, q_isB, q_and, q_or, q_one, q_tup, q_sub, q_call, q_os0, q_os1, q_as0, q_as1, q_f0, q_f1, isPath, set_pair', e1, e2, e3, e4, e5, e6, e7, e8, e9, e10, i1, i2, i3, i4, i5, i6, i7, i8, i9, f1, f2, f3, g1, g2, g3, h1, h2, h3, h4, w1, su, bin_mul ma, bin_mul mb, bin_mul mc, bin_mul md, bin_mul me, bin_mul mp, bin_mul mq, gz, go, ne_same, v1, v2]) ?_
      refine seq_step (Γ' := [.fz (.scr ns), .fz (.int a), .fz (.int b), .fz (.int c), .fz (.int d), .fz (.tup [.int p, .int q]), .fz (.tup [.int p', .int q']), .fz (.tup [.int p', .int q']), .fz (.int (-1)), .fz (.int (-1))]) (by simp [execs_cons, execs_nil, w_asg, w_asgT, w_ret, w_retV, w_iff, q_int, q_var, q_glob, q_bl, q_bin, q_neg, q_not, q_cmp, q_isB, q_and, q_or, q_one, q_tup, q_sub, q_call, q_os0, q_os1, q_as0, q_as1, q_f0, q_f1, isPath, set_pair', e1, e2, e3, e4, e5, e6, e7, e8, e9, e10, i1, i2, i3, i4, i5, i6, i7, i8, i9, f1, f2, f3, g1, g2, g3, h1, h2, h3, h4, w1, su, bin_mul ma, bin_mul mb, bin_mul mc, bin_mul md, bin_mul me, bin_mul mp, bin_mul mq, gz, go, ne_same, v1, v2]) ?_
      refine seq_step (Γ' := [.fz (.scr ns), .fz (.int a), .fz (.int b), .fz (.int c), .fz (.int d), .fz (.tup [.int p, .int q]), .fz (.tup [.int p', .int q']), .fz (.tup [.int p', .int q']), .fz (.int (-1)), .fz (.int (-1))]) (by simp [execs_cons, execs_nil, w_asg, w_asgT, w_ret, w_retV, w_iff, q_int, q_var, q_glob, q_bl, q_bin, q_neg, q_not, q_cmp, q_isB, q_and, q_or, q_one, q_tup, q_sub, q_call, q_os0, q_os1, q_as0, q_as1, q_f0, q_f1, isPath, set_pair', e1, e2, e3, e4, e5, e6, e7, e8, e9, e10, i1, i2, i3, i4, i5, i6, i7, i8, i9, f1, f2, f3, g1, g2, g3, h1, h2, h3, h4, w1, su, bin_mul ma, bin_mul mb, bin_mul mc, bin_mul md, bin_mul me, bin_mul mp, bin_mul mq, gz, go, ne_same, v1, v2]) ?_
      rw [execs_cons, w_ret _ _ _ (by intro i z; cases z)]
      simp [execs_cons, execs_nil, w_asg, w_asgT, w_ret, w_retV, w_iff, q_int, q_var, q_glob, q_bl, q_bin, q_neg, q_not, q_cmp, q_isB, q_and, q_or, q_one, q_tup, q_sub, q_call, q_os0, q_os1, q_as0, q_as1, q_f0, q_f1, isPath, set_pair', e1, e2, e3, e4, e5, e6, e7, e8, e9, e10, i1, i2, i3, i4, i5, i6, i7, i8, i9, f1, f2, f3, g1, g2, g3, h1, h2, h3, h4, w1, su, bin_mul ma, bin_mul mb, bin_mul mc, bin_mul md, bin_mul me, bin_mul mp, bin_mul mq, gz, go, ne_same]
    · refine ⟨[.fz (.scr ns), .fz (.int a), .fz (.int b), .fz (.int c), .fz (.int d), .fz (.tup [.int p, .int q]), .fz (.tup [.int p', .int q']), .fz (.tup [.int p', .int q']), .fz (.int 1), .fz (.int 1)], ?_⟩
      refine seq_step (Γ' := [.fz (.scr ns), .fz (.int a), .fz (.int b), .un, .un, .un, .un, .un, .un, .un]) (by simp [execs_cons, execs_nil, w_asg, w_asgT, w_ret, w_retV, w_iff, q_int, q_var, q_glob, q_bl, q_bin, q_neg, q_not, q_cmp, q_isB, q_and, q_or, q_one, q_tup, q_sub, q_call, q_os0, q_os1, q_as0, q_as1, q_f0, q_f1, isPath, set_pair', e1, e2, e3, e4, e5, e6, e7, e8, e9, e10, i1, i2, i3, i4, i5, i6, i7, i8, i9, f1, f2, f3, g1, g2, g3, h1, h2, h3, h4, w1, su, bin_mul ma, bin_mul mb, bin_mul mc, bin_mul md, bin_mul me, bin_mul mp, bin_mul mq, gz, go, ne_same]) ?_
      refine seq_step (Γ' := [.fz (.scr ns), .fz (.int a), .fz (.int b), .fz (.int c), .fz (.int d), .un, .un, .un, .un, .un]) (by simp [execs_cons, execs_nil, w_asg, w_asgT, w_ret, w_retV, w_iff, q_int, q_var, q_glob, q_bl, q_bin, q_neg, q_not, q_cmp, q_isB, q_and, q_or, q_one, q_tup, q_sub, q_call, q_os0, q_os1, q_as0, q_as1, q_f0, q_f1, isPath, set_pair', e1, e2, e3, e4, e5, e6, e7, e8, e9, e10, i1, i2, i3, i4, i5, i6, i7, i8, i9, f1, f2, f3, g1, g2, g3, h1, h2, h3, h4, w1, su, bin_mul ma, bin_mul mb, bin_mul mc, bin_mul md, bin_mul me, bin_mul mp, bin_mul mq, gz, go, ne_same]) ?_
      refine seq_step (Γ' := [.fz (.scr ns), .fz (.int a), .fz (.int b), .fz (.int c), .fz (.int d), .fz (.tup [.int p, .int q]), .un, .un, .un, .un]) (by simp [execs_cons, execs_nil, w_asg, w_asgT, w_ret, w_retV, w_iff, q_int, q_var, q_glob, q_bl, q_bin, q_neg, q_not, q_cmp, q_isB, q_and, q_or, q_one, q_tup, q_sub, q_call, q_os0, q_os1, q_as0, q_as1, q_f0, q_f1, isPath, set_pair', e1, e2, e3, e4, e5, e6, e7, e8, e9, e10, i1, i2, i3, i4, i5, i6, i7, i8, i9, f1, f2, f3, g1, g2, g3, h1, h2, h3, h4, w1, su, bin_mul ma, bin_mul mb, bin_mul mc, bin_mul md, bin_mul me, bin_mul mp, bin_mul mq, gz, go, ne_same]) ?_
      refine seq_step (Γ' := [.fz (.scr ns), .fz (.int a), .fz (.int b), .fz (.int c), .fz (.int d), .fz (.tup [.int p, .int q]), .fz (.tup [.int p', .int q']), .un, .un, .un]) (by simp [execs_cons, execs_nil, w_asg, w_asgT, w_ret, w_retV, w_iff, q_int, q_var, q_glob, q_bl, q_bin, q_neg, q_not, q_cmp, q_isB, q_and, q_or, q_one, q_tup, q_sub, q_call, q_os0, q_os1, q_as0, q_as1, q_f0, q_f1, isPath, set_pair', e1, e2, e3, e4, e5, e6, e7, e8, e9, e10, i1, i2, i3, i4, i5, i6, i7, i8, i9, f1, f2, f3, g1, g2, g3, h1, h2, h3, h4, w1, su, bin_mul ma, bin_mul mb, bin_mul mc, bin_mul md, bin_mul me, bin_mul mp, bin_mul mq, gz, go, ne_same]) ?_
      refine seq_step (Γ' := [.fz (.scr ns), .fz (.int a), .fz (.int b), .fz (.int c), .fz (.int d), .fz (.tup [.int p, .int q]), .fz (.tup [.int p', .int q']), .fz (.tup [.int p', .int q']), .un, .un]) (by simp [execs_cons, execs_nil, w_asg, w_asgT, w_ret, w_retV, w_iff, q_int, q_var, q_glob, q_bl, q_bin, q_neg, q_not, q_cmp, q_isB, q_and, q_or, q_one, q_tup, q_sub, q_call, q_os0, q_os1, q_as0, q_as1, q_f0, q_f1, isPath, set_pair', e1, e2, e3, e4, e5, e6, e7, e8, e9, e10, i1, i2, i3, i4, i5, i6, i7, i8, i9, f1, f2, f3, g1, g2, g3, h1, h2, h3, h4, w1, su, bin_mul ma, bin_mul mb, bin_mul mc, bin_mul md, bin_mul me, bin_mul mp, bin_mul mq, gz, go, ne_same]) ?_
      refine seq_step (Γ' := [.fz (.scr ns), .fz (.int a), .fz (.int b), .fz (.int c), .fz (.int d), .fz (.tup [.int p, .int q]), .fz (.tup [.int p', .int q']), .fz (.tup [.int p', .int q']), .un, .un]) (by simp [execs_cons, execs_nil, w_asg, w_asgT, w_ret, w_retV, w_iff, q_int, q_var, q_glob, q_bl, q_bin, q_neg, q_not, q_cmp, q_isB, q_and, q_or, q_one, q_tup, q_sub, q_call, q_os0, q_os1, q_as0, q_as1, q_f0, q_f1, isPath, set_pair', e1, e2, e3, e4, e5, e6, e7, e8, e9, e10, i1, i2, i3, i4, i5, i6, i7, i8, i9, f1, f2, f3, g1, g2, g3, h1, h2, h3, h4, w1, su, bin_mul ma, bin_mul mb, bin_mul mc, bin_mul md, bin_mul me, bin_mul mp, bin_mul mq, gz, go, ne_same]) ?_
      refine seq_step (Γ' := [.fz (.scr ns), .fz (.int a), .fz (.int b), .fz (.int c), .fz (.int d), .fz (.tup [.int p, .int q]), .fz (.tup [.int p', .int q']), .fz (.tup [.int p', .int q']), .un, .un]) (by simp [execs_cons, execs_nil, w_asg, w_asgT, w_ret, w_retV, w_iff, q_int, q_var, q_glob, q_bl, q_bin, q_neg, q_not, q_cmp, q_isB, q_and, q_or, q_one, q_tup, q_sub, q_call, q_os0, q_os1, q_as0, q_as1, q_f0, q_f1, isPath, set_pair', e1, e2, e3, e4, e5, e6, e7, e8, e9, e10, i1, i2, i3, i4, i5, i6, i7, i8, i9, f1, f2, f3, g1, g2, g3, h1, h2, h3, h4, w1, su, bin_mul ma, bin_mul mb, bin_mul mc, bin_mul md, bin_mul me, bin_mul mp, bin_mul mq, gz, go, ne_same]) ?_
      refine seq_step (Γ' := [.fz (.scr ns), .fz (.int a), .fz (.int b), .fz (.int c), .fz (.int d), .fz (.tup [.int p, .int q]), .fz (.tup [.int p', .int q']), .fz (.tup [.int p', .int q']), .un, .un]) (by simp [execs_cons, execs_nil, w_asg, w_asgT, w_ret, w_retV, w_iff, q_int, q_var, q_glob, q_bl, q_bin, q_neg, q_not, q_cmp, q_isB, q_and, q_or, q_one, q_tup, q_sub, q_call, q_os0, q_os1, q_as0, q_as1, q_f0, q_f1, isPath, set_pair', e1, e2, e3, e4, e5, e6, e7, e8, e9, e10, i1, i2, i3, i4, i5, i6, i7, i8, i9, f1, f2, f3, g1, g2, g3, h1, h2, h3, h4, w1, su, bin_mul ma, bin_mul mb, bin_mul mc, bin_mul md, bin_mul me, bin_mul mp, bin_mul mq, gz, go, ne_same]) ?_
      refine seq_step (Γ' := [.fz (.scr ns), .fz (.int a), .fz (.int b), .fz (.int c), .fz (.int d), .fz (.tup [.int p, .int q]), .fz (.tup [.int p', .int q']), .fz (.tup [.int p', .int q']), .un, .un]) (by simp [execs_cons, execs_nil, w_asg, w_asgT, w_ret, w_retV, w_iff, q_int, q_var, q_glob, q_bl, q_bin, q_neg, q_not, q_cmp, q_isB, q_and, q_or, q_one, q_tup, q_sub, q_call, q_os0, q_os1, q_as0, q_as1, q_f0, q_f1, isPath, set_pair', e1, e2, e3, e4, e5, e6, e7, e8, e9, e10, i1, i2, i3, i4, i5, i6, i7, i8, i9, f1, f2, f3, g1, g2, g3, h1, h2, h3, h4, w1, su, bin_mul ma, bin_mul mb, bin_mul mc, bin_mul md, bin_mul me, bin_mul mp, bin_mul mq, gz, go, ne_same]) ?_
      refine seq_step (Γ' := [.fz (.scr ns), .fz (.int a), .fz (.int b), .fz (.int c), .fz (.int d), .fz (.tup [.int p, .int q]), .fz (.tup [.int p', .int q']), .fz (.tup [.int p', .int q']), .un, .un]) (by simp [execs_cons, execs_nil, w_asg, w_asgT, w_ret, w_retV, w_iff, q_int, q_var, q_glob, q_bl, q_bin, q_neg, q_not, q_cmp, q_isB, q_and, q_or, q_one, q_tup, q_sub, q_call, q_os0, q_os1, q_as0, q_as1, q_f0, q_f1, isPath, set_pair', e1, e2, e3, e4, e5, e6, e7, e8, e9, e10, i1, i2, i3, i4, i5, i6, i7, i8, i9, f1, f2, f3, g1, g2, g3, h1, h2, h3, h4, w1, su, bin_mul ma, bin_mul mb, bin_mul mc, bin_mul md, bin_mul me, bin_mul mp, bin_mul mq, gz, go, ne_same]) ?_
      refine seq_step (Γ' := [.fz (.scr ns), .fz (.int a), .fz (.int b), .fz (.int c), .fz (.int d), .fz (.tup [.int p, .int q]), .fz (.tup [.int p', .int q']), .fz (.tup [.int p', .int q']), .un, .un]) (by simp [execs_cons, execs_nil, w_asg, w_asgT, w_ret, w_retV, w_iff, q_int, q_var, q_glob, q_bl, q_bin, q_neg, q_not, q_cmp, q_isB, q_and, q_or, q_one, q_tup, q_sub, q_call, q_os0, q_os1, q_as0, q_as1, q_f0, q_f1, isPath, set_pair', e1, e2, e3, e4, e5, e6, e7, e8, e9, e10, i1, i2, i3, i4, i5, i6, i7, i8, i9, f1, f2, f3, g1, g2, g3, h1, h2, h3, h4, w1, su, bin_mul ma, bin_mul mb, bin_mul mc, bin_mul md, bin_mul me, bin_mul mp, bin_mul mq, gz, go, ne_same]) ?_
      refine seq_step (Γ' := [.fz (.scr ns), .fz (.int a), .fz (.int b), .fz (.int c), .fz (.int d), .fz (.tup [.int p, .int q]), .fz (.tup [.int p', .int q']), .fz (.tup [.int p', .int q']), .un, .un]) (by
        by_cases hc : decide (c = 0) = true
        · have hc := of_decide_eq_true hc
          have hz : (c = 0) = True := eq_true hc
          rw [w_iff, q_and, q_cmp, q_var, q_int]
          simp only [isPath, argm_fz, List.getElem?_cons_succ, List.getElem?_cons_zero, varD_fz, R.bind_ok, cmp_ne_int, asB_bl, decide_eq_true hc, Bool.not_true, Bool.false_eq_true, if_false, tru_bl', liftR_ok, execs_nil]
        · have hc : ¬ c = 0 := fun z => hc (decide_eq_true z)
          obtain ⟨po, qo, o2, o3⟩ := o1 hc
          simp [execs_cons, execs_nil, w_asg, w_asgT, w_ret, w_retV, w_iff, q_int, q_var, q_glob, q_bl, q_bin, q_neg, q_not, q_cmp, q_isB, q_and, q_or, q_one, q_tup, q_sub, q_call, q_os0, q_os1, q_as0, q_as1, q_f0, q_f1, isPath, set_pair', e1, e2, e3, e4, e5, e6, e7, e8, e9, e10, i1, i2, i3, i4, i5, i6, i7, i8, i9, f1, f2, f3, g1, g2, g3, h1, h2, h3, h4, w1, su, bin_mul ma, bin_mul mb, bin_mul mc, bin_mul md, bin_mul me, bin_mul mp, bin_mul mq, gz, go, ne_same, hc, o2, o3]) ?_
      refine seq_step (Γ' := [.fz (.scr ns), .fz (.int a), .fz (.int b), .fz (.int c), .fz (.int d), .fz (.tup [.int p, .int q]), .fz (.tup [.int p', .int q']), .fz (.tup [.int p', .int q']), .fz (.int 0), .un]) (by simp [execs_cons, execs_nil, w_asg, w_asgT, w_ret, w_retV, w_iff, q_int, q_var, q_glob, q_bl, q_bin, q_neg, q_not, q_cmp, q_isB, q_and, q_or, q_one, q_tup, q_sub, q_call, q_os0, q_os1, q_as0, q_as1, q_f0, q_f1, isPath, set_pair', e1, e2, e3, e4, e5, e6, e7, e8, e9, e10, i1, i2, i3, i4, i5, i6, i7, i8, i9, f1, f2, f3, g1, g2, g3, h1, h2, h3, h4, w1, su, bin_mul ma, bin_mul mb, bin_mul mc, bin_mul md, bin_mul me, bin_mul mp, bin_mul mq, gz, go, ne_same]) ?_
      refine seq_step (Γ' := [.fz (.scr ns), .fz (.int a), .fz (.int b), .fz (.int c), .fz (.int d), .fz (.tup [.int p, .int q]), .fz (.tup [.int p', .int q']), .fz (.tup [.int p', .int q']), .fz (.int 0), .un]) (by simp [execs_cons, execs_nil, w_asg, w_asgT, w_ret, w_retV, w_iff, q_int, q_var, q_glob, q_bl, q_bin, q_neg, q_not, q_cmp, q_isB, q_and, q_or, q_one, q_tup, q_sub, q_call, q_os0, q_os1, q_as0, q_as1, q_f0, q_f1, isPath, set_pair', e1, e2, e3, e4, e5, e6, e7, e8, e9, e10, i1, i2, i3, i4, i5, i6, i7, i8, i9, f1, f2, f3, g1, g2, g3, h1, h2, h3, h4, w1, su, bin_mul ma, bin_mul mb, bin_mul mc, bin_mul md, bin_mul me, bin_mul mp, bin_mul mq, gz, go, ne_same, v1, v2]) ?_
      refine seq_step (Γ' := [.fz (.scr ns), .fz (.int a), .fz (.int b), .fz (.int c), .fz (.int d), .fz (.tup [.int p, .int q]), .fz (.tup [.int p', .int q']), .fz (.tup [.int p', .int q']), .fz (.int 1), .un]) (by simp [execs_cons, execs_nil, w_asg, w_asgT, w_ret, w_retV, w_iff, q_int, q_var, q_glob, q_bl, q_bin, q_neg, q_not, q_cmp, q_isB, q_and, q_or, q_one, q_tup, q_sub, q_call, q_os0, q_os1, q_as0, q_as1, q_f0, q_f1, isPath, set_pair', e1, e2, e3, e4, e5, e6, e7, e8, e9, e10, i1, i2, i3, i4, i5, i6, i7, i8, i9, f1, f2, f3, g1, g2, g3, h1, h2, h3, h4, w1, su, bin_mul ma, bin_mul mb, bin_mul mc, bin_mul md, bin_mul me, bin_mul mp, bin_mul mq, gz, go, ne_same, v1, v2]) ?_
      refine seq_step (Γ' := [.fz (.scr ns), .fz (.int a), .fz (.int b), .fz (.int c), .fz (.int d), .fz (.tup [.int p, .int q]), .fz (.tup [.int p', .int q']), .fz (.tup [.int p', .int q']), .fz (.int 1), .fz (.int 1)]) (by simp [execs_cons, execs_nil, w_asg, w_asgT, w_ret, w_retV, w_iff, q_int, q_var, q_glob, q_bl, q_bin, q_neg, q_not, q_cmp, q_isB, q_and, q_or, q_one, q_tup, q_sub, q_call, q_os0, q_os1, q_as0, q_as1, q_f0, q_f1, isPath, set_pair', e1, e2, e3, e4, e5, e6, e7, e8, e9, e10, i1, i2, i3, i4, i5, i6, i7, i8, i9, f1, f2, f3, g1, g2, g3, h1, h2, h3, h4, w1, su, bin_mul ma, bin_mul mb, bin_mul mc, bin_mul md, bin_mul me, bin_mul mp, bin_mul mq, gz, go, ne_same, v1, v2]) ?_
      refine seq_step (Γ' := [.fz (.scr ns), .fz (.int a), .fz (.int b), .fz (.int c), .fz (.int d), .fz (.tup [.int p, .int q]), .fz (.tup [.int p', .int q']), .fz (.tup [.int p', .int q']), .fz (.int 1), .fz (.int 1)]) (by simp [execs_cons, execs_nil, w_asg, w_asgT, w_ret, w_retV, w_iff, q_int, q_var, q_glob, q_bl, q_bin, q_neg, q_not, q_cmp, q_isB, q_and, q_or, q_one, q_tup, q_sub, q_call, q_os0, q_os1, q_as0, q_as1, q_f0, q_f1, isPath, set_pair', e1, e2, e3, e4, e5, e6, e7, e8, e9, e10, i1, i2, i3, i4, i5, i6, i7, i8, i9, f1, f2, f3, g1, g2, g3, h1, h2, h3, h4, w1, su, bin_mul ma, bin_mul mb, bin_mul mc, bin_mul md, bin_mul me, bin_mul mp, bin_mul mq, gz, go, ne_same, v1, v2]) ?_
      refine seq_step (Γ' := [.fz (.scr ns), .fz (.int a), .fz (.int b), .fz (.int c), .fz (.int d), .fz (.tup [.int p, .int q]), .fz (.tup [.int p', .int q']), .fz (.tup [.int p', .int q']), .fz (.int 1), .fz (.int 1)]) (by simp [execs_cons, execs_nil, w_asg, w_asgT, w_ret, w_retV, w_iff, q_int, q_var, q_glob, q_bl, q_bin, q_neg, q_not, q_cmp, q_isB, q_and, q_or, q_one, q_tup, q_sub, q_call, q_os0, q_os1, q_as0, q_as1, q_f0, q_f1, isPath, set_pair', e1, e2, e3, e4, e5, e6, e7, e8, e9, e10, i1, i2, i3, i4, i5, i6, i7, i8, i9, f1, f2, f3, g1, g2, g3, h1, h2, h3, h4, w1, su, bin_mul ma, bin_mul mb, bin_mul mc, bin_mul md, bin_mul me, bin_mul mp, bin_mul mq, gz, go, ne_same, v1, v2]) ?_
      refine seq_step (Γ' := [.fz (.scr ns), .fz (.int a), .fz (.int b), .fz (.int c), .fz (.int d), .fz (.tup [.int p, .int q]), .fz (.tup [.int p', .int q']), .fz (.tup [.int p', .int q']), .fz (.int 1), .fz (.int 1)]) (by simp [execs_cons, execs_nil, w_asg, w_asgT, w_ret, w_retV, w_iff, q_int, q_var, q_glob, q_bl, q_bin, q_neg, q_not, q_cmp, q_isB, q_and, q_or, q_one, q_tup, q_sub, q_call, q_os0, q_os1, q_as0, q_as1, q_f0, q_f1, isPath, set_pair', e1, e2, e3, e4, e5, e6, e7, e8, e9, e10, i1, i2, i3, i4, i5, i6, i7, i8, i9, f1, f2, f3, g1, g2, g3, h1, h2, h3, h4, w1, su, bin_mul ma, bin_mul mb, bin_mul mc, bin_mul md, bin_mul me, bin_mul mp, bin_mul mq, gz, go, ne_same, v1, v2]) ?_
      rw [execs_cons, w_ret _ _ _ (by intro i z; cases z)]
      simp [execs_cons, execs_nil, w_asg, w_asgT, w_ret, w_retV, w_iff, q_int, q_var, q_glob, q_bl, q_bin, q_neg, q_not, q_cmp, q_isB, q_and, q_or, q_one, q_tup, q_sub, q_call, q_os0, q_os1, q_as0, q_as1, q_f0, q_f1, isPath, set_pair', e1, e2, e3, e4, e5, e6, e7, e8, e9, e10, i1, i2, i3, i4, i5, i6, i7, i8, i9, f1, f2, f3, g1, g2, g3, h1, h2, h3, h4, w1, su, bin_mul ma, bin_mul mb, bin_mul mc, bin_mul md, bin_mul me, bin_mul mp, bin_mul mq, gz, go, ne_same]
    · refine ⟨[.fz (.scr ns), .fz (.int a), .fz (.int b), .fz (.int c), .fz (.int d), .fz (.tup [.int p, .int q]), .fz (.tup [.int p', .int q']), .fz (.tup [.int p', .int q']), .fz (.int 0), .fz (.int 0)], ?_⟩
      refine seq_step (Γ' := [.fz (.scr ns), .fz (.int a), .fz (.int b), .un, .un, .un, .un, .un, .un, .un]) (by simp [execs_cons, execs_nil, w_asg, w_asgT, w_ret, w_retV, w_iff, q_int, q_var, q_glob, q_bl, q_bin, q_neg, q_not, q_cmp, q_isB, q_and, q_or, q_one, q_tup, q_sub, q_call, q_os0, q_os1, q_as0, q_as1, q_f0, q_f1, isPath, set_pair', e1, e2, e3, e4, e5, e6, e7, e8, e9, e10, i1, i2, i3, i4, i5, i6, i7, i8, i9, f1, f2, f3, g1, g2, g3, h1, h2, h3, h4, w1, su, bin_mul ma, bin_mul mb, bin_mul mc, bin_mul md, bin_mul me, bin_mul mp, bin_mul mq, gz, go, ne_same]) ?_
      refine seq_step (Γ' := [.fz (.scr ns), .fz (.int a), .fz (.int b), .fz (.int c), .fz (.int d), .un, .un, .un, .un, .un]) (by simp [execs_cons, execs_nil, w_asg, w_asgT, w_ret, w_retV, w_iff, q_int, q_var, q_glob, q_bl, q_bin, q_neg, q_not, q_cmp, q_isB, q_and, q_or, q_one, q_tup, q_sub, q_call, q_os0, q_os1, q_as0, q_as1, q_f0, q_f1, isPath, set_pair', e1, e2, e3, e4, e5, e6, e7, e8, e9, e10, i1, i2, i3, i4, i5, i6, i7, i8, i9, f1, f2, f3, g1, g2, g3, h1, h2, h3, h4, w1, su, bin_mul ma, bin_mul mb, bin_mul mc, bin_mul md, bin_mul me, bin_mul mp, bin_mul mq, gz, go, ne_same]) ?_
      refine seq_step (Γ' := [.fz (.scr ns), .fz (.int a), .fz (.int b), .fz (.int c), .fz (.int d), .fz (.tup [.int p, .int q]), .un, .un, .un, .un]) (by simp [execs_cons, execs_nil, w_asg, w_asgT, w_ret, w_retV, w_iff, q_int, q_var, q_glob, q_bl, q_bin, q_neg, q_not, q_cmp, q_isB, q_and, q_or, q_one, q_tup, q_sub, q_call, q_os0, q_os1, q_as0, q_as1, q_f0, q_f1, isPath, set_pair', e1, e2, e3, e4, e5, e6, e7, e8, e9, e10, i1, i2, i3, i4, i5, i6, i7, i8, i9, f1, f2, f3, g1, g2, g3, h1, h2, h3, h4, w1, su, bin_mul ma, bin_mul mb, bin_mul mc, bin_mul md, bin_mul me, bin_mul mp, bin_mul mq, gz, go, ne_same]) ?_
      refine seq_step (Γ' := [.fz (.scr ns), .fz (.int a), .fz (.int b), .fz (.int c), .fz (.int d), .fz (.tup [.int p, .int q]), .fz (.tup [.int p', .int q']), .un, .un, .un]) (by simp [execs_cons, execs_nil, w_asg, w_asgT, w_ret, w_retV, w_iff, q_int, q_var, q_glob, q_bl, q_bin, q_neg, q_not, q_cmp, q_isB, q_and, q_or, q_one, q_tup, q_sub, q_call, q_os0, q_os1, q_as0, q_as1, q_f0, q_f1, isPath, set_pair', e1, e2, e3, e4, e5, e6, e7, e8, e9, e10, i1, i2, i3, i4, i5, i6, i7, i8, i9, f1, f2, f3, g1, g2, g3, h1, h2, h3, h4, w1, su, bin_mul ma, bin_mul mb, bin_mul mc, bin_mul md, bin_mul me, bin_mul mp, bin_mul mq, gz, go, ne_same]) ?_
      refine seq_step (Γ' := [.fz (.scr ns), .fz (.int a), .fz (.int b), .fz (.int c), .fz (.int d), .fz (.tup [.int p, .int q]), .fz (.tup [.int p', .int q']), .fz (.tup [.int p', .int q']), .un, .un]) (by simp [execs_cons, execs_nil, w_asg, w_asgT, w_ret, w_retV, w_iff, q_int, q_var, q_glob, q_bl, q_bin, q_neg, q_not, q_cmp, q_isB, q_and, q_or, q_one, q_tup, q_sub, q_call, q_os0, q_os1, q_as0, q_as1, q_f0, q_f1, isPath, set_pair', e1, e2, e3, e4, e5, e6, e7, e8, e9, e10, i1, i2, i3, i4, i5, i6, i7, i8, i9, f1, f2, f3, g1, g2, g3, h1, h2, h3, h4, w1, su, bin_mul ma, bin_mul mb, bin_mul mc, bin_mul md, bin_mul me, bin_mul mp, bin_mul mq, gz, go, ne_same]) ?_
      refine seq_step (Γ' := [.fz (.scr ns), .fz (.int a), .fz (.int b), .fz (.int c), .fz (.int d), .fz (.tup [.int p, .int q]), .fz (.tup [.int p', .int q']), .fz (.tup [.int p', .int q']), .un, .un]) (by simp [execs_cons, execs_nil, w_asg, w_asgT, w_ret, w_retV, w_iff, q_int, q_var, q_glob, q_bl, q_bin, q_neg, q_not, q_cmp, q_isB, q_and, q_or, q_one, q_tup, q_sub, q_call, q_os0, q_os1, q_as0, q_as1, q_f0, q_f1, isPath, set_pair', e1, e2, e3, e4, e5, e6, e7, e8, e9, e10, i1, i2, i3, i4, i5, i6, i7, i8, i9, f1, f2, f3, g1, g2, g3, h1, h2, h3, h4, w1, su, bin_mul ma, bin_mul mb, bin_mul mc, bin_mul md, bin_mul me, bin_mul mp, bin_mul mq, gz, go, ne_same]) ?_
      refine seq_step (Γ' := [.fz (.scr ns), .fz (.int a), .fz (.int b), .fz (.int c), .fz (.int d), .fz (.tup [.int p, .int q]), .fz (.tup [.int p', .int q']), .fz (.tup [.int p', .int q']), .un, .un]) (by simp [execs_cons, execs_nil, w_asg, w_asgT, w_ret, w_retV, w_iff, q_int, q_var, q_glob, q_bl, q_bin, q_neg, q_not, q_cmp, q_isB, q_and, q_or, q_one, q_tup, q_sub, q_call, q_os0, q_os1, q_as0, q_as1, q_f0, q_f1, isPath, set_pair', e1, e2, e3, e4, e5, e6, e7, e8, e9, e10, i1, i2, i3, i4, i5, i6, i7, i8, i9, f1, f2, f3, g1, g2, g3, h1, h2, h3, h4, w1, su, bin_mul ma, bin_mul mb, bin_mul mc, bin_mul md, bin_mul me, bin_mul mp, bin_mul mq, gz, go, ne_same]) ?_
      refine seq_step (Γ' := [.fz (.scr ns), .fz (.int a), .fz (.int b), .fz (.int c), .fz (.int d), .fz (.tup [.int p, .int q]), .fz (.tup [.int p', .int q']), .fz (.tup [.int p', .int q']), .un, .un]) (by simp [execs_cons, execs_nil, w_asg, w_asgT, w_ret, w_retV, w_iff, q_int, q_var, q_glob, q_bl, q_bin, q_neg, q_not, q_cmp, q_isB, q_and, q_or, q_one, q_tup, q_sub, q_call, q_os0, q_os1, q_as0, q_as1, q_f0, q_f1, isPath, set_pair', e1, e2, e3, e4, e5, e6, e7, e8, e9, e10, i1, i2, i3, i4, i5, i6, i7, i8, i9, f1, f2, f3, g1, g2, g3, h1, h2, h3, h4, w1, su, bin_mul ma, bin_mul mb, bin_mul mc, bin_mul md, bin_mul me, bin_mul mp, bin_mul mq, gz, go, ne_same]) ?_
      refine seq_step (Γ' := [.fz (.scr ns), .fz (.int a), .fz (.int b), .fz (.int c), .fz (.int d), .fz (.tup [.int p, .int q]), .fz (.tup [.int p', .int q']), .fz (.tup [.int p', .int q']), .un, .un]) (by simp [execs_cons, execs_nil, w_asg, w_asgT, w_ret, w_retV, w_iff, q_int, q_var, q_glob, q_bl, q_bin, q_neg, q_not, q_cmp, q_isB, q_and, q_or, q_one, q_tup, q_sub, q_call, q_os0, q_os1, q_as0, q_as1, q_f0, q_f1, isPath, set_pair', e1, e2, e3, e4, e5, e6, e7, e8, e9, e10, i1, i2, i3, i4, i5, i6, i7, i8, i9, f1, f2, f3, g1, g2, g3, h1, h2, h3, h4, w1, su, bin_mul ma, bin_mul mb, bin_mul mc, bin_mul md, bin_mul me, bin_mul mp, bin_mul mq, gz, go, ne_same]) ?_
      refine seq_step (Γ' := [.fz (.scr ns), .fz (.int a), .fz (.int b), .fz (.int c), .fz (.int d), .fz (.tup [.int p, .int q]), .fz (.tup [.int p', .int q']), .fz (.tup [.int p', .int q']), .un, .un]) (by simp [execs_cons, execs_nil, w_asg, w_asgT, w_ret, w_retV, w_iff, q_int, q_var, q_glob, q_bl, q_bin, q_neg, q_not, q_cmp, q_isB, q_and, q_or, q_one, q_tup, q_sub, q_call, q_os0, q_os1, q_as0, q_as1, q_f0, q_f1, isPath, set_pair', e1, e2, e3, e4, e5, e6, e7, e8, e9, e10, i1, i2, i3, i4, i5, i6, i7, i8, i9, f1, f2, f3, g1, g2, g3, h1, h2, h3, h4, w1, su, bin_mul ma, bin_mul mb, bin_mul mc, bin_mul md, bin_mul me, bin_mul mp, bin_mul mq, gz, go, ne_same]) ?_
      refine seq_step (Γ' := [.fz (.scr ns), .fz (.int a), .fz (.int b), .fz (.int c), .fz (.int d), .fz (.tup [.int p, .int q]), .fz (.tup [.int p', .int q']), .fz (.tup [.int p', .int q']), .un, .un]) (by simp [execs_cons, execs_nil, w_asg, w_asgT, w_ret, w_retV, w_iff, q_int, q_var, q_glob, q_bl, q_bin, q_neg, q_not, q_cmp, q_isB, q_and, q_or, q_one, q_tup, q_sub, q_call, q_os0, q_os1, q_as0, q_as1, q_f0, q_f1, isPath, set_pair', e1, e2, e3, e4, e5, e6, e7, e8, e9, e10, i1, i2, i3, i4, i5, i6, i7, i8, i9, f1, f2, f3, g1, g2, g3, h1, h2, h3, h4, w1, su, bin_mul ma, bin_mul mb, bin_mul mc, bin_mul md, bin_mul me, bin_mul mp, bin_mul mq, gz, go, ne_same]) ?_
      refine seq_step (Γ' := [.fz (.scr ns), .fz (.int a), .fz (.int b), .fz (.int c), .fz (.int d), .fz (.tup [.int p, .int q]), .fz (.tup [.int p', .int q']), .fz (.tup [.int p', .int q']), .un, .un]) (by
        by_cases hc : decide (c = 0) = true
        · have hc := of_decide_eq_true hc
          have hz : (c = 0) = True := eq_true hc
          rw [w_iff, q_and, q_cmp, q_var, q_int]
          simp only [isPath, argm_fz, List.getElem?_cons_succ, List.getElem?_cons_zero, varD_fz, R.bind_ok, cmp_ne_int, asB_bl, decide_eq_true hc, Bool.not_true, Bool.false_eq_true, if_false, tru_bl', liftR_ok, execs_nil]
        · have hc : ¬ c = 0 := fun z => hc (decide_eq_true z)
          obtain ⟨po, qo, o2, o3⟩ := o1 hc
          simp [execs_cons, execs_nil, w_asg, w_asgT, w_ret, w_retV, w_iff, q_int, q_var, q_glob, q_bl, q_bin, q_neg, q_not, q_cmp, q_isB, q_and, q_or, q_one, q_tup, q_sub, q_call, q_os0, q_os1, q_as0, q_as1, q_f0, q_f1, isPath, set_pair', e1, e2, e3, e4, e5, e6, e7, e8, e9, e10, i1, i2, i3, i4, i5, i6, i7, i8, i9, f1, f2, f3, g1, g2, g3, h1, h2, h3, h4, w1, su, bin_mul ma, bin_mul mb, bin_mul mc, bin_mul md, bin_mul me, bin_mul mp, bin_mul mq, gz, go, ne_same, hc, o2, o3]) ?_
      refine seq_step (Γ' := [.fz (.scr ns), .fz (.int a), .fz (.int b), .fz (.int c), .fz (.int d), .fz (.tup [.int p, .int q]), .fz (.tup [.int p', .int q']), .fz (.tup [.int p', .int q']), .fz (.int 0), .un]) (by simp [execs_cons, execs_nil, w_asg, w_asgT, w_ret, w_retV, w_iff, q_int, q_var, q_glob, q_bl, q_bin, q_neg, q_not, q_cmp, q_isB, q_and, q_or, q_one, q_tup, q_sub, q_call, q_os0, q_os1, q_as0, q_as1, q_f0, q_f1, isPath, set_pair', e1, e2, e3, e4, e5, e6, e7, e8, e9, e10, i1, i2, i3, i4, i5, i6, i7, i8, i9, f1, f2, f3, g1, g2, g3, h1, h2, h3, h4, w1, su, bin_mul ma, bin_mul mb, bin_mul mc, bin_mul md, bin_mul me, bin_mul mp, bin_mul mq, gz, go, ne_same]) ?_
      refine seq_step (Γ' := [.fz (.scr ns), .fz (.int a), .fz (.int b), .fz (.int c), .fz (.int d), .fz (.tup [.int p, .int q]), .fz (.tup [.int p', .int q']), .fz (.tup [.int p', .int q']), .fz (.int 0), .un]) (by simp [execs_cons, execs_nil, w_asg, w_asgT, w_ret, w_retV, w_iff, q_int, q_var, q_glob, q_bl, q_bin, q_neg, q_not, q_cmp, q_isB, q_and, q_or, q_one, q_tup, q_sub, q_call, q_os0, q_os1, q_as0, q_as1, q_f0, q_f1, isPath, set_pair', e1, e2, e3, e4, e5, e6, e7, e8, e9, e10, i1, i2, i3, i4, i5, i6, i7, i8, i9, f1, f2, f3, g1, g2, g3, h1, h2, h3, h4, w1, su, bin_mul ma, bin_mul mb, bin_mul mc, bin_mul md, bin_mul me, bin_mul mp, bin_mul mq, gz, go, ne_same, v1, v2]) ?_
      refine seq_step (Γ' := [.fz (.scr ns), .fz (.int a), .fz (.int b), .fz (.int c), .fz (.int d), .fz (.tup [.int p, .int q]), .fz (.tup [.int p', .int q']), .fz (.tup [.int p', .int q']), .fz (.int 0), .un]) (by simp [execs_cons, execs_nil, w_asg, w_asgT, w_ret, w_retV, w_iff, q_int, q_var, q_glob, q_bl, q_bin, q_neg, q_not, q_cmp, q_isB, q_and, q_or, q_one, q_tup, q_sub, q_call, q_os0, q_os1, q_as0, q_as1, q_f0, q_f1, isPath, set_pair', e1, e2, e3, e4, e5, e6, e7, e8, e9, e10, i1, i2, i3, i4, i5, i6, i7, i8, i9, f1, f2, f3, g1, g2, g3, h1, h2, h3, h4, w1, su, bin_mul ma, bin_mul mb, bin_mul mc, bin_mul md, bin_mul me, bin_mul mp, bin_mul mq, gz, go, ne_same, v1, v2]) ?_
      refine seq_step (Γ' := [.fz (.scr ns), .fz (.int a), .fz (.int b), .fz (.int c), .fz (.int d), .fz (.tup [.int p, .int q]), .fz (.tup [.int p', .int q']), .fz (.tup [.int p', .int q']), .fz (.int 0), .fz (.int 0)]) (by simp [execs_cons, execs_nil, w_asg, w_asgT, w_ret, w_retV, w_iff, q_int, q_var, q_glob, q_bl, q_bin, q_neg, q_not, q_cmp, q_isB, q_and, q_or, q_one, q_tup, q_sub, q_call, q_os0, q_os1, q_as0, q_as1, q_f0, q_f1, isPath, set_pair', e1, e2, e3, e4, e5, e6, e7, e8, e9, e10, i1, i2, i3, i4, i5, i6, i7, i8, i9, f1, f2, f3, g1, g2, g3, h1, h2, h3, h4, w1, su, bin_mul ma, bin_mul mb, bin_mul mc, bin_mul md, bin_mul me, bin_mul mp, bin_mul mq, gz, go, ne_same, v1, v2]) ?_
      refine seq_step (Γ' := [.fz (.scr ns), .fz (.int a), .fz (.int b), .fz (.int c), .fz (.int d), .fz (.tup [.int p, .int q]), .fz (.tup [.int p', .int q']), .fz (.tup [.int p', .int q']), .fz (.int 0), .fz (.int 0)]) (by simp [execs_cons, execs_nil, w_asg, w_asgT, w_ret, w_retV, w_iff, q_int, q_var, q_glob, q_bl, q_bin, q_neg, q_not, q_cmp, q_isB, q_and, q_or, q_one, q_tup, q_sub, q_call, q_os0, q_os1, q_as0, q_as1, q_f0, q_f1, isPath, set_pair', e1, e2, e3, e4, e5, e6, e7, e8, e9, e10, i1, i2, i3, i4, i5, i6, i7, i8, i9, f1, f2, f3, g1, g2, g3, h1, h2, h3, h4, w1, su, bin_mul ma, bin_mul mb, bin_mul mc, bin_mul md, bin_mul me, bin_mul mp, bin_mul mq, gz, go, ne_same, v1, v2]) ?_
      refine seq_step (Γ' := [.fz (.scr ns), .fz (.int a), .fz (.int b), .fz (.int c), .fz (.int d), .fz (.tup [.int p, .int q]), .fz (.tup [.int p', .int q']), .fz (.tup [.int p', .int q']), .fz (.int 0), .fz (.int 0)]) (by simp [execs_cons, execs_nil, w_asg, w_asgT, w_ret, w_retV, w_iff, q_int, q_var, q_glob, q_bl, q_bin, q_neg, q_not, q_cmp, q_isB, q_and, q_or, q_one, q_tup, q_sub, q_call, q_os0, q_os1, q_as0, q_as1, q_f0, q_f1, isPath, set_pair', e1, e2, e3, e4, e5, e6, e7, e8, e9, e10, i1, i2, i3, i4, i5, i6, i7, i8, i9, f1, f2, f3, g1, g2, g3, h1, h2, h3, h4, w1, su, bin_mul ma, bin_mul mb, bin_mul mc, bin_mul md, bin_mul me, bin_mul mp, bin_mul mq, gz, go, ne_same, v1, v2]) ?_
      refine seq_step (Γ' := [.fz (.scr ns), .fz (.int a), .fz (.int b), .fz (.int c), .fz (.int d), .fz (.tup [.int p, .int q]), .fz (.tup [.int p', .int q']), .fz (.tup [.int p', .int q']), .fz (.int 0), .fz (.int 0)]) (by simp [execs_cons, execs_nil, w_asg, w_asgT, w_ret, w_retV, w_iff, q_int, q_var, q_glob, q_bl, q_bin, q_neg, q_not, q_cmp, q_isB, q_and, q_or, q_one, q_tup, q_sub, q_call, q_os0, q_os1, q_as0, q_as1, q_f0, q_f1, isPath, set_pair', e1, e2, e3, e4, e5, e6, e7, e8, e9, e10, i1, i2, i3, i4, i5, i6, i7, i8, i9, f1, f2, f3, g1, g2, g3, h1, h2, h3, h4, w1, su, bin_mul ma, bin_mul mb, bin_mul mc, bin_mul md, bin_mul me, bin_mul mp, bin_mul mq, gz, go, ne_same, v1, v2]) ?_
      rw [execs_cons, w_ret _ _ _ (by intro i z; cases z)]
      simp [execs_cons, execs_nil, w_asg, w_asgT, w_ret, w_retV, w_iff, q_int, q_var, q_glob, q_bl, q_bin, q_neg, q_not, q_cmp, q_isB, q_and, q_or, q_one, q_tup, q_sub, q_call, q_os0, q_os1, q_as0, q_as1, q_f0, q_f1, isPath, set_pair', e1, e2, e3, e4, e5, e6, e7, e8, e9, e10, i1, i2, i3, i4, i5, i6, i7, i8, i9, f1, f2, f3, g1, g2, g3, h1, h2, h3, h4, w1, su, bin_mul ma, bin_mul mb, bin_mul mc, bin_mul md, bin_mul me, bin_mul mp, bin_mul mq, gz, go, ne_same]
  obtain ⟨Γ, fin⟩ := fin
  have eb : bindA f_law [D.scr ns] [] [] = some [D.scr ns] := rfl
  rw [eb]
  show outR (execs b_law (prog.P.gx 19) [.fz (.scr ns), .un, .un, .un, .un, .un, .un, .un, .un, .un]) = _
  rw [fin]
  rfl
theorem law_run (ns : List Int) : K 20 20 [.scr ns] = .ok (.fz (.bl true)) := by
  obtain ⟨a, b, e1, a1, b0, b1⟩ := pair_ok 17 ns 1 (by omega)
  obtain ⟨c, d, e2, c1, d0, d1⟩ := pair_ok 17 ns 3 (by omega)
  obtain ⟨p, q, e3, r⟩ := ratio_ok 18 (t := a) (b := b) (by omega) (lt_mono b1 (by omega))
  obtain ⟨p', q', e4, r'⟩ := ratio_ok 18 (t := c) (b := d) (by omega) (lt_mono d1 (by omega))
  obtain ⟨p2, q2, e5, r2⟩ := ratio_ok 18 (t := -c) (b := -d) (by omega) (by rw [Int.natAbs_neg]; exact lt_mono d1 (by omega))
  have r2' : IsR p2 q2 c d := ⟨r2.pos, r2.co, by have := r2.eq; rw [Int.mul_neg, Int.neg_mul] at this; omega, by have := r2.lp; rwa [Int.natAbs_neg] at this, by have := r2.lq; rwa [Int.natAbs_neg] at this⟩
  obtain ⟨x1, x2⟩ := low_unique r' r2' (by omega)
  subst x1 x2
  have P := Nat.lt_of_le_of_lt r.lp a1
  have Q := Nat.lt_of_le_of_lt r.lq b1
  have P' := Nat.lt_of_le_of_lt r'.lp c1
  have Q' := Nat.lt_of_le_of_lt r'.lq d1
  have i1 := is_ok 17 r.pos r.co r.eq (k := 100) (by omega) P Q a1 b1
  have i2 := is_ok 17 r'.pos r'.co r'.eq (k := 100) (by omega) P' Q' c1 d1
  have i3 := is_ok 17 (p := 0) (q := 1) (t := 0) (b := 1) (by decide) (by decide) rfl (k := 100) (by omega) (by decide) (by decide) (by decide) (by decide)
  have i4 := is_ok 17 (p := 1) (q := 1) (t := 1) (b := 1) (by decide) (by decide) rfl (k := 100) (by omega) (by decide) (by decide) (by decide) (by decide)
  obtain ⟨pa, qa, e6, ra⟩ := ratio_ok 18 (t := a) (b := 1) (by omega) (lt_mono (a := 1) (by decide) (by omega))
  rw [← ratio1] at e6
  have i5 := is_ok 17 ra.pos ra.co ra.eq (k := 100) (by omega) (Nat.lt_of_le_of_lt ra.lp a1) (Nat.lt_of_le_of_lt ra.lq (by decide)) a1 (by decide)
  obtain ⟨pb, qb, e7, rb⟩ := ratio_ok 18 (t := a) (b := -b) (by omega) (by rw [Int.natAbs_neg]; exact lt_mono b1 (by omega))
  have i6 := is_ok 17 rb.pos rb.co (t := -a) (b := b) (by have := rb.eq; rw [Int.mul_neg] at this; rw [Int.neg_mul]; omega) (k := 100) (by omega) (Nat.lt_of_le_of_lt rb.lp a1) (Nat.lt_of_le_of_lt rb.lq (by rw [Int.natAbs_neg]; exact b1)) (by rw [Int.natAbs_neg]; exact a1) b1
  obtain ⟨pp, qp, e8, rp⟩ := plus_ok 17 r.pos r'.pos (lt_mono P (by omega)) (lt_mono Q (by omega)) (lt_mono P' (by omega)) (lt_mono Q' (by omega))
  obtain ⟨pm, qm, e9, rm⟩ := minus_ok 16 r.pos r'.pos (lt_mono P (by omega)) (lt_mono Q (by omega)) (lt_mono P' (by omega)) (lt_mono Q' (by omega))
  obtain ⟨pt, qt, e10, rtt⟩ := times_ok 17 r.pos r'.pos (lt_mono P (by omega)) (lt_mono Q (by omega)) (lt_mono P' (by omega)) (lt_mono Q' (by omega))
  have z1 : (p * q' + p' * q).natAbs < 2 ^ 250 := lt_mono (lt_add (lt_mul P Q') (lt_mul P' Q)) (by omega)
  have z2 : (p * q' + -p' * q).natAbs < 2 ^ 250 := lt_mono (lt_add (lt_mul P Q') (lt_mul (by rw [Int.natAbs_neg]; exact P') Q)) (by omega)
  have z3 : (q * q').natAbs < 2 ^ 250 := lt_mono (lt_mul Q Q') (by omega)
  have z4 : (a * d + c * b).natAbs < 2 ^ 250 := lt_mono (lt_add (lt_mul a1 d1) (lt_mul c1 b1)) (by omega)
  have z5 : (a * d - c * b).natAbs < 2 ^ 250 := by
    have := lt_mono (lt_add (lt_mul a1 d1) (lt_mul (i := -c) (by rw [Int.natAbs_neg]; exact c1) b1)) (show 100 + 100 + 1 ≤ 250 by omega)
    rwa [Int.neg_mul, ← Int.sub_eq_add_neg] at this
  have z6 : (b * d).natAbs < 2 ^ 250 := lt_mono (lt_mul b1 d1) (by omega)
  have z7 : (a * c).natAbs < 2 ^ 250 := lt_mono (lt_mul a1 c1) (by omega)
  have z8 : (p * p').natAbs < 2 ^ 250 := lt_mono (lt_mul P P') (by omega)
  have rpos := r.pos
  have rpos' := r'.pos
  have i7 := is_ok 17 rp.pos rp.co (comb (by omega) (by omega) r.eq r'.eq rp.eq) (k := 250) (by omega) (Nat.lt_of_le_of_lt rp.lp z1) (Nat.lt_of_le_of_lt rp.lq z3) z4 z6
  have i8 := is_ok 17 rm.pos rm.co (t := a * d - c * b) (b := b * d) (by
    have := comb (t := -c) (by omega) (by omega) r.eq (by rw [Int.neg_mul, Int.neg_mul, r'.eq]) rm.eq
    rw [this, Int.neg_mul, ← Int.sub_eq_add_neg]) (k := 250) (by omega) (Nat.lt_of_le_of_lt rm.lp z2) (Nat.lt_of_le_of_lt rm.lq z3) z5 z6
  have i9 := is_ok 17 rtt.pos rtt.co (comb_times (by omega) (by omega) r.eq r'.eq rtt.eq) (k := 250) (by omega) (Nat.lt_of_le_of_lt rtt.lp z8) (Nat.lt_of_le_of_lt rtt.lq z3) z7 z6
  have f1 := refuses_ok 16 (p2 := p') (q2 := q') r.pos (lt_mono P (by omega)) (lt_mono Q (by omega)) (lt_mono P' (by omega)) (lt_mono Q' (by omega))
  have f2 := refuses_ok 16 (p2 := 0) (q2 := 1) r'.pos (lt_mono P' (by omega)) (lt_mono Q' (by omega)) (lt_mono (a := 1) (by decide) (by omega)) (lt_mono (a := 1) (by decide) (by omega))
  have f3 := refuses_bottom_ok 17 a
  have o1 : c ≠ 0 → ∃ po qo, K 19 9 [rt p q, rt p' q'] = .ok (.fz (rt po qo)) ∧ K 19 15 [rt po qo, .int (a * d), .int (b * c)] = .ok (.fz (.bl true)) := fun hc => by
    have pn : p' ≠ 0 := fun z => by
      have := r'.eq
      rw [z, Int.zero_mul] at this
      exact Int.mul_ne_zero hc (by omega) this.symm
    obtain ⟨po, qo, e11, ro⟩ := over_ok 17 r.pos pn (lt_mono P (by omega)) (lt_mono Q (by omega)) (lt_mono P' (by omega)) (lt_mono Q' (by omega))
    exact ⟨po, qo, e11, is_ok 17 ro.pos ro.co (comb_over (by omega) (by omega) (by omega) r.eq r'.eq ro.eq) (k := 250) (by omega) (Nat.lt_of_le_of_lt ro.lp (lt_mono (lt_mul P Q') (by omega))) (Nat.lt_of_le_of_lt ro.lq (lt_mono (lt_mul Q P') (by omega))) (lt_mono (lt_mul a1 d1) (by omega)) (lt_mono (lt_mul b1 c1) (by omega))⟩
  have g1 := compare_ok 18 (p1 := p) (q1 := q) (p2 := p') (q2 := q') (lt_mono P (by omega)) (lt_mono Q (by omega)) (lt_mono P' (by omega)) (lt_mono Q' (by omega))
  have g2 := compare_ok 18 (p1 := p') (q1 := q') (p2 := p) (q2 := q) (lt_mono P' (by omega)) (lt_mono Q' (by omega)) (lt_mono P (by omega)) (lt_mono Q (by omega))
  have g3 := compare_ok 18 (p1 := p) (q1 := q) (p2 := p) (q2 := q) (lt_mono P (by omega)) (lt_mono Q (by omega)) (lt_mono P (by omega)) (lt_mono Q (by omega))
  have sg : cmpv (p * q' - p' * q) = cmpv (a * d - c * b) := sgn (k := b * d) (l := q * q') (Int.mul_pos b0 d0) (Int.mul_pos rpos rpos') (by
    have h1 := r.eq
    have h2 := r'.eq
    grind)
  have sg2 : cmpv (p' * q - p * q') = -cmpv (a * d - c * b) := by
    rw [← sg, ← cmpv_neg]
    congr 1
    omega
  have sg3 : cmpv (p * q - p * q) = 0 := by rw [Int.sub_self]; rfl
  rw [sg] at g1
  rw [sg2] at g2
  rw [sg3] at g3
  have h1 := is_ratio_ok 18 p q
  have h2 := is_ratio_ok 18 (p * 2) (q * 2)
  have h3 := is_ratio_ok 18 (-p) (-q)
  have h4 := is_ratio_ok 18 a 0
  have j1 : (decide (0 < q) && decide ((p.natAbs.gcd q.natAbs : Int) = 1)) = true := by rw [r.co]; simp [rpos]
  have j2 : (decide (0 < q * 2) && decide (((p * 2).natAbs.gcd (q * 2).natAbs : Int) = 1)) = false := by
    rw [Int.natAbs_mul, Int.natAbs_mul, Nat.gcd_mul_right, r.co]
    simp
  have j3 : (decide (0 < -q) && decide (((-p).natAbs.gcd (-q).natAbs : Int) = 1)) = false := by
    rw [decide_eq_false (by omega : ¬ 0 < -q)]
    rfl
  rw [j1] at h1
  rw [j2] at h2
  rw [j3] at h3
  have w1 := whole_int 18 (cmpv (a * d - c * b))
  have su := sum_ok 15 ns
  have ma := mulOk_of a1 d1 (by omega)
  have mb := mulOk_of c1 b1 (by omega)
  have mc := mulOk_of b1 d1 (by omega)
  have md := mulOk_of a1 c1 (by omega)
  have me := mulOk_of b1 c1 (by omega)
  have mp : mulOk p 2 = true := mulOk_of P (b := 2) (by decide) (by omega)
  have mq : mulOk q 2 = true := mulOk_of Q (b := 2) (by decide) (by omega)
  have v : ∃ x : Int, cmpv (a * d - c * b) = x ∧ ((a * d < c * b ∧ ¬ (c * b < a * d) ∧ x = -1) ∨ (¬ (a * d < c * b) ∧ (c * b < a * d) ∧ x = 1) ∨ (¬ (a * d < c * b) ∧ ¬ (c * b < a * d) ∧ x = 0)) := by
    refine ⟨_, rfl, ?_⟩
    unfold cmpv
    by_cases l1 : a * d < c * b
    · exact .inl ⟨l1, by omega, if_pos (by omega)⟩
    · by_cases l2 : c * b < a * d
      · exact .inr (.inl ⟨l1, l2, by rw [if_neg (by omega), if_pos (by omega)]⟩)
      · exact .inr (.inr ⟨l1, l2, by rw [if_neg (by omega), if_neg (by omega)]⟩)
  obtain ⟨x, xe, v⟩ := v
  rw [xe] at g1 g2 w1
  exact law_fin ns a b c d p q p' q' pa qa pb qb pp qp pm qm pt qt x e1 e2 e3 e4 e5 e6 e7 e8 e9 e10 i1 i2 i3 i4 i5 i6 i7 i8 i9 f1 f2 f3 o1 g1 g2 g3 h1 h2 h3 (by rw [h4]; rfl) w1 su ma mb mc md me mp mq v
end Lw

end

section
set_option linter.all false
set_option maxRecDepth 100000
namespace Lw
open MP PySem PySem.W PySem.Calls PyProof.Rows
theorem text_ok : okText prog dds = true := by kernel_rfl
abbrev R : OpenRow := OpenLaw.row PySem.Challenge.rw_paidforsigns_k00_ratios
abbrev hk : Hook := hookM 4 prog (defsOf prog dds)
def ob (s : SharedT) : AlM := obsMG 4 prog (defsOf prog dds) (HandSHeadRun.getT s)
theorem ob_eq (s : SharedT) : ob s = hk.obs s.abs := obsMG_eq (HandSHeadRun.getT_eq s)
theorem head_run (w : World) : HandSHeadRun.RunEqI R (view R.prog [0, lawIx]) hk ob 3000 loose w := by
  show (HandSHeadRun.wholeF _ _ _ _).map _ = _
  kernel_rfl
theorem law_of (hrun : ∀ ns : List Int, ns.length ≤ 63 → runB prog.P 19 f_law [.scr ns] = .ok (.fz (.bl true))) : PySem.Challenge.rw_paidforsigns_k00_ratios.Holds := by
  w_on; o_law
  refine HandSHeadRun.head_imp (r := OpenLaw.row PySem.Challenge.rw_paidforsigns_k00_ratios) (q := view (OpenLaw.row PySem.Challenge.rw_paidforsigns_k00_ratios).prog [0, lawIx]) (H := hk) (ob := ob) (M := 3000) (loose := loose) (d := HandSHeadRun.topDef (OpenLaw.row PySem.Challenge.rw_paidforsigns_k00_ratios).prog lawIx) (kwd := []) ob_eq
    head_run (by kernel_rfl) (by kernel_rfl) (by kernel_rfl) (by rfl) (by first | assumption | decide +kernel) (by decide +kernel) ⟨rfl, rfl, rfl, rfl, rfl, by decide +kernel⟩ ?hw ?hc
  case hw => w_witness2
  case hc =>
    refine walk_mp (l := PySem.Challenge.rw_paidforsigns_k00_ratios) (p := prog) (ds := dds) (f := lawNo) (F := f_law) (n := 19) (m := 4) rfl rfl (by kernel_rfl) (by kernel_rfl) text_ok rfl rfl trivial ⟨rfl, by decide, by decide⟩ hrun
end Lw


theorem PySem.Challenge.cw_paidforsigns_k00_ratios_holds : PySem.Challenge.rw_paidforsigns_k00_ratios.Holds := by
  refine Lw.law_of fun ns _ => ?_
  have h := Lw.law_run ns
  unfold Lw.K at h
  rw [MP.call_succ (F := Lw.f_law) rfl] at h
  exact h

end
