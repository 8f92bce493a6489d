import PyProof.Rows.All
import Wide.All
import OpenK.AllK
import Wide.FinOn
import HandS.ForMost
import HandS.ForExc
import HandS.CallSlots
import HandS.Defaults
import HandS.Wide
import HandS.Gcd
import HandS.HeadHook2
import KE.KTupSum
import HandS.TupLe
import HandS.Style
import HandS.IsInst
import HandS.Flow
import HandS.SortInts
import HandS.TupAny
import HandS.WideBits
import KE.GoesMore
import HandS.Iter
import HandS.Zip
import HandS.Conv
import KE.KExcSuper
import HandS.Exc
import HandS.ExcInit
import HandS.ExcIs
import HandS.ExcField
import HandS.TryMany
import HandS.TryOnly
import HandS.HeadEnd
import HandS.Head0
import HandS.Head1
import HandS.Head2
import HandS.Head3
import PySem.Challenge.RW_paidforsigns_k01_granted_or_refused
section
set_option linter.all false
set_option autoImplicit false
/-! A small functional reading of the Python that the laws use: data trees, a compact syntax, an evaluator. Core Lean alone. -/
namespace MP
/-- an equation that simp writes down, though it holds by definition -/
theorem nr {α : Sort _} {a b : α} (h : a = b) : a = b := h

/-- a value as data: nothing in it will change any more -/
inductive D where
  | non | bl (b : Bool) | int (i : Int) | str (x : List Nat)
  | tup (ds : List D) | lst (ds : List D)
  | obj (c : Nat) (ds : List D)
  /-- the script -/
  | scr (ns : List Int)

/-- what a local name holds: data; a list of its own (it may be changed); a list of lists of its own; the instance that is being made; a caught error; nothing known -/
inductive OD where
  | un
  | fz (d : D)
  | own (ds : List D)
  /-- pin: it stands where the world says -/
  | own2 (pin : Bool) (rows : List (Bool × List D))
  | oi (c : Nat) (fs : List (Nat × D))
  | xv (c : Nat) (p : Option D)

inductive R (α : Type) where
  | ok (a : α)
  | ex (c : Nat) (p : Option D)
  | bad

namespace R
variable {α β : Type}
def bind (r : R α) (f : α → R β) : R β := match r with
  | ok a => f a
  | ex c p => ex c p
  | bad => bad
def map (f : α → β) (r : R α) : R β := match r with
  | ok a => ok (f a)
  | ex c p => ex c p
  | bad => bad
def ofO (o : Option α) : R α := match o with
  | some a => ok a
  | none => bad
@[simp] theorem bind_ok (a : α) (f : α → R β) : (ok a).bind f = f a := nr rfl
@[simp] theorem bind_ex (c : Nat) (p : Option D) (f : α → R β) : (ex c p : R α).bind f = ex c p := nr rfl
@[simp] theorem bind_bad (f : α → R β) : (bad : R α).bind f = bad := nr rfl
@[simp] theorem map_ok (a : α) (f : α → β) : (ok a).map f = ok (f a) := nr rfl
@[simp] theorem map_ex (c : Nat) (p : Option D) (f : α → β) : (ex c p : R α).map f = ex c p := nr rfl
@[simp] theorem map_bad (f : α → β) : (bad : R α).map f = bad := nr rfl
@[simp] theorem ofO_some (a : α) : ofO (some a) = ok a := nr rfl
@[simp] theorem ofO_none : ofO (none : Option α) = bad := nr rfl
end R

inductive Bop | add | sub | mul | fdiv | mod | pow | shl | shr | band | bor | bxor
inductive Cop | eq | ne | lt | le | gt | ge | isin | notin
/-- built-in functions and types, called with positional arguments -/
inductive Blt | len | abs | int | sum | min | max | list | tuple | sorted | any | all | gcd
  deriving DecidableEq
/-- methods of built-in types that change nothing -/
inductive Bm | bitlen | count | index
inductive Ty | tint | tbool | tstr | tlist | ttuple | tnone | cls (c : Nat) | exc (c : Nat) | verr
  deriving DecidableEq

inductive T where
  | n (i : Nat)
  | t (ts : List T)

def T.isT : T → Bool
  | .n _ => false
  | .t _ => true

inductive E where
  | int (i : Int) | bl (b : Bool) | non | str (x : List Nat)
  | var (i : Nat) | glob (g : Nat)
  | bin (op : Bop) (a b : E) | neg (a : E) | notE (a : E)
  | cmp (op : Cop) (a b : E) | chain (o1 o2 : Cop) (a b c : E)
  | isN (a : E) (yes : Bool) | isB (a : E) (b : Bool) (yes : Bool)
  | andE (a b : E) | orE (a b : E) | one (a : E)
  | ite (c a b : E)
  | tup (es : List E) | lst (es : List E)
  | sub (a i : E) | slc (a lo hi : E) | rev (a : E)
  | attr (a : E) (f : Nat)
  | call (f : Nat) (es : List E) (ks : List Nat) (kes : List E)
  | mk (c : Nat) (es : List E)
  | meth (a : E) (m : Nat) (es : List E)
  | blt (f : Blt) (es : List E)
  | bm (m : Bm) (a : E) (es : List E)
  | inst (a : E) (ts : List Ty)
  | comp (e : E) (tg : T) (it : E) (cs : List E)
  | rng (es : List E) | enm (e : E) | zip (a b : E)

/-! ### data -/
mutual
def D.beq : D → D → Bool
  | .non, .non => true
  | .bl a, .bl b => a == b
  | .int a, .int b => a == b
  | .str a, .str b => a == b
  | .tup a, .tup b => D.beqs a b
  | .lst a, .lst b => D.beqs a b
  | .obj c a, .obj d b => c == d && D.beqs a b
  | _, _ => false
def D.beqs : List D → List D → Bool
  | [], [] => true
  | a :: as, b :: bs => D.beq a b && D.beqs as bs
  | _, _ => false
end
mutual
/-- == of Python on data (instances aside) -/
def D.eqv : D → D → Bool
  | .non, .non => true
  | .bl a, .bl b => a == b
  | .int a, .int b => a == b
  | .bl a, .int b => (if a then 1 else 0 : Int) == b
  | .int a, .bl b => a == (if b then 1 else 0 : Int)
  | .str a, .str b => a == b
  | .tup a, .tup b => D.eqvs a b
  | .lst a, .lst b => D.eqvs a b
  | _, _ => false
def D.eqvs : List D → List D → Bool
  | [], [] => true
  | a :: as, b :: bs => D.eqv a b && D.eqvs as bs
  | _, _ => false
end
mutual
def D.noL : D → Bool
  | .tup ds => D.noLs ds
  | .lst _ => false
  | .scr _ => false
  | .obj _ ds => D.noLs ds
  | _ => true
def D.noLs : List D → Bool
  | [] => true
  | d :: ds => d.noL && D.noLs ds
end
mutual
/-- no instance, of nesting below n -/
def D.plain : Nat → D → Bool
  | n + 1, .tup ds => D.plains n ds
  | n + 1, .lst ds => D.plains n ds
  | 0, .tup _ => false
  | 0, .lst _ => false
  | _, .obj _ _ => false
  | _, .scr _ => false
  | _, .str x => x.all fun c => decide (c < 1114112)
  | _, _ => true
def D.plains : Nat → List D → Bool
  | _, [] => true
  | n, d :: ds => d.plain n && D.plains n ds
end
def D.isNon : D → Bool
  | .non => true
  | _ => false
def D.isBl (b : Bool) : D → Bool
  | .bl c => c == b
  | _ => false
/-- a scalar -/
def D.flat : D → Bool
  | .non | .bl _ | .int _ | .str _ => true
  | _ => false
def D.ints : List D → Option (List Int)
  | [] => some []
  | .int i :: ds => (D.ints ds).map (i :: ·)
  | _ => none
def D.bls : List D → Option (List Bool)
  | [] => some []
  | .bl i :: ds => (D.bls ds).map (i :: ·)
  | _ => none
/-- the items of a list or a tuple -/
def D.items : D → Option (List D)
  | .tup ds => some ds
  | .lst ds => some ds
  | _ => none
def rowD (r : Bool × List D) : D := .lst r.2
/-- the value as data, whoever owns it -/
def OD.toD : OD → Option D
  | .fz d => some d
  | .own ds => some (.lst ds)
  | .own2 _ rs => some (.lst (rs.map rowD))
  | _ => none
def OD.noFL : OD → Bool
  | .fz d => d.noL
  | .own ds => D.noLs ds
  | .own2 _ rs => rs.all fun r => !r.1 && D.noLs r.2
  | _ => false
def OD.isFz : OD → Bool
  | .fz _ => true
  | _ => false
def isPath : E → Bool
  | .var _ => true
  | .sub a _ => isPath a
  | _ => false
/-- an operand whose items may be shared from now on -/
def opd (path : Bool) : OD → Option D
  | .fz d => some d
  | .own ds => some (.lst ds)
  | .own2 _ rs => if path && rs.any (fun r => !r.1) then none else some (.lst (rs.map rowD))
  | _ => none

/-! ### numbers -/
def mulOk (i j : Int) : Bool := (decide (i.natAbs < 2 ^ 64) || decide (j.natAbs < 2 ^ 64)) || decide (i.natAbs.log2 + j.natAbs.log2 < 1000000)
def divOk (j : Int) : Bool := decide (j ≠ 0) && decide (j.natAbs.log2 < 9000)
def powOk (i j : Int) : Bool := decide (0 ≤ j) && (decide (j ≤ 1000000) && decide (i.natAbs < 2 ^ 64))
/-- a power of a larger number -/
def powB (i j : Int) : Bool := powOk i j || (decide (0 ≤ j) && (decide (j ≤ 1000) && decide (i.natAbs < 2 ^ 2000)))
/-- a list's, a text's greatest length -/
def line : Nat := 1000000
def b2i (b : Bool) : Int := if b then 1 else 0
def pyBit (f : Nat → Nat → Nat) (i j : Int) : Option Int := if 0 ≤ i ∧ 0 ≤ j then some (f i.toNat j.toNat : Nat) else none

def binD (op : Bop) (x y : D) : R OD :=
  match x, y with
  | .int i, .int j => match op with
    | .add => .ok (.fz (.int (i + j)))
    | .sub => .ok (.fz (.int (i - j)))
    | .mul => if mulOk i j then .ok (.fz (.int (i * j))) else .bad
    | .fdiv => if divOk j then .ok (.fz (.int (i.fdiv j))) else .bad
    | .mod => if j = 0 then .bad else .ok (.fz (.int (i.fmod j)))
    | .pow => if powB i j then .ok (.fz (.int (i ^ j.toNat))) else .bad
    | .shl => if powOk i j then .ok (.fz (.int (i * 2 ^ j.toNat))) else .bad
    | .shr => if 0 ≤ j then .ok (.fz (.int (i / 2 ^ j.toNat))) else .bad
    | .band => (R.ofO (pyBit Nat.land i j)).map fun n => .fz (.int n)
    | _ => .bad
  | .lst xs, .lst ys => match op with
    | .add => if xs.length + ys.length ≤ line then .ok (.own (xs ++ ys)) else .bad
    | _ => .bad
  | .tup xs, .tup ys => match op with
    | .add => if 0 < xs.length ∧ xs.length + ys.length ≤ line then .ok (.fz (.tup (xs ++ ys))) else .bad
    | _ => .bad
  | .lst xs, .int j => match op with
    | .mul => if xs.length * j.toNat ≤ line ∧ j < 1000000 ∧ -1000000 < j then .ok (.own (List.replicate j.toNat xs).flatten) else .bad
    | _ => .bad
  | _, _ => .bad

def cmpD (op : Cop) (x y : D) : R OD :=
  match op with
  | .eq => if x.plain 20 && y.plain 20 then .ok (.fz (.bl (D.eqv x y))) else .bad
  | .ne => if x.plain 20 && y.plain 20 then .ok (.fz (.bl (!D.eqv x y))) else .bad
  | .lt => match x, y with
    | .int i, .int j => .ok (.fz (.bl (decide (i < j))))
    | _, _ => .bad
  | .le => match x, y with
    | .int i, .int j => .ok (.fz (.bl (decide (i ≤ j))))
    | _, _ => .bad
  | .gt => match x, y with
    | .int i, .int j => .ok (.fz (.bl (decide (j < i))))
    | _, _ => .bad
  | .ge => match x, y with
    | .int i, .int j => .ok (.fz (.bl (decide (j ≤ i))))
    | _, _ => .bad
  | .isin => match y.items with
    | some ys => if x.plain 20 && D.plains 20 ys then .ok (.fz (.bl (ys.any fun z => D.eqv z x))) else .bad
    | none => .bad
  | .notin => match y.items with
    | some ys => if x.plain 20 && D.plains 20 ys then .ok (.fz (.bl (!ys.any fun z => D.eqv z x))) else .bad
    | none => .bad

/-- the place that an index means -/
def ixN (n : Nat) (i : Int) : Option Nat := if 0 ≤ i then (if i < n then some i.toNat else none) else if -(n : Int) ≤ i then some (i + n).toNat else none
def atI {α : Type} (xs : List α) (i : Int) : Option α := (ixN xs.length i).bind fun j => xs[j]?
/-- a slice's bound -/
def sIx (n d : Nat) : Option Int → Nat
  | none => d
  | some i => if i < 0 then (i + (n : Int)).toNat else min i.toNat n
def cutL {α : Type} (xs : List α) (lo hi : Option Int) : List α := (xs.drop (sIx xs.length 0 lo)).take (sIx xs.length xs.length hi - sIx xs.length 0 lo)

def maxL : List Int → Option Int
  | [] => none
  | x :: xs => some (xs.foldl (fun m y => if y > m then y else m) x)
def minL : List Int → Option Int
  | [] => none
  | x :: xs => some (xs.foldl (fun m y => if y < m then y else m) x)
def insI (x : Int) : List Int → List Int
  | [] => [x]
  | y :: ys => if x ≤ y then x :: y :: ys else y :: insI x ys
def sortI : List Int → List Int
  | [] => []
  | x :: xs => insI x (sortI xs)
def rangeI (lo hi : Int) : List D := (List.range (hi - lo).toNat).map fun (k : Nat) => D.int (lo + k)
def smallI (i : Int) : Bool := decide (-1000000 ≤ i) && decide (i ≤ 1000000)

/-- can be called while an error is handled -/
def Blt.anyhow : Blt → Bool
  | .len | .abs | .int | .list | .tuple => true
  | _ => false
def lenD : List D → R OD
  | [.tup ds] => .ok (.fz (.int ds.length))
  | [.lst ds] => .ok (.fz (.int ds.length))
  | [.scr ns] => .ok (.fz (.int ns.length))
  | _ => .bad
def absD : List D → R OD
  | [.int i] => .ok (.fz (.int (if i < 0 then -i else i)))
  | _ => .bad
def intD : List D → R OD
  | [.int i] => .ok (.fz (.int i))
  | [.bl b] => .ok (.fz (.int (b2i b)))
  | _ => .bad
def seqInts (x : D) : Option (List Int) := x.items.bind D.ints
def sumD : List D → R OD
  | [x] => (R.ofO (seqInts x)).map fun ns => .fz (.int ns.sum)
  | _ => .bad
def maxD : List D → R OD
  | [x] => (R.ofO ((seqInts x).bind maxL)).map fun m => .fz (.int m)
  | [.int i, .int j] => .ok (.fz (.int (if j > i then j else i)))
  | _ => .bad
def minD : List D → R OD
  | [x] => (R.ofO ((seqInts x).bind minL)).map fun m => .fz (.int m)
  | [.int i, .int j] => .ok (.fz (.int (if j < i then j else i)))
  | _ => .bad
def listD : List D → R OD
  | [x] => (R.ofO x.items).map .own
  | _ => .bad
def tupleD : List D → R OD
  | [x] => (R.ofO x.items).map fun ds => .fz (.tup ds)
  | _ => .bad
def sortedD : List D → R OD
  | [.lst ds] => (R.ofO (D.ints ds)).map fun ns => .own ((sortI ns).map .int)
  | _ => .bad
def anyD : List D → R OD
  | [.lst ds] => (R.ofO (D.bls ds)).map fun bs => .fz (.bl (bs.any id))
  | _ => .bad
def allD : List D → R OD
  | [.lst ds] => (R.ofO (D.bls ds)).map fun bs => .fz (.bl (bs.all id))
  | _ => .bad
def gcdD : List D → R OD
  | [.int i, .int j] => .ok (.fz (.int (Nat.gcd i.natAbs j.natAbs : Nat)))
  | _ => .bad
def bltD (f : Blt) (xs : List D) : R OD :=
  match f with
  | .len => lenD xs
  | .abs => absD xs
  | .int => intD xs
  | .sum => sumD xs
  | .max => maxD xs
  | .min => minD xs
  | .list => listD xs
  | .tuple => tupleD xs
  | .sorted => sortedD xs
  | .any => anyD xs
  | .all => allD xs
  | .gcd => gcdD xs

/-- the number of binary digits -/
def bitLen (i : Int) : Nat := if i = 0 then 0 else i.natAbs.log2 + 1
def bmD (m : Bm) (x : D) (xs : List D) : R OD :=
  match m, x, xs with
  | .bitlen, .int i, [] => .ok (.fz (.int (bitLen i)))
  | _, _, _ => .bad

/-! a name's target -/
mutual
def setT : T → OD → List OD → Option (List OD)
  | .n i, o, Γ => if i < Γ.length then some (Γ.set i o) else none
  | .t ts, o, Γ => match o.toD.bind D.items with
    | some ds => setTs ts ds Γ
    | none => none
def setTs : List T → List D → List OD → Option (List OD)
  | [], [], Γ => some Γ
  | a :: as, d :: ds, Γ => (setT a (.fz d) Γ).bind (setTs as ds)
  | _, _, _ => none
end

/-! ### the evaluator -/
structure Fx where
  call : Nat → List D → List Nat → List D → R OD
  make : Nat → List D → R OD
  meth : Nat → Nat → Option Nat
  gv : Nat → Option D
  fld : Nat → Nat → Option Nat
  sub : Nat → Ty → Bool
  xf : Nat → Option Nat
  calm : Bool

def truth : D → Option Bool
  | .bl b => some b
  | .non => some false
  | .int i => some (decide (i ≠ 0))
  | .tup ds => some (!ds.isEmpty)
  | .lst ds => some (!ds.isEmpty)
  | _ => none
def isTy (o : OD) (t : Ty) (sub : Nat → Ty → Bool) : Option Bool :=
  match o with
  | .xv c _ => (match t with
    | .exc k => some (sub c (.exc k))
    | .verr => some (sub c .verr)
    | _ => none)
  | .own _ => some (match t with
    | .tlist => true
    | _ => false)
  | .own2 _ _ => some (match t with
    | .tlist => true
    | _ => false)
  | .fz d => (match d with
    | .obj c _ => if sub c .tnone then some (match t with
      | .cls k => c == k
      | _ => false) else none
    | .bl _ => some (match t with
      | .tint => true
      | .tbool => true
      | _ => false)
    | .int _ => some (match t with
      | .tint => true
      | _ => false)
    | .str _ => some (match t with
      | .tstr => true
      | _ => false)
    | .lst _ => some (match t with
      | .tlist => true
      | _ => false)
    | .tup _ => some (match t with
      | .ttuple => true
      | _ => false)
    | .non => some false
    | .scr _ => none)
  | _ => none
def anyTy (o : OD) (sub : Nat → Ty → Bool) : List Ty → Option Bool
  | [] => some false
  | t :: ts => match isTy o t sub with
    | some true => some true
    | some false => anyTy o sub ts
    | none => none

/-- the items of a comprehension: behind the tests f, the values of g -/
def compL (g : List OD → R OD) (f : List OD → R Bool) (tg : T) (Γ : List OD) : List D → R (List OD)
  | [] => .ok []
  | d :: ds => match setT tg (.fz d) Γ with
    | some Γ' => match f Γ' with
      | .ok true => (match g Γ' with
        | .ok o => (compL g f tg Γ ds).bind fun r => .ok (o :: r)
        | _ => .bad)
      | .ok false => compL g f tg Γ ds
      | _ => .bad
    | none => .bad
def fzO : OD → Option D
  | .fz d => some d
  | _ => none
def owO : OD → Option (Bool × List D)
  | .own ds => some (false, ds)
  | _ => none
def allO {α : Type} (f : OD → Option α) : List OD → Option (List α)
  | [] => some []
  | o :: os => (f o).bind fun a => (allO f os).map (a :: ·)
/-- a display's, a comprehension's list -/
def mkOwn (os : List OD) : Option OD :=
  match allO fzO os with
  | some ds => some (.own ds)
  | none => match allO owO os with
    | some rs => some (.own2 false rs)
    | none => (allO OD.toD os).map .own

def arityOk (n : Nat) : Bool := decide (n ≤ 1000)
/-- an argument's data, and whether it is a list of a name's own -/
def argD (path : Bool) (o : OD) : Option (D × Bool) := o.toD.map fun d => (d, path && !o.isFz)
/-- what a call hands back, where lists of one's own were lent -/
def lent (bs : List (D × Bool)) (r : R OD) : R OD :=
  if bs.any (·.2) then (match r with
    | .ok o => if o.noFL then .ok o else .bad
    | .ex c (some d) => if d.noL then .ex c (some d) else .bad
    | .ex c none => .ex c none
    | .bad => .bad) else r

def oper (p : Bool) (r : R OD) : R D := r.bind fun o => R.ofO (opd p o)
def argm (p : Bool) (r : R OD) : R (D × Bool) := r.bind fun o => R.ofO (argD p o)
def asB (r : R OD) : R Bool := r.bind fun o => match o with
  | .fz (.bl b) => .ok b
  | _ => .bad
def tru (r : R OD) : R Bool := r.bind fun o => R.ofO (o.toD.bind truth)
def frz (r : R OD) : R D := r.bind fun o => R.ofO o.toD
def asI (r : R D) : R Int := r.bind fun d => match d with
  | .int i => .ok i
  | _ => .bad
def subD (pk p : Bool) (o : OD) (j : Int) : R OD :=
  match o with
  | .fz (.scr ns) => R.ofO ((atI ns j).map fun i => .fz (.int i))
  | .fz d => (match d.items with
    | some ds => R.ofO ((atI ds j).map .fz)
    | none => .bad)
  | .own ds => R.ofO ((atI ds j).map .fz)
  | .own2 _ rs => (match atI rs j with
    | some (true, ds) => .ok (.fz (.lst ds))
    | some (false, ds) => if pk then .ok (.own ds) else if p then .bad else .ok (.fz (.lst ds))
    | none => .bad)
  | _ => .bad
def revD : D → R OD
  | .lst ds => .ok (.own ds.reverse)
  | _ => .bad
def slcD (x : D) (l h : Option Int) : R OD :=
  match x with
  | .lst ds => .ok (.own (cutL ds l h))
  | .tup ds => .ok (.fz (.tup (cutL ds l h)))
  | _ => .bad
def isNon : E → Bool
  | .non => true
  | _ => false
/-- a slice's bound -/
def part (non : Bool) (r : R D) : R (Option Int) := if non then .ok none else (asI r).bind fun i => .ok (some i)
def attrD (X : Fx) (f : Nat) (o : OD) : R OD :=
  match o with
    | .fz (.obj c ds) => R.ofO (((X.fld c f).bind fun i => ds[i]?).map .fz)
    | .xv c (some p) => if X.xf c = some f then .ok (.fz p) else .bad
    | _ => .bad
def varD (o : Option OD) (pk : Bool) : R OD :=
  match o with
    | some (.fz d) => .ok (.fz d)
    | some .un => .bad
    | some o => if pk then .ok o else .bad
    | none => .bad
def rngD (xs : List D) : R OD :=
  match xs with
  | [.int n] => if smallI n then .ok (.fz (.lst (rangeI 0 n))) else .bad
  | [.int m, .int n] => if smallI m && smallI n then .ok (.fz (.lst (rangeI m n))) else .bad
  | [.int m, .int n, .int (-1)] => if smallI m && smallI n then .ok (.fz (.lst ((List.range (m - n).toNat).map fun (k : Nat) => D.int (m - k)))) else .bad
  | _ => .bad
def enmD (k : Nat) : List D → List D
  | [] => []
  | d :: ds => .tup [.int k, d] :: enmD (k + 1) ds
def zipD : List D → List D → List D
  | a :: as, b :: bs => .tup [a, b] :: zipD as bs
  | _, _ => []
/-- zip of two lists, of two tuples -/
def zipR : D → D → R D
  | .lst xs, .lst ys => .ok (.lst (zipD xs ys))
  | .tup xs, .tup ys => .ok (.lst (zipD xs ys))
  | _, _ => .bad
def itemsR (r : R D) : R (List D) := r.bind fun d => R.ofO d.items

mutual
def ev (X : Fx) : E → List OD → Bool → R OD
  | .int i, _, _ => .ok (.fz (.int i))
  | .bl b, _, _ => .ok (.fz (.bl b))
  | .non, _, _ => .ok (.fz .non)
  | .str x, _, _ => .ok (.fz (.str x))
  | .var i, Γ, pk => varD Γ[i]? pk
  | .glob g, _, _ => R.ofO ((X.gv g).map .fz)
  | .bin op a b, Γ, _ => (oper (isPath a) (ev X a Γ true)).bind fun x => (oper (isPath b) (ev X b Γ true)).bind fun y => binD op x y
  | .neg a, Γ, _ => (asI (oper (isPath a) (ev X a Γ true))).bind fun i => .ok (.fz (.int (-i)))
  | .notE a, Γ, _ => (tru (ev X a Γ true)).bind fun b => .ok (.fz (.bl (!b)))
  | .cmp op a b, Γ, _ => (argm (isPath a) (ev X a Γ true)).bind fun x => (argm (isPath b) (ev X b Γ true)).bind fun y => cmpD op x.1 y.1
  | .chain o1 o2 a b c, Γ, _ => (oper (isPath a) (ev X a Γ true)).bind fun x => (oper (isPath b) (ev X b Γ true)).bind fun y => (asB (cmpD o1 x y)).bind fun r =>
      if r then (oper (isPath c) (ev X c Γ true)).bind fun z => cmpD o2 y z else .ok (.fz (.bl false))
  | .isN a yes, Γ, _ => (argm (isPath a) (ev X a Γ true)).bind fun x => .ok (.fz (.bl (x.1.isNon == yes)))
  | .isB a b yes, Γ, _ => (argm (isPath a) (ev X a Γ true)).bind fun x => .ok (.fz (.bl (x.1.isBl b == yes)))
  | .andE a b, Γ, _ => (asB (ev X a Γ true)).bind fun c => if c then (asB (ev X b Γ true)).bind fun d => .ok (.fz (.bl d)) else .ok (.fz (.bl false))
  | .orE a b, Γ, _ => (asB (ev X a Γ true)).bind fun c => if c then .ok (.fz (.bl true)) else (asB (ev X b Γ true)).bind fun d => .ok (.fz (.bl d))
  | .one a, Γ, _ => (asB (ev X a Γ true)).bind fun b => .ok (.fz (.bl b))
  | .ite c a b, Γ, _ => (tru (ev X c Γ true)).bind fun t => if t then ev X a Γ false else ev X b Γ false
  | .tup es, Γ, _ => (evF X es Γ).bind fun ds => .ok (.fz (.tup ds))
  | .lst es, Γ, _ => (evV X es Γ).bind fun os => R.ofO (mkOwn os)
  | .sub a i, Γ, pk => (ev X a Γ true).bind fun o => (asI (oper (isPath i) (ev X i Γ true))).bind fun j => subD pk (isPath a) o j
  | .slc a lo hi, Γ, _ => (oper (isPath a) (ev X a Γ true)).bind fun x => (part (isNon lo) (oper (isPath lo) (ev X lo Γ true))).bind fun l => (part (isNon hi) (oper (isPath hi) (ev X hi Γ true))).bind fun h => slcD x l h
  | .rev a, Γ, _ => (oper (isPath a) (ev X a Γ true)).bind revD
  | .attr a f, Γ, _ => (ev X a Γ true).bind fun o => attrD X f o
  | .call f es ks kes, Γ, _ => (evAs X es Γ).bind fun as => (evAs X kes Γ).bind fun bs => lent (as ++ bs) (X.call f (as.map (·.1)) ks (bs.map (·.1)))
  | .mk c es, Γ, _ => if X.calm = false then .bad else (evAs X es Γ).bind fun as => lent as (X.make c (as.map (·.1)))
  | .meth a m es, Γ, _ => if X.calm = false then .bad else (oper (isPath a) (ev X a Γ true)).bind fun x => match x with
    | .obj c ds => (match X.meth c m with
      | some f => (evAs X es Γ).bind fun as => lent as (X.call f (.obj c ds :: as.map (·.1)) [] [])
      | none => .bad)
    | _ => .bad
  | .blt f es, Γ, _ => if X.calm || f.anyhow then (evOs X es Γ).bind fun xs => bltD f xs else .bad
  | .bm m a es, Γ, _ => (oper (isPath a) (ev X a Γ true)).bind fun x => (evOs X es Γ).bind fun xs => bmD m x xs
  | .inst a ts, Γ, _ => (ev X a Γ true).bind fun o => R.ofO ((anyTy o X.sub ts).map fun b => .fz (.bl b))
  | .comp e tg it cs, Γ, _ => if X.calm = false then .bad else (itemsR (oper (isPath it) (ev X it Γ true))).bind fun ds => if line < ds.length then .bad else (compL (fun Γ' => ev X e Γ' false) (fun Γ' => evC X cs Γ') tg Γ ds).bind fun os => R.ofO (mkOwn os)
  | .rng es, Γ, _ => if X.calm = false then .bad else (evOs X es Γ).bind rngD
  | .enm e, Γ, _ => (itemsR (frz (ev X e Γ false))).bind fun ds => .ok (.fz (.lst (enmD 0 ds)))
  | .zip a b, Γ, _ => (frz (ev X a Γ false)).bind fun x => (frz (ev X b Γ false)).bind fun y => (zipR x y).map .fz
/-- operands -/
def evOs (X : Fx) : List E → List OD → R (List D)
  | [], _ => .ok []
  | e :: es, Γ => (oper (isPath e) (ev X e Γ true)).bind fun d => (evOs X es Γ).bind fun ds => .ok (d :: ds)
/-- arguments -/
def evAs (X : Fx) : List E → List OD → R (List (D × Bool))
  | [], _ => .ok []
  | e :: es, Γ => (argm (isPath e) (ev X e Γ true)).bind fun d => (evAs X es Γ).bind fun ds => .ok (d :: ds)
/-- a tuple's items -/
def evF (X : Fx) : List E → List OD → R (List D)
  | [], _ => .ok []
  | e :: es, Γ => (frz (ev X e Γ false)).bind fun d => (evF X es Γ).bind fun ds => .ok (d :: ds)
/-- a list's items -/
def evV (X : Fx) : List E → List OD → R (List OD)
  | [], _ => .ok []
  | e :: es, Γ => (ev X e Γ false).bind fun d => (evV X es Γ).bind fun ds => .ok (d :: ds)
/-- a comprehension's tests -/
def evC (X : Fx) : List E → List OD → R Bool
  | [], _ => .ok true
  | e :: es, Γ => (tru (ev X e Γ true)).bind fun b => if b then evC X es Γ else .ok false
end

/-! ### statements -/
inductive S where
  | ex (e : E)
  | asg (t : T) (e : E)
  | set (x : Nat) (i e : E)
  | set2 (x : Nat) (i j e : E)
  | app (x : Nat) (e : E)
  | pop (x : Nat)
  | ext (x : Nat) (e : E)
  | fld (f : Nat) (e : E)
  | aug (x : Nat) (op : Bop) (e : E)
  | augS (x : Nat) (i : E) (op : Bop) (e : E)
  | ret (e : E)
  | iff (c : E) (a b : List S)
  | whl (c : E) (b : List S)
  | forr (t : T) (it : E) (b : List S)
  | rais (c : Nat) (es : List E)
  | tryy (b : List S) (c : Nat) (x : Option Nat) (h : List S)
  /-- several except clauses; one of them -/
  | trym (b : List S) (hs : List S)
  | hdl (c : Nat) (x : Option Nat) (h : List S)
  | pass | cont | brk
  | frz (xs : List Nat)
  | frz2 (x : Nat)
  /-- t = f(x, ..), f changes the list of lists x -/
  | mcall (t : Nat) (f : Nat) (x : Nat) (es : List E)

inductive Fl | nx | rt (o : OD) | bk | ct
inductive XR where
  | ok (f : Fl) (Γ : List OD)
  | ex (c : Nat) (p : Option D) (Γ : List OD)
  | bad
def liftR {α : Type} (r : R α) (Γ : List OD) (f : α → XR) : XR := match r with
  | .ok a => f a
  | .ex c p => .ex c p Γ
  | .bad => .bad
def liftO {α : Type} (r : Option α) (f : α → XR) : XR := match r with
  | some a => f a
  | none => .bad
def XR.seq (r : XR) (f : List OD → XR) : XR := match r with
  | .ok .nx Γ => f Γ
  | r => r
@[simp] theorem liftR_ok {α : Type} (a : α) (Γ : List OD) (f : α → XR) : liftR (.ok a) Γ f = f a := nr rfl
@[simp] theorem liftR_ex {α : Type} (c : Nat) (p : Option D) (Γ : List OD) (f : α → XR) : liftR (.ex c p) Γ f = .ex c p Γ := nr rfl
@[simp] theorem liftR_bad {α : Type} (Γ : List OD) (f : α → XR) : liftR .bad Γ f = .bad := nr rfl
@[simp] theorem liftO_some {α : Type} (a : α) (f : α → XR) : liftO (some a) f = f a := nr rfl
@[simp] theorem liftO_none {α : Type} (f : α → XR) : liftO none f = .bad := nr rfl
@[simp] theorem seq_nx (Γ : List OD) (f : List OD → XR) : (XR.ok .nx Γ).seq f = f Γ := nr rfl
@[simp] theorem seq_rt (o : OD) (Γ : List OD) (f : List OD → XR) : (XR.ok (.rt o) Γ).seq f = .ok (.rt o) Γ := nr rfl
@[simp] theorem seq_bk (Γ : List OD) (f : List OD → XR) : (XR.ok .bk Γ).seq f = .ok .bk Γ := nr rfl
@[simp] theorem seq_ct (Γ : List OD) (f : List OD → XR) : (XR.ok .ct Γ).seq f = .ok .ct Γ := nr rfl
@[simp] theorem seq_ex (c : Nat) (p : Option D) (Γ : List OD) (f : List OD → XR) : (XR.ex c p Γ).seq f = .ex c p Γ := nr rfl
@[simp] theorem seq_bad (f : List OD → XR) : XR.bad.seq f = .bad := nr rfl

/-- a loop's turns over the items -/
def forL (body : List OD → XR) (t : T) : List D → List OD → XR
  | [], Γ => .ok .nx Γ
  | d :: ds, Γ => liftO (setT t (.fz d) Γ) fun Γ' => match body Γ' with
    | .ok .nx Γ2 => forL body t ds Γ2
    | .ok .ct Γ2 => forL body t ds Γ2
    | .ok .bk Γ2 => .ok .nx Γ2
    | r => r
def whlL (test : List OD → R Bool) (body : List OD → XR) : Nat → List OD → XR
  | 0, _ => .bad
  | n + 1, Γ => liftR (test Γ) Γ fun b => if b then (match body Γ with
    | .ok .nx Γ2 => whlL test body n Γ2
    | .ok .ct Γ2 => whlL test body n Γ2
    | .ok .bk Γ2 => .ok .nx Γ2
    | r => r) else .ok .nx Γ
def frzAt (Γ : List OD) (x : Nat) : Option (List OD) := match Γ[x]? with
  | some o => o.toD.map fun d => Γ.set x (.fz d)
  | none => none
def frzAll : List Nat → List OD → Option (List OD)
  | [], Γ => some Γ
  | x :: xs, Γ => (frzAt Γ x).bind (frzAll xs)
/-- x[i] = v -/
def rowO : OD → Option (Bool × List D)
  | .own ds => some (false, ds)
  | .fz (.lst ds) => some (true, ds)
  | _ => none
def setAt (Γ : List OD) (x : Nat) (j : Int) (o : OD) : Option (List OD) := match Γ[x]? with
  | some (.own ds) => (ixN ds.length j).bind fun k => o.toD.map fun d => Γ.set x (.own (ds.set k d))
  | some (.own2 p rs) => (ixN rs.length j).bind fun k => (rowO o).map fun r => Γ.set x (.own2 p (rs.set k r))
  | _ => none
def set2At (Γ : List OD) (x : Nat) (i j : Int) (o : OD) : Option (List OD) := match Γ[x]? with
  | some (.own2 p rs) => (ixN rs.length i).bind fun k => (match rs[k]? with
    | some (false, ds) => (ixN ds.length j).bind fun l => o.toD.map fun d => Γ.set x (.own2 p (rs.set k (false, ds.set l d)))
    | _ => none)
  | _ => none
/-- row i is a list of one's own -/
def row2 (Γ : List OD) (x : Nat) (i : Int) : Bool := match Γ[x]? with
  | some (.own2 _ rs) => (match ixN rs.length i with
    | some k => (match rs[k]? with
      | some (false, _) => true
      | _ => false)
    | none => false)
  | _ => false
/-- all rows are shared from now on -/
def frz2At (Γ : List OD) (x : Nat) : Option (List OD) := match Γ[x]? with
  | some (.own2 p rs) => some (Γ.set x (.own2 p (rs.map fun r => (true, r.2))))
  | some _ => some Γ
  | none => none
/-- a list of one's own -/
def ownAt (Γ : List OD) (x : Nat) : Bool := match Γ[x]? with
  | some (.own _) => true
  | some (.own2 _ _) => true
  | _ => false
def appAt (Γ : List OD) (x : Nat) (o : OD) : Option (List OD) := match Γ[x]? with
  | some (.own ds) => if ds.length < line then o.toD.map fun d => Γ.set x (.own (ds ++ [d])) else none
  | some (.own2 p rs) => if rs.length < line then (rowO o).map fun r => Γ.set x (.own2 p (rs ++ [r])) else none
  | _ => none
def popAt (Γ : List OD) (x : Nat) : Option (List OD) := match Γ[x]? with
  | some (.own ds) => if ds = [] then none else some (Γ.set x (.own ds.dropLast))
  | _ => none
def extAt (Γ : List OD) (x : Nat) (ys : List D) : Option (List OD) := match Γ[x]? with
  | some (.own ds) => if ds.length + ys.length ≤ line then some (Γ.set x (.own (ds ++ ys))) else none
  | _ => none
def fldAt (fld : Nat → Nat → Option Nat) (Γ : List OD) (f : Nat) (o : OD) : Option (List OD) := match Γ with
  | .oi c fs :: Γ' => if fs.length < 100 ∧ fld c f = some fs.length then o.toD.map fun d => .oi c (fs ++ [(f, d)]) :: Γ' else none
  | _ => none
/-- a name handed back moves -/
def retE (X : Fx) (e : E) (Γ : List OD) : R OD := match e with
  | .var i => varD Γ[i]? true
  | e => ev X e Γ false

def noXv : OD → Bool
  | .xv _ _ => false
  | _ => true
def clrAt (x : Option Nat) (Γ : List OD) : List OD := match x with
  | some i => Γ.set i .un
  | none => Γ
def flNoXv : Fl → Bool
  | .rt o => noXv o
  | _ => true
/-- behind an except suite -/
def noXvR (x : Option Nat) : XR → XR
  | .ok f Γ => if (clrAt x Γ).all noXv && flNoXv f then .ok f (clrAt x Γ) else .bad
  | _ => .bad
structure Gx extends Fx where
  wide : Nat
  /-- defs that change their first argument -/
  mcall : Nat → List (Bool × List D) → List D → R (D × List (Bool × List D))
  /-- what is at hand while an error is handled -/
  hot : Fx
def mvO (Γ : List OD) : E → R OD
  | .var i => R.ofO Γ[i]?
  | _ => .bad

def hdlOf : S → Option (Nat × Option Nat)
  | .hdl c x _ => some (c, x)
  | _ => none
mutual
def exec : S → Gx → List OD → XR
  | .ex e, X, Γ => liftR (ev X.toFx e Γ true) Γ fun _ => .ok .nx Γ
  | .asg t e, X, Γ => if !X.calm && t.isT then .bad else liftR (ev X.toFx e Γ false) Γ fun o => liftO (setT t o Γ) fun Γ' => .ok .nx Γ'
  | .set x i e, X, Γ => if !ownAt Γ x then .bad else liftR (ev X.toFx e Γ false) Γ fun o => liftR (asI (oper (isPath i) (ev X.toFx i Γ true))) Γ fun j => liftO (setAt Γ x j o) fun Γ' => .ok .nx Γ'
  | .set2 x i j e, X, Γ => if !ownAt Γ x then .bad else liftR (ev X.toFx e Γ false) Γ fun o => liftR (asI (oper (isPath i) (ev X.toFx i Γ true))) Γ fun a => if row2 Γ x a = false then .bad else liftR (asI (oper (isPath j) (ev X.toFx j Γ true))) Γ fun b =>
      liftO (set2At Γ x a b o) fun Γ' => .ok .nx Γ'
  | .app x e, X, Γ => if !ownAt Γ x then .bad else liftR (ev X.toFx e Γ false) Γ fun o => liftO (appAt Γ x o) fun Γ' => .ok .nx Γ'
  | .pop x, X, Γ => liftO (popAt Γ x) fun Γ' => .ok .nx Γ'
  | .ext x e, X, Γ => if !ownAt Γ x then .bad else liftR (itemsR (oper (isPath e) (ev X.toFx e Γ true))) Γ fun ds => liftO (extAt Γ x ds) fun Γ' => .ok .nx Γ'
  | .fld f e, X, Γ => if X.calm = false then .bad else liftR (ev X.toFx e Γ false) Γ fun o => liftO (fldAt X.fld Γ f o) fun Γ' => .ok .nx Γ'
  | .aug x op e, X, Γ => liftR (asI (oper true (varD Γ[x]? true))) Γ fun i => liftR (asI (oper (isPath e) (ev X.toFx e Γ true))) Γ fun j => liftR (binD op (.int i) (.int j)) Γ fun o => liftO (setT (.n x) o Γ) fun Γ' => .ok .nx Γ'
  | .augS x i op e, X, Γ => liftR (asI (oper (isPath i) (ev X.toFx i Γ true))) Γ fun j => liftR (asI (oper true (subD true true (Γ.getD x .un) j))) Γ fun a =>
      liftR (asI (oper (isPath e) (ev X.toFx e Γ true))) Γ fun b => liftR (binD op (.int a) (.int b)) Γ fun o => liftO (setAt Γ x j o) fun Γ' => .ok .nx Γ'
  | .ret e, X, Γ => liftR (retE X.toFx e Γ) Γ fun o => .ok (.rt o) Γ
  | .iff c a b, X, Γ => liftR (tru (ev X.toFx c Γ true)) Γ fun t => if t then execs a X Γ else execs b X Γ
  | .whl c b, X, Γ => if X.calm = false then .bad else whlL (fun Γ => tru (ev X.toFx c Γ true)) (fun Γ => execs b X Γ) X.wide Γ
  | .forr t it b, X, Γ => if X.calm = false then .bad else liftR (itemsR (frz (ev X.toFx it Γ false))) Γ fun ds => forL (fun Γ => execs b X Γ) t ds Γ
  | .rais c es, X, Γ => if X.calm = false then .bad else liftR (evF X.toFx es Γ) Γ fun ds => .ex c (if (X.xf c).isSome then (match ds with
      | [d] => some d
      | _ => none) else none) Γ
  | .tryy b c x h, X, Γ => if X.calm = false then .bad else match execs b X Γ with
      | .ex k p Γ' => if X.sub k (.exc c) then (match x with
        | none => noXvR none (execs h { X with toFx := X.hot } Γ')
        | some i => if i < Γ'.length then noXvR (some i) (execs h { X with toFx := X.hot } (Γ'.set i (.xv k p))) else .bad) else .ex k p Γ'
      | r => r
  | .hdl _ _ h, X, Γ => execs h X Γ
  | .trym b hs, X, Γ => if X.calm = false then .bad else match execs b X Γ with
      | .ex k p Γ' => execH hs X k p Γ'
      | r => r
  | .pass, _, Γ => .ok .nx Γ
  | .cont, _, Γ => .ok .ct Γ
  | .brk, _, Γ => .ok .bk Γ
  | .frz xs, _, Γ => liftO (frzAll xs Γ) fun Γ' => .ok .nx Γ'
  | .frz2 x, _, Γ => liftO (frz2At Γ x) fun Γ' => .ok .nx Γ'
  | .mcall t f x es, X, Γ => if X.calm = false then .bad else match Γ[x]? with
    | some (.own2 p rs) => liftR (evAs X.toFx es (Γ.set x .un)) (Γ.set x .un) fun as => if as.any (·.2) then .bad else (match X.mcall f rs (as.map (·.1)) with
      | .ok (d, rs') => if t = x then .bad else liftO (setT (.n t) (.fz d) (Γ.set x (.own2 p rs'))) fun Γ' => .ok .nx Γ'
      | _ => .bad)
    | _ => .bad
def execs : List S → Gx → List OD → XR
  | [], _, Γ => .ok .nx Γ
  | s :: ss, X, Γ => (exec s X Γ).seq fun Γ' => execs ss X Γ'
def execH : List S → Gx → Nat → Option D → List OD → XR
  | [], _, k, p, Γ => .ex k p Γ
  | s :: ss, X, k, p, Γ => match hdlOf s with
    | some (c, x) => if X.sub k (.exc c) then (match x with
      | none => noXvR none (exec s { X with toFx := X.hot } Γ)
      | some i => if i < Γ.length then noXvR (some i) (exec s { X with toFx := X.hot } (Γ.set i (.xv k p))) else .bad) else execH ss X k p Γ
    | none => .bad
end

/-! ### programs -/
/-- a def: how many parameters, how many names, the defaults (for the last positional ones), keyword-only parameters with their defaults (behind the positional ones), the body -/
structure Fn where
  np : Nat
  nn : Nat
  dfl : List D
  kwo : List (Nat × D)
  body : List S
structure Cl where
  init : Nat
  flds : List Nat
  meths : List (Nat × Nat)
/-- an error's class: the classes above it (own ones, by number), its field -/
structure Xc where
  up : List Nat
  fld : Option Nat
structure Prog where
  fn : Nat → Option Fn
  cl : Nat → Option Cl
  xc : Nat → Option Xc
  gv : Nat → Option D
  wide : Nat

/-- the parameters' values: the written ones, keywords, defaults -/
def bindA (f : Fn) (as : List D) (ks : List Nat) (bs : List D) : Option (List D) :=
  let np := f.np - f.kwo.length
  if np < as.length then none else
  let need := np - as.length
  if f.dfl.length < need then none else
  if !ks.all (fun k => f.kwo.any fun q => q.1 == k) then none else
  some (as ++ f.dfl.drop (f.dfl.length - need) ++ f.kwo.map fun q => match ks.findIdx? (· == q.1) with
    | some i => bs.getD i .non
    | none => q.2)
def Prog.sub (P : Prog) (k : Nat) : Ty → Bool
  | .exc c => k == c || (match P.xc k with
    | some x => x.up.contains c
    | none => false)
  | .verr => true
  | .tnone => (P.cl k).isSome
  | _ => false
def Prog.fld (P : Prog) (c f : Nat) : Option Nat := (P.cl c).bind fun q => q.flds.findIdx? (· == f)
def Prog.xf (P : Prog) (c : Nat) : Option Nat := (P.xc c).bind (·.fld)
def Prog.meth (P : Prog) (c m : Nat) : Option Nat := (P.cl c).bind fun q => q.meths.lookup m
def start (f : Fn) (as : List OD) : List OD := as ++ List.replicate (f.nn - as.length) .un

def outR (r : XR) : R OD := match r with
  | .ok (.rt o) _ => .ok o
  | .ok .nx _ => .ok (.fz .non)
  | .ex c p _ => .ex c p
  | _ => .bad
/-- behind __init__: the instance as data -/
def outI (P : Prog) (c : Nat) (r : XR) : R OD := match r with
  | .ok fl Γ => (match fl, Γ, P.cl c with
    | .nx, (.oi k fs) :: _, some q => if k = c ∧ fs.map (·.1) = q.flds then .ok (.fz (.obj c (fs.map (·.2)))) else .bad
    | _, _, _ => .bad)
  | .ex c p _ => .ex c p
  | _ => .bad

/-- behind a def that changed its first argument -/
def outM (r : XR) : R (D × List (Bool × List D)) := match r with
  | .ok (.rt (.fz d)) (.own2 true rs :: _) => .ok (d, rs)
  | _ => .bad
/-- while an error is handled no def lets another one out -/
def okR : R OD → R OD
  | .ok o => .ok o
  | _ => .bad
/-- what is at hand at depth n -/
def Prog.gx (P : Prog) : Nat → Gx
  | 0 => { call := fun _ _ _ _ => .bad, make := fun _ _ => .bad, meth := P.meth, gv := P.gv, fld := P.fld, sub := P.sub, xf := P.xf, calm := true, wide := P.wide, mcall := fun _ _ _ => .bad,
           hot := { call := fun _ _ _ _ => .bad, make := fun _ _ => .bad, meth := P.meth, gv := P.gv, fld := P.fld, sub := P.sub, xf := P.xf, calm := false } }
  | n + 1 => { call := fun f as ks bs => match P.fn f with
                 | some F => (match bindA F as ks bs with
                   | some vs => outR (execs F.body (P.gx n) (start F (vs.map .fz)))
                   | none => .bad)
                 | none => .bad
               make := fun c as => match P.cl c with
                 | some C => (match P.fn C.init with
                   | some F => (match bindA F (.non :: as) [] [] with
                     | some vs => outI P c (execs F.body (P.gx n) (start F (.oi c [] :: vs.tail.map .fz)))
                     | none => .bad)
                   | none => .bad)
                 | none => .bad
               meth := P.meth, gv := P.gv, fld := P.fld, sub := P.sub, xf := P.xf, calm := true, wide := P.wide
               mcall := fun f rs as => match P.fn f with
                 | some F => (match bindA F (.non :: as) [] [] with
                   | some vs => outM (execs F.body (P.gx n) (start F (.own2 true rs :: vs.tail.map .fz)))
                   | none => .bad)
                 | none => .bad
               hot := { call := fun f as ks bs => match P.fn f with
                          | some F => (match bindA F as ks bs with
                            | some vs => okR (outR (execs F.body { P.gx n with toFx := (P.gx n).hot } (start F (vs.map .fz))))
                            | none => .bad)
                          | none => .bad
                        make := fun _ _ => .bad, meth := P.meth, gv := P.gv, fld := P.fld, sub := P.sub, xf := P.xf, calm := false } }
def Prog.call (P : Prog) (n f : Nat) (as : List D) : R OD := (P.gx n).call f as [] []

end MP

end

section
set_option Elab.async false
set_option linter.all false
set_option maxRecDepth 100000
namespace MP
open PySem L2

/-! ### data and values -/
def strOf (x : List Nat) : Str := ⟨x.toArray⟩
/-- the world: the written part, names, classes -/
structure Wd where
  K : PySem.W.Frag
  nm : Nat → Str
  P : MP.Prog
  /-- the instance that is being made -/
  self : Addr
  /-- where a def stands: a global's name, or a class's and a method's -/
  loc : Nat → Str × Option Str
def Wd.at (w : Wd) (x : Addr) : Wd := { w with self := x }
abbrev Wd.cad (w : Wd) (c : Nat) : Addr := He.ga w.K (w.nm c)
abbrev Wd.fad (w : Wd) (f : Nat) : Addr := He.fAd w.K (w.loc f)
def Wd.flds (w : Wd) (c : Nat) : List Str := match w.P.cl c with
  | some q => q.flds.map w.nm
  | none => []
section
variable (w : Wd)
mutual
def Rep (H : Hp) : D → V → Prop
  | .non, v => v = .non
  | .bl b, v => v = .bl b
  | .int i, v => v = .int i
  | .str x, v => v = .str (strOf x)
  | .tup ds, v => ∃ a vs, v = .ref a ∧ SqT w.K H a vs ∧ Reps H ds vs
  | .lst ds, v => ∃ a vs, v = .ref a ∧ Rd H a (.lst vs) ∧ Reps H ds vs
  | .obj c ds, v => ∃ a dx vs, v = .ref a ∧ H a = some (.ins (w.cad c) dx ((w.flds c).zip vs)) ∧ (w.flds c).length = vs.length ∧ Reps H ds vs
  | .scr ns, v => ∃ a, v = .ref a ∧ SqL w.K H a (ns.map V.int)
def Reps (H : Hp) : List D → List V → Prop
  | [], vs => vs = []
  | d :: ds, vs => ∃ v r, vs = v :: r ∧ Rep H d v ∧ Reps H ds r
end
/-- the heap has grown -/
def Le (H H' : Hp) : Prop := ∀ a o, H a = some o → H' a = some o
theorem Le.refl (H : Hp) : Le H H := fun _ _ e => e
theorem Le.trans {H H1 H2 : Hp} (a : Le H H1) (b : Le H1 H2) : Le H H2 := fun x o e => b x o (a x o e)
/-- what may not change has grown by new things -/
structure Ext (H Hf Hf' : Hp) : Prop where
  le : Le Hf Hf'
  old : ∀ a, H a ≠ none → Hf' a = Hf a
theorem Le.rd {H H' : Hp} (l : Le H H') {a : Addr} {u : HO} (h : Rd H a u) : Rd H' a u := by
  rcases h with h | ⟨o, h⟩
  · exact .inl (l _ _ h)
  · exact .inr ⟨o, l _ _ h⟩
theorem Le.sqT {H H' : Hp} (l : Le H H') {a : Addr} {xs : List V} (h : SqT w.K H a xs) : SqT w.K H' a xs := by
  rcases h with (h | ⟨o, h⟩) | h
  · exact .inl (.inl (l _ _ h))
  · exact .inl (.inr ⟨o, l _ _ h⟩)
  · exact .inr h
theorem Le.sqL {H H' : Hp} (l : Le H H') {a : Addr} {xs : List V} (h : SqL w.K H a xs) : SqL w.K H' a xs := by
  rcases h with (h | ⟨o, h⟩) | h
  · exact .inl (.inl (l _ _ h))
  · exact .inl (.inr ⟨o, l _ _ h⟩)
  · exact .inr h
mutual
theorem Rep.mono {H H' : Hp} (l : Le H H') : ∀ (d : D) (v : V), Rep w H d v → Rep w H' d v
  | .non, _, h => h
  | .bl _, _, h => h
  | .int _, _, h => h
  | .str _, _, h => h
  | .tup ds, v, h => by
    unfold Rep at h ⊢
    obtain ⟨a, vs, e, s, r⟩ := h
    exact ⟨a, vs, e, l.sqT w s, Reps.mono l ds vs r⟩
  | .lst ds, v, h => by
    unfold Rep at h ⊢
    obtain ⟨a, vs, e, s, r⟩ := h
    exact ⟨a, vs, e, l.rd s, Reps.mono l ds vs r⟩
  | .obj c ds, v, h => by
    unfold Rep at h ⊢
    obtain ⟨a, dx, vs, e, s, z, r⟩ := h
    exact ⟨a, dx, vs, e, l _ _ s, z, Reps.mono l ds vs r⟩
  | .scr ns, v, h => by
    unfold Rep at h ⊢
    obtain ⟨a, e, s⟩ := h
    exact ⟨a, e, l.sqL w s⟩
theorem Reps.mono {H H' : Hp} (l : Le H H') : ∀ (ds : List D) (vs : List V), Reps w H ds vs → Reps w H' ds vs
  | [], _, h => h
  | d :: ds, vs, h => by
    unfold Reps at h ⊢
    obtain ⟨v, r, e, h1, h2⟩ := h
    exact ⟨v, r, e, Rep.mono l d v h1, Reps.mono l ds r h2⟩
end
variable {w}
theorem Rep.int_iff {H : Hp} {i : Int} {v : V} : Rep w H (.int i) v ↔ v = .int i := by unfold Rep; exact Iff.rfl
theorem Rep.bl_iff {H : Hp} {b : Bool} {v : V} : Rep w H (.bl b) v ↔ v = .bl b := by unfold Rep; exact Iff.rfl
theorem Rep.non_iff {H : Hp} {v : V} : Rep w H .non v ↔ v = .non := by unfold Rep; exact Iff.rfl
theorem Rep.str_iff {H : Hp} {x : List Nat} {v : V} : Rep w H (.str x) v ↔ v = .str (strOf x) := by unfold Rep; exact Iff.rfl
theorem Rep.tup_iff {H : Hp} {ds : List D} {v : V} : Rep w H (.tup ds) v ↔ ∃ a vs, v = .ref a ∧ SqT w.K H a vs ∧ Reps w H ds vs := by unfold Rep; exact Iff.rfl
theorem Rep.lst_iff {H : Hp} {ds : List D} {v : V} : Rep w H (.lst ds) v ↔ ∃ a vs, v = .ref a ∧ Rd H a (.lst vs) ∧ Reps w H ds vs := by unfold Rep; exact Iff.rfl
theorem Rep.obj_iff {H : Hp} {c : Nat} {ds : List D} {v : V} : Rep w H (.obj c ds) v ↔ ∃ a dx vs, v = .ref a ∧ H a = some (.ins (w.cad c) dx ((w.flds c).zip vs)) ∧ (w.flds c).length = vs.length ∧ Reps w H ds vs := by unfold Rep; exact Iff.rfl
theorem Rep.scr_iff {H : Hp} {ns : List Int} {v : V} : Rep w H (.scr ns) v ↔ ∃ a, v = .ref a ∧ SqL w.K H a (ns.map V.int) := by unfold Rep; exact Iff.rfl
theorem Reps.nil_iff {H : Hp} {vs : List V} : Reps w H [] vs ↔ vs = [] := by unfold Reps; exact Iff.rfl
theorem Reps.cons_iff {H : Hp} {d : D} {ds : List D} {vs : List V} : Reps w H (d :: ds) vs ↔ ∃ v r, vs = v :: r ∧ Rep w H d v ∧ Reps w H ds r := by rw [Reps]
theorem Reps.length {H : Hp} : ∀ {ds : List D} {vs : List V}, Reps w H ds vs → vs.length = ds.length
  | [], vs, h => by rw [Reps.nil_iff.mp h]; rfl
  | d :: ds, vs, h => by
    obtain ⟨v, r, rfl, _, h2⟩ := Reps.cons_iff.mp h
    rw [List.length_cons, List.length_cons, Reps.length h2]
theorem Reps.get {H : Hp} : ∀ {ds : List D} {vs : List V} {i : Nat} {d : D}, Reps w H ds vs → ds[i]? = some d → ∃ v, vs[i]? = some v ∧ Rep w H d v
  | [], _, _, _, _, e => by simp at e
  | d :: ds, vs, i, x, h, e => by
    obtain ⟨v, r, rfl, h1, h2⟩ := Reps.cons_iff.mp h
    cases i with
    | zero =>
      simp at e
      subst e
      exact ⟨v, by simp, h1⟩
    | succ i =>
      obtain ⟨u, h3, h4⟩ := Reps.get (i := i) h2 (by simpa using e)
      exact ⟨u, by simpa using h3, h4⟩
theorem Reps.append {H : Hp} : ∀ {ds es : List D} {vs us : List V}, Reps w H ds vs → Reps w H es us → Reps w H (ds ++ es) (vs ++ us)
  | [], _, vs, us, h, k => by rw [Reps.nil_iff.mp h]; exact k
  | d :: ds, es, vs, us, h, k => by
    obtain ⟨v, r, rfl, h1, h2⟩ := Reps.cons_iff.mp h
    exact Reps.cons_iff.mpr ⟨v, r ++ us, rfl, h1, Reps.append h2 k⟩
theorem Reps.take {H : Hp} : ∀ {ds : List D} {vs : List V} (n : Nat), Reps w H ds vs → Reps w H (ds.take n) (vs.take n)
  | _, _, 0, _ => Reps.nil_iff.mpr rfl
  | [], vs, n + 1, h => by rw [Reps.nil_iff.mp h]; exact Reps.nil_iff.mpr rfl
  | d :: ds, vs, n + 1, h => by
    obtain ⟨v, r, rfl, h1, h2⟩ := Reps.cons_iff.mp h
    exact Reps.cons_iff.mpr ⟨v, r.take n, rfl, h1, Reps.take n h2⟩
theorem Reps.drop {H : Hp} : ∀ {ds : List D} {vs : List V} (n : Nat), Reps w H ds vs → Reps w H (ds.drop n) (vs.drop n)
  | _, _, 0, h => h
  | [], vs, n + 1, h => by rw [Reps.nil_iff.mp h]; exact Reps.nil_iff.mpr rfl
  | d :: ds, vs, n + 1, h => by
    obtain ⟨v, r, rfl, h1, h2⟩ := Reps.cons_iff.mp h
    exact Reps.drop n h2
theorem Reps.set {H : Hp} {d : D} {v : V} (h : Rep w H d v) : ∀ {ds : List D} {vs : List V} (i : Nat), Reps w H ds vs → Reps w H (ds.set i d) (vs.set i v)
  | [], vs, i, k => by rw [Reps.nil_iff.mp k]; exact Reps.nil_iff.mpr rfl
  | x :: ds, vs, i, k => by
    obtain ⟨u, r, rfl, h1, h2⟩ := Reps.cons_iff.mp k
    cases i with
    | zero => exact Reps.cons_iff.mpr ⟨v, r, rfl, h, h2⟩
    | succ i => exact Reps.cons_iff.mpr ⟨u, r.set i v, rfl, h1, Reps.set h i h2⟩
theorem Reps.ints {H : Hp} : ∀ {ds : List D} {vs : List V} {ns : List Int}, Reps w H ds vs → D.ints ds = some ns → vs = ns.map V.int
  | [], vs, ns, h, e => by
    rw [Reps.nil_iff.mp h]
    cases e
    rfl
  | d :: ds, vs, ns, h, e => by
    obtain ⟨v, r, rfl, h1, h2⟩ := Reps.cons_iff.mp h
    cases d with
    | int i =>
      rw [D.ints] at e
      cases q : D.ints ds with
      | none => rw [q] at e; cases e
      | some ms =>
        rw [q] at e
        cases e
        rw [Rep.int_iff.mp h1, Reps.ints h2 q]
        rfl
    | _ => cases e
theorem Reps.bls {H : Hp} : ∀ {ds : List D} {vs : List V} {ns : List Bool}, Reps w H ds vs → D.bls ds = some ns → vs = ns.map V.bl
  | [], vs, ns, h, e => by
    rw [Reps.nil_iff.mp h]
    cases e
    rfl
  | d :: ds, vs, ns, h, e => by
    obtain ⟨v, r, rfl, h1, h2⟩ := Reps.cons_iff.mp h
    cases d with
    | bl i =>
      rw [D.bls] at e
      cases q : D.bls ds with
      | none => rw [q] at e; cases e
      | some ms =>
        rw [q] at e
        cases e
        rw [Rep.bl_iff.mp h1, Reps.bls h2 q]
        rfl
    | _ => cases e
theorem Reps.of_ints {H : Hp} : ∀ (ns : List Int), Reps w H (ns.map .int) (ns.map V.int)
  | [] => Reps.nil_iff.mpr rfl
  | n :: ns => Reps.cons_iff.mpr ⟨_, _, rfl, Rep.int_iff.mpr rfl, Reps.of_ints ns⟩

/-! ### what a name holds -/
/-- xv: what a caught error's value is -/
abbrev XV := Nat → Option D → V → Hp → Prop
variable (w) in
def RepRows (H Hf : Hp) : List (Bool × List D) → List V → List Addr → Prop
  | [], vs, as => vs = [] ∧ as = []
  | (true, ds) :: rs, vs, as => ∃ v r, vs = v :: r ∧ Rep w Hf (.lst ds) v ∧ RepRows H Hf rs r as
  | (false, ds) :: rs, vs, as => ∃ a us r as', vs = .ref a :: r ∧ as = a :: as' ∧ H a = some (.lst us) ∧ Hf a = none ∧ Reps w Hf ds us ∧ RepRows H Hf rs r as'
variable (w) in
def RepFs (Hf : Hp) : List (Nat × D) → List (Str × V) → Prop
  | [], vs => vs = []
  | (f, d) :: fs, vs => ∃ v r, vs = (w.nm f, v) :: r ∧ Rep w Hf d v ∧ RepFs Hf fs r
/-- what is known of an instance that is being made -/
def OiX (w : Wd) (c : Nat) (fs : List (Nat × D)) (a : Addr) : Prop := a = w.self ∧ ∃ q, w.P.cl c = some q ∧ fs.map (·.1) <+: q.flds
variable (w) in
def RepO (xv : XV) (H Hf : Hp) : OD → V → List Addr → Prop
  | .un, _, as => as = []
  | .fz d, v, as => as = [] ∧ Rep w Hf d v
  | .own ds, v, as => ∃ a vs, v = .ref a ∧ as = [a] ∧ H a = some (.lst vs) ∧ Hf a = none ∧ Reps w Hf ds vs
  | .own2 p rs, v, as => ∃ a vs as', v = .ref a ∧ as = a :: as' ∧ H a = some (.lst vs) ∧ Hf a = none ∧ RepRows w H Hf rs vs as' ∧ (p = true → a = w.self)
  | .oi c fs, v, as => ∃ a dx fvs, v = .ref a ∧ as = [a] ∧ H a = some (.ins (w.cad c) dx fvs) ∧ Hf a = none ∧ RepFs w Hf fs fvs ∧ OiX w c fs a
  | .xv c p, v, as => as = [] ∧ xv c p v Hf
/-- from one state to a later one, where all that is tracked stands -/
structure Gr (H Hf H' Hf' : Hp) : Prop where
  le : Le H H'
  ext : Ext H Hf Hf'
  lf : Le Hf' H'
theorem Gr.refl {H Hf : Hp} (l : Le Hf H) : Gr H Hf H Hf := ⟨Le.refl H, ⟨Le.refl Hf, fun _ _ => rfl⟩, l⟩
theorem Gr.trans {H Hf H1 Hf1 H2 Hf2 : Hp} (a : Gr H Hf H1 Hf1) (b : Gr H1 Hf1 H2 Hf2) : Gr H Hf H2 Hf2 :=
  ⟨a.le.trans b.le, ⟨a.ext.le.trans b.ext.le, fun x h => by
    have h1 : H1 x ≠ none := fun e => by
      cases q : H x with
      | none => exact h q
      | some o => rw [a.le x o q] at e; cases e
    rw [b.ext.old x h1, a.ext.old x h]⟩, b.lf⟩
theorem Ext.none {H Hf Hf' : Hp} (e : Ext H Hf Hf') {a : Addr} {o : HO} (h : H a = some o) (n : Hf a = none) : Hf' a = none := by
  rw [e.old a (by rw [h]; exact fun q => nomatch q), n]
/-- what a caught error's value is stays so -/
def XvOk (xv : XV) : Prop := ∀ c p v Hf Hf', Le Hf Hf' → xv c p v Hf → xv c p v Hf'
theorem RepRows.mono {H Hf H' Hf' : Hp} (g : Gr H Hf H' Hf') : ∀ {rs : List (Bool × List D)} {vs : List V} {as : List Addr}, RepRows w H Hf rs vs as → RepRows w H' Hf' rs vs as
  | [], _, _, h => h
  | (true, ds) :: rs, vs, as, h => by
    obtain ⟨v, r, e, h1, h2⟩ := h
    exact ⟨v, r, e, Rep.mono w g.ext.le _ _ h1, RepRows.mono g h2⟩
  | (false, ds) :: rs, vs, as, h => by
    obtain ⟨a, us, r, as', e1, e2, h1, h2, h3, h4⟩ := h
    exact ⟨a, us, r, as', e1, e2, g.le _ _ h1, g.ext.none h1 h2, Reps.mono w g.ext.le _ _ h3, RepRows.mono g h4⟩
theorem RepFs.mono {Hf Hf' : Hp} (l : Le Hf Hf') : ∀ {fs : List (Nat × D)} {vs : List (Str × V)}, RepFs w Hf fs vs → RepFs w Hf' fs vs
  | [], _, h => h
  | (f, d) :: fs, vs, h => by
    obtain ⟨v, r, e, h1, h2⟩ := h
    exact ⟨v, r, e, Rep.mono w l _ _ h1, RepFs.mono l h2⟩
theorem RepO.mono {xv : XV} (hx : XvOk xv) {H Hf H' Hf' : Hp} (g : Gr H Hf H' Hf') {o : OD} {v : V} {as : List Addr} (h : RepO w xv H Hf o v as) : RepO w xv H' Hf' o v as := by
  cases o with
  | un => exact h
  | fz d => exact ⟨h.1, Rep.mono w g.ext.le _ _ h.2⟩
  | own ds =>
    obtain ⟨a, vs, e1, e2, h1, h2, h3⟩ := h
    exact ⟨a, vs, e1, e2, g.le _ _ h1, g.ext.none h1 h2, Reps.mono w g.ext.le _ _ h3⟩
  | own2 p rs =>
    obtain ⟨a, vs, as', e1, e2, h1, h2, h3, hp⟩ := h
    exact ⟨a, vs, as', e1, e2, g.le _ _ h1, g.ext.none h1 h2, h3.mono g, hp⟩
  | oi c fs =>
    obtain ⟨a, dx, fvs, e1, e2, h1, h2, h3⟩ := h
    exact ⟨a, dx, fvs, e1, e2, g.le _ _ h1, g.ext.none h1 h2, h3.1.mono g.ext.le, h3.2⟩
  | xv c p => exact ⟨h.1, hx _ _ _ _ _ g.ext.le h.2⟩
/-- the names' values, for reading -/
def Slots (w : Wd) (xv : XV) (H Hf : Hp) (Γ : List OD) (σ : L2.St) : Prop := ∀ (i : Nat) (o : OD), Γ[i]? = some o → o ≠ .un → ∃ v as, σ[i]? = some (some v) ∧ RepO w xv H Hf o v as ∧ as.Nodup
theorem Slots.mono {xv : XV} (hx : XvOk xv) {H Hf H' Hf' : Hp} (g : Gr H Hf H' Hf') {Γ : List OD} {σ : L2.St} (h : Slots w xv H Hf Γ σ) : Slots w xv H' Hf' Γ σ := fun i o e n => by
  obtain ⟨v, as, e1, r, nd⟩ := h i o e n
  exact ⟨v, as, e1, r.mono hx g, nd⟩
end
end MP
namespace MP
open PySem PySem.Spec L2
mutual
theorem Rep_atI (w : Wd) (x : Addr) (H : Hp) : ∀ (d : D) (v : V), Rep (w.at x) H d v ↔ Rep w H d v
  | .non, v => by rw [Rep, Rep]
  | .bl b, v => by rw [Rep, Rep]
  | .int i, v => by rw [Rep, Rep]
  | .str s, v => by rw [Rep, Rep]
  | .tup ds, v => by
    rw [Rep, Rep]
    exact exists_congr fun a => exists_congr fun vs => and_congr Iff.rfl (and_congr Iff.rfl (Reps_atI w x H ds vs))
  | .lst ds, v => by
    rw [Rep, Rep]
    exact exists_congr fun a => exists_congr fun vs => and_congr Iff.rfl (and_congr Iff.rfl (Reps_atI w x H ds vs))
  | .obj c ds, v => by
    rw [Rep, Rep]
    exact exists_congr fun a => exists_congr fun dx => exists_congr fun vs => and_congr Iff.rfl (and_congr Iff.rfl (and_congr Iff.rfl (Reps_atI w x H ds vs)))
  | .scr ns, v => by
    rw [Rep, Rep]
    exact Iff.rfl
theorem Reps_atI (w : Wd) (x : Addr) (H : Hp) : ∀ (ds : List D) (vs : List V), Reps (w.at x) H ds vs ↔ Reps w H ds vs
  | [], vs => by rw [Reps, Reps]
  | d :: ds, vs => by
    rw [Reps, Reps]
    exact exists_congr fun v => exists_congr fun r => and_congr Iff.rfl (and_congr (Rep_atI w x H d v) (Reps_atI w x H ds r))
end
theorem Rep_at (w : Wd) (x : Addr) : Rep (w.at x) = Rep w := funext fun H => funext fun d => funext fun v => propext (Rep_atI w x H d v)
theorem Reps_at (w : Wd) (x : Addr) : Reps (w.at x) = Reps w := funext fun H => funext fun d => funext fun v => propext (Reps_atI w x H d v)
end MP

end

section
set_option Elab.async false
set_option linter.all false
set_option maxRecDepth 100000
namespace MP
open PySem PySem.Spec L2
section
variable {w : Wd} {xv : XV} {X : Cx}
/-! ### what an evaluation leaves -/
/-- o is what v stands for; p: it may be a name's own -/
def Res (w : Wd) (xv : XV) (H0 H Hf : Hp) (p : Bool) (o : OD) (v : V) : Prop := ∃ as, RepO w xv H Hf o v as ∧ as.Nodup ∧ (p = false → ∀ a ∈ as, H0 a = none)
theorem res_fz {H0 H Hf : Hp} {p : Bool} {d : D} {v : V} (h : Rep w Hf d v) : Res w xv H0 H Hf p (.fz d) v := ⟨[], ⟨rfl, h⟩, List.nodup_nil, fun _ a h => nomatch h⟩
theorem gr_new {H Hf : Hp} {p : Addr} {o : HO} (l : Le Hf H) (hp : H p = none) : Gr H Hf (upd H p o) Hf := by
  have le : Le H (upd H p o) := fun a u e => by rw [upd_ne (ne_of_none e hp)]; exact e
  exact ⟨le, ⟨Le.refl _, fun _ _ => rfl⟩, l.trans le⟩
theorem Le.none {Hf H : Hp} (l : Le Hf H) {p : Addr} (hp : H p = none) : Hf p = none := by
  cases q : Hf p with
  | none => rfl
  | some o => rw [l p o q] at hp; cases hp
theorem res_own {H Hf : Hp} {p : Addr} {q : Bool} {ds : List D} {vs : List V} (l : Le Hf H) (hp : H p = none) (h : Reps w Hf ds vs) : Res w xv H (upd H p (.lst vs)) Hf q (.own ds) (.ref p) :=
  ⟨[p], ⟨p, vs, rfl, rfl, upd_same, l.none hp, h⟩, by simp, fun _ a h => by rw [List.mem_singleton.mp h]; exact hp⟩
theorem gr_newf {H Hf : Hp} {p : Addr} {o : HO} (l : Le Hf H) (hp : H p = none) : Gr H Hf (upd H p o) (upd Hf p o) := by
  refine ⟨fun a u e => by rw [upd_ne (ne_of_none e hp)]; exact e, ⟨fun a u e => by rw [upd_ne (ne_of_none (l _ _ e) hp)]; exact e, fun a h => ?_⟩, fun a u e => ?_⟩
  · have : a ≠ p := fun z => h (by rw [z]; exact hp)
    rw [upd_ne this]
  · by_cases z : a = p
    · subst z; rw [upd_same] at e ⊢; exact e
    · rw [upd_ne z] at e ⊢; exact l _ _ e
theorem rep_tup {H Hf : Hp} {p : Addr} {ds : List D} {vs : List V} (l : Le Hf H) (hp : H p = none) (h : Reps w Hf ds vs) : Rep w (upd Hf p (.tup vs)) (.tup ds) (.ref p) :=
  Rep.tup_iff.mpr ⟨p, vs, rfl, SqT.of upd_same, Reps.mono w (gr_newf l hp).ext.le _ _ h⟩
/-- an operand -/
def Opn (w : Wd) (H Hf : Hp) (d : D) (v : V) : Prop := Rep w Hf d v ∨ ∃ ds a vs, d = .lst ds ∧ v = .ref a ∧ H a = some (.lst vs) ∧ Reps w Hf ds vs
theorem Opn.mono {H Hf H' Hf' : Hp} (g : Gr H Hf H' Hf') {d : D} {v : V} (h : Opn w H Hf d v) : Opn w H' Hf' d v := by
  rcases h with h | ⟨ds, a, vs, e1, e2, h1, h2⟩
  · exact .inl (Rep.mono w g.ext.le _ _ h)
  · exact .inr ⟨ds, a, vs, e1, e2, g.le _ _ h1, Reps.mono w g.ext.le _ _ h2⟩
theorem Opn.int {H Hf : Hp} {i : Int} {v : V} (h : Opn w H Hf (.int i) v) : v = .int i := by
  rcases h with h | ⟨_, _, _, e, _⟩
  · exact Rep.int_iff.mp h
  · cases e
theorem Opn.bl {H Hf : Hp} {i : Bool} {v : V} (h : Opn w H Hf (.bl i) v) : v = .bl i := by
  rcases h with h | ⟨_, _, _, e, _⟩
  · exact Rep.bl_iff.mp h
  · cases e
theorem Opn.non {H Hf : Hp} {v : V} (h : Opn w H Hf .non v) : v = .non := by
  rcases h with h | ⟨_, _, _, e, _⟩
  · exact Rep.non_iff.mp h
  · cases e
theorem Opn.str {H Hf : Hp} {x : List Nat} {v : V} (h : Opn w H Hf (.str x) v) : v = .str (strOf x) := by
  rcases h with h | ⟨_, _, _, e, _⟩
  · exact Rep.str_iff.mp h
  · cases e
theorem Opn.lst {H Hf : Hp} {ds : List D} {v : V} (l : Le Hf H) (h : Opn w H Hf (.lst ds) v) : ∃ a vs, v = .ref a ∧ Rd H a (.lst vs) ∧ Reps w Hf ds vs := by
  rcases h with h | ⟨_, a, vs, e, e2, h1, h2⟩
  · obtain ⟨a, vs, e, s, r⟩ := Rep.lst_iff.mp h
    exact ⟨a, vs, e, l.rd s, r⟩
  · cases e
    exact ⟨a, vs, e2, .inl h1, h2⟩
theorem Opn.tup {H Hf : Hp} {ds : List D} {v : V} (l : Le Hf H) (h : Opn w H Hf (.tup ds) v) : ∃ a vs, v = .ref a ∧ SqT w.K H a vs ∧ Reps w Hf ds vs := by
  rcases h with h | ⟨_, a, vs, e, e2, h1, h2⟩
  · obtain ⟨a, vs, e, s, r⟩ := Rep.tup_iff.mp h
    exact ⟨a, vs, e, l.sqT w s, r⟩
  · cases e
theorem Opn.seq {H Hf : Hp} {d : D} {ds : List D} {v : V} (l : Le Hf H) (h : Opn w H Hf d v) (e : d.items = some ds) : ∃ a vs, v = .ref a ∧ (Rd H a (.lst vs) ∨ SqT w.K H a vs) ∧ Reps w Hf ds vs := by
  cases d with
  | tup xs =>
    cases e
    obtain ⟨a, vs, e, s, r⟩ := h.tup l
    exact ⟨a, vs, e, .inr s, r⟩
  | lst xs =>
    cases e
    obtain ⟨a, vs, e, s, r⟩ := h.lst l
    exact ⟨a, vs, e, .inl s, r⟩
  | _ => cases e
/-- a value that comes of data -/
def Out (w : Wd) (xv : XV) (H Hf : Hp) (o : OD) (Q : VK) : Prop := ∀ v H' Hf', Gr H Hf H' Hf' → Res w xv H H' Hf' false o v → Q v H'
theorem Out.int {H Hf : Hp} {i : Int} {Q : VK} (l : Le Hf H) (k : Out w xv H Hf (.fz (.int i)) Q) : Q (.int i) H := k _ _ _ (Gr.refl l) (res_fz (Rep.int_iff.mpr rfl))
theorem Out.bl {H Hf : Hp} {i : Bool} {Q : VK} (l : Le Hf H) (k : Out w xv H Hf (.fz (.bl i)) Q) : Q (.bl i) H := k _ _ _ (Gr.refl l) (res_fz (Rep.bl_iff.mpr rfl))
theorem Out.non {H Hf : Hp} {Q : VK} (l : Le Hf H) (k : Out w xv H Hf (.fz .non) Q) : Q .non H := k _ _ _ (Gr.refl l) (res_fz (Rep.non_iff.mpr rfl))
theorem Out.fz {H Hf : Hp} {d : D} {v : V} {Q : VK} (l : Le Hf H) (h : Rep w Hf d v) (k : Out w xv H Hf (.fz d) Q) : Q v H := k _ _ _ (Gr.refl l) (res_fz h)
theorem Out.own {H Hf : Hp} {ds : List D} {vs : List V} {Q : VK} (l : Le Hf H) (r : Reps w Hf ds vs) (k : Out w xv H Hf (.own ds) Q) : ∀ p, H p = none → Q (.ref p) (upd H p (.lst vs)) := fun p hp =>
  k _ _ _ (gr_new l hp) (res_own l hp r)
theorem Out.tup {H Hf : Hp} {ds : List D} {vs : List V} {Q : VK} (l : Le Hf H) (r : Reps w Hf ds vs) (k : Out w xv H Hf (.fz (.tup ds)) Q) : ∀ p, H p = none → Q (.ref p) (upd H p (.tup vs)) := fun p hp =>
  k _ _ _ (gr_newf l hp) (res_fz (rep_tup l hp r))

/-! ### two-place operators -/
def rBin (w : Wd) (xv : XV) (f : D → D → R OD) : R2 := fun x y H Q => ∃ Hf dx dy o, Le Hf H ∧ Opn w H Hf dx x ∧ Opn w H Hf dy y ∧ f dx dy = .ok o ∧ Out w xv H Hf o Q
theorem line_le : line ≤ sizeLine := by rw [sizeLine_eq]; decide
theorem mulOk_ok {i j : Int} (h : mulOk i j = true) : IntMulOk i j := by
  unfold mulOk at h
  simp only [Bool.or_eq_true, decide_eq_true_eq] at h
  rcases h with (h | h) | h
  · exact IntMulOk.of_left (intBits_le_64 (by omega) (by omega))
  · exact IntMulOk.of_right (intBits_le_64 (by omega) (by omega))
  · exact CMulW.ok h
theorem bitAnd_nn {i j n : Int} (h : pyBit Nat.land i j = some n) : PySem.Builtin.bitAnd i j = n := by
  unfold pyBit at h
  split at h
  · rename_i q
    obtain ⟨q1, q2⟩ := q
    cases h
    unfold PySem.Builtin.bitAnd
    simp [q1, q2]
  · cases h
theorem tup_ne_nil {vs : List V} {ds : List D} {H : Hp} (r : Reps w H ds vs) (h : ds ≠ []) : vs ≠ [] := fun z => by
  have e := r.length
  rw [z] at e
  exact h (List.length_eq_zero_iff.mp e.symm)
/-- list + list, of any standing -/
theorem op_catL : OpR X (binaryOp .Add) (fun x y H Q => ∃ l b xs zs, x = .ref l ∧ y = .ref b ∧ Rd H l (.lst xs) ∧ Rd H b (.lst zs) ∧ xs.length + zs.length ≤ sizeLine ∧ ∀ p, H p = none → Q (.ref p) (upd H p (.lst (xs ++ zs)))) := by
  intro pins s σ H x y v u Q I rx ry h
  obtain ⟨l, b, xs, zs, rfl, rfl, hH, hB, hz, q⟩ := h
  cases rx
  cases ry
  obtain ⟨z, its, n, r, e⟩ := hH.ok I.hok
  obtain ⟨z2, its2, n2, r2, e2⟩ := hB.ok I.hok
  have l1 := r.length
  have l2 := r2.length
  refine PySem.P.add_list e e2 ?_ (by rw [List.size_toArray, List.size_toArray]; omega)
  have ea : its.toArray ++ its2.toArray = (its ++ its2).toArray := by simp
  rw [ea]
  exact ⟨.ref _, _, I.lnew (t' := s.toks) (r.append r2) (by rw [List.length_append]; omega), rfl, q _ I.fresh⟩
/-- a list times an int -/
theorem op_repL : OpR X (binaryOp .Mult) (fun x y H Q => ∃ l k xs, x = .ref l ∧ y = .int k ∧ Rd H l (.lst xs) ∧ -(2 ^ 63) ≤ k ∧ k < 2 ^ 63 ∧ xs.length * k.toNat ≤ sizeLine ∧
  ∀ p, H p = none → Q (.ref p) (upd H p (.lst (List.replicate k.toNat xs).flatten))) := by
  intro pins s σ H x y v u Q I rx ry h
  obtain ⟨l, k, xs, rfl, rfl, hH, h1, h2, hz, q⟩ := h
  cases rx
  obtain ⟨t, rfl⟩ := ry
  obtain ⟨z, its, n, r, e⟩ := hH.ok I.hok
  have hl := r.length
  have hlen : its.toArray.size * k.toNat ≤ sizeLine := by rw [List.size_toArray, ← hl]; exact hz
  have hcap : ¬ its.toArray.size * k.toNat > (2 ^ 63 - 1) / 8 := by
    have : (sizeLine : Nat) ≤ (2 ^ 63 - 1) / 8 := by decide
    omega
  have hfit : ¬ (!PySem.Builtin.List.listFitsIndex k) = true := by
    rw [fitsIndex_both h1 h2]
    exact Bool.false_ne_true
  have hlong : ¬ PySem.Builtin.List.listTooLong (its.toArray.size * k.toNat) = true := by
    rw [notLongL hlen]
    exact Bool.false_ne_true
  have hnew : List.foldl (fun x1 x2 => x1 ++ x2) #[] (List.replicate (if its.toArray.isEmpty = true then 0 else k.toNat) its.toArray) = (List.replicate k.toNat its).flatten.toArray := by
    have f0 : ∀ m : Nat, List.foldl (fun x1 x2 => x1 ++ x2) #[] (List.replicate m its.toArray) = (List.replicate m its).flatten.toArray := fun m => by
      have := foldl_rep its m []
      rw [List.nil_append] at this
      exact this
    rw [f0]
    cases its with
    | nil => simp
    | cons a r' => rw [if_neg (by simp)]
  refine wpAny_binaryOp_repeat_ref (T := "list") (U := "int") (by decide) ⟨_, e, rfl⟩ (fun s' => PySem.typeIs_int s' k t) noFill_list_mul F.fills_int_mul F.slot_int_rmul repeat_list F.slot_int_index.lookup
    (call_meets F.slot_int_rmul (PySem.typeIs_int s k t) F.entry_int_rmul (F.args_int_rmul_2 _ _) (int___rmul___int_list k t l its.toArray n)
      ⟨e, rfl, ⟨_, e, rfl⟩, call_meets F.slot_list_mul ⟨_, e, rfl⟩ F.entry_list_mul (F.args_list_mul_2 _ _) (AutoListH.list___mul___list_int_3 l its.toArray n k t hfit hcap hlong) ⟨e, ?_⟩⟩)
  rw [hnew]
  exact ⟨.ref _, _, I.lnew (t' := s.toks) (r.rep k.toNat) (by rw [PyProof.Rows.lm_len_rep_flat, Nat.mul_comm]; exact hz), rfl, q _ I.fresh⟩
def opOf : Bop → Operator
  | .add => .Add
  | .sub => .Sub
  | .mul => .Mult
  | .fdiv => .FloorDiv
  | .mod => .Mod
  | .pow => .Pow
  | .shl => .LShift
  | .shr => .RShift
  | .band => .BitAnd
  | .bor => .BitOr
  | .bxor => .BitXor

theorem flatten_reps {H : Hp} {ds : List D} {vs : List V} (r : Reps w H ds vs) : ∀ k : Nat, Reps w H (List.replicate k ds).flatten (List.replicate k vs).flatten
  | 0 => by simp only [List.replicate_zero, List.flatten_nil]; exact Reps.nil_iff.mpr rfl
  | k + 1 => by
    rw [List.replicate_succ, List.replicate_succ, List.flatten_cons, List.flatten_cons]
    exact r.append (flatten_reps r k)
theorem bin_ints {op : Bop} {i j : Int} {H Hf : Hp} {o : OD} {Q : VK} (l : Le Hf H) (e : binD op (.int i) (.int j) = .ok o) (k : Out w xv H Hf o Q)
    {pins : List (Addr × Obj)} {s : Shared} {σ : L2.St} {v u : Value} (I : Inv X pins σ H s) (rx : RelV (.int i) v) (ry : RelV (.int j) u) :
    wpAny (model X.prog X.w) X.A (binaryOp (opOf op) v u) (EP X pins σ Q) X.xe s := by
  cases op with
  | add =>
    cases e
    exact op_add pins s σ H _ _ v u Q I rx ry ⟨i, j, rfl, rfl, k.int l⟩
  | sub =>
    cases e
    exact op_sub pins s σ H _ _ v u Q I rx ry ⟨i, j, rfl, rfl, k.int l⟩
  | mul =>
    simp only [binD] at e
    split at e
    · rename_i hm
      cases e
      obtain ⟨t, rfl⟩ := rx
      obtain ⟨t', rfl⟩ := ry
      exact PyProof.Rows.mul_int ⟨.int _, H, I.tok _, ⟨_, rfl⟩, k.int l⟩ (mulOk_ok hm)
    · cases e
  | fdiv =>
    simp only [binD] at e
    split at e
    · rename_i hm
      cases e
      unfold divOk at hm
      simp only [Bool.and_eq_true, decide_eq_true_eq] at hm
      obtain ⟨t, rfl⟩ := rx
      obtain ⟨t', rfl⟩ := ry
      exact PyProof.Rows.floordiv_int hm.1 ⟨.int _, H, I.tok _, ⟨_, rfl⟩, k.int l⟩ (.inl (PyProof.noPylong_of_log2 hm.2))
    · cases e
  | mod =>
    simp only [binD] at e
    split at e
    · cases e
    · rename_i hm
      cases e
      exact op_modN pins s σ H _ _ v u Q I rx ry ⟨i, j, rfl, rfl, hm, k.int l⟩
  | pow =>
    simp only [binD] at e
    split at e
    · rename_i hm
      cases e
      by_cases hp : powOk i j = true
      · unfold powOk at hp
        simp only [Bool.and_eq_true, decide_eq_true_eq] at hp
        exact op_pow pins s σ H _ _ v u Q I rx ry ⟨i, j, rfl, rfl, hp, k.int l⟩
      · unfold powB at hm
        rw [Bool.not_eq_true] at hp
        rw [hp, Bool.false_or] at hm
        simp only [Bool.and_eq_true, decide_eq_true_eq] at hm
        obtain ⟨h0, h1, h2⟩ := hm
        obtain ⟨t, rfl⟩ := rx
        obtain ⟨t', rfl⟩ := ry
        refine PyProof.Rows.pow_int h0 ?_ ⟨.int _, H, I.tok _, ⟨_, rfl⟩, k.int l⟩
        have hb : PySem.Builtin.Int.intBits i ≤ 2000 := by
          unfold PySem.Builtin.Int.intBits
          split
          · omega
          · rename_i z
            have : i.natAbs.log2 < 2000 := (Nat.log2_lt (by intro q; simp at z; omega)).mpr h2
            omega
        have h3 : ((PySem.Builtin.Int.intBits i : Nat) : Int) * j ≤ 2000 * 1000 := Int.mul_le_mul (by omega) h1 h0 (by omega)
        omega
    · cases e
  | shl =>
    simp only [binD] at e
    split at e
    · rename_i hm
      cases e
      unfold powOk at hm
      simp only [Bool.and_eq_true, decide_eq_true_eq] at hm
      exact op_shl pins s σ H _ _ v u Q I rx ry ⟨i, j, rfl, rfl, hm, k.int l⟩
    · cases e
  | shr =>
    simp only [binD] at e
    split at e
    · rename_i hm
      cases e
      exact op_shr pins s σ H _ _ v u Q I rx ry ⟨i, j, rfl, rfl, hm, k.int l⟩
    · cases e
  | band =>
    simp only [binD] at e
    cases q : pyBit Nat.land i j with
    | none => rw [q] at e; cases e
    | some n =>
      rw [q] at e
      cases e
      exact op_and pins s σ H _ _ v u Q I rx ry ⟨i, j, rfl, rfl, by show Q (.int (PySem.Builtin.bitAnd i j)) H; rw [bitAnd_nn q]; exact k.int l⟩
  | bor => cases e
  | bxor => cases e
theorem op_bin (hK : X.K = w.K) (op : Bop) : OpR X (binaryOp (opOf op)) (rBin w xv (binD op)) := by
  intro pins s σ H x y v u Q I rx ry h
  obtain ⟨Hf, dx, dy, o, l, ox, oy, e, k⟩ := h
  cases dx with
  | int i =>
    cases dy with
    | int j =>
      rw [ox.int] at rx
      rw [oy.int] at ry
      exact bin_ints l e k I rx ry
    | _ => cases e
  | lst xs =>
    obtain ⟨a, vs, rfl, ra, r⟩ := ox.lst l
    cases dy with
    | lst ys =>
      obtain ⟨b, us, rfl, rb, r2⟩ := oy.lst l
      cases op with
      | add =>
        simp only [binD] at e
        split at e
        · rename_i hz
          cases e
          have hl := line_le
          exact op_catL pins s σ H _ _ v u Q I rx ry ⟨a, b, vs, us, rfl, rfl, ra, rb, by rw [r.length, r2.length]; omega, k.own l (r.append r2)⟩
        · cases e
      | _ => cases e
    | int j =>
      rw [oy.int] at ry
      cases op with
      | mul =>
        simp only [binD] at e
        split at e
        · rename_i hz
          cases e
          have hl := line_le
          exact op_repL pins s σ H _ _ v u Q I rx ry ⟨a, j, vs, rfl, rfl, ra, by omega, by omega, by rw [r.length]; omega, k.own l (flatten_reps r j.toNat)⟩
        · cases e
      | _ => cases e
    | _ => cases e
  | tup xs =>
    obtain ⟨a, vs, rfl, ra, r⟩ := ox.tup l
    cases dy with
    | tup ys =>
      obtain ⟨b, us, rfl, rb, r2⟩ := oy.tup l
      cases op with
      | add =>
        simp only [binD] at e
        split at e
        · rename_i hz
          cases e
          have hl := line_le
          have l1 := r.length
          refine op_catT pins s σ H _ _ v u Q I rx ry ⟨a, b, vs, us, rfl, rfl, hK ▸ ra, hK ▸ rb, fun q => ?_, by rw [r.length, r2.length]; omega, fun q => ?_, fun _ => k.tup l (r.append r2)⟩
          · rw [q] at l1
            have := hz.1
            rw [← l1] at this
            exact absurd this (Nat.lt_irrefl _)
          · subst q
            have e0 : ys = [] := List.length_eq_zero_iff.mp r2.length.symm
            subst e0
            rw [List.append_nil] at k
            rcases ox with ox | ⟨_, _, _, z, _⟩
            · exact k.fz l ox
            · cases z
        · cases e
      | _ => cases e
    | _ => cases e
  | _ => cases e

/-! ### == of data -/
end
mutual
def D.py : D → PyData
  | .non => .none
  | .bl b => .bool b
  | .int i => .int i
  | .str x => .str (strOf x)
  | .tup ds => .tuple (D.pys ds)
  | .lst ds => .list (D.pys ds)
  | .obj _ _ => .none
  | .scr _ => .none
def D.pys : List D → List PyData
  | [] => []
  | d :: ds => D.py d :: D.pys ds
end
section
variable {w : Wd} {xv : XV} {X : Cx}
theorem strOf_beq (a b : List Nat) : (strOf a == strOf b) = (a == b) := by
  rw [Bool.eq_iff_iff, beq_iff_eq, beq_iff_eq]
  constructor
  · intro h
    have h2 : a.toArray = b.toArray := congrArg Str.cps h
    simpa using h2
  · rintro rfl
    rfl
mutual
theorem py_eqv : ∀ (n m : Nat) (a b : D), a.plain n = true → b.plain m = true → PyData.eqv a.py b.py = D.eqv a b
  | n, m, a, b, ha, hb => by
    cases a with
    | non => cases b <;> first | (exfalso; cases m <;> simp [D.plain] at hb; done) | rfl | (simp only [D.py, PyData.eqv, D.eqv])
    | bl x => cases b <;> first | (exfalso; cases m <;> simp [D.plain] at hb; done) | rfl | (simp only [D.py, PyData.eqv, D.eqv])
    | int x => cases b <;> first | (exfalso; cases m <;> simp [D.plain] at hb; done) | rfl | (simp only [D.py, PyData.eqv, D.eqv])
    | str x =>
      cases b with
      | str y =>
        simp only [D.py, PyData.eqv, D.eqv]
        exact strOf_beq x y
      | obj c ds => cases m <;> simp [D.plain] at hb
      | scr ns => cases m <;> simp [D.plain] at hb
      | _ => first | rfl | simp only [D.py, PyData.eqv, D.eqv]
    | tup x =>
      cases b with
      | tup y =>
        simp only [D.py, PyData.eqv, D.eqv]
        cases n with
        | zero => simp [D.plain] at ha
        | succ n =>
          cases m with
          | zero => simp [D.plain] at hb
          | succ m => exact pys_eqv n m x y (by simpa [D.plain] using ha) (by simpa [D.plain] using hb)
      | obj c ds => cases m <;> simp [D.plain] at hb
      | scr ns => cases m <;> simp [D.plain] at hb
      | _ => first | rfl | simp only [D.py, PyData.eqv, D.eqv]
    | lst x =>
      cases b with
      | lst y =>
        simp only [D.py, PyData.eqv, D.eqv]
        cases n with
        | zero => simp [D.plain] at ha
        | succ n =>
          cases m with
          | zero => simp [D.plain] at hb
          | succ m => exact pys_eqv n m x y (by simpa [D.plain] using ha) (by simpa [D.plain] using hb)
      | obj c ds => cases m <;> simp [D.plain] at hb
      | scr ns => cases m <;> simp [D.plain] at hb
      | _ => first | rfl | simp only [D.py, PyData.eqv, D.eqv]
    | obj c ds => cases n <;> simp [D.plain] at ha
    | scr ns => cases n <;> simp [D.plain] at ha
theorem pys_eqv : ∀ (n m : Nat) (as bs : List D), D.plains n as = true → D.plains m bs = true → PyData.eqvAll (D.pys as) (D.pys bs) = D.eqvs as bs
  | n, m, [], [], _, _ => by simp only [D.pys, PyData.eqvAll, D.eqvs]
  | n, m, [], b :: bs, _, _ => by simp only [D.pys, PyData.eqvAll, D.eqvs]
  | n, m, a :: as, [], _, _ => by simp only [D.pys, PyData.eqvAll, D.eqvs]
  | n, m, a :: as, b :: bs, ha, hb => by
    have h1 : a.plain n = true ∧ D.plains n as = true := by simpa [D.plains] using ha
    have h2 : b.plain m = true ∧ D.plains m bs = true := by simpa [D.plains] using hb
    simp only [D.pys, PyData.eqvAll, D.eqvs]
    rw [py_eqv n m a b h1.1 h2.1, pys_eqv n m as bs h1.2 h2.2]
end
mutual
theorem py_dp {H Hf : Hp} (l : Le Hf H) : ∀ (n : Nat) (d : D) (v : V), Rep w Hf d v → d.plain n = true → Dp w.K H v d.py
  | n, .non, v, h, _ => by rw [Rep.non_iff.mp h, D.py]; exact .non
  | n, .bl b, v, h, _ => by rw [Rep.bl_iff.mp h, D.py]; exact .bl b
  | n, .int b, v, h, _ => by rw [Rep.int_iff.mp h, D.py]; exact .int b
  | n, .str b, v, h, _ => by rw [Rep.str_iff.mp h, D.py]; exact .str _
  | 0, .tup ds, v, h, p => by simp [D.plain] at p
  | 0, .lst ds, v, h, p => by simp [D.plain] at p
  | n + 1, .tup ds, v, h, p => by
    obtain ⟨a, vs, rfl, s, r⟩ := Rep.tup_iff.mp h
    rw [D.py]
    exact .tup (l.sqT w s) (pys_dp l n ds vs r (by simpa [D.plain] using p))
  | n + 1, .lst ds, v, h, p => by
    obtain ⟨a, vs, rfl, s, r⟩ := Rep.lst_iff.mp h
    rw [D.py]
    exact .lst (.inl (l.rd s)) (pys_dp l n ds vs r (by simpa [D.plain] using p))
  | 0, .obj c ds, v, h, p => by simp [D.plain] at p
  | n + 1, .obj c ds, v, h, p => by simp [D.plain] at p
  | 0, .scr ns, v, h, p => by simp [D.plain] at p
  | n + 1, .scr ns, v, h, p => by simp [D.plain] at p
theorem pys_dp {H Hf : Hp} (l : Le Hf H) : ∀ (n : Nat) (ds : List D) (vs : List V), Reps w Hf ds vs → D.plains n ds = true → DpAll w.K H vs (D.pys ds)
  | n, [], vs, h, _ => by rw [Reps.nil_iff.mp h, D.pys]; exact .nil
  | n, d :: ds, vs, h, p => by
    obtain ⟨v, r, rfl, h1, h2⟩ := Reps.cons_iff.mp h
    have hp : d.plain n = true ∧ D.plains n ds = true := by simpa [D.plains] using p
    rw [D.pys]
    exact .cons (py_dp l n d v h1 hp.1) (pys_dp l n ds r h2 hp.2)
end
mutual
theorem py_lay : ∀ (n : Nat) (d : D), d.plain n = true → d.py.canLay0 = true ∧ d.py.depth ≤ n
  | n, .non, _ => by simp [D.py, PyData.canLay0, PyData.depth]
  | n, .bl b, _ => by simp [D.py, PyData.canLay0, PyData.depth]
  | n, .int b, _ => by simp [D.py, PyData.canLay0, PyData.depth]
  | n, .str b, p => by
    have p' : (b.all fun c => decide (c < 1114112)) = true := by cases n <;> simpa [D.plain] using p
    refine ⟨?_, by simp [D.py, PyData.depth]⟩
    simp only [D.py, PyData.canLay0, PyData.strOk, strOf]
    simpa using p'
  | 0, .tup ds, p => by simp [D.plain] at p
  | 0, .lst ds, p => by simp [D.plain] at p
  | n + 1, .tup ds, p => by
    obtain ⟨h1, h2⟩ := pys_lay n ds (by simpa [D.plain] using p)
    refine ⟨by simpa [D.py, PyData.canLay0] using h1, by simp only [D.py, PyData.depth]; omega⟩
  | n + 1, .lst ds, p => by
    obtain ⟨h1, h2⟩ := pys_lay n ds (by simpa [D.plain] using p)
    refine ⟨by simpa [D.py, PyData.canLay0] using h1, by simp only [D.py, PyData.depth]; omega⟩
  | 0, .obj c ds, p => by simp [D.plain] at p
  | n + 1, .obj c ds, p => by simp [D.plain] at p
  | 0, .scr ns, p => by simp [D.plain] at p
  | n + 1, .scr ns, p => by simp [D.plain] at p
theorem pys_lay : ∀ (n : Nat) (ds : List D), D.plains n ds = true → PyData.canLayAll0 (D.pys ds) = true ∧ PyData.depthAll (D.pys ds) ≤ n
  | n, [], _ => by simp [D.pys, PyData.canLayAll0, PyData.depthAll]
  | n, d :: ds, p => by
    have hp : d.plain n = true ∧ D.plains n ds = true := by simpa [D.plains] using p
    obtain ⟨a1, a2⟩ := py_lay n d hp.1
    obtain ⟨b1, b2⟩ := pys_lay n ds hp.2
    refine ⟨by simp [D.pys, PyData.canLayAll0, a1, b1], by simp only [D.pys, PyData.depthAll]; omega⟩
end
theorem py_shaped {d : D} (h : d.plain 20 = true) : SeqAt.shaped d.py = true := by
  obtain ⟨h1, h2⟩ := py_lay 20 d h
  unfold SeqAt.shaped
  rw [h1, decide_eq_true (by omega)]
  rfl
theorem opn_dp {H Hf : Hp} (l : Le Hf H) {d : D} {v : V} (h : Opn w H Hf d v) (p : d.plain 20 = true) : Dp w.K H v d.py := by
  rcases h with h | ⟨ds, a, vs, rfl, rfl, h1, h2⟩
  · exact py_dp l 20 d v h p
  · rw [D.py]
    exact .lst (.inl (.inl h1)) (pys_dp l 19 ds vs h2 (by simpa [D.plain] using p))
end
end MP

end

section
set_option Elab.async false
set_option linter.all false
set_option maxRecDepth 100000
namespace MP
open PySem PySem.Spec L2
section
variable {w : Wd} {xv : XV} {X : Cx}
/-- an argument: an operand, or a list of lists of a name's own -/
def Arg (w : Wd) (H Hf : Hp) (d : D) (v : V) : Prop := Opn w H Hf d v ∨ ∃ rs a vs as, d = .lst (rs.map rowD) ∧ v = .ref a ∧ H a = some (.lst vs) ∧ RepRows w H Hf rs vs as
theorem Arg.mono {H Hf H' Hf' : Hp} (g : Gr H Hf H' Hf') {d : D} {v : V} (h : Arg w H Hf d v) : Arg w H' Hf' d v := by
  rcases h with h | ⟨rs, a, vs, as, e1, e2, h1, h2⟩
  · exact .inl (h.mono g)
  · exact .inr ⟨rs, a, vs, as, e1, e2, g.le _ _ h1, h2.mono g⟩
theorem rows_dpn {H Hf : Hp} (l : Le Hf H) : ∀ {rs : List (Bool × List D)} {vs : List V} {as : List Addr}, RepRows w H Hf rs vs as → D.plains 20 (rs.map rowD) = true → DpAll w.K H vs (D.pys (rs.map rowD))
  | [], vs, as, h, _ => by rw [h.1]; exact .nil
  | (true, ds) :: rs, vs, as, h, p => by
    obtain ⟨v, r, rfl, h1, h2⟩ := h
    have hp : (rowD (true, ds)).plain 20 = true ∧ D.plains 20 (rs.map rowD) = true := by simpa [D.plains] using p
    rw [List.map_cons, D.pys]
    exact .cons (py_dp l 20 _ v h1 hp.1) (rows_dpn l h2 hp.2)
  | (false, ds) :: rs, vs, as, h, p => by
    obtain ⟨a, us, r, as', rfl, e2, h1, h2, h3, h4⟩ := h
    have hp : (rowD (false, ds)).plain 20 = true ∧ D.plains 20 (rs.map rowD) = true := by simpa [D.plains] using p
    rw [List.map_cons, D.pys]
    refine .cons ?_ (rows_dpn l h4 hp.2)
    show Dp w.K H (.ref a) (D.py (.lst ds))
    rw [D.py]
    exact .lst (.inl (.inl h1)) (pys_dp l 19 ds us h3 (by simpa [D.plain, rowD] using hp.1))
theorem rows_dp {H Hf : Hp} (l : Le Hf H) : ∀ {rs : List (Bool × List D)} {vs : List V} {as : List Addr}, RepRows w H Hf rs vs as → D.plains 19 (rs.map rowD) = true → DpAll w.K H vs (D.pys (rs.map rowD))
  | [], vs, as, h, _ => by rw [h.1]; exact .nil
  | (true, ds) :: rs, vs, as, h, p => by
    obtain ⟨v, r, rfl, h1, h2⟩ := h
    have hp : (rowD (true, ds)).plain 19 = true ∧ D.plains 19 (rs.map rowD) = true := by simpa [D.plains] using p
    rw [List.map_cons, D.pys]
    exact .cons (py_dp l 19 _ v h1 hp.1) (rows_dp l h2 hp.2)
  | (false, ds) :: rs, vs, as, h, p => by
    obtain ⟨a, us, r, as', rfl, e2, h1, h2, h3, h4⟩ := h
    have hp : (rowD (false, ds)).plain 19 = true ∧ D.plains 19 (rs.map rowD) = true := by simpa [D.plains] using p
    rw [List.map_cons, D.pys]
    refine .cons ?_ (rows_dp l h4 hp.2)
    show Dp w.K H (.ref a) (D.py (.lst ds))
    rw [D.py]
    exact .lst (.inl (.inl h1)) (pys_dp l 18 ds us h3 (by simpa [D.plain, rowD] using hp.1))
theorem arg_dp {H Hf : Hp} (l : Le Hf H) {d : D} {v : V} (h : Arg w H Hf d v) (p : d.plain 20 = true) : Dp w.K H v d.py := by
  rcases h with h | ⟨rs, a, vs, as, rfl, rfl, h1, h2⟩
  · exact opn_dp l h p
  · rw [D.py]
    exact .lst (.inl (.inl h1)) (rows_dp l h2 (by simpa [D.plain] using p))
theorem Arg.int {H Hf : Hp} {i : Int} {v : V} (h : Arg w H Hf (.int i) v) : v = .int i := by
  rcases h with h | ⟨_, _, _, _, e, _⟩
  · exact h.int
  · cases e
def copOf : Cop → CmpOp
  | .eq => .Eq
  | .ne => .NotEq
  | .lt => .Lt
  | .le => .LtE
  | .gt => .Gt
  | .ge => .GtE
  | .isin => .In
  | .notin => .NotIn
/-- a comparison's reading -/
def rCmp (w : Wd) (xv : XV) (f : D → D → R OD) : R2 := fun x y H Q => ∃ Hf dx dy o, Le Hf H ∧ Arg w H Hf dx x ∧ Arg w H Hf dy y ∧ f dx dy = .ok o ∧ Out w xv H Hf o Q
theorem any_py {x : D} (hx : x.plain 20 = true) : ∀ {ys : List D}, D.plains 20 ys = true → ((D.pys ys).any fun z => PyData.eqv z x.py) = ys.any fun z => D.eqv z x
  | [], _ => rfl
  | y :: ys, h => by
    have h1 : y.plain 20 = true ∧ D.plains 20 ys = true := by simpa [D.plains] using h
    rw [D.pys, List.any_cons, List.any_cons, any_py hx h1.2, py_eqv 20 20 y x h1.1 hx]
theorem arg_seq {H Hf : Hp} (l : Le Hf H) {d : D} {ds : List D} {v : V} (h : Arg w H Hf d v) (e : d.items = some ds) (p : D.plains 20 ds = true) :
    (d = .lst ds ∧ Dp w.K H v (.list (D.pys ds))) ∨ (d = .tup ds ∧ Dp w.K H v (.tuple (D.pys ds))) := by
  cases d with
  | lst xs =>
    cases e
    refine .inl ⟨rfl, ?_⟩
    rcases h with h | ⟨rs, a, vs, as, e1, rfl, h1, h2⟩
    · obtain ⟨a, vs, rfl, s, r⟩ := h.lst l
      exact .lst (.inl s) (pys_dp l 20 ds vs r p)
    · cases e1
      refine .lst (.inl (.inl h1)) ?_
      exact rows_dpn l h2 p
  | tup xs =>
    cases e
    refine .inr ⟨rfl, ?_⟩
    rcases h with h | ⟨rs, a, vs, as, e1, _⟩
    · obtain ⟨a, vs, rfl, s, r⟩ := h.tup l
      exact .tup s (pys_dp l 20 ds vs r p)
    · cases e1
  | _ => cases e
theorem pys_shaped {ds : List D} (h : D.plains 20 ds = true) : SeqAt.shaped (.list (D.pys ds)) = true ∧ SeqAt.shaped (.tuple (D.pys ds)) = true := by
  obtain ⟨h1, h2⟩ := pys_lay 20 ds h
  refine ⟨?_, ?_⟩ <;> (unfold SeqAt.shaped; rw [decide_eq_true (by simp only [PyData.depth]; omega)]; simp [PyData.canLay0, h1])
theorem op_cmp (hK : X.K = w.K) (hu : X.A.units + 65 < cLine) (op : Cop) : OpR X (compareOp (copOf op)) (rCmp w xv (cmpD op)) := by
  intro pins s σ H x y v u Q I rx ry h
  obtain ⟨Hf, dx, dy, o, l, ox, oy, e, k⟩ := h
  cases op with
  | eq =>
    simp only [cmpD] at e
    split at e
    · rename_i hp
      cases e
      obtain ⟨p1, p2⟩ := Bool.and_eq_true_iff.mp hp
      refine op_eqD (by omega) pins s σ H x y v u Q I rx ry ⟨dx.py, dy.py, hK ▸ arg_dp l ox p1, hK ▸ arg_dp l oy p2, py_shaped p1, py_shaped p2, ?_⟩
      rw [py_eqv 20 20 dx dy p1 p2]
      exact k.bl l
    · cases e
  | ne =>
    simp only [cmpD] at e
    split at e
    · rename_i hp
      cases e
      obtain ⟨p1, p2⟩ := Bool.and_eq_true_iff.mp hp
      refine op_neD (by omega) pins s σ H x y v u Q I rx ry ⟨dx.py, dy.py, hK ▸ arg_dp l ox p1, hK ▸ arg_dp l oy p2, py_shaped p1, py_shaped p2, ?_⟩
      rw [py_eqv 20 20 dx dy p1 p2]
      exact k.bl l
    · cases e
  | lt =>
    cases dx <;> cases dy <;> try (cases e; done)
    cases e
    rw [ox.int] at rx
    rw [oy.int] at ry
    exact op_lt pins s σ H _ _ v u Q I rx ry ⟨_, _, rfl, rfl, k.bl l⟩
  | le =>
    cases dx <;> cases dy <;> try (cases e; done)
    cases e
    rw [ox.int] at rx
    rw [oy.int] at ry
    exact op_le pins s σ H _ _ v u Q I rx ry ⟨_, _, rfl, rfl, k.bl l⟩
  | gt =>
    cases dx <;> cases dy <;> try (cases e; done)
    cases e
    rw [ox.int] at rx
    rw [oy.int] at ry
    exact op_gt pins s σ H _ _ v u Q I rx ry ⟨_, _, rfl, rfl, k.bl l⟩
  | ge =>
    cases dx <;> cases dy <;> try (cases e; done)
    cases e
    rw [ox.int] at rx
    rw [oy.int] at ry
    exact op_ge pins s σ H _ _ v u Q I rx ry ⟨_, _, rfl, rfl, k.bl l⟩
  | isin =>
    simp only [cmpD] at e
    cases q : dy.items with
    | none => rw [q] at e; cases e
    | some ys =>
      rw [q] at e
      simp only at e
      split at e
      · rename_i hp
        cases e
        obtain ⟨p1, p2⟩ := Bool.and_eq_true_iff.mp hp
        obtain ⟨s1, s2⟩ := pys_shaped p2
        obtain ⟨as, r1⟩ := Dp.reads I dx.py x v (hK ▸ arg_dp l ox p1) rx
        rcases arg_seq l oy q p2 with ⟨rfl, h⟩ | ⟨rfl, h⟩
        · obtain ⟨bs, r2⟩ := Dp.reads I _ y u (hK ▸ h) ry
          refine SeqAt.in_list_reads r2 r1 (SeqAt.canLay_of_shaped s1) (SeqAt.canLay_of_shaped (py_shaped p1)) (PyProof.Rows.room_in_shaped (py_shaped p1) hu) ?_
          rw [any_py p1 p2]
          exact ⟨.bl _, H, I, rfl, k.bl l⟩
        · obtain ⟨bs, r2⟩ := Dp.reads I _ y u (hK ▸ h) ry
          refine SeqAt.in_tuple_reads r2 r1 (SeqAt.canLay_of_shaped s2) (SeqAt.canLay_of_shaped (py_shaped p1)) (PyProof.Rows.room_in_shaped (py_shaped p1) hu) ?_
          rw [any_py p1 p2]
          exact ⟨.bl _, H, I, rfl, k.bl l⟩
      · cases e
  | notin =>
    simp only [cmpD] at e
    cases q : dy.items with
    | none => rw [q] at e; cases e
    | some ys =>
      rw [q] at e
      simp only at e
      split at e
      · rename_i hp
        cases e
        obtain ⟨p1, p2⟩ := Bool.and_eq_true_iff.mp hp
        obtain ⟨s1, s2⟩ := pys_shaped p2
        obtain ⟨as, r1⟩ := Dp.reads I dx.py x v (hK ▸ arg_dp l ox p1) rx
        rcases arg_seq l oy q p2 with ⟨rfl, h⟩ | ⟨rfl, h⟩
        · obtain ⟨bs, r2⟩ := Dp.reads I _ y u (hK ▸ h) ry
          refine SeqAt.notIn_list_reads r2 r1 (SeqAt.canLay_of_shaped s1) (SeqAt.canLay_of_shaped (py_shaped p1)) (PyProof.Rows.room_in_shaped (py_shaped p1) hu) ?_
          rw [any_py p1 p2]
          exact ⟨.bl _, H, I, rfl, k.bl l⟩
        · obtain ⟨bs, r2⟩ := Dp.reads I _ y u (hK ▸ h) ry
          refine SeqAt.notIn_tuple_reads r2 r1 (SeqAt.canLay_of_shaped s2) (SeqAt.canLay_of_shaped (py_shaped p1)) (PyProof.Rows.room_in_shaped (py_shaped p1) hu) ?_
          rw [any_py p1 p2]
          exact ⟨.bl _, H, I, rfl, k.bl l⟩
      · cases e
end
end MP

end

section
set_option Elab.async false
set_option linter.all false
set_option maxRecDepth 100000
namespace MP
open PySem PySem.Spec L2
section
variable {w : Wd} {xv : XV} {X : Cx}
/-! ### lists of one's own become data -/
def frzH (H Hf : Hp) (as : List Addr) : Hp := fun a => if a ∈ as then H a else Hf a
theorem frzH_in {H Hf : Hp} {as : List Addr} {a : Addr} (h : a ∈ as) : frzH H Hf as a = H a := if_pos h
theorem frzH_out {H Hf : Hp} {as : List Addr} {a : Addr} (h : a ∉ as) : frzH H Hf as a = Hf a := if_neg h
theorem frzH_le {H Hf : Hp} {as : List Addr} (n : ∀ a ∈ as, Hf a = none) : Le Hf (frzH H Hf as) := fun a o e => by
  have : a ∉ as := fun q => by rw [n a q] at e; cases e
  rw [frzH_out this]
  exact e
theorem frzH_lf {H Hf : Hp} {as : List Addr} (l : Le Hf H) : Le (frzH H Hf as) H := fun a o e => by
  by_cases q : a ∈ as
  · rw [frzH_in q] at e; exact e
  · rw [frzH_out q] at e; exact l _ _ e
theorem frzH_gr {H0 Hf0 H Hf : Hp} (g : Gr H0 Hf0 H Hf) {as : List Addr} (n : ∀ a ∈ as, Hf a = none) (f : ∀ a ∈ as, H0 a = none) : Gr H0 Hf0 H (frzH H Hf as) :=
  ⟨g.le, ⟨g.ext.le.trans (frzH_le n), fun a h => by
    have : a ∉ as := fun q => h (f a q)
    rw [frzH_out this]
    exact g.ext.old a h⟩, frzH_lf g.lf⟩
theorem RepRows.none {H Hf : Hp} : ∀ {rs : List (Bool × List D)} {vs : List V} {as : List Addr}, RepRows w H Hf rs vs as → ∀ a ∈ as, Hf a = none
  | [], _, _, h => fun a q => by rw [h.2] at q; cases q
  | (true, ds) :: rs, vs, as, h => by
    obtain ⟨v, r, e, h1, h2⟩ := h
    exact RepRows.none h2
  | (false, ds) :: rs, vs, as, h => by
    obtain ⟨a, us, r, as', e1, rfl, h1, h2, h3, h4⟩ := h
    intro b q
    rcases List.mem_cons.mp q with rfl | q
    · exact h2
    · exact RepRows.none h4 b q
theorem RepO.none {H Hf : Hp} {o : OD} {v : V} {as : List Addr} (h : RepO w xv H Hf o v as) : ∀ a ∈ as, Hf a = none := by
  cases o with
  | un => intro a q; rw [show as = [] from h] at q; cases q
  | fz d => intro a q; rw [h.1] at q; cases q
  | own ds =>
    obtain ⟨a, vs, e1, rfl, h1, h2, h3⟩ := h
    intro b q
    rw [List.mem_singleton.mp q]
    exact h2
  | own2 p rs =>
    obtain ⟨a, vs, as', e1, rfl, h1, h2, h3, hp⟩ := h
    intro b q
    rcases List.mem_cons.mp q with rfl | q
    · exact h2
    · exact h3.none b q
  | oi c fs =>
    obtain ⟨a, dx, fvs, e1, rfl, h1, h2, h3⟩ := h
    intro b q
    rw [List.mem_singleton.mp q]
    exact h2
  | xv c p => intro a q; rw [h.1] at q; cases q
theorem RepRows.there {H Hf : Hp} : ∀ {rs : List (Bool × List D)} {vs : List V} {as : List Addr}, RepRows w H Hf rs vs as → ∀ a ∈ as, ∃ us, H a = some (.lst us)
  | [], _, _, h => fun a q => by rw [h.2] at q; cases q
  | (true, ds) :: rs, vs, as, h => by
    obtain ⟨v, r, e, h1, h2⟩ := h
    exact RepRows.there h2
  | (false, ds) :: rs, vs, as, h => by
    obtain ⟨a, us, r, as', e1, rfl, h1, h2, h3, h4⟩ := h
    intro b q
    rcases List.mem_cons.mp q with rfl | q
    · exact ⟨_, h1⟩
    · exact RepRows.there h4 b q
theorem RepRows.frz {H Hf Hf' : Hp} (l : Le Hf Hf') : ∀ {rs : List (Bool × List D)} {vs : List V} {as : List Addr}, RepRows w H Hf rs vs as → (∀ a ∈ as, Hf' a = H a) → Reps w Hf' (rs.map rowD) vs
  | [], vs, _, h, _ => Reps.nil_iff.mpr h.1
  | (true, ds) :: rs, vs, as, h, f => by
    obtain ⟨v, r, rfl, h1, h2⟩ := h
    exact Reps.cons_iff.mpr ⟨v, r, rfl, Rep.mono w l _ _ h1, RepRows.frz l h2 f⟩
  | (false, ds) :: rs, vs, as, h, f => by
    obtain ⟨a, us, r, as', rfl, rfl, h1, h2, h3, h4⟩ := h
    refine Reps.cons_iff.mpr ⟨.ref a, r, rfl, Rep.lst_iff.mpr ⟨a, us, rfl, .inl ?_, Reps.mono w l _ _ h3⟩, RepRows.frz l h4 fun b q => f b (List.mem_cons_of_mem _ q)⟩
    rw [f a List.mem_cons_self]
    exact h1
/-- the lists of one's own, as data -/
theorem RepO.frz {H Hf : Hp} {o : OD} {v : V} {as : List Addr} {d : D} (h : RepO w xv H Hf o v as) (e : o.toD = some d) : Rep w (frzH H Hf as) d v := by
  have n := h.none
  have l : Le Hf (frzH H Hf as) := frzH_le n
  cases o with
  | fz x => cases e; exact Rep.mono w l _ _ h.2
  | own ds =>
    cases e
    obtain ⟨a, vs, rfl, rfl, h1, h2, h3⟩ := h
    exact Rep.lst_iff.mpr ⟨a, vs, rfl, .inl (by rw [frzH_in (by simp)]; exact h1), Reps.mono w l _ _ h3⟩
  | own2 p rs =>
    cases e
    obtain ⟨a, vs, as', rfl, rfl, h1, h2, h3, hp⟩ := h
    exact Rep.lst_iff.mpr ⟨a, vs, rfl, .inl (by rw [frzH_in (by simp)]; exact h1), h3.frz l fun b q => frzH_in (List.mem_cons_of_mem _ q)⟩
  | _ => cases e
/-- an operand of what was reckoned -/
theorem Res.opd {H0 Hf0 H Hf : Hp} {p : Bool} {o : OD} {v : V} {d : D} (g : Gr H0 Hf0 H Hf) (r : Res w xv H0 H Hf p o v) (e : opd p o = some d) : ∃ Hf', Gr H0 Hf0 H Hf' ∧ Opn w H Hf' d v := by
  obtain ⟨as, h, nd, f⟩ := r
  cases o with
  | fz x => cases e; exact ⟨Hf, g, .inl h.2⟩
  | own ds =>
    cases e
    obtain ⟨a, vs, rfl, rfl, h1, h2, h3⟩ := h
    exact ⟨Hf, g, .inr ⟨ds, a, vs, rfl, rfl, h1, h3⟩⟩
  | own2 pp rs =>
    have n := h.none
    cases p with
    | false =>
      refine ⟨frzH H Hf as, frzH_gr g n (f rfl), .inl (h.frz ?_)⟩
      simpa [MP.opd, OD.toD] using e
    | true =>
      simp only [MP.opd, Bool.true_and] at e
      split at e
      · cases e
      · rename_i hn
        cases e
        obtain ⟨a, vs, as', rfl, rfl, h1, h2, h3, hp⟩ := h
        have e0 : ∀ {rs : List (Bool × List D)} {vs : List V} {as : List Addr}, (rs.any fun r => !r.1) = false → RepRows w H Hf rs vs as → as = [] := by
          intro rs
          induction rs with
          | nil => intro vs as _ h; exact h.2
          | cons r rs ih =>
            intro vs as hn h
            obtain ⟨b, ds⟩ := r
            cases b with
            | true =>
              obtain ⟨v, r, _, _, h2⟩ := h
              exact ih (by simpa using hn) h2
            | false => simp at hn
        have ea := e0 (by simpa using hn) h3
        subst ea
        exact ⟨Hf, g, .inr ⟨_, a, vs, rfl, rfl, h1, h3.frz (Le.refl _) (fun b q => nomatch q)⟩⟩
  | _ => cases e
/-- data, of a value that is nobody's -/
theorem Res.data {H0 Hf0 H Hf : Hp} {o : OD} {v : V} {d : D} (g : Gr H0 Hf0 H Hf) (r : Res w xv H0 H Hf false o v) (e : o.toD = some d) : ∃ Hf', Gr H0 Hf0 H Hf' ∧ Rep w Hf' d v := by
  obtain ⟨as, h, nd, f⟩ := r
  exact ⟨frzH H Hf as, frzH_gr g h.none (f rfl), h.frz e⟩
/-- an argument, and whose it is -/
theorem Res.arg {H0 Hf0 H Hf : Hp} {p : Bool} {o : OD} {v : V} {d : D × Bool} (g : Gr H0 Hf0 H Hf) (r : Res w xv H0 H Hf p o v) (e : argD p o = some d) :
    ∃ Hf', Gr H0 Hf0 H Hf' ∧ Arg w H Hf' d.1 v ∧ ∃ as, (d.2 = false → as = []) ∧ (∀ a ∈ as, Hf' a = none ∧ ∃ us, H a = some (.lst us)) ∧ Rep w (frzH H Hf' as) d.1 v := by
  unfold argD at e
  cases q : o.toD with
  | none => rw [q] at e; cases e
  | some x =>
    rw [q] at e
    cases e
    cases p with
    | false =>
      obtain ⟨Hf', g', h⟩ := r.data g q
      refine ⟨Hf', g', .inl (.inl h), [], fun _ => rfl, fun a q => (nomatch q), ?_⟩
      have : frzH H Hf' [] = Hf' := funext fun a => frzH_out (by simp)
      rw [this]
      exact h
    | true =>
      obtain ⟨as, h, nd, f⟩ := r
      refine ⟨Hf, g, ?_, as, fun z => ?_, fun a m => ⟨h.none a m, ?_⟩, h.frz q⟩
      · cases o with
        | fz d => cases q; exact .inl (.inl h.2)
        | own ds =>
          cases q
          obtain ⟨a, vs, rfl, rfl, h1, h2, h3⟩ := h
          exact .inl (.inr ⟨ds, a, vs, rfl, rfl, h1, h3⟩)
        | own2 pp rs =>
          cases q
          obtain ⟨a, vs, as', rfl, rfl, h1, h2, h3, hp⟩ := h
          exact .inr ⟨rs, a, vs, as', rfl, rfl, h1, h3⟩
        | _ => cases q
      · cases o with
        | fz d => exact h.1
        | _ => cases z
      · cases o with
        | fz d => rw [h.1] at m; cases m
        | own ds =>
          obtain ⟨b, vs, rfl, rfl, h1, h2, h3⟩ := h
          rw [List.mem_singleton.mp m]
          exact ⟨_, h1⟩
        | own2 pp rs =>
          obtain ⟨b, vs, as', rfl, rfl, h1, h2, h3, hp⟩ := h
          rcases List.mem_cons.mp m with rfl | m
          · exact ⟨_, h1⟩
          · exact h3.there a m
        | _ => cases q

/-! ### subscripts -/
theorem atI_eq {α : Type} (xs : List α) (i : Int) : MP.atI xs i = L2.atI xs i := rfl
theorem ixN_lt {n j : Nat} {i : Int} (h : MP.ixN n i = some j) : j < n := (L2.ixN_seq h).2.1
theorem reps_atI {H : Hp} {ds : List D} {vs : List V} {j : Int} {d : D} (r : Reps w H ds vs) (e : MP.atI ds j = some d) : ∃ v, L2.atI vs j = some v ∧ Rep w H d v := by
  unfold MP.atI at e
  obtain ⟨k, hk, e⟩ := Option.bind_eq_some_iff.mp e
  obtain ⟨v, h1, h2⟩ := r.get e
  refine ⟨v, ?_, h2⟩
  unfold L2.atI
  rw [r.length]
  rw [show L2.ixN ds.length j = some k from hk]
  exact h1
theorem rows_atI {H Hf : Hp} : ∀ {rs : List (Bool × List D)} {vs : List V} {as : List Addr} {k : Nat} {b : Bool} {ds : List D}, RepRows w H Hf rs vs as → as.Nodup → rs[k]? = some (b, ds) →
    vs.length = rs.length ∧ ∃ v, vs[k]? = some v ∧ ((b = true ∧ Rep w Hf (.lst ds) v) ∨ (b = false ∧ ∃ a us, v = .ref a ∧ a ∈ as ∧ H a = some (.lst us) ∧ Hf a = none ∧ Reps w Hf ds us))
  | [], _, _, _, _, _, _, _, e => by simp at e
  | (true, es) :: rs, vs, as, k, b, ds, h, nd, e => by
    obtain ⟨v, r, rfl, h1, h2⟩ := h
    cases k with
    | zero =>
      simp at e
      obtain ⟨rfl, rfl⟩ := e
      exact ⟨by rw [List.length_cons, List.length_cons, rows_length h2], v, by simp, .inl ⟨rfl, h1⟩⟩
    | succ k =>
      obtain ⟨l, u, e1, e2⟩ := rows_atI h2 nd (by simpa using e)
      exact ⟨by rw [List.length_cons, List.length_cons, l], u, by simpa using e1, e2⟩
  | (false, es) :: rs, vs, as, k, b, ds, h, nd, e => by
    obtain ⟨a, us, r, as', rfl, rfl, h1, h2, h3, h4⟩ := h
    cases k with
    | zero =>
      simp at e
      obtain ⟨rfl, rfl⟩ := e
      exact ⟨by rw [List.length_cons, List.length_cons, rows_length h4], .ref a, by simp, .inr ⟨rfl, a, us, rfl, List.mem_cons_self, h1, h2, h3⟩⟩
    | succ k =>
      obtain ⟨l, u, e1, e2⟩ := rows_atI h4 (List.nodup_cons.mp nd).2 (by simpa using e)
      refine ⟨by rw [List.length_cons, List.length_cons, l], u, by simpa using e1, ?_⟩
      rcases e2 with e2 | ⟨e2, c, us', e3, e4, e5⟩
      · exact .inl e2
      · exact .inr ⟨e2, c, us', e3, List.mem_cons_of_mem _ e4, e5⟩
where
  rows_length {H Hf : Hp} : ∀ {rs : List (Bool × List D)} {vs : List V} {as : List Addr}, RepRows w H Hf rs vs as → vs.length = rs.length
    | [], _, _, h => by rw [h.1]; rfl
    | (true, ds) :: rs, vs, as, h => by
      obtain ⟨v, r, rfl, h1, h2⟩ := h
      rw [List.length_cons, List.length_cons, rows_length h2]
    | (false, ds) :: rs, vs, as, h => by
      obtain ⟨a, us, r, as', rfl, rfl, h1, h2, h3, h4⟩ := h
      rw [List.length_cons, List.length_cons, rows_length h4]
/-- o[j] -/
theorem Res.sub {H0 Hf0 H Hf : Hp} {p pk : Bool} {o o' : OD} {v : V} {j : Int} (g : Gr H0 Hf0 H Hf) (r : Res w xv H0 H Hf p o v) (e : subD pk p o j = .ok o') :
    ∃ a vs u, v = .ref a ∧ (SqL w.K H a vs ∨ SqT w.K H a vs) ∧ L2.atI vs j = some u ∧ ∃ Hf', Gr H0 Hf0 H Hf' ∧ Res w xv H0 H Hf' (p && pk) o' u := by
  obtain ⟨as, h, nd, f⟩ := r
  cases o with
  | fz d =>
    by_cases hs : ∃ ns, d = .scr ns
    · obtain ⟨ns, rfl⟩ := hs
      have e : (R.ofO ((MP.atI ns j).map fun i => OD.fz (.int i)) : R OD) = .ok o' := e
      cases q2 : MP.atI ns j with
      | none => rw [q2] at e; cases e
      | some i =>
        rw [q2] at e
        cases e
        obtain ⟨a, rfl, s⟩ := Rep.scr_iff.mp h.2
        refine ⟨a, ns.map V.int, .int i, rfl, .inl (g.lf.sqL w s), ?_, Hf, g, res_fz (Rep.int_iff.mpr rfl)⟩
        unfold MP.atI at q2
        obtain ⟨k, k1, k2⟩ := Option.bind_eq_some_iff.mp q2
        unfold L2.atI
        rw [List.length_map, show L2.ixN ns.length j = some k from k1]
        show (ns.map V.int)[k]? = _
        rw [List.getElem?_map, k2]
        rfl
    have e : (match d.items with
      | some ds => R.ofO ((MP.atI ds j).map OD.fz)
      | none => R.bad) = .ok o' := by
      cases d <;> first | exact absurd ⟨_, rfl⟩ hs | exact e
    cases q : d.items with
    | none => rw [q] at e; cases e
    | some ds =>
      rw [q] at e
      simp only at e
      cases q2 : MP.atI ds j with
      | none => rw [q2] at e; cases e
      | some d' =>
        rw [q2] at e
        cases e
        obtain ⟨a, vs, rfl, s, rr⟩ := (show Opn w H Hf d v from .inl h.2).seq g.lf q
        obtain ⟨u, e1, e2⟩ := reps_atI rr q2
        exact ⟨a, vs, u, rfl, s.imp (fun z => .inl z) id, e1, Hf, g, res_fz e2⟩
  | own ds =>
    obtain ⟨a, vs, rfl, rfl, h1, h2, h3⟩ := h
    unfold subD at e
    simp only at e
    cases q2 : MP.atI ds j with
    | none => rw [q2] at e; cases e
    | some d' =>
      rw [q2] at e
      cases e
      obtain ⟨u, e1, e2⟩ := reps_atI h3 q2
      exact ⟨a, vs, u, rfl, .inl (SqL.of h1), e1, Hf, g, res_fz e2⟩
  | own2 pp rs =>
    have n := h.none
    obtain ⟨a, vs, as', rfl, rfl, h1, h2, h3, hpp⟩ := h
    unfold subD at e
    simp only at e
    cases q2 : MP.atI rs j with
    | none => rw [q2] at e; cases e
    | some row =>
      rw [q2] at e
      obtain ⟨b, ds⟩ := row
      unfold MP.atI at q2
      obtain ⟨k, hk, q2⟩ := Option.bind_eq_some_iff.mp q2
      obtain ⟨len, u, e1, e2⟩ := rows_atI h3 (List.nodup_cons.mp nd).2 q2
      have eI : L2.atI vs j = some u := by
        unfold L2.atI
        rw [len, show L2.ixN rs.length j = some k from hk]
        exact e1
      refine ⟨a, vs, u, rfl, .inl (SqL.of h1), eI, ?_⟩
      cases b with
      | true =>
        cases e
        rcases e2 with ⟨_, e2⟩ | ⟨z, _⟩
        · exact ⟨Hf, g, res_fz e2⟩
        · cases z
      | false =>
        rcases e2 with ⟨z, _⟩ | ⟨_, c, us, rfl, hc, h5, h6, h7⟩
        · cases z
        · simp only at e
          split at e
          · rename_i hpk
            cases e
            refine ⟨Hf, g, [c], ⟨c, us, rfl, rfl, h5, h6, h7⟩, by simp, fun z b hb => ?_⟩
            rw [hpk, Bool.and_true] at z
            rw [List.mem_singleton.mp hb]
            exact f z c (List.mem_cons_of_mem _ hc)
          · split at e
            · cases e
            · rename_i hp
              cases e
              have hp' : p = false := by simpa using hp
              have fr : ∀ b ∈ [c], H0 b = none := fun b hb => by rw [List.mem_singleton.mp hb]; exact f hp' c (List.mem_cons_of_mem _ hc)
              have nn : ∀ b ∈ [c], Hf b = none := fun b hb => by rw [List.mem_singleton.mp hb]; exact h6
              refine ⟨frzH H Hf [c], frzH_gr g nn fr, res_fz (Rep.lst_iff.mpr ⟨c, us, rfl, .inl (by rw [frzH_in (by simp)]; exact h5), Reps.mono w (frzH_le nn) _ _ h7⟩)⟩
  | _ => cases e
end
end MP

end

section
set_option Elab.async false
set_option linter.all false
set_option maxRecDepth 100000
namespace MP
open PySem PySem.Spec L2
/-! ### the text and the compact syntax -/
def plainE : Expr → Bool
  | .Starred .. => false
  | .Slice .. => false
  | _ => true
def vis (sc : Scope) (x : Str) : Bool := (match sc.names.lookup x with
  | some .local => true
  | some .cell => true
  | some .free => true
  | _ => false) && (!(x == ("__debug__" : Str)) && !(x == ("__classdict__" : Str)))
def glb (sc : Scope) (x : Str) : Bool := decide (sc.names.lookup x = some .globalImplicit) && !(x == ("__debug__" : Str))
def loc (sc : Scope) (x : Str) : Bool := match sc.names.lookup x with
  | some .local => true
  | some .cell => true
  | _ => false
def bname : Blt → Str
  | .len => "len"
  | .abs => "abs"
  | .int => "int"
  | .sum => "sum"
  | .min => "min"
  | .max => "max"
  | .list => "list"
  | .tuple => "tuple"
  | .sorted => "sorted"
  | .any => "any"
  | .all => "all"
  | .gcd => "gcd"
/-- the names that a target stores -/
def T.own (N : List Str) : T → List (Str × Nat)
  | .n i => [(N.getD i "", i)]
  | .t ts => owns N ts
where
  owns (N : List Str) : List T → List (Str × Nat)
    | [] => []
    | a :: as => T.own N a ++ owns N as
structure Ck where
  N : List Str
  nm : Nat → Str
  bl : Blt → Bool
  ty : Ty → Bool
  ex : Nat → Bool
  exf : Nat → Bool
  fn : Nat → Bool
  mkc : Nat → Bool
  me : Nat → Bool
def tyName (nm : Nat → Str) : Ty → Str
  | .tint => "int"
  | .tbool => "bool"
  | .tstr => "str"
  | .tlist => "list"
  | .ttuple => "tuple"
  | .cls k => nm k
  | .exc k => nm k
  | .verr => "ValueError"
  | .tnone => "NoneType"
mutual
def kT (c : Ck) (sc : Scope) : T → Expr → Bool
  | .n i, .Name x _ => decide (c.N[i]? = some x) && loc sc x
  | .t ts, .Tuple es _ _ => kTs c sc ts es
  | _, _ => false
def kTs (c : Ck) (sc : Scope) : List T → List Expr → Bool
  | [], [] => true
  | t :: ts, e :: es => kT c sc t e && kTs c sc ts es
  | _, _ => false
end
def kTy (c : Ck) (sc : Scope) (t : Ty) (x : Str) : Bool := glb sc x && (c.ty t && decide (x = tyName c.nm t))
def kTys (c : Ck) (sc : Scope) : List Ty → List Expr → Bool
  | [], [] => true
  | t :: ts, .Name x _ :: es => kTy c sc t x && kTys c sc ts es
  | _, _ => false
abbrev KF := Expr → Bool
def kInt (i : Int) : KF
  | .Constant (.int j) _ _ => decide (i = j)
  | _ => false
def kBl (b : Bool) : KF
  | .Constant (.bool d) _ _ => b == d
  | _ => false
def kNon : KF
  | .Constant .none _ _ => true
  | _ => false
def kStr (x : List Nat) : KF
  | .Constant (.str y) _ _ => decide (strOf x = y)
  | _ => false
def kVar (c : Ck) (sc : Scope) (i : Nat) : KF
  | .Name x _ => decide (c.N[i]? = some x) && vis sc x
  | _ => false
def kGlob (c : Ck) (sc : Scope) (g : Nat) : KF
  | .Name x _ => decide (c.nm g = x) && glb sc x
  | _ => false
def kBin (op : Bop) (a b : KF) : KF
  | .BinOp l o r _ => decide (opOf op = o) && (a l && b r)
  | _ => false
def kNeg (a : KF) : KF
  | .UnaryOp .USub x _ => a x
  | _ => false
def kNot (a : KF) : KF
  | .UnaryOp .Not x _ => a x
  | _ => false
def noSet : Expr → Bool
  | .Set .. => false
  | _ => true
def kCmp (op : Cop) (a b : KF) : KF
  | .Compare l [o] [r] _ => decide (copOf op = o) && (noSet r && (a l && b r))
  | _ => false
def kChain (o1 o2 : Cop) (a b d : KF) : KF
  | .Compare l [p1, p2] [m, r] _ => decide (copOf o1 = p1) && (decide (copOf o2 = p2) && (noSet m && (noSet r && (a l && (b m && d r)))))
  | _ => false
def kIsN (a : KF) (yes : Bool) : KF
  | .Compare l [o] [.Constant .none _ _] _ => decide (o = if yes then .Is else .IsNot) && a l
  | _ => false
def kIsB (a : KF) (b yes : Bool) : KF
  | .Compare l [o] [.Constant (.bool d) _ _] _ => decide (o = if yes then .Is else .IsNot) && (b == d && a l)
  | _ => false
def kAnd (a b : KF) : KF
  | .BoolOp .And (x :: y :: z) p => a x && b (.BoolOp .And (y :: z) p)
  | _ => false
def kOr (a b : KF) : KF
  | .BoolOp .Or (x :: y :: z) p => a x && b (.BoolOp .Or (y :: z) p)
  | _ => false
/-- the last of a chain of ands, ors -/
def kOne (a : KF) : KF
  | .BoolOp _ [x] _ => a x
  | _ => false
def kIte (t a b : KF) : KF
  | .IfExp x y z _ => t x && (a y && b z)
  | _ => false
def kTup (n : Nat) (es : List Expr → Bool) : KF
  | .Tuple xs _ _ => decide (n ≤ 1000) && es xs
  | _ => false
def kLst (n : Nat) (es : List Expr → Bool) : KF
  | .List xs _ => decide (n ≤ 1000) && es xs
  | _ => false
def kPart (non : Bool) (e : KF) : Option Expr → Bool
  | none => non
  | some x => !non && e x
def kRev (a : KF) : KF
  | .Subscript x (.Slice none none (some (.UnaryOp .USub (.Constant (.int 1) _ _) _)) _) _ => a x
  | _ => false
def kSlc (a : KF) (lo hi : Option Expr → Bool) : KF
  | .Subscript x (.Slice l h none _) _ => a x && (lo l && hi h)
  | _ => false
def kSub (a i : KF) : KF
  | .Subscript x y _ => a x && (plainE y && i y)
  | _ => false
def notSuper : Expr → Bool
  | .Call (.Name _ _) [] [] _ => false
  | _ => true
def kAttr (c : Ck) (f : Nat) (a : KF) : KF
  | .Attribute x g _ => a x && (notSuper x && decide (c.nm f = g))
  | _ => false
def kCall (c : Ck) (sc : Scope) (f : Nat) (es : List Expr → Bool) : KF
  | .Call (.Name x _) (y :: xs) [] _ => c.fn f && (decide (c.nm f = x) && (glb sc x && es (y :: xs)))
  | _ => false
def kMk (c : Ck) (sc : Scope) (f : Nat) (es : List Expr → Bool) : KF
  | .Call (.Name x _) (y :: xs) [] _ => c.mkc f && (decide (c.nm f = x) && (glb sc x && es (y :: xs)))
  | _ => false
def kMeth (c : Ck) (m : Nat) (a : KF) (es : List Expr → Bool) : KF
  | .Call (.Attribute x g ap) xs [] p => c.me m && a x && (notSuper x && (decide (c.nm m = g) && (es xs && ap.endLine == p.line)))
  | _ => false
def kBlt (c : Ck) (sc : Scope) (f : Blt) (es : List Expr → Bool) : KF
  | .Call (.Name x _) (y :: xs) [] _ => c.bl f && (decide (bname f = x) && (glb sc x && es (y :: xs)))
  | _ => false
/-- list(range(..)), tuple(range(..)) -/
def kLrg (c : Ck) (sc : Scope) (f : Blt) (es : List Expr → Bool) : KF
  | .Call (.Name x _) [.Call (.Name g _) (y :: ys) [] _] [] _ => (f == .list || f == .tuple) && (c.bl f && (decide (bname f = x) && (glb sc x && (decide (g = ("range" : Str)) && (glb sc g && (decide (ys.length ≤ 1) && es (y :: ys)))))))
  | _ => false
def kBits (a : KF) : KF
  | .Call (.Attribute x g ap) [] [] p => a x && (notSuper x && (decide (g = ("bit_length" : Str)) && ap.endLine == p.line))
  | _ => false
def kTyE (c : Ck) (sc : Scope) (ts : List Ty) : KF
  | .Name y _ => (match ts with
      | [t] => kTy c sc t y
      | _ => false)
  | .Tuple ys _ _ => kTys c sc ts ys && (decide (ts.length ≤ 30) && !ts.isEmpty)
  | _ => false
def kInst (c : Ck) (sc : Scope) (a : KF) (ts : List Ty) : KF
  | .Call (.Name f _) [x, t] [] _ => decide (f = ("isinstance" : Str)) && (glb sc f && (plainE x && (plainE t && (a x && kTyE c sc ts t))))
  | _ => false
def T.nodup (N : List Str) (t : T) : Bool := decide ((T.own N t).map (·.2)).Nodup
def isTupT : Expr → Bool
  | .Tuple .. => true
  | _ => false
def kComp (c : Ck) (sc : Scope) (e : Scope → KF) (tg : T) (it : Expr → KF) (n : Nat) (cs : Scope → List Expr → Bool) : KF
  | .ListComp x [⟨t, i, ifs, 0⟩] sc2 _ => e sc2 x && (kT c sc2 tg t && (it t i && (noSet i && (cs sc2 ifs && (decide (n ≤ 1) && (blkC c.N sc sc2 (T.own c.N tg) && T.nodup c.N tg))))))
  | _ => false
def kRng (sc : Scope) (es : List Expr → Bool) : KF
  | .Call (.Name f _) (x :: xs) [] _ => decide (f = ("range" : Str)) && (glb sc f && (decide (xs.length ≤ 1) && es (x :: xs)))
  | _ => false
def kEnm (sc : Scope) (a : KF) : KF
  | .Call (.Name f _) [x] [] _ => decide (f = ("enumerate" : Str)) && (glb sc f && (plainE x && a x))
  | _ => false
def kZip (sc : Scope) (a b : KF) : KF
  | .Call (.Name f _) [x, y] [] _ => decide (f = ("zip" : Str)) && (glb sc f && (plainE x && (plainE y && (a x && b y))))
  | _ => false
def kNil {α : Type} : List α → Bool
  | [] => true
  | _ => false
def kCons (a : KF) (r : List Expr → Bool) : List Expr → Bool
  | x :: xs => plainE x && (a x && r xs)
  | _ => false
def kKw (c : Ck) (k : Nat) (a : KF) (r : List Keyword → Bool) : List Keyword → Bool
  | ⟨some n, x, _⟩ :: xs => decide (c.nm k = n) && (a x && r xs)
  | _ => false
mutual
def kE (c : Ck) : Scope → E → KF
  | _, .int i => kInt i
  | _, .bl b => kBl b
  | _, .non => kNon
  | _, .str x => kStr x
  | sc, .var i => kVar c sc i
  | sc, .glob g => kGlob c sc g
  | sc, .bin op a b => kBin op (kE c sc a) (kE c sc b)
  | sc, .neg a => kNeg (kE c sc a)
  | sc, .notE a => kNot (kE c sc a)
  | sc, .cmp op a b => kCmp op (kE c sc a) (kE c sc b)
  | sc, .chain o1 o2 a b d => kChain o1 o2 (kE c sc a) (kE c sc b) (kE c sc d)
  | sc, .isN a yes => kIsN (kE c sc a) yes
  | sc, .isB a b yes => kIsB (kE c sc a) b yes
  | sc, .andE a b => kAnd (kE c sc a) (kE c sc b)
  | sc, .orE a b => kOr (kE c sc a) (kE c sc b)
  | sc, .one a => kOne (kE c sc a)
  | sc, .ite t a b => kIte (kE c sc t) (kE c sc a) (kE c sc b)
  | sc, .tup es => kTup es.length (kEs c sc es)
  | sc, .lst es => kLst es.length (kEs c sc es)
  | sc, .rev a => kRev (kE c sc a)
  | sc, .slc a lo hi => kSlc (kE c sc a) (kPart (isNon lo) (kE c sc lo)) (kPart (isNon hi) (kE c sc hi))
  | sc, .sub a i => kSub (kE c sc a) (kE c sc i)
  | sc, .attr a f => kAttr c f (kE c sc a)
  | sc, .call f es ks kes => match ks, kes with
    | [], [] => kCall c sc f (kEs c sc es)
    | _, _ => fun _ => false
  | sc, .mk k es => kMk c sc k (kEs c sc es)
  | sc, .meth a m es => kMeth c m (kE c sc a) (kEs c sc es)
  | sc, .blt f es => match es with
    | [.rng rs] => kLrg c sc f (kEs c sc rs)
    | es => kBlt c sc f (kEs c sc es)
  | sc, .bm m a es => match m, es with
    | .bitlen, [] => kBits (kE c sc a)
    | _, _ => fun _ => false
  | sc, .inst a ts => kInst c sc (kE c sc a) ts
  | sc, .comp e tg it cs => kComp c sc (fun sc2 => kE c sc2 e) tg (fun t => match it with
      | .rng es => kRng sc (kEs c sc es)
      | .enm a => fun x => isTupT t && kEnm sc (kE c sc a) x
      | .zip a b => fun x => isTupT t && kZip sc (kE c sc a) (kE c sc b) x
      | it => kE c sc it) cs.length (fun sc2 => kEs c sc2 cs)
  | _, .rng _ => fun _ => false
  | _, .enm _ => fun _ => false
  | _, .zip _ _ => fun _ => false
def kEs (c : Ck) : Scope → List E → List Expr → Bool
  | _, [] => kNil
  | sc, e :: es => kCons (kE c sc e) (kEs c sc es)
end
/-- what is gone through -/
def kI (c : Ck) (sc : Scope) (t : Expr) : E → KF
  | .rng es => kRng sc (kEs c sc es)
  | .enm a => fun x => isTupT t && kEnm sc (kE c sc a) x
  | .zip a b => fun x => isTupT t && kZip sc (kE c sc a) (kE c sc b) x
  | it => kE c sc it
theorem kE_comp {c : Ck} {sc : Scope} {e : E} {tg : T} {it : E} {cs : List E} : kE c sc (.comp e tg it cs) = kComp c sc (fun sc2 => kE c sc2 e) tg (fun t => kI c sc t it) cs.length (fun sc2 => kEs c sc2 cs) := by
  rw [kE]
  congr 1
end MP

end

section
set_option Elab.async false
set_option linter.all false
set_option maxRecDepth 100000
namespace MP
open PySem PySem.Spec L2
/-- an error: its class, its field -/
def ExR (w : Wd) (Hf : Hp) (c : Nat) (p : Option D) (cls : Value) (d : Option Addr) : Prop :=
  ∃ q, w.P.xc c = some q ∧ cls = .ref (w.cad c) ∧ (p = none → d = none) ∧ ∀ x, p = some x → ∃ f da v, q.fld = some f ∧ d = some da ∧ Hf da = some (.xd [(w.nm f, v)]) ∧ Rep w Hf x v
theorem ExR.mono {w : Wd} {Hf Hf' : Hp} {c : Nat} {p : Option D} {cls : Value} {d : Option Addr} (l : Le Hf Hf') (h : ExR w Hf c p cls d) : ExR w Hf' c p cls d := by
  obtain ⟨q, h1, h2, h3, h4⟩ := h
  refine ⟨q, h1, h2, h3, fun x e => ?_⟩
  obtain ⟨f, da, v, k1, k2, k3, k4⟩ := h4 x e
  exact ⟨f, da, v, k1, k2, l _ _ k3, Rep.mono w l _ _ k4⟩
/-- what is wanted of what was reckoned -/
def wpR {α : Type} (w : Wd) (W : WX) (σ : L2.St) (H Hf : Hp) (r : R α) (k : α → Prop) : Prop := match r with
  | .ok a => k a
  | .ex c p => ∀ cls d H' Hf', Gr H Hf H' Hf' → ExR w Hf' c p cls d → W cls d σ H'
  | .bad => False
theorem Gr.none_of {H Hf H' Hf' : Hp} (g : Gr H Hf H' Hf') {a : Addr} (h : H' a = none) : H a = none := by
  cases q : H a with
  | none => rfl
  | some o => rw [g.le a o q] at h; cases h
section
variable {α β : Type} {w : Wd} {W : WX} {σ : L2.St} {H Hf H1 Hf1 : Hp}
theorem wpR.bind {r : R α} {f : α → R β} {k : β → Prop} : wpR w W σ H Hf (r.bind f) k ↔ wpR w W σ H Hf r fun a => wpR w W σ H Hf (f a) k := by
  cases r <;> exact Iff.rfl
theorem wpR.imp {r : R α} {k k' : α → Prop} (h : wpR w W σ H Hf r k) (i : ∀ a, r = .ok a → k a → k' a) : wpR w W σ H Hf r k' := by
  cases r with
  | ok a => exact i a rfl h
  | ex c p => exact h
  | bad => exact h
theorem wpR.mono {r : R α} {k k' : α → Prop} (g : Gr H Hf H1 Hf1) (h : wpR w W σ H Hf r k) (i : ∀ a, r = .ok a → k a → k' a) : wpR w W σ H1 Hf1 r k' := by
  cases r with
  | ok a => exact i a rfl h
  | ex c p => exact fun cls d H' Hf' g' e => h cls d H' Hf' (g.trans g') e
  | bad => exact h
theorem wpR.ofO {o : Option α} {k : α → Prop} : wpR w W σ H Hf (R.ofO o) k ↔ ∃ a, o = some a ∧ k a := by
  cases o with
  | none => exact ⟨fun h => h.elim, fun ⟨a, e, _⟩ => nomatch e⟩
  | some a => exact ⟨fun h => ⟨a, rfl, h⟩, fun ⟨b, e, h⟩ => by cases e; exact h⟩
end
/-- no list, no tuple is longer than the line -/
def Fits (K : PySem.W.Frag) (H : Hp) : Prop := ∀ a xs, SqL K H a xs ∨ SqT K H a xs → xs.length ≤ sizeLine
theorem Inv.fits {X : Cx} {pins : List (Addr × Obj)} {σ : L2.St} {H : Hp} {s : Shared} (I : L2.Inv X pins σ H s) : Fits X.K H := fun a xs h => by
  rcases h with h | h
  · obtain ⟨_, _, _, z⟩ := I.list h
    exact z
  · obtain ⟨_, _, _, z⟩ := I.tuple h
    exact z
theorem PE.fits {X : Cx} {e : Expr} {t : TE} (h : PE X e t) : PE X e (fun σ H Q => t σ H fun v H' => Fits X.K H' → Q v H') :=
  ⟨fun pins s σ H Q I hq => thn (h.run pins s σ H _ I hq) fun v s' ⟨x, H', I', r, q⟩ => ⟨x, H', I', r, q (Inv.fits I')⟩⟩
theorem PE.imp {X : Cx} {e : Expr} {t t' : TE} (h : PE X e t) (i : ∀ σ H Q, t' σ H Q → t σ H Q) : PE X e t' :=
  ⟨fun pins s σ H Q I hq => h.run pins s σ H Q I (i σ H Q hq)⟩
theorem PT.imp {X : Cx} {e : Expr} {t t' : TT} (h : PT X e t) (i : ∀ σ H Q, t' σ H Q → t σ H Q) : PT X e t' :=
  ⟨fun pins s σ H Q I hq => h.run pins s σ H Q I (i σ H Q hq)⟩
theorem PA.imp {X : Cx} {e : List Expr} {t t' : TA} (h : PA X e t) (i : ∀ σ H Q, t' σ H Q → t σ H Q) : PA X e t' :=
  ⟨fun pos pins s σ H Q I hq => h.run pos pins s σ H Q I (i σ H Q hq)⟩
theorem PK.imp {X : Cx} {e : List Keyword} {t t' : TA} (h : PK X e t) (i : ∀ σ H Q, t' σ H Q → t σ H Q) : PK X e t' :=
  ⟨fun pos pins s σ H Q I hq => h.run pos pins s σ H Q I (i σ H Q hq)⟩

/-- the state in which an expression is reckoned -/
structure At (w : Wd) (xv : XV) (Γ : List OD) (σ : L2.St) (H Hf : Hp) : Prop where
  lf : Le Hf H
  sl : Slots w xv H Hf Γ σ
  ln : Γ.length = σ.length
theorem At.mono {w : Wd} {xv : XV} (hx : XvOk xv) {Γ : List OD} {σ : L2.St} {H Hf H1 Hf1 : Hp} (a : At w xv Γ σ H Hf) (g : Gr H Hf H1 Hf1) : At w xv Γ σ H1 Hf1 := ⟨g.lf, a.sl.mono hx g, a.ln⟩
/-- an expression's reading: r tells what it is worth in the state Γ, k what is wanted of a value -/
def tR {α : Type} (w : Wd) (xv : XV) (W : WX) (r : List OD → R α) (k : Hp → Hp → Hp → α → V → Prop) : TE := fun σ H Q =>
  ∃ Hf Γ, At w xv Γ σ H Hf ∧ wpR w W σ H Hf (r Γ) fun a => ∀ v H' Hf', Gr H Hf H' Hf' → k H H' Hf' a v → Q v H'
/-- .. as it is -/
def tE (w : Wd) (xv : XV) (W : WX) (X : MP.Fx) (e : E) (pk : Bool) : TE := tR w xv W (fun Γ => ev X e Γ pk) fun H0 H' Hf' o v => Res w xv H0 H' Hf' (isPath e && pk) o v
/-- .. as an operand -/
def tO (w : Wd) (xv : XV) (W : WX) (X : MP.Fx) (e : E) : TE := tR w xv W (fun Γ => oper (isPath e) (ev X e Γ true)) fun _ H' Hf' d v => Opn w H' Hf' d v
/-- .. as an argument -/
def ArgB (w : Wd) (H Hf : Hp) (d : D × Bool) (v : V) : Prop := Arg w H Hf d.1 v ∧ ∃ as, (d.2 = false → as = []) ∧ (∀ a ∈ as, Hf a = none ∧ ∃ us, H a = some (.lst us)) ∧ Rep w (frzH H Hf as) d.1 v
def tG (w : Wd) (xv : XV) (W : WX) (X : MP.Fx) (e : E) : TE := tR w xv W (fun Γ => argm (isPath e) (ev X e Γ true)) fun _ H' Hf' d v => ArgB w H' Hf' d v
/-- .. as a new thing's part -/
def tF (w : Wd) (xv : XV) (W : WX) (X : MP.Fx) (e : E) : TE := tR w xv W (fun Γ => frz (ev X e Γ false)) fun _ H' Hf' d v => Rep w Hf' d v
/-- .. as a truth value -/
def tB' (w : Wd) (xv : XV) (W : WX) (X : MP.Fx) (e : E) : TE := tR w xv W (fun Γ => asB (ev X e Γ true)) fun _ _ _ b v => v = .bl b
/-- .. as a test -/
def tT (w : Wd) (xv : XV) (W : WX) (X : MP.Fx) (e : E) : TT := fun σ H Q =>
  ∃ Hf Γ, At w xv Γ σ H Hf ∧ wpR w W σ H Hf (tru (ev X e Γ true)) fun b => ∀ H' Hf', Gr H Hf H' Hf' → Q b H'
section
variable {w : Wd} {xv : XV} {W : WX} {X : Cx} {Fx : MP.Fx} {e : E} {x : Expr}
theorem gr_le {H Hf H' Hf1 Hf2 : Hp} (g : Gr H Hf H' Hf1) (g2 : Gr H Hf H' Hf2) : True := trivial
theorem pe_O (hK : X.K = w.K) (h : PE X x (tE w xv W Fx e true)) : PE X x (tO w xv W Fx e) := PE.imp h fun σ H Q ⟨Hf, Γ, a, q⟩ => by
  refine ⟨Hf, Γ, a, ?_⟩
  refine (wpR.bind.mp q).imp fun o _ q v H' Hf' g r => ?_
  obtain ⟨d, e, q⟩ := wpR.ofO.mp q
  rw [Bool.and_true] at r
  obtain ⟨Hf2, g2, h2⟩ := r.opd g e
  exact q v H' Hf2 g2 h2
theorem pe_G (hK : X.K = w.K) (h : PE X x (tE w xv W Fx e true)) : PE X x (tG w xv W Fx e) := PE.imp h fun σ H Q ⟨Hf, Γ, a, q⟩ => by
  refine ⟨Hf, Γ, a, ?_⟩
  refine (wpR.bind.mp q).imp fun o _ q v H' Hf' g r => ?_
  obtain ⟨d, e, q⟩ := wpR.ofO.mp q
  rw [Bool.and_true] at r
  obtain ⟨Hf2, g2, h1, as, h2, h3, h4⟩ := r.arg g e
  exact q v H' Hf2 g2 ⟨h1, as, h2, h3, h4⟩
theorem pe_F (hK : X.K = w.K) (h : PE X x (tE w xv W Fx e false)) : PE X x (tF w xv W Fx e) := PE.imp h fun σ H Q ⟨Hf, Γ, a, q⟩ => by
  refine ⟨Hf, Γ, a, ?_⟩
  refine (wpR.bind.mp q).imp fun o _ q v H' Hf' g r => ?_
  obtain ⟨d, e, q⟩ := wpR.ofO.mp q
  rw [Bool.and_false] at r
  obtain ⟨Hf2, g2, h1⟩ := r.data g e
  exact q v H' Hf2 g2 h1
theorem pe_B (hK : X.K = w.K) (h : PE X x (tE w xv W Fx e true)) : PE X x (tB' w xv W Fx e) := PE.imp h fun σ H Q ⟨Hf, Γ, a, q⟩ => by
  refine ⟨Hf, Γ, a, ?_⟩
  refine (wpR.bind.mp q).imp fun o _ q v H' Hf' g r => ?_
  obtain ⟨as, r, _⟩ := r
  cases o with
  | fz d =>
    cases d with
    | bl b => exact q v H' Hf' g (Rep.bl_iff.mp r.2)
    | _ => exact q.elim
  | _ => exact q.elim
end
end MP

end

section
set_option Elab.async false
set_option linter.all false
set_option maxRecDepth 100000
namespace MP
open PySem PySem.Spec L2
open PyProof.Rows (IntsAre)
/-! ### built-in functions -/
section
variable {w : Wd} {xv : XV} {X : Cx}
def Opns (w : Wd) (H Hf : Hp) : List D → List V → Prop
  | [], vs => vs = []
  | d :: ds, vs => ∃ v r, vs = v :: r ∧ Opn w H Hf d v ∧ Opns w H Hf ds r
theorem Opns.mono {H Hf H' Hf' : Hp} (g : Gr H Hf H' Hf') : ∀ {ds : List D} {vs : List V}, Opns w H Hf ds vs → Opns w H' Hf' ds vs
  | [], _, h => h
  | d :: ds, vs, h => by
    obtain ⟨v, r, e, h1, h2⟩ := h
    exact ⟨v, r, e, h1.mono g, Opns.mono g h2⟩
def rBlt (w : Wd) (xv : XV) (f : Blt) : List V → Hp → VK → Prop := fun vs H Q => ∃ Hf ds o, Le Hf H ∧ Opns w H Hf ds vs ∧ bltD f ds = .ok o ∧ Out w xv H Hf o Q
theorem opns1 {H Hf : Hp} {vs : List V} {d : D} (h : Opns w H Hf [d] vs) : ∃ v, vs = [v] ∧ Opn w H Hf d v := by
  obtain ⟨v, r, rfl, h1, h2⟩ := h
  have : r = [] := h2
  subst this
  exact ⟨v, rfl, h1⟩
theorem opns2 {H Hf : Hp} {vs : List V} {d e : D} (h : Opns w H Hf [d, e] vs) : ∃ v u, vs = [v, u] ∧ Opn w H Hf d v ∧ Opn w H Hf e u := by
  obtain ⟨v, r, rfl, h1, h2⟩ := h
  obtain ⟨u, r, rfl, h3, h4⟩ := h2
  have : r = [] := h4
  subst this
  exact ⟨v, u, rfl, h1, h3⟩
theorem map_ok {α β : Type} {r : Option α} {f : α → β} {b : β} (h : (R.ofO r).map f = .ok b) : ∃ a, r = some a ∧ f a = b := by
  cases r with
  | none => cases h
  | some a => cases h; exact ⟨a, rfl, rfl⟩
theorem blt_len (hK : X.K = w.K) : CallR X (.builtin "len") (rBlt w xv .len) := by
  intro pins s σ H vs us Q I r h
  obtain ⟨Hf, ds, o, l, os, e, k⟩ := h
  simp only [bltD] at e
  unfold lenD at e
  split at e
  · cases e
    obtain ⟨v, rfl, ox⟩ := opns1 os
    obtain ⟨a, vs, rfl, s1, rr⟩ := ox.tup l
    exact call_len_seq pins s σ H _ us Q I r ⟨a, vs, rfl, .inr (hK ▸ s1), by rw [rr.length]; exact k.int l⟩
  · cases e
    obtain ⟨v, rfl, ox⟩ := opns1 os
    obtain ⟨a, vs, rfl, s1, rr⟩ := ox.lst l
    exact call_len_seq pins s σ H _ us Q I r ⟨a, vs, rfl, .inl (.inl s1), by rw [rr.length]; exact k.int l⟩
  · rename_i ns
    cases e
    obtain ⟨v, rfl, ox⟩ := opns1 os
    rcases ox with ox | ⟨_, _, _, e, _⟩
    · obtain ⟨a, rfl, s1⟩ := Rep.scr_iff.mp ox
      exact call_len_seq pins s σ H _ us Q I r ⟨a, ns.map V.int, rfl, .inl (hK ▸ l.sqL w s1), by rw [List.length_map]; exact k.int l⟩
    · cases e
  · cases e
theorem blt_abs : CallR X (.builtin "abs") (rBlt w xv .abs) := by
  intro pins s σ H vs us Q I r h
  obtain ⟨Hf, ds, o, l, os, e, k⟩ := h
  simp only [bltD] at e
  unfold absD at e
  split at e
  · cases e
    obtain ⟨v, rfl, ox⟩ := opns1 os
    rw [ox.int] at r
    exact call_abs pins s σ H _ us Q I r ⟨_, rfl, k.int l⟩
  · cases e
theorem blt_int : CallR X (.type "int") (rBlt w xv .int) := by
  intro pins s σ H vs us Q I r h
  obtain ⟨Hf, ds, o, l, os, e, k⟩ := h
  simp only [bltD] at e
  unfold intD at e
  split at e
  · cases e
    obtain ⟨v, rfl, ox⟩ := opns1 os
    rw [ox.int] at r
    exact call_int1 pins s σ H _ us Q I r (.inl ⟨_, rfl, k.int l⟩)
  · cases e
    obtain ⟨v, rfl, ox⟩ := opns1 os
    rw [ox.bl] at r
    exact call_int1 pins s σ H _ us Q I r (.inr ⟨_, rfl, k.int l⟩)
  · cases e
theorem opn_ints {H Hf : Hp} {x : D} {v : V} {ns : List Int} (l : Le Hf H) (h : Opn w H Hf x v) (e : seqInts x = some ns) : ∃ a, v = .ref a ∧ (Rd H a (.lst (ns.map V.int)) ∨ SqT w.K H a (ns.map V.int)) := by
  unfold seqInts at e
  obtain ⟨ds, e1, e2⟩ := Option.bind_eq_some_iff.mp e
  obtain ⟨a, vs, rfl, s1, rr⟩ := h.seq l e1
  rw [rr.ints e2] at s1
  exact ⟨a, rfl, s1⟩
/-- sum of a tuple of ints -/
theorem cr_sumT (hc : X.calm = true) : CallR X (.builtin "sum") (fun vs H Q => ∃ (a : Addr) (ns : List Int), vs = [V.ref a] ∧ SqT X.K H a (ns.map V.int) ∧ Q (.int ns.sum) H) := by
  intro pins s σ H vs us Q I r h
  obtain ⟨a, ns, rfl, hs, q⟩ := h
  obtain ⟨its, rv, hl, _⟩ := I.tuple hs
  rw [Vals.ref1 r]
  have hi := rv.ints
  obtain ⟨xs, e⟩ := hi.allInts.items
  have hn : numsOf (intItems xs).toList = ns := by rw [← e]; exact hi.numsOf
  rw [nums_intItems] at hn
  rw [e] at hl
  refine PySem.W.ktm_sumG (I.ok.hd hc) hl fun h' tk t' hk => ?_
  rw [preSum_eq, List.take_of_length_le (by simp), hn]
  exact ⟨.int _, H, I.kept hk, ⟨_, rfl⟩, q⟩
theorem iter_tup {prog : Program} {wd : World} {A : Around} {E : Value → Shared → Prop} {s : Shared} {l : Addr} {items : Array Value} {Q : Value → Shared → Prop} (hl : s.heap.IsTuple l items)
    (h : ∀ s₂ : Shared, s₂ = { s with heap := s.heap.push { cls := .type "tuple_iterator", data := .fields #[.ref l, .int 0 0] } } →
      (s₂.heap.IsTupleIter s.heap.objs.size l 0 ∧ s₂.heap.IsTuple l items) → (∀ b ∈ [s.heap.objs.size, l], b < s₂.heap.objs.size) → l ≠ s.heap.objs.size → Q (.ref s.heap.objs.size) s₂) : wpAny (model prog wd) A (pyIter (.ref l)) Q E s := by
  have hlt : l < s.heap.objs.size := by obtain ⟨_, e, _⟩ := hl; exact Heap.lt_size e
  refine wpAny_pyIter_tuple hl (h _ rfl ⟨⟨_, Heap.get?_push_size _ rfl, rfl, rfl⟩, hl.at fun o e => Heap.get?_push_of_some _ e⟩ (fun b hb => ?_) (Nat.ne_of_lt hlt))
  rw [Heap.size_push]
  rcases List.mem_cons.mp hb with rfl | hb
  · exact Nat.lt_succ_self _
  · rw [List.mem_singleton.mp hb]
    exact Nat.lt_succ_of_lt hlt
theorem max_tup {prog : Program} {wd : World} {A : Around} {E : Value → Shared → Prop} {s : Shared} {l : Addr} {its : List Value} {ns : List Int} {Q : Value → Shared → Prop} (hh : A.handled = none) (hl : s.heap.IsTuple l its.toArray) (hi : IntsAre its ns) (hne : 0 < ns.length)
    (h : ∀ h' tk M t', (∀ b o, s.heap.get? b = some o → h'.get? b = some o) → M ∈ ns → (∀ a, a ∈ ns → a ≤ M) → Q (.int M t') { s with heap := h', toks := tk }) : wpAny (model prog wd) A (call (.builtin "max") [.ref l]) Q E s := by
  obtain ⟨xs, e⟩ := hi.allInts.items
  have hn : numsOf (intItems xs).toList = ns := by rw [← e]; exact hi.numsOf
  rw [nums_intItems] at hn
  subst hn
  rw [e] at hl
  have hsz : 0 < xs.size := by simpa using hne
  refine call_max_walk (iter_tup hl fun s₂ e st hfp hlI => ?_)
  subst e
  refine ⟨_, _, _, _, _, _, _, rfl, Walks.tuple (A := A.in1) hh _ l hlI (intItems xs), st, hfp, by simpa [intItems] using hsz, CmpOf.ints_gt (numAt xs) (fun _ _ => intItems_at), fun v h' tk hP hk => ?_⟩
  have hv : (intItems xs)[argBest (fun i j => decide (numAt xs i > numAt xs j)) (xs.size - 1)]? = some v := by simpa [intItems] using hP
  obtain ⟨t, rfl⟩ := intItems_at hv
  obtain ⟨h1, h2⟩ := argBest_gt (numAt xs) (xs.size - 1)
  refine h h' tk _ t (fun b o eo => hk b o (fun hm => ?_) (Heap.get?_push_of_some _ eo)) ?_ fun a ha => ?_
  · rw [List.mem_singleton.mp hm] at eo
    exact absurd (Heap.lt_size eo) (Nat.lt_irrefl _)
  · rw [numAt_eq]; exact PySem.getD_mem (by rw [List.length_map, Array.length_toList]; omega)
  · obtain ⟨j, hj, rfl⟩ := mem_getD ha
    rw [List.length_map, Array.length_toList] at hj
    rw [← numAt_eq]; exact h2 j (by omega)
theorem min_tup {prog : Program} {wd : World} {A : Around} {E : Value → Shared → Prop} {s : Shared} {l : Addr} {its : List Value} {ns : List Int} {Q : Value → Shared → Prop} (hh : A.handled = none) (hl : s.heap.IsTuple l its.toArray) (hi : IntsAre its ns) (hne : 0 < ns.length)
    (h : ∀ h' tk M t', (∀ b o, s.heap.get? b = some o → h'.get? b = some o) → M ∈ ns → (∀ a, a ∈ ns → M ≤ a) → Q (.int M t') { s with heap := h', toks := tk }) : wpAny (model prog wd) A (call (.builtin "min") [.ref l]) Q E s := by
  obtain ⟨xs, e⟩ := hi.allInts.items
  have hn : numsOf (intItems xs).toList = ns := by rw [← e]; exact hi.numsOf
  rw [nums_intItems] at hn
  subst hn
  rw [e] at hl
  have hsz : 0 < xs.size := by simpa using hne
  refine call_min_walk (iter_tup hl fun s₂ e st hfp hlI => ?_)
  subst e
  refine ⟨_, _, _, _, _, _, _, rfl, Walks.tuple (A := A.in1) hh _ l hlI (intItems xs), st, hfp, by simpa [intItems] using hsz, CmpOf.ints_lt (numAt xs) (fun _ _ => intItems_at), fun v h' tk hP hk => ?_⟩
  have hv : (intItems xs)[argBest (fun i j => decide (numAt xs i < numAt xs j)) (xs.size - 1)]? = some v := by simpa [intItems] using hP
  obtain ⟨t, rfl⟩ := intItems_at hv
  obtain ⟨h1, h2⟩ := argBest_lt (numAt xs) (xs.size - 1)
  refine h h' tk _ t (fun b o eo => hk b o (fun hm => ?_) (Heap.get?_push_of_some _ eo)) ?_ fun a ha => ?_
  · rw [List.mem_singleton.mp hm] at eo
    exact absurd (Heap.lt_size eo) (Nat.lt_irrefl _)
  · rw [numAt_eq]; exact PySem.getD_mem (by rw [List.length_map, Array.length_toList]; omega)
  · obtain ⟨j, hj, rfl⟩ := mem_getD ha
    rw [List.length_map, Array.length_toList] at hj
    rw [← numAt_eq]; exact h2 j (by omega)
theorem maxL_mem : ∀ {ns : List Int} {m : Int}, maxL ns = some m → m ∈ ns ∧ ∀ y ∈ ns, y ≤ m := by
  have go : ∀ (ns : List Int) (x : Int), (ns.foldl (fun m y => if y > m then y else m) x = x ∨ ns.foldl (fun m y => if y > m then y else m) x ∈ ns) ∧ x ≤ ns.foldl (fun m y => if y > m then y else m) x ∧ ∀ y ∈ ns, y ≤ ns.foldl (fun m y => if y > m then y else m) x := by
    intro ns
    induction ns with
    | nil => intro x; simp
    | cons y ns ih =>
      intro x
      rw [List.foldl_cons]
      obtain ⟨h1, h2, h3⟩ := ih (if y > x then y else x)
      generalize ns.foldl (fun m y => if y > m then y else m) (if y > x then y else x) = M at h1 h2 h3 ⊢
      refine ⟨?_, ?_, fun z hz => ?_⟩
      · rcases h1 with h1 | h1
        · rw [h1]
          by_cases q : y > x
          · rw [if_pos q]; exact .inr List.mem_cons_self
          · rw [if_neg q]; exact .inl rfl
        · exact .inr (List.mem_cons_of_mem _ h1)
      · by_cases q : y > x
        · rw [if_pos q] at h2; omega
        · rw [if_neg q] at h2; omega
      · rcases List.mem_cons.mp hz with rfl | hz
        · by_cases q : z > x
          · rw [if_pos q] at h2; omega
          · rw [if_neg q] at h2; omega
        · exact h3 z hz
  intro ns m h
  cases ns with
  | nil => cases h
  | cons x ns =>
    cases h
    obtain ⟨h1, h2, h3⟩ := go ns x
    refine ⟨?_, fun y hy => ?_⟩
    · rcases h1 with h1 | h1
      · rw [h1]; exact List.mem_cons_self
      · exact List.mem_cons_of_mem _ h1
    · rcases List.mem_cons.mp hy with rfl | hy
      · exact h2
      · exact h3 y hy
theorem minL_mem : ∀ {ns : List Int} {m : Int}, minL ns = some m → m ∈ ns ∧ ∀ y ∈ ns, m ≤ y := by
  have go : ∀ (ns : List Int) (x : Int), (ns.foldl (fun m y => if y < m then y else m) x = x ∨ ns.foldl (fun m y => if y < m then y else m) x ∈ ns) ∧ ns.foldl (fun m y => if y < m then y else m) x ≤ x ∧ ∀ y ∈ ns, ns.foldl (fun m y => if y < m then y else m) x ≤ y := by
    intro ns
    induction ns with
    | nil => intro x; simp
    | cons y ns ih =>
      intro x
      rw [List.foldl_cons]
      obtain ⟨h1, h2, h3⟩ := ih (if y < x then y else x)
      generalize ns.foldl (fun m y => if y < m then y else m) (if y < x then y else x) = M at h1 h2 h3 ⊢
      refine ⟨?_, ?_, fun z hz => ?_⟩
      · rcases h1 with h1 | h1
        · rw [h1]
          by_cases q : y < x
          · rw [if_pos q]; exact .inr List.mem_cons_self
          · rw [if_neg q]; exact .inl rfl
        · exact .inr (List.mem_cons_of_mem _ h1)
      · by_cases q : y < x
        · rw [if_pos q] at h2; omega
        · rw [if_neg q] at h2; omega
      · rcases List.mem_cons.mp hz with rfl | hz
        · by_cases q : z < x
          · rw [if_pos q] at h2; omega
          · rw [if_neg q] at h2; omega
        · exact h3 z hz
  intro ns m h
  cases ns with
  | nil => cases h
  | cons x ns =>
    cases h
    obtain ⟨h1, h2, h3⟩ := go ns x
    refine ⟨?_, fun y hy => ?_⟩
    · rcases h1 with h1 | h1
      · rw [h1]; exact List.mem_cons_self
      · exact List.mem_cons_of_mem _ h1
    · rcases List.mem_cons.mp hy with rfl | hy
      · exact h2
      · exact h3 y hy
theorem blt_sum (hK : X.K = w.K) (hc : X.calm = true) : CallR X (.builtin "sum") (rBlt w xv .sum) := by
  intro pins s σ H vs us Q I r h
  obtain ⟨Hf, ds, o, l, os, e, k⟩ := h
  simp only [bltD] at e
  unfold sumD at e
  split at e
  · obtain ⟨ns, e1, rfl⟩ := map_ok e
    obtain ⟨v, rfl, ox⟩ := opns1 os
    obtain ⟨a, rfl, s1⟩ := opn_ints l ox e1
    rcases s1 with s1 | s1
    · exact cr_sum hc pins s σ H _ us Q I r ⟨a, ns, rfl, .inl s1, k.int l⟩
    · exact cr_sumT hc pins s σ H _ us Q I r ⟨a, ns, rfl, hK ▸ s1, k.int l⟩
  · cases e
theorem blt_max (hK : X.K = w.K) (hc : X.calm = true) : CallR X (.builtin "max") (rBlt w xv .max) := by
  intro pins s σ H vs us Q I r h
  obtain ⟨Hf, ds, o, l, os, e, k⟩ := h
  simp only [bltD] at e
  unfold maxD at e
  split at e
  · obtain ⟨m, e1, rfl⟩ := map_ok e
    obtain ⟨ns, e1, e2⟩ := Option.bind_eq_some_iff.mp e1
    obtain ⟨v, rfl, ox⟩ := opns1 os
    obtain ⟨a, rfl, s1⟩ := opn_ints l ox e1
    obtain ⟨hm, hb⟩ := maxL_mem e2
    have hne : 0 < ns.length := List.length_pos_iff.mpr fun z => by rw [z] at hm; cases hm
    have fin : ∀ m', m' ∈ ns → (∀ y ∈ ns, y ≤ m') → Q (.int m') H := fun m' h1 h2 => by
      have e3 : m' = m := Int.le_antisymm (hb m' h1) (h2 m hm)
      rw [e3]
      exact k.int l
    rcases s1 with s1 | s1
    · exact cr_max hc pins s σ H _ us Q I r ⟨a, ns, rfl, .inl s1, hne, fin⟩
    · obtain ⟨its, rv, hl, _⟩ := I.tuple (hK ▸ s1)
      rw [Vals.ref1 r]
      exact max_tup (I.ok.hd hc) hl rv.ints hne fun h' tk m t' hk h1 h2 => ⟨.int _, H, I.kept hk, ⟨_, rfl⟩, fin m h1 h2⟩
  · cases e
    obtain ⟨v, u, rfl, ox, oy⟩ := opns2 os
    rw [ox.int, oy.int] at r
    exact call_max2 hc pins s σ H _ us Q I r ⟨_, _, rfl, k.int l⟩
  · cases e
theorem blt_min (hK : X.K = w.K) (hc : X.calm = true) : CallR X (.builtin "min") (rBlt w xv .min) := by
  intro pins s σ H vs us Q I r h
  obtain ⟨Hf, ds, o, l, os, e, k⟩ := h
  simp only [bltD] at e
  unfold minD at e
  split at e
  · obtain ⟨m, e1, rfl⟩ := map_ok e
    obtain ⟨ns, e1, e2⟩ := Option.bind_eq_some_iff.mp e1
    obtain ⟨v, rfl, ox⟩ := opns1 os
    obtain ⟨a, rfl, s1⟩ := opn_ints l ox e1
    obtain ⟨hm, hb⟩ := minL_mem e2
    have hne : 0 < ns.length := List.length_pos_iff.mpr fun z => by rw [z] at hm; cases hm
    have fin : ∀ m', m' ∈ ns → (∀ y ∈ ns, m' ≤ y) → Q (.int m') H := fun m' h1 h2 => by
      have e3 : m' = m := Int.le_antisymm (h2 m hm) (hb m' h1)
      rw [e3]
      exact k.int l
    rcases s1 with s1 | s1
    · exact cr_min hc pins s σ H _ us Q I r ⟨a, ns, rfl, .inl s1, hne, fin⟩
    · obtain ⟨its, rv, hl, _⟩ := I.tuple (hK ▸ s1)
      rw [Vals.ref1 r]
      exact min_tup (I.ok.hd hc) hl rv.ints hne fun h' tk m t' hk h1 h2 => ⟨.int _, H, I.kept hk, ⟨_, rfl⟩, fin m h1 h2⟩
  · cases e
    obtain ⟨v, u, rfl, ox, oy⟩ := opns2 os
    rw [ox.int, oy.int] at r
    exact call_min2 hc pins s σ H _ us Q I r ⟨_, _, rfl, k.int l⟩
  · cases e
theorem blt_list (hK : X.K = w.K) : CallR X (.type "list") (rBlt w xv .list) := by
  intro pins s σ H vs us Q I r h
  obtain ⟨Hf, ds, o, l, os, e, k⟩ := h
  simp only [bltD] at e
  unfold listD at e
  split at e
  · obtain ⟨ds, e1, rfl⟩ := map_ok e
    obtain ⟨v, rfl, ox⟩ := opns1 os
    obtain ⟨a, vs, rfl, s1, rr⟩ := ox.seq l e1
    exact call_list_of pins s σ H _ us Q I r ⟨a, vs, rfl, s1.imp (fun z => .inl z) (fun z => hK ▸ z), k.own l rr⟩
  · cases e
theorem blt_tuple (hK : X.K = w.K) : CallR X (.type "tuple") (rBlt w xv .tuple) := by
  intro pins s σ H vs us Q I r h
  obtain ⟨Hf, ds, o, l, os, e, k⟩ := h
  simp only [bltD] at e
  unfold tupleD at e
  split at e
  · rename_i x
    obtain ⟨ds, e1, rfl⟩ := map_ok e
    obtain ⟨v, rfl, ox⟩ := opns1 os
    cases x with
    | tup xs =>
      cases e1
      have oy := ox
      obtain ⟨a, vs, rfl, s1, rr⟩ := ox.tup l
      rcases oy with oy | ⟨_, _, _, z, _⟩
      · exact call_tuple_of pins s σ H _ us Q I r ⟨a, vs, rfl, .inr ⟨hK ▸ s1, k.fz l oy⟩⟩
      · cases z
    | lst xs =>
      cases e1
      obtain ⟨a, vs, rfl, s1, rr⟩ := ox.lst l
      exact call_tuple_of pins s σ H _ us Q I r ⟨a, vs, rfl, .inl ⟨.inl s1, k.tup l rr⟩⟩
    | _ => cases e1
  · cases e
theorem blt_any (hc : X.calm = true) : CallR X (.builtin "any") (rBlt w xv .any) := by
  intro pins s σ H vs us Q I r h
  obtain ⟨Hf, ds, o, l, os, e, k⟩ := h
  simp only [bltD] at e
  unfold anyD at e
  split at e
  · obtain ⟨bs, e1, rfl⟩ := map_ok e
    obtain ⟨v, rfl, ox⟩ := opns1 os
    obtain ⟨a, vs, rfl, s1, rr⟩ := ox.lst l
    rw [rr.bls e1] at s1
    exact cr_any hc pins s σ H _ us Q I r ⟨a, bs, rfl, .inl s1, k.bl l⟩
  · cases e
theorem blt_all (hc : X.calm = true) : CallR X (.builtin "all") (rBlt w xv .all) := by
  intro pins s σ H vs us Q I r h
  obtain ⟨Hf, ds, o, l, os, e, k⟩ := h
  simp only [bltD] at e
  unfold allD at e
  split at e
  · obtain ⟨bs, e1, rfl⟩ := map_ok e
    obtain ⟨v, rfl, ox⟩ := opns1 os
    obtain ⟨a, vs, rfl, s1, rr⟩ := ox.lst l
    rw [rr.bls e1] at s1
    exact cr_all hc pins s σ H _ us Q I r ⟨a, bs, rfl, .inl s1, k.bl l⟩
  · cases e
theorem blt_gcd : CallR X (.builtin "math.gcd") (rBlt w xv .gcd) := by
  intro pins s σ H vs us Q I r h
  obtain ⟨Hf, ds, o, l, os, e, k⟩ := h
  simp only [bltD] at e
  unfold gcdD at e
  split at e
  · cases e
    obtain ⟨v, u, rfl, ox, oy⟩ := opns2 os
    rw [ox.int, oy.int] at r
    exact cr_gcd pins s σ H _ us Q I r ⟨_, _, rfl, k.int l⟩
  · cases e
theorem insI_perm (x : Int) : ∀ ys : List Int, (insI x ys).Perm (x :: ys)
  | [] => List.Perm.refl _
  | y :: ys => by
    unfold insI
    split
    · exact List.Perm.refl _
    · exact ((insI_perm x ys).cons y).trans (List.Perm.swap x y ys)
theorem sortI_perm : ∀ ns : List Int, (sortI ns).Perm ns
  | [] => List.Perm.refl _
  | x :: xs => (insI_perm x (sortI xs)).trans ((sortI_perm xs).cons x)
theorem insI_sorted (x : Int) : ∀ ys : List Int, ys.Pairwise (· ≤ ·) → (insI x ys).Pairwise (· ≤ ·)
  | [], _ => by simp [insI]
  | y :: ys, h => by
    unfold insI
    obtain ⟨h1, h2⟩ := List.pairwise_cons.mp h
    split
    · rename_i hx
      refine List.pairwise_cons.mpr ⟨fun z hz => ?_, h⟩
      rcases List.mem_cons.mp hz with rfl | hz
      · exact hx
      · exact Int.le_trans hx (h1 z hz)
    · rename_i hx
      refine List.pairwise_cons.mpr ⟨fun z hz => ?_, insI_sorted x ys h2⟩
      rcases List.mem_cons.mp ((insI_perm x ys).mem_iff.mp hz) with rfl | hz
      · omega
      · exact h1 z hz
theorem sortI_sorted : ∀ ns : List Int, (sortI ns).Pairwise (· ≤ ·)
  | [] => List.Pairwise.nil
  | x :: xs => insI_sorted x _ (sortI_sorted xs)
theorem sorted_unique : ∀ {a b : List Int}, a.Perm b → a.Pairwise (· ≤ ·) → b.Pairwise (· ≤ ·) → a = b
  | [], b, p, _, _ => (List.Perm.nil_eq p)
  | x :: a, b, p, ha, hb => by
    cases b with
    | nil => exact absurd p.length_eq (by simp)
    | cons y b =>
      obtain ⟨a1, a2⟩ := List.pairwise_cons.mp ha
      obtain ⟨b1, b2⟩ := List.pairwise_cons.mp hb
      have h1 : x ≤ y := by
        rcases List.mem_cons.mp (p.mem_iff.mpr List.mem_cons_self) with e | e
        · omega
        · exact a1 y e
      have h2 : y ≤ x := by
        rcases List.mem_cons.mp (p.mem_iff.mp List.mem_cons_self) with e | e
        · omega
        · exact b1 x e
      have e : x = y := by omega
      subst e
      rw [sorted_unique (List.Perm.cons_inv p) a2 b2]
theorem blt_sorted (hK : X.K = w.K) : CallR X (.builtin "sorted") (rBlt w xv .sorted) := by
  intro pins s σ H vs us Q I r h
  obtain ⟨Hf, ds, o, l, os, e, k⟩ := h
  simp only [bltD] at e
  unfold sortedD at e
  split at e
  · obtain ⟨ns, e1, rfl⟩ := map_ok e
    obtain ⟨v, rfl, ox⟩ := opns1 os
    obtain ⟨a, vs, rfl, s1, rr⟩ := ox.lst l
    rw [rr.ints e1] at s1
    refine cr_sortedI pins s σ H _ us Q I r ⟨a, ns, rfl, .inl s1, fun ns' p h1 h2 h3 => ?_⟩
    have e2 : ns' = sortI ns := sorted_unique (h1.trans (sortI_perm ns).symm) h2 (sortI_sorted ns)
    rw [e2]
    exact k.own l (Reps.of_ints _) p h3
  · cases e
end
end MP

end

section
set_option Elab.async false
set_option linter.all false
set_option maxRecDepth 100000
namespace MP
open PySem PySem.Spec L2
def xv0 : XV := fun _ _ _ _ => False
/-- a class as a value -/
def tyV (w : Wd) : Ty → V
  | .tint => .ty "int"
  | .tbool => .ty "bool"
  | .tstr => .ty "str"
  | .tlist => .ty "list"
  | .ttuple => .ty "tuple"
  | .tnone => .ty "NoneType"
  | .verr => .ty "ValueError"
  | .cls k => .ref (w.cad k)
  | .exc k => .ref (w.cad k)
def tyVal (w : Wd) : Ty → Value
  | .tint => .type "int"
  | .tbool => .type "bool"
  | .tstr => .type "str"
  | .tlist => .type "list"
  | .ttuple => .type "tuple"
  | .tnone => .type "NoneType"
  | .verr => .type "ValueError"
  | .cls k => .ref (w.cad k)
  | .exc k => .ref (w.cad k)
def TyMg (w : Wd) (X : Cx) : Ty → Prop
  | .cls k => X.mg (w.nm k) = some (.ref (w.cad k))
  | .exc k => X.mg (w.nm k) = some (.ref (w.cad k))
  | .tnone => False
  | t => X.mg (tyName w.nm t) = none
/-- isinstance with one class, with a tuple of classes -/
def rIs1 (w : Wd) (xv : XV) (ok : Ty → Bool) (sub : Nat → Ty → Bool) : List V → Hp → VK → Prop := fun xs H Q => ∃ Hf o x as t b, xs = [x, tyV w t] ∧ ok t = true ∧ Le Hf H ∧ RepO w xv H Hf o x as ∧ isTy o t sub = some b ∧ Q (.bl b) H
def rIsT (w : Wd) (xv : XV) (ok : Ty → Bool) (sub : Nat → Ty → Bool) : List V → Hp → VK → Prop := fun xs H Q => ∃ Hf o x as ts tp b, xs = [x, .ref tp] ∧ H tp = some (.tup (ts.map (tyV w))) ∧ ts ≠ [] ∧ (∀ t ∈ ts, ok t = true) ∧ Le Hf H ∧ RepO w xv H Hf o x as ∧ anyTy o sub ts = some b ∧ Q (.bl b) H
/-- x.f of a value -/
def AtR (X : Cx) (f : Str) (r : V → Hp → VK → Prop) : Prop := ∀ (pins : List (Addr × Obj)) (s : Shared) (σ : L2.St) (H : Hp) (x : V) (u : Value) (Q : VK), L2.Inv X pins σ H s → RelV x u → r x H Q →
  wpAny (model X.prog X.w) X.A (getAttr u f true) (EP X pins σ Q) X.xe s
/-- a caught error's field -/
def rXa (w : Wd) (xv : XV) (Fx : MP.Fx) (f : Nat) : V → Hp → VK → Prop := fun x H Q => ∃ Hf c p, Le Hf H ∧ xv c (some p) x Hf ∧ Fx.xf c = some f ∧ ∀ v, Rep w Hf p v → Q v H
/-- the same def, another block of it -/
abbrev Cx.wt (X : Cx) (s0 : Shared) (H0 : Hp) (env : Env) (outer stack : List Env) (ex : List Addr) (fn : Str → Bool) (pn : List (Addr × Obj)) (xe : Value → Shared → Prop) : Cx :=
  { X with s_0 := s0, H_0 := H0, env := env, outer := outer, stack := stack, ex := ex, fn := fn, pn := pn, xe := xe }
/-- what holds in all blocks of a def -/
structure CnW (w : Wd) (c : Ck) (xv : XV) (X : Cx) (Fx : MP.Fx) : Prop where
  is1 : ∀ s0 H0 env outer stack ex fn pn xe, CallR (Cx.wt X s0 H0 env outer stack ex fn pn xe) (.builtin "isinstance") (rIs1 w xv c.ty Fx.sub)
  isT : ∀ s0 H0 env outer stack ex fn pn xe, CallR (Cx.wt X s0 H0 env outer stack ex fn pn xe) (.builtin "isinstance") (rIsT w xv c.ty Fx.sub)
  xat : ∀ s0 H0 env outer stack ex fn pn xe f, AtR (Cx.wt X s0 H0 env outer stack ex fn pn xe) (w.nm f) (rXa w xv Fx f)
  cal : ∀ s0 H0 env outer stack ex fn pn xe W, Takes (Cx.wt X s0 H0 env outer stack ex fn pn xe) W → ∀ (f : Nat) (p pos : Pos) (y : Expr) (xs : List Expr) (ta : TA), c.fn f = true → Gl (Cx.wt X s0 H0 env outer stack ex fn pn xe) (w.nm f) → (w.nm f == ("__debug__" : Str)) = false → (∀ x ∈ y :: xs, plainE x = true) → PA (Cx.wt X s0 H0 env outer stack ex fn pn xe) (y :: xs) ta →
    PE (Cx.wt X s0 H0 env outer stack ex fn pn xe) (.Call (.Name (w.nm f) p) (y :: xs) [] pos) fun σ H Q => ta σ H fun vs H1 => ∃ Hf as, Le Hf H1 ∧ Reps w Hf as vs ∧ wpR w W σ H1 Hf (Fx.call f as [] []) fun o => Out w xv0 H1 Hf o Q
  mak : ∀ s0 H0 env outer stack ex fn pn xe W, Takes (Cx.wt X s0 H0 env outer stack ex fn pn xe) W → ∀ (k : Nat) (p pos : Pos) (y : Expr) (xs : List Expr) (ta : TA), c.mkc k = true → Gl (Cx.wt X s0 H0 env outer stack ex fn pn xe) (w.nm k) → (w.nm k == ("__debug__" : Str)) = false → (∀ x ∈ y :: xs, plainE x = true) → PA (Cx.wt X s0 H0 env outer stack ex fn pn xe) (y :: xs) ta →
    PE (Cx.wt X s0 H0 env outer stack ex fn pn xe) (.Call (.Name (w.nm k) p) (y :: xs) [] pos) fun σ H Q => ta σ H fun vs H1 => ∃ Hf as, Le Hf H1 ∧ Reps w Hf as vs ∧ wpR w W σ H1 Hf (Fx.make k as) fun o => Out w xv0 H1 Hf o Q
  met : ∀ s0 H0 env outer stack ex fn pn xe W, Takes (Cx.wt X s0 H0 env outer stack ex fn pn xe) W → ∀ (m : Nat) (o : Expr) (apos pos : Pos) (xs : List Expr) (to : TE) (ta : TA), c.me m = true → notSuper o = true → (apos.endLine == pos.line) = true → (∀ x ∈ xs, plainE x = true) → PE (Cx.wt X s0 H0 env outer stack ex fn pn xe) o to → PA (Cx.wt X s0 H0 env outer stack ex fn pn xe) xs ta →
    PE (Cx.wt X s0 H0 env outer stack ex fn pn xe) (.Call (.Attribute o (w.nm m) apos) xs [] pos) fun σ H Q => to σ H fun x H1 => ∃ k f, Fx.meth k m = some f ∧ (∃ a dx vs, x = .ref a ∧ H1 a = some (.ins (w.cad k) dx ((w.flds k).zip vs)) ∧ (w.flds k).length = vs.length) ∧
      ta σ H1 fun vs H2 => ∃ Hf as, Le Hf H2 ∧ Reps w Hf as (x :: vs) ∧ wpR w W σ H2 Hf (Fx.call f as [] []) fun o => Out w xv0 H2 Hf o Q
/-- the context in which expressions are reckoned -/
structure CnE (w : Wd) (c : Ck) (xv : XV) (X : Cx) (sc : Scope) (Fx : MP.Fx) (W : WX) : Prop where
  hK : X.K = w.K
  hN : X.N = c.N
  nm : c.nm = w.nm
  nd : X.N.Nodup
  vi : ∀ x, MP.vis sc x = true → Vis X.env.scope x
  gl : ∀ x, MP.glb sc x = true → Gl X x
  cf : ∀ x, sc.names.lookup x = some .cell ∨ sc.names.lookup x = some .free → X.env.scope.names.lookup x = some .cell ∨ X.env.scope.names.lookup x = some .free
  hu : X.A.units + 65 < cLine
  calm : Fx.calm = true → X.calm = true
  xvo : XvOk xv
  gv : ∀ g d, Fx.gv g = some d → ∃ v u, X.mg (w.nm g) = some u ∧ RelV v u ∧ ∀ H, Rep w H d v
  bl : ∀ f, c.bl f = true → f ≠ .gcd → X.mg (bname f) = none
  gcd : c.bl .gcd = true → X.mg "gcd" = some (.builtin "math.gcd")
  rng : X.mg "range" = none
  enm : X.mg "enumerate" = none
  zip : X.mg "zip" = none
  isi : X.mg "isinstance" = none
  ty : ∀ t, c.ty t = true → TyMg w X t
  is1 : CallR X (.builtin "isinstance") (rIs1 w xv c.ty Fx.sub)
  isT : CallR X (.builtin "isinstance") (rIsT w xv c.ty Fx.sub)
  fld : ∀ k f i, Fx.fld k f = some i → Cls w.K (w.cad k) ∧ NoAttr w.K (w.cad k) (w.nm f) ∧ (w.flds k).Nodup ∧ (w.flds k)[i]? = some (w.nm f)
  xat : ∀ f, AtR X (w.nm f) (rXa w xv Fx f)
  tk : Takes X W
  ww : Fx.calm = true → CnW w c xv X Fx
  /-- calls while an error is handled -/
  cah : Fx.calm = false → ∀ (f : Nat) (p pos : Pos) (y : Expr) (xs : List Expr) (ta : TA), c.fn f = true → MP.glb sc (w.nm f) = true → (∀ x ∈ y :: xs, plainE x = true) → PA X (y :: xs) ta →
    PE X (.Call (.Name (w.nm f) p) (y :: xs) [] pos) fun σ H Q => ta σ H fun vs H1 => ∃ Hf as, Le Hf H1 ∧ Reps w Hf as vs ∧ wpR w W σ H1 Hf (Fx.call f as [] []) fun o => Out w xv0 H1 Hf o Q
section
variable {w : Wd} {c : Ck} {xv : XV} {X : Cx} {sc : Scope} {Fx : MP.Fx} {W : WX}
theorem glb_of0 {sc : Scope} {x : Str} (h : MP.glb sc x = true) : (x == ("__debug__" : Str)) = false := by
  unfold MP.glb at h
  have := (Bool.and_eq_true_iff.mp h).2
  simpa using this
theorem CnE.cal (cn : CnE w c xv X sc Fx W) (hc : Fx.calm = true) (f : Nat) (p pos : Pos) (y : Expr) (xs : List Expr) (ta : TA) (h1 : c.fn f = true) (h2 : MP.glb sc (w.nm f) = true) (h3 : ∀ x ∈ y :: xs, plainE x = true) (h4 : PA X (y :: xs) ta) :
    PE X (.Call (.Name (w.nm f) p) (y :: xs) [] pos) fun σ H Q => ta σ H fun vs H1 => ∃ Hf as, Le Hf H1 ∧ Reps w Hf as vs ∧ wpR w W σ H1 Hf (Fx.call f as [] []) fun o => Out w xv0 H1 Hf o Q :=
  (cn.ww hc).cal X.s_0 X.H_0 X.env X.outer X.stack X.ex X.fn X.pn X.xe W cn.tk f p pos y xs ta h1 (cn.gl _ h2) (glb_of0 h2) h3 h4
theorem CnE.cal2 (cn : CnE w c xv X sc Fx W) (f : Nat) (p pos : Pos) (y : Expr) (xs : List Expr) (ta : TA) (h1 : c.fn f = true) (h2 : MP.glb sc (w.nm f) = true) (h3 : ∀ x ∈ y :: xs, plainE x = true) (h4 : PA X (y :: xs) ta) :
    PE X (.Call (.Name (w.nm f) p) (y :: xs) [] pos) fun σ H Q => ta σ H fun vs H1 => ∃ Hf as, Le Hf H1 ∧ Reps w Hf as vs ∧ wpR w W σ H1 Hf (Fx.call f as [] []) fun o => Out w xv0 H1 Hf o Q := by
  cases hc : Fx.calm with
  | true => exact cn.cal hc f p pos y xs ta h1 h2 h3 h4
  | false => exact cn.cah hc f p pos y xs ta h1 h2 h3 h4
theorem CnE.mak (cn : CnE w c xv X sc Fx W) (hc : Fx.calm = true) (k : Nat) (p pos : Pos) (y : Expr) (xs : List Expr) (ta : TA) (h1 : c.mkc k = true) (h2 : MP.glb sc (w.nm k) = true) (h3 : ∀ x ∈ y :: xs, plainE x = true) (h4 : PA X (y :: xs) ta) :
    PE X (.Call (.Name (w.nm k) p) (y :: xs) [] pos) fun σ H Q => ta σ H fun vs H1 => ∃ Hf as, Le Hf H1 ∧ Reps w Hf as vs ∧ wpR w W σ H1 Hf (Fx.make k as) fun o => Out w xv0 H1 Hf o Q :=
  (cn.ww hc).mak X.s_0 X.H_0 X.env X.outer X.stack X.ex X.fn X.pn X.xe W cn.tk k p pos y xs ta h1 (cn.gl _ h2) (glb_of0 h2) h3 h4
theorem CnE.met (cn : CnE w c xv X sc Fx W) (hc : Fx.calm = true) (m : Nat) (o : Expr) (apos pos : Pos) (xs : List Expr) (to : TE) (ta : TA) (h1 : c.me m = true) (h2 : notSuper o = true) (h3 : (apos.endLine == pos.line) = true) (h4 : ∀ x ∈ xs, plainE x = true) (h5 : PE X o to) (h6 : PA X xs ta) :
    PE X (.Call (.Attribute o (w.nm m) apos) xs [] pos) fun σ H Q => to σ H fun x H1 => ∃ k f, Fx.meth k m = some f ∧ (∃ a dx vs, x = .ref a ∧ H1 a = some (.ins (w.cad k) dx ((w.flds k).zip vs)) ∧ (w.flds k).length = vs.length) ∧
      ta σ H1 fun vs H2 => ∃ Hf as, Le Hf H2 ∧ Reps w Hf as (x :: vs) ∧ wpR w W σ H2 Hf (Fx.call f as [] []) fun o => Out w xv0 H2 Hf o Q :=
  (cn.ww hc).met X.s_0 X.H_0 X.env X.outer X.stack X.ex X.fn X.pn X.xe W cn.tk m o apos pos xs to ta h1 h2 h3 h4 h5 h6
end
/-- an expression is reckoned rightly -/
def SE (w : Wd) (c : Ck) (e : E) : Prop := ∀ (xv : XV) (X : Cx) (sc : Scope) (Fx : MP.Fx) (W : WX), CnE w c xv X sc Fx W → ∀ (x : Expr) (pk : Bool), kE c sc e x = true → PE X x (tE w xv W Fx e pk)
section
variable {w : Wd} {c : Ck} {xv : XV} {X : Cx} {sc : Scope} {Fx : MP.Fx} {W : WX}
theorem res_int {H0 H Hf : Hp} {p : Bool} {i : Int} : Res w xv H0 H Hf p (.fz (.int i)) (.int i) := res_fz (Rep.int_iff.mpr rfl)
theorem se_int {i : Int} : SE w c (.int i) := fun xv X sc Fx W cn x pk h => by
  unfold kE kInt at h
  split at h
  · have e := of_decide_eq_true h
    subst e
    exact PE.imp pe_int fun σ H Q ⟨Hf, Γ, a, q⟩ => q _ H Hf (Gr.refl a.lf) res_int
  · exact absurd h Bool.false_ne_true
theorem nb {p : Prop} (h : false = true) : p := absurd h Bool.false_ne_true
theorem an {a b : Bool} (h : (a && b) = true) : a = true ∧ b = true := Bool.and_eq_true_iff.mp h
theorem se_bl {b : Bool} : SE w c (.bl b) := fun xv X sc Fx W cn x pk h => by
  unfold kE kBl at h
  split at h
  · have e := beq_iff_eq.mp h
    subst e
    exact PE.imp (pe_bl) fun σ H Q ⟨Hf, Γ, a, q⟩ => q _ H Hf (Gr.refl a.lf) (res_fz (Rep.bl_iff.mpr rfl))
  · exact nb h
theorem se_non : SE w c .non := fun xv X sc Fx W cn x pk h => by
  unfold kE kNon at h
  split at h
  · exact PE.imp (pe_non) fun σ H Q ⟨Hf, Γ, a, q⟩ => q _ H Hf (Gr.refl a.lf) (res_fz (Rep.non_iff.mpr rfl))
  · exact nb h
theorem se_str {z : List Nat} : SE w c (.str z) := fun xv X sc Fx W cn x pk h => by
  unfold kE kStr at h
  split at h
  · have e := of_decide_eq_true h
    subst e
    exact PE.imp (pe_str) fun σ H Q ⟨Hf, Γ, a, q⟩ => q _ H Hf (Gr.refl a.lf) (res_fz (Rep.str_iff.mpr rfl))
  · exact nb h
theorem vis_of {x : Str} (h : MP.vis sc x = true) : (x == ("__debug__" : Str)) = false ∧ (x == ("__classdict__" : Str)) = false := by
  unfold MP.vis at h
  obtain ⟨_, h2⟩ := an h
  obtain ⟨h3, h4⟩ := an h2
  exact ⟨by simpa using h3, by simpa using h4⟩
theorem glb_of {x : Str} (h : MP.glb sc x = true) : (x == ("__debug__" : Str)) = false := by
  unfold MP.glb at h
  obtain ⟨_, h2⟩ := an h
  simpa using h2
/-- what a name holds, by its place -/
theorem varD_res {H Hf : Hp} {Γ : List OD} {σ : L2.St} {i : Nat} {pk : Bool} {o : OD} (sl : Slots w xv H Hf Γ σ) (e : varD Γ[i]? pk = .ok o) :
    ∃ v, σ[i]? = some (some v) ∧ Res w xv H H Hf (true && pk) o v := by
  cases q : Γ[i]? with
  | none => rw [q] at e; cases e
  | some u =>
    rw [q] at e
    have ne : u ≠ .un := fun z => by subst z; cases e
    obtain ⟨v, as, e1, r, nd⟩ := sl i u q ne
    refine ⟨v, e1, ?_⟩
    cases u with
    | fz d => cases e; exact ⟨as, r, nd, fun _ a h => by rw [r.1] at h; cases h⟩
    | un => exact absurd rfl ne
    | _ =>
      simp only [varD] at e
      split at e
      · rename_i hp
        cases e
        exact ⟨as, r, nd, fun z => by rw [hp] at z; cases z⟩
      · cases e
theorem wp_ok {α : Type} {σ : L2.St} {H Hf : Hp} {r : R α} {k : α → Prop} (h : wpR w W σ H Hf r k) (ne : ∀ c p, r ≠ .ex c p) : ∃ a, r = .ok a ∧ k a := by
  cases r with
  | ok a => exact ⟨a, rfl, h⟩
  | ex c p => exact absurd rfl (ne c p)
  | bad => exact h.elim
theorem varD_ne {o : Option OD} {pk : Bool} : ∀ c p, varD o pk ≠ .ex c p := fun c p h => by
  unfold varD at h
  split at h <;> first | (cases h; done) | (split at h <;> cases h)
theorem se_var {i : Nat} : SE w c (.var i) := fun xv X sc Fx W cn x pk h => by
  unfold kE kVar at h
  split at h
  · obtain ⟨h1, h2⟩ := an h
    obtain ⟨d1, d2⟩ := vis_of h2
    refine PE.imp (pe_var (by rw [cn.hN]; exact of_decide_eq_true h1) (cn.vi _ h2) d1 d2) fun σ H Q ⟨Hf, Γ, a, q⟩ => ?_
    obtain ⟨o, e, q⟩ := wp_ok q varD_ne
    obtain ⟨v, e1, r⟩ := varD_res a.sl e
    exact ⟨v, e1, q v H Hf (Gr.refl a.lf) r⟩
  · exact nb h
theorem se_glob {g : Nat} : SE w c (.glob g) := fun xv X sc Fx W cn x pk h => by
  unfold kE kGlob at h
  split at h
  · obtain ⟨h1, h2⟩ := an h
    have e := of_decide_eq_true h1
    subst e
    refine ⟨fun pins s σ H Q I hq => ?_⟩
    obtain ⟨Hf, Γ, a, q⟩ := hq
    obtain ⟨o, e, q⟩ := wpR.ofO.mp q
    cases q2 : Fx.gv g with
    | none => rw [q2] at e; cases e
    | some d =>
      rw [q2] at e
      cases e
      obtain ⟨v, u, m, r, rep⟩ := cn.gv g d q2
      rw [cn.nm] at h2 ⊢
      exact (pe_glob (cn.gl _ h2) m r (glb_of h2)).run pins s σ H Q I (q v H Hf (Gr.refl a.lf) (res_fz (rep Hf)))
  · exact nb h
/-- two operands, an operator -/
theorem se_bin {op : Bop} {a b : E} (ha : SE w c a) (hb : SE w c b) : SE w c (.bin op a b) := fun xv X sc Fx W cn x pk h => by
  unfold kE kBin at h
  split at h
  · obtain ⟨h1, h2⟩ := an h
    obtain ⟨h2, h3⟩ := an h2
    have e := of_decide_eq_true h1
    subst e
    have pa := pe_O cn.hK (ha xv X sc Fx W cn _ true h2)
    have pb := pe_O cn.hK (hb xv X sc Fx W cn _ true h3)
    refine PE.imp (pe_op (op_bin (xv := xv) cn.hK op) pa pb) fun σ H Q ⟨Hf, Γ, at_, q⟩ => ?_
    refine ⟨Hf, Γ, at_, (wpR.bind.mp q).imp fun dx _ q v1 H1 Hf1 g1 o1 => ?_⟩
    refine ⟨Hf1, Γ, at_.mono cn.xvo g1, (wpR.bind.mp q).mono g1 fun dy _ q v2 H2 Hf2 g2 o2 => ?_⟩
    obtain ⟨o, e, q⟩ := wp_ok q fun c p h => by
      cases dx <;> cases dy <;> cases op <;> simp only [binD] at h <;> first | (cases h; done) | (split at h <;> cases h; done) | (revert h; generalize pyBit Nat.land _ _ = r; intro h; cases r <;> cases h)
    exact ⟨Hf2, dx, dy, o, g2.lf, o1.mono g2, o2, e, fun v H' Hf' g3 r => q v H' Hf' ((g1.trans g2).trans g3) (by
      obtain ⟨as, r1, r2, r3⟩ := r
      exact ⟨as, r1, r2, fun _ a m => (g1.trans g2).none_of (r3 rfl a m)⟩)⟩
  · exact nb h
theorem Res.back {H0 Hf0 H1 Hf1 H Hf : Hp} (g : Gr H0 Hf0 H1 Hf1) {p : Bool} {o : OD} {v : V} (r : Res w xv H1 H Hf p o v) : Res w xv H0 H Hf p o v := by
  obtain ⟨as, r1, r2, r3⟩ := r
  exact ⟨as, r1, r2, fun z a m => g.none_of (r3 z a m)⟩
theorem out_of {H Hf H2 Hf2 : Hp} {o : OD} {Q : VK} (cn : CnE w c xv X sc Fx W) (g : Gr H Hf H2 Hf2) (q : ∀ v H' Hf', Gr H Hf H' Hf' → Res w xv H H' Hf' false o v → Q v H') :
    Out w xv H2 Hf2 o Q := fun v H' Hf' g3 r => q v H' Hf' (g.trans g3) (r.back g)
theorem cmpD_ne {op : Cop} {x y : D} : ∀ c p, cmpD op x y ≠ .ex c p := fun c p h => by
  unfold cmpD at h
  cases op <;> simp only at h <;> (repeat' split at h) <;> cases h
theorem asI_op {H Hf : Hp} {r : R D} {k : Int → Prop} {σ : L2.St} (h : wpR w W σ H Hf (asI r) k) : wpR w W σ H Hf r fun d => ∃ i, d = .int i ∧ k i := by
  unfold asI at h
  refine (wpR.bind.mp h).imp fun d _ q => ?_
  cases d with
  | int i => exact ⟨i, rfl, q⟩
  | _ => exact q.elim
theorem se_neg {a : E} (ha : SE w c a) : SE w c (.neg a) := fun xv X sc Fx W cn x pk h => by
  unfold kE kNeg at h
  split at h
  · have pa := pe_O cn.hK (ha xv X sc Fx W cn _ true h)
    refine PE.imp (pe_un un_neg pa) fun σ H Q ⟨Hf, Γ, at_, q⟩ => ?_
    refine ⟨Hf, Γ, at_, (asI_op (wpR.bind.mp q)).imp fun dx _ q v1 H1 Hf1 g1 o1 => ?_⟩
    obtain ⟨i, rfl, q⟩ := q
    exact ⟨i, o1.int, q _ H1 Hf1 g1 res_int⟩
  · exact nb h
theorem notset {r : Expr} (h : noSet r = true) (op : CmpOp) : behindInMarks op r = false := by
  cases r <;> first | rfl | cases h
theorem notset2 {m r : Expr} (h1 : noSet m = true) (h : noSet r = true) (o1 o2 : CmpOp) : lastMarks [o1, o2] [m, r] = false := by
  cases r <;> first | rfl | cases h
/-- as a value and as a test -/
def BO (w : Wd) (c : Ck) (e : E) : Prop := ∀ (xv : XV) (X : Cx) (sc : Scope) (Fx : MP.Fx) (W : WX), CnE w c xv X sc Fx W → ∀ (x : Expr) (pk : Bool), kE c sc e x = true →
  ∃ t, PE X x t ∧ PT X x (tTest t) ∧ ∀ σ H Q, tE w xv W Fx e pk σ H Q → t σ H Q
/-- a test -/
def ST (w : Wd) (c : Ck) (e : E) : Prop := ∀ (xv : XV) (X : Cx) (sc : Scope) (Fx : MP.Fx) (W : WX), CnE w c xv X sc Fx W → ∀ (x : Expr), kE c sc e x = true → PT X x (tT w xv W Fx e)
theorem BO.se {e : E} (h : BO w c e) : SE w c e := fun xv X sc Fx W cn x pk k => by
  obtain ⟨t, h1, _, h3⟩ := h xv X sc Fx W cn x pk k
  exact PE.imp h1 h3
theorem BO.st {e : E} (h : BO w c e) (hb : ∀ Fx Γ pk o, ev Fx e Γ pk = .ok o → ∃ b, o = .fz (.bl b)) : ST w c e := fun xv X sc Fx W cn x k => by
  obtain ⟨t, _, h2, h3⟩ := h xv X sc Fx W cn x true k
  refine PT.imp h2 fun σ H Q ⟨Hf, Γ, a, q⟩ => ?_
  refine h3 σ H _ ⟨Hf, Γ, a, (wpR.bind.mp q).imp fun o eo q v H' Hf' g r => ?_⟩
  obtain ⟨b, rfl⟩ := hb _ _ _ _ eo
  obtain ⟨b', e, q⟩ := wpR.ofO.mp q
  cases e
  obtain ⟨as, r, _⟩ := r
  exact ⟨b, Rep.bl_iff.mp r.2, q H' Hf' g⟩
theorem bo_cmp {op : Cop} {a b : E} (ha : SE w c a) (hb : SE w c b) : BO w c (.cmp op a b) := fun xv X sc Fx W cn x pk h => by
  unfold kE kCmp at h
  split at h
  · obtain ⟨h1, h2⟩ := an h
    obtain ⟨h0, h2⟩ := an h2
    obtain ⟨h2, h3⟩ := an h2
    have e := of_decide_eq_true h1
    subst e
    have pa := pe_G cn.hK (ha xv X sc Fx W cn _ true h2)
    have pb := pe_G cn.hK (hb xv X sc Fx W cn _ true h3)
    refine ⟨_, pe_cmpR (op_cmp (xv := xv) cn.hK cn.hu op) pa pb (notset h0 _), pt_cmpR (op_cmp (xv := xv) cn.hK cn.hu op) pa pb (notset h0 _), fun σ H Q ⟨Hf, Γ, at_, q⟩ => ?_⟩
    refine ⟨Hf, Γ, at_, (wpR.bind.mp q).imp fun dx _ q v1 H1 Hf1 g1 o1 => ?_⟩
    refine ⟨Hf1, Γ, at_.mono cn.xvo g1, (wpR.bind.mp q).mono g1 fun dy _ q v2 H2 Hf2 g2 o2 => ?_⟩
    obtain ⟨o, e, q⟩ := wp_ok q cmpD_ne
    exact ⟨Hf2, dx.1, dy.1, o, g2.lf, o1.1.mono g2, o2.1, e, out_of cn (g1.trans g2) q⟩
  · exact nb h
theorem cmpD_bl {op : Cop} {x y : D} {o : OD} (h : cmpD op x y = .ok o) : ∃ b, o = .fz (.bl b) := by
  unfold cmpD at h
  cases op <;> simp only at h <;> (repeat' split at h) <;> cases h <;> exact ⟨_, rfl⟩
theorem Opn.arg {H Hf : Hp} {d : D} {v : V} (h : Opn w H Hf d v) : Arg w H Hf d v := .inl h
theorem bo_chain {o1 o2 : Cop} {a b d : E} (ha : SE w c a) (hb : SE w c b) (hd : SE w c d) : BO w c (.chain o1 o2 a b d) := fun xv X sc Fx W cn x pk h => by
  unfold kE kChain at h
  split at h
  · obtain ⟨h1, h2⟩ := an h
    obtain ⟨h3, h2⟩ := an h2
    obtain ⟨n1, h2⟩ := an h2
    obtain ⟨n2, h2⟩ := an h2
    obtain ⟨ka, h2⟩ := an h2
    obtain ⟨kb, kd⟩ := an h2
    have e1 := of_decide_eq_true h1
    have e2 := of_decide_eq_true h3
    subst e1 e2
    have pa := pe_O cn.hK (ha xv X sc Fx W cn _ true ka)
    have pb := pe_O cn.hK (hb xv X sc Fx W cn _ true kb)
    have pd := pe_O cn.hK (hd xv X sc Fx W cn _ true kd)
    refine ⟨_, pe_chain (op_cmp (xv := xv) cn.hK cn.hu o1) (op_cmp (xv := xv) cn.hK cn.hu o2) pa pb pd (notset2 n1 n2 _ _), pt_chain (op_cmp (xv := xv) cn.hK cn.hu o1) (op_cmp (xv := xv) cn.hK cn.hu o2) pa pb pd (notset2 n1 n2 _ _), fun σ H Q ⟨Hf, Γ, at_, q⟩ => ?_⟩
    refine ⟨Hf, Γ, at_, (wpR.bind.mp q).imp fun dx _ q v1 H1 Hf1 g1 x1 => ?_⟩
    refine ⟨Hf1, Γ, at_.mono cn.xvo g1, (wpR.bind.mp q).mono g1 fun dy _ q v2 H2 Hf2 g2 x2 => ?_⟩
    obtain ⟨b, q1, q⟩ := wp_ok (wpR.bind.mp q) (fun c p h => by
      unfold asB at h
      cases e : cmpD o1 dx dy with
      | ok o => rw [e] at h; obtain ⟨b, rfl⟩ := cmpD_bl e; cases h
      | ex c p => exact cmpD_ne c p e
      | bad => rw [e] at h; cases h)
    cases e : cmpD o1 dx dy with
    | ex c p => exact absurd e (cmpD_ne c p)
    | bad => rw [e] at q1; cases q1
    | ok o =>
      rw [e] at q1
      obtain ⟨b', rfl⟩ := cmpD_bl e
      cases q1
      refine ⟨Hf2, dx, dy, _, g2.lf, (x1.mono g2).arg, x2.arg, e, fun v H3 Hf3 g3 r3 => ?_⟩
      have ev : v = .bl b := by
        obtain ⟨as, r, _⟩ := r3
        exact Rep.bl_iff.mp r.2
      refine ⟨b, ev, ?_⟩
      cases b with
      | false => exact q _ H3 Hf3 ((g1.trans g2).trans g3) (res_fz (Rep.bl_iff.mpr rfl))
      | true =>
        have g123 := (g1.trans g2).trans g3
        refine ⟨Hf3, Γ, at_.mono cn.xvo g123, (wpR.bind.mp q).mono g123 fun dz _ q v4 H4 Hf4 g4 x4 => ?_⟩
        obtain ⟨o, e, q⟩ := wp_ok q cmpD_ne
        exact ⟨Hf4, dy, dz, o, g4.lf, ((x2.mono g3).mono g4).arg, x4.arg, e, out_of cn (g123.trans g4) q⟩
  · exact nb h
theorem truth_of {H Hf : Hp} (l : Le Hf H) {o : OD} {v : V} {as : List Addr} {d : D} {b : Bool} (r : RepO w xv H Hf o v as) (e : o.toD = some d) (t : truth d = some b) : TruV w.K v H b := by
  have emp : ∀ {ds : List D} {vs : List V}, Reps w Hf ds vs → (!vs.isEmpty) = !ds.isEmpty := by
    intro ds vs r
    cases ds with
    | nil => rw [Reps.nil_iff.mp r]; rfl
    | cons d ds => obtain ⟨v, r, rfl, _⟩ := Reps.cons_iff.mp r; rfl
  cases o with
  | fz x =>
    cases e
    have r := r.2
    cases d with
    | non => cases t; rw [Rep.non_iff.mp r]; rfl
    | bl b => cases t; rw [Rep.bl_iff.mp r]; rfl
    | int i =>
      cases t
      rw [Rep.int_iff.mp r]
      show decide (i ≠ 0) = (i != 0)
      rw [Bool.eq_iff_iff]
      simp
    | str x => cases t
    | tup ds =>
      cases t
      obtain ⟨a, vs, rfl, s, rr⟩ := Rep.tup_iff.mp r
      exact .inr (.inl ⟨vs, l.sqT w s, (emp rr).symm⟩)
    | lst ds =>
      cases t
      obtain ⟨a, vs, rfl, s, rr⟩ := Rep.lst_iff.mp r
      exact .inl ⟨vs, .inl (l.rd s), (emp rr).symm⟩
    | obj c ds => cases t
    | scr ns => cases t
  | own ds =>
    cases e
    cases t
    obtain ⟨a, vs, rfl, _, h1, h2, h3⟩ := r
    exact .inl ⟨vs, SqL.of h1, (emp h3).symm⟩
  | own2 pp rs =>
    cases e
    cases t
    obtain ⟨a, vs, as', rfl, _, h1, h2, h3, hpp⟩ := r
    refine .inl ⟨vs, SqL.of h1, ?_⟩
    have hl := rows_atI.rows_length h3
    cases rs with
    | nil => cases vs with
      | nil => rfl
      | cons _ _ => simp at hl
    | cons r rs => cases vs with
      | nil => simp at hl
      | cons _ _ => rfl
  | _ => cases e
def plainT : Expr → Bool
  | .UnaryOp .Not _ _ => false
  | .BoolOp .. => false
  | .IfExp .. => false
  | .Compare .. => false
  | _ => true
theorem isTrue_of {x : Expr} {env : Env} (h : plainT x = true) : ∀ whole, isTrue x env whole = (do let v ← whole; standAt x.pos; holding [v] (truthy v)) := by
  intro whole
  cases x with
  | UnaryOp op a p => cases op <;> first | rfl | cases h
  | _ => first | rfl | cases h
/-- an expression whose test is its value's truth -/
theorem SE.st {e : E} (h : SE w c e) (hp : ∀ sc x, kE c sc e x = true → plainT x = true) : ST w c e := fun xv X sc Fx W cn x k => by
  refine PT.imp (pt_truth (h xv X sc Fx W cn x true k) (isTrue_of (hp sc x k))) fun σ H Q ⟨Hf, Γ, a, q⟩ => ?_
  refine ⟨Hf, Γ, a, (wpR.bind.mp q).imp fun o eo q v H' Hf' g r => ?_⟩
  obtain ⟨b, e, q⟩ := wpR.ofO.mp q
  obtain ⟨d, e1, e2⟩ := Option.bind_eq_some_iff.mp e
  obtain ⟨as, r, _⟩ := r
  exact ⟨b, by rw [cn.hK]; exact truth_of g.lf r e1 e2, q H' Hf' g⟩
theorem se_cmp {op : Cop} {a b : E} (ha : SE w c a) (hb : SE w c b) : SE w c (.cmp op a b) := (bo_cmp ha hb).se
theorem ev_cmp_bl {op : Cop} {a b : E} : ∀ Fx Γ pk o, ev Fx (.cmp op a b) Γ pk = .ok o → ∃ b, o = .fz (.bl b) := fun Fx Γ pk o h => by
  unfold ev at h
  cases q : argm (isPath a) (ev Fx a Γ true) with
  | ok x =>
    rw [q] at h
    simp only [R.bind_ok] at h
    cases q2 : argm (isPath b) (ev Fx b Γ true) with
    | ok y => rw [q2] at h; exact cmpD_bl h
    | ex c p => rw [q2] at h; cases h
    | bad => rw [q2] at h; cases h
  | ex c p => rw [q] at h; cases h
  | bad => rw [q] at h; cases h
theorem st_cmp {op : Cop} {a b : E} (ha : SE w c a) (hb : SE w c b) : ST w c (.cmp op a b) := (bo_cmp ha hb).st ev_cmp_bl
theorem rb {α β : Type} {r : R α} {f : α → R β} {b : β} (h : r.bind f = .ok b) : ∃ a, r = .ok a ∧ f a = .ok b := by
  cases r with
  | ok a => exact ⟨a, rfl, h⟩
  | ex c p => cases h
  | bad => cases h
theorem ev_chain_bl {o1 o2 : Cop} {a b d : E} : ∀ Fx Γ pk o, ev Fx (.chain o1 o2 a b d) Γ pk = .ok o → ∃ b, o = .fz (.bl b) := fun Fx Γ pk o h => by
  unfold ev at h
  obtain ⟨x, _, h⟩ := rb h
  obtain ⟨y, _, h⟩ := rb h
  obtain ⟨r, _, h⟩ := rb h
  cases r with
  | true => obtain ⟨z, _, h⟩ := rb h; exact cmpD_bl h
  | false => cases h; exact ⟨_, rfl⟩
theorem st_chain {o1 o2 : Cop} {a b d : E} (ha : SE w c a) (hb : SE w c b) (hd : SE w c d) : ST w c (.chain o1 o2 a b d) := (bo_chain ha hb hd).st ev_chain_bl
/-! ### is, and, or, not, if -/
theorem isn_dec {H Hf : Hp} {d : D} {v : V} (l : Le Hf H) (h : Arg w H Hf d v) : decide (v = V.non) = d.isNon := by
  have no : ∀ {d : D} {v : V}, Rep w Hf d v → d ≠ .non → v ≠ V.non := by
    intro d v r n z
    subst z
    cases d with
    | non => exact n rfl
    | bl b => cases Rep.bl_iff.mp r
    | int b => cases Rep.int_iff.mp r
    | str b => cases Rep.str_iff.mp r
    | tup b => obtain ⟨_, _, e, _⟩ := Rep.tup_iff.mp r; cases e
    | lst b => obtain ⟨_, _, e, _⟩ := Rep.lst_iff.mp r; cases e
    | obj _ b => obtain ⟨_, _, _, e, _⟩ := Rep.obj_iff.mp r; cases e
    | scr b => obtain ⟨_, e, _⟩ := Rep.scr_iff.mp r; cases e
  have yes : ∀ {d : D}, d ≠ .non → d.isNon = false := by
    intro d n
    cases d <;> first | rfl | exact absurd rfl n
  rcases h with (h | ⟨_, _, _, rfl, rfl, _⟩) | ⟨_, _, _, _, rfl, rfl, _⟩
  · by_cases e : d = .non
    · subst e
      have e2 := Rep.non_iff.mp h
      subst e2
      rfl
    · rw [yes e]
      exact decide_eq_false (no h e)
  · rfl
  · rfl
theorem bo_isN {a : E} {yes : Bool} (ha : SE w c a) : BO w c (.isN a yes) := fun xv X sc Fx W cn x pk h => by
  unfold kE kIsN at h
  split at h
  · obtain ⟨h1, h2⟩ := an h
    have e := of_decide_eq_true h1
    subst e
    have pa := pe_G cn.hK (ha xv X sc Fx W cn _ true h2)
    cases yes with
    | true =>
      refine ⟨_, pe_cmpR op_isN pa pe_non (nomark _), pt_cmpR op_isN pa pe_non (nomark _), fun σ H Q ⟨Hf, Γ, at_, q⟩ => ?_⟩
      refine ⟨Hf, Γ, at_, (wpR.bind.mp q).imp fun dx _ q v1 H1 Hf1 g1 o1 => ⟨rfl, ?_⟩⟩
      rw [isn_dec g1.lf o1.1]
      have e : dx.1.isNon = (dx.1.isNon == true) := by cases dx.1.isNon <;> rfl
      rw [e]
      exact q _ H1 Hf1 g1 (res_fz (Rep.bl_iff.mpr rfl))
    | false =>
      refine ⟨_, pe_cmpR op_notN pa pe_non (nomark _), pt_cmpR op_notN pa pe_non (nomark _), fun σ H Q ⟨Hf, Γ, at_, q⟩ => ?_⟩
      refine ⟨Hf, Γ, at_, (wpR.bind.mp q).imp fun dx _ q v1 H1 Hf1 g1 o1 => ⟨rfl, ?_⟩⟩
      rw [isn_dec g1.lf o1.1]
      have e : (!dx.1.isNon) = (dx.1.isNon == false) := by cases dx.1.isNon <;> rfl
      rw [e]
      exact q _ H1 Hf1 g1 (res_fz (Rep.bl_iff.mpr rfl))
  · exact nb h
theorem ev_isN_bl {a : E} {yes : Bool} : ∀ Fx Γ pk o, ev Fx (.isN a yes) Γ pk = .ok o → ∃ b, o = .fz (.bl b) := fun Fx Γ pk o h => by
  unfold ev at h
  obtain ⟨x, _, h⟩ := rb h
  cases h
  exact ⟨_, rfl⟩
theorem op_isBG : OpR X (compareOp .Is) (fun x y H Q => ∃ b, y = .bl b ∧ Q (.bl (decide (x = V.bl b))) H) := by
  intro pins s σ H x y v u Q I rx ry h
  obtain ⟨b, rfl, q⟩ := h
  cases (show u = Value.bool b from ry)
  have hp : plainIs v (.bool b) = true := by
    cases x <;> first | (cases rx; rfl) | (obtain ⟨t, rfl⟩ := rx; rfl)
  by_cases e : x = V.bl b
  · subst e
    cases (show v = Value.bool b from rx)
    exact wpAny_is_self rfl ⟨.bl true, H, I, rfl, by simpa using q⟩
  · refine wpAny_is_other hp (fun z => e ?_) ⟨.bl false, H, I, rfl, by simpa [e] using q⟩
    subst z
    cases x <;> first | (cases rx; rfl) | (cases rx; done) | (obtain ⟨t, z⟩ := rx; cases z)
theorem op_notBG : OpR X (compareOp .IsNot) (fun x y H Q => ∃ b, y = .bl b ∧ Q (.bl (!decide (x = V.bl b))) H) := by
  intro pins s σ H x y v u Q I rx ry h
  obtain ⟨b, rfl, q⟩ := h
  cases (show u = Value.bool b from ry)
  have hp : plainIs v (.bool b) = true := by
    cases x <;> first | (cases rx; rfl) | (obtain ⟨t, rfl⟩ := rx; rfl)
  by_cases e : x = V.bl b
  · subst e
    cases (show v = Value.bool b from rx)
    exact wpAny_isNot_self rfl ⟨.bl false, H, I, rfl, by simpa using q⟩
  · refine wpAny_isNot_other hp (fun z => e ?_) ⟨.bl true, H, I, rfl, by simpa [e] using q⟩
    subst z
    cases x <;> first | (cases rx; rfl) | (cases rx; done) | (obtain ⟨t, z⟩ := rx; cases z)
theorem isb_dec {H Hf : Hp} {d : D} {v : V} {b : Bool} (l : Le Hf H) (h : Arg w H Hf d v) : decide (v = V.bl b) = d.isBl b := by
  have ref : ∀ {a : Addr}, decide (V.ref a = V.bl b) = false := by intro a; exact decide_eq_false (fun z => nomatch z)
  have key : Opn w H Hf d v → decide (v = V.bl b) = d.isBl b := by
    intro h
    rcases h with h | ⟨ds, a, vs, rfl, rfl, _, _⟩
    · cases d with
      | non => rw [Rep.non_iff.mp h]; exact decide_eq_false (fun z => nomatch z)
      | bl c => rw [Rep.bl_iff.mp h]; cases c <;> cases b <;> rfl
      | int i => rw [Rep.int_iff.mp h]; exact decide_eq_false (fun z => nomatch z)
      | str x => rw [Rep.str_iff.mp h]; exact decide_eq_false (fun z => nomatch z)
      | tup ds => obtain ⟨a, _, rfl, _⟩ := Rep.tup_iff.mp h; exact ref
      | lst ds => obtain ⟨a, _, rfl, _⟩ := Rep.lst_iff.mp h; exact ref
      | obj c ds => obtain ⟨a, _, _, rfl, _⟩ := Rep.obj_iff.mp h; exact ref
      | scr ns => obtain ⟨a, rfl, _⟩ := Rep.scr_iff.mp h; exact ref
    · exact ref
  rcases h with h | ⟨rs, a, vs, as, rfl, rfl, _⟩
  · exact key h
  · exact ref
theorem bo_isB {a : E} {b yes : Bool} (ha : SE w c a) : BO w c (.isB a b yes) := fun xv X sc Fx W cn x pk h => by
  unfold kE kIsB at h
  split at h
  · obtain ⟨h1, h2⟩ := an h
    obtain ⟨h3, h4⟩ := an h2
    have e := of_decide_eq_true h1
    subst e
    have e := beq_iff_eq.mp h3
    subst e
    have pa := pe_G cn.hK (ha xv X sc Fx W cn _ true h4)
    cases yes with
    | true =>
      refine ⟨_, pe_cmpR op_isBG pa pe_bl (nomark _), pt_cmpR op_isBG pa pe_bl (nomark _), fun σ H Q ⟨Hf, Γ, at_, q⟩ => ?_⟩
      refine ⟨Hf, Γ, at_, (wpR.bind.mp q).imp fun dx _ q v1 H1 Hf1 g1 o1 => ⟨b, rfl, ?_⟩⟩
      rw [isb_dec g1.lf o1.1]
      have e : dx.1.isBl b = (dx.1.isBl b == true) := by cases dx.1.isBl b <;> rfl
      rw [e]
      exact q _ H1 Hf1 g1 (res_fz (Rep.bl_iff.mpr rfl))
    | false =>
      refine ⟨_, pe_cmpR op_notBG pa pe_bl (nomark _), pt_cmpR op_notBG pa pe_bl (nomark _), fun σ H Q ⟨Hf, Γ, at_, q⟩ => ?_⟩
      refine ⟨Hf, Γ, at_, (wpR.bind.mp q).imp fun dx _ q v1 H1 Hf1 g1 o1 => ⟨b, rfl, ?_⟩⟩
      rw [isb_dec g1.lf o1.1]
      have e : (!dx.1.isBl b) = (dx.1.isBl b == false) := by cases dx.1.isBl b <;> rfl
      rw [e]
      exact q _ H1 Hf1 g1 (res_fz (Rep.bl_iff.mpr rfl))
  · exact nb h
theorem ev_isB_bl {a : E} {b yes : Bool} : ∀ Fx Γ pk o, ev Fx (.isB a b yes) Γ pk = .ok o → ∃ b, o = .fz (.bl b) := fun Fx Γ pk o h => by
  unfold ev at h
  obtain ⟨x, _, h⟩ := rb h
  cases h
  exact ⟨_, rfl⟩
theorem res_bl {H0 H Hf : Hp} {p : Bool} {i : Bool} : Res w xv H0 H Hf p (.fz (.bl i)) (.bl i) := res_fz (Rep.bl_iff.mpr rfl)
theorem se_and {a b : E} (ha : SE w c a) (hb : SE w c b) : SE w c (.andE a b) := fun xv X sc Fx W cn x pk h => by
  unfold kE kAnd at h
  split at h
  · obtain ⟨h1, h2⟩ := an h
    refine PE.imp (pe_and (pe_B cn.hK (ha xv X sc Fx W cn _ true h1)) (pe_B cn.hK (hb xv X sc Fx W cn _ true h2))) fun σ H Q ⟨Hf, Γ, at_, q⟩ => ?_
    refine ⟨Hf, Γ, at_, (wpR.bind.mp q).imp fun dx _ q v1 H1 Hf1 g1 o1 => ⟨dx, o1, ?_⟩⟩
    cases dx with
    | true => exact ⟨Hf1, Γ, at_.mono cn.xvo g1, (wpR.bind.mp q).mono g1 fun dy _ q v2 H2 Hf2 g2 o2 => by rw [o2]; exact q _ H2 Hf2 (g1.trans g2) res_bl⟩
    | false => exact q _ H1 Hf1 g1 res_bl
  · exact nb h
theorem se_or {a b : E} (ha : SE w c a) (hb : SE w c b) : SE w c (.orE a b) := fun xv X sc Fx W cn x pk h => by
  unfold kE kOr at h
  split at h
  · obtain ⟨h1, h2⟩ := an h
    refine PE.imp (pe_or (pe_B cn.hK (ha xv X sc Fx W cn _ true h1)) (pe_B cn.hK (hb xv X sc Fx W cn _ true h2))) fun σ H Q ⟨Hf, Γ, at_, q⟩ => ?_
    refine ⟨Hf, Γ, at_, (wpR.bind.mp q).imp fun dx _ q v1 H1 Hf1 g1 o1 => ⟨dx, o1, ?_⟩⟩
    cases dx with
    | false => exact ⟨Hf1, Γ, at_.mono cn.xvo g1, (wpR.bind.mp q).mono g1 fun dy _ q v2 H2 Hf2 g2 o2 => by rw [o2]; exact q _ H2 Hf2 (g1.trans g2) res_bl⟩
    | true => exact q _ H1 Hf1 g1 res_bl
  · exact nb h
theorem se_one {a : E} (ha : SE w c a) : SE w c (.one a) := fun xv X sc Fx W cn x pk h => by
  unfold kE kOne at h
  split at h
  · refine PE.imp (pe_one (pe_B cn.hK (ha xv X sc Fx W cn _ true h))) fun σ H Q ⟨Hf, Γ, at_, q⟩ => ?_
    exact ⟨Hf, Γ, at_, (wpR.bind.mp q).imp fun dx _ q v1 H1 Hf1 g1 o1 => by rw [o1]; exact q _ H1 Hf1 g1 res_bl⟩
  · exact nb h
/-- the truth of what is a truth value -/
theorem tru_asB {σ : L2.St} {H Hf : Hp} {r : R OD} {k : Bool → Prop} (h : wpR w W σ H Hf (asB r) k) : wpR w W σ H Hf (tru r) k := by
  refine wpR.bind.mpr ((wpR.bind.mp h).imp fun o _ q => ?_)
  cases o with
  | fz d =>
    cases d with
    | bl b => exact q
    | _ => exact q.elim
  | _ => exact q.elim
theorem tru_bl {σ : L2.St} {H Hf : Hp} {r : R Bool} {f : Bool → Bool} {k : Bool → Prop} (h : wpR w W σ H Hf (tru (r.bind fun b => .ok (.fz (.bl (f b))))) k) : wpR w W σ H Hf r fun b => k (f b) :=
  (wpR.bind.mp (wpR.bind.mp h)).imp fun b _ q => q
theorem st_not {a : E} (ha : ST w c a) : ST w c (.notE a) := fun xv X sc Fx W cn x h => by
  unfold kE kNot at h
  split at h
  · refine PT.imp (pt_not (ha xv X sc Fx W cn _ h)) fun σ H Q ⟨Hf, Γ, at_, q⟩ => ?_
    exact ⟨Hf, Γ, at_, (tru_bl (f := fun b => !b) q).imp fun b _ q H' Hf' g => q H' Hf' g⟩
  · exact nb h
def SW (w : Wd) (c : Ck) (e : E) : Prop := ∀ (xv : XV) (X : Cx) (sc : Scope) (Fx : MP.Fx) (W : WX), CnE w c xv X sc Fx W → ∀ op xs p, kE c sc e (.BoolOp op xs p) = true → PW X (.BoolOp op xs p) (tT w xv W Fx e)
theorem sw_vac {e : E} (h : ∀ sc op xs p, kE c sc e (.BoolOp op xs p) = false) : SW w c e := fun xv X sc Fx W cn op xs p k => by
  rw [h] at k
  exact nb k
theorem PW.imp {X : Cx} {e : Expr} {t t' : TT} (h : PW X e t) (i : ∀ σ H Q, t' σ H Q → t σ H Q) : PW X e t' :=
  ⟨fun wh pins s σ H Q I hq => h.run wh pins s σ H Q I (i σ H Q hq)⟩
theorem sw_one {a : E} (ha : ST w c a) : SW w c (.one a) := fun xv X sc Fx W cn op xs p h => by
  unfold kE kOne at h
  split at h
  · rename_i heq
    cases heq
    have pa := ha xv X sc Fx W cn _ h
    have im : ∀ σ H Q, tT w xv W Fx (.one a) σ H Q → tT w xv W Fx a σ H Q := fun σ H Q ⟨Hf, Γ, at_, q⟩ =>
      ⟨Hf, Γ, at_, tru_asB ((tru_bl (f := fun b => b) q).imp fun b _ q H' Hf' g => q H' Hf' g)⟩
    cases op with
    | And => exact PW.imp (pw_and1 pa) im
    | Or => exact PW.imp (pw_or1 pa) im
  · exact nb h
theorem sw_and {a b : E} (ha : ST w c a) (hb : SW w c b) : SW w c (.andE a b) := fun xv X sc Fx W cn op xs p h => by
  unfold kE kAnd at h
  split at h
  · rename_i heq
    cases heq
    obtain ⟨h1, h2⟩ := an h
    refine PW.imp (pw_and (ha xv X sc Fx W cn _ h1) (hb xv X sc Fx W cn _ _ _ h2)) fun σ H Q ⟨Hf, Γ, at_, q⟩ => ?_
    refine ⟨Hf, Γ, at_, tru_asB ((wpR.bind.mp (wpR.bind.mp q)).imp fun d _ q H1 Hf1 g1 => ?_)⟩
    cases d with
    | true => exact ⟨Hf1, Γ, at_.mono cn.xvo g1, tru_asB (wpR.mono g1 (wpR.bind.mp q) fun b _ q H' Hf' g => q H' Hf' (g1.trans g))⟩
    | false => exact q H1 Hf1 g1
  · exact nb h
theorem sw_or {a b : E} (ha : ST w c a) (hb : SW w c b) : SW w c (.orE a b) := fun xv X sc Fx W cn op xs p h => by
  unfold kE kOr at h
  split at h
  · rename_i heq
    cases heq
    obtain ⟨h1, h2⟩ := an h
    refine PW.imp (pw_or (ha xv X sc Fx W cn _ h1) (hb xv X sc Fx W cn _ _ _ h2)) fun σ H Q ⟨Hf, Γ, at_, q⟩ => ?_
    refine ⟨Hf, Γ, at_, tru_asB ((wpR.bind.mp (wpR.bind.mp q)).imp fun d _ q H1 Hf1 g1 => ?_)⟩
    cases d with
    | false => exact ⟨Hf1, Γ, at_.mono cn.xvo g1, tru_asB (wpR.mono g1 (wpR.bind.mp q) fun b _ q H' Hf' g => q H' Hf' (g1.trans g))⟩
    | true => exact q H1 Hf1 g1
  · exact nb h
theorem SW.st {e : E} (h : SW w c e) (hb : ∀ sc x, kE c sc e x = true → ∃ op xs p, x = .BoolOp op xs p) : ST w c e := fun xv X sc Fx W cn x k => by
  obtain ⟨op, xs, p, rfl⟩ := hb sc x k
  exact (h xv X sc Fx W cn op xs p k).pt
theorem and_bo {a b : E} : ∀ sc x, kE c sc (.andE a b) x = true → ∃ op xs p, x = .BoolOp op xs p := fun sc x h => by
  unfold kE kAnd at h
  split at h
  · exact ⟨_, _, _, rfl⟩
  · exact nb h
theorem or_bo {a b : E} : ∀ sc x, kE c sc (.orE a b) x = true → ∃ op xs p, x = .BoolOp op xs p := fun sc x h => by
  unfold kE kOr at h
  split at h
  · exact ⟨_, _, _, rfl⟩
  · exact nb h
theorem one_bo {a : E} : ∀ sc x, kE c sc (.one a) x = true → ∃ op xs p, x = .BoolOp op xs p := fun sc x h => by
  unfold kE kOne at h
  split at h
  · exact ⟨_, _, _, rfl⟩
  · exact nb h
theorem se_not {a : E} (ha : SE w c a) : SE w c (.notE a) := fun xv X sc Fx W cn x pk h => by
  unfold kE kNot at h
  split at h
  · refine PE.imp (pe_notT (ha xv X sc Fx W cn _ true h)) fun σ H Q ⟨Hf, Γ, at_, q⟩ => ?_
    refine ⟨Hf, Γ, at_, (wpR.bind.mp (wpR.bind.mp q)).imp fun o eo q v H' Hf' g r => ?_⟩
    obtain ⟨b, e, q⟩ := wpR.ofO.mp q
    obtain ⟨d, e1, e2⟩ := Option.bind_eq_some_iff.mp e
    obtain ⟨as, r, _⟩ := r
    exact ⟨b, by rw [cn.hK]; exact truth_of g.lf r e1 e2, q _ H' Hf' g res_bl⟩
  · exact nb h
theorem se_ite {t a b : E} (ht : ST w c t) (ha : SE w c a) (hb : SE w c b) : SE w c (.ite t a b) := fun xv X sc Fx W cn x pk h => by
  unfold kE kIte at h
  split at h
  · obtain ⟨h1, h2⟩ := an h
    obtain ⟨h2, h3⟩ := an h2
    refine PE.imp (pe_ifExp (ht xv X sc Fx W cn _ h1) (ha xv X sc Fx W cn _ false h2) (hb xv X sc Fx W cn _ false h3)) fun σ H Q ⟨Hf, Γ, at_, q⟩ => ?_
    refine ⟨Hf, Γ, at_, (wpR.bind.mp q).imp fun dx _ q H1 Hf1 g1 => ?_⟩
    cases dx with
    | true => exact ⟨Hf1, Γ, at_.mono cn.xvo g1, wpR.mono g1 q fun o _ q v H' Hf' g r => q v H' Hf' (g1.trans g) (by rw [Bool.and_false] at r; exact r.back g1)⟩
    | false => exact ⟨Hf1, Γ, at_.mono cn.xvo g1, wpR.mono g1 q fun o _ q v H' Hf' g r => q v H' Hf' (g1.trans g) (by rw [Bool.and_false] at r; exact r.back g1)⟩
  · exact nb h
theorem tru_congr {o o' : OD} (h : o'.toD = o.toD) : tru (.ok o') = tru (.ok o) := by
  unfold tru
  rw [R.bind_ok, R.bind_ok, h]
/-- peeking tells the same truth -/
theorem tru_pk {e : E} {Fx : MP.Fx} {Γ : List OD} : ∀ {σ : L2.St} {H Hf : Hp} {k : Bool → Prop}, wpR w W σ H Hf (tru (ev Fx e Γ false)) k → wpR w W σ H Hf (tru (ev Fx e Γ true)) k := by
  intro σ H Hf k h
  cases e with
  | var i =>
    unfold ev at h ⊢
    cases q : Γ[i]? with
    | none => rw [q] at h; exact h.elim
    | some o =>
      rw [q] at h
      cases o with
      | fz d => exact h
      | _ => exact h.elim
  | sub a i =>
    unfold ev at h ⊢
    refine wpR.bind.mpr (wpR.bind.mpr ((wpR.bind.mp (wpR.bind.mp h)).imp fun o _ h => wpR.bind.mpr ((wpR.bind.mp h).imp fun j _ h => ?_)))
    have h' : wpR w W σ H Hf (tru (subD false (isPath a) o j)) k := wpR.bind.mpr h
    refine wpR.bind.mp (show wpR w W σ H Hf (tru (subD true (isPath a) o j)) k from ?_)
    cases o with
    | own2 pp rs =>
      unfold subD at h' ⊢
      simp only at h' ⊢
      cases q : MP.atI rs j with
      | none => rw [q] at h'; exact h'.elim
      | some r =>
        obtain ⟨b, ds⟩ := r
        rw [q] at h'
        cases b with
        | true => exact h'
        | false =>
          simp only at h' ⊢
          cases p : isPath a with
          | true => rw [p] at h'; exact h'.elim
          | false => rw [p] at h'; exact h'
    | fz d => cases d <;> exact h'
    | _ => exact h'
  | _ => unfold ev at h ⊢; exact h
theorem st_ite {t a b : E} (ht : ST w c t) (ha : ST w c a) (hb : ST w c b) : ST w c (.ite t a b) := fun xv X sc Fx W cn x h => by
  unfold kE kIte at h
  split at h
  · obtain ⟨h1, h2⟩ := an h
    obtain ⟨h2, h3⟩ := an h2
    refine ⟨fun pins s σ H Q I hq => ?_⟩
    obtain ⟨Hf, Γ, at_, q⟩ := hq
    refine PyProof.Rows.isTrue_IfExp (thn ((ht xv X sc Fx W cn _ h1).run pins s σ H (fun d H1 => if d = true then tT w xv W Fx a σ H1 Q else tT w xv W Fx b σ H1 Q) I ?_) fun d s1 hd => ?_)
    · refine ⟨Hf, Γ, at_, (wpR.bind.mp (wpR.bind.mp q)).imp fun d _ q H1 Hf1 g1 => ?_⟩
      cases d with
      | true => exact ⟨Hf1, Γ, at_.mono cn.xvo g1, tru_pk (wpR.mono g1 (wpR.bind.mpr q) fun b _ q H' Hf' g => q H' Hf' (g1.trans g))⟩
      | false => exact ⟨Hf1, Γ, at_.mono cn.xvo g1, tru_pk (wpR.mono g1 (wpR.bind.mpr q) fun b _ q H' Hf' g => q H' Hf' (g1.trans g))⟩
    · obtain ⟨H1, I1, q1⟩ := hd
      cases d with
      | true => exact (ha xv X sc Fx W cn _ h2).run pins s1 σ H1 Q I1 q1
      | false => exact (hb xv X sc Fx W cn _ h3).run pins s1 σ H1 Q I1 q1
  · exact nb h
end
end MP

end

section
set_option Elab.async false
set_option linter.all false
set_option maxRecDepth 100000
namespace MP
open PySem PySem.Spec L2
section
variable {w : Wd} {c : Ck} {xv : XV} {X : Cx} {sc : Scope} {Fx : MP.Fx} {W : WX}
/-! ### lists of expressions -/
def All2 {α : Type} (K : α → V → Prop) : List α → List V → Prop
  | [], vs => vs = []
  | a :: as, vs => ∃ v r, vs = v :: r ∧ K a v ∧ All2 K as r
theorem All2.imp {α : Type} {K K' : α → V → Prop} (h : ∀ a v, K a v → K' a v) : ∀ {as : List α} {vs : List V}, All2 K as vs → All2 K' as vs
  | [], _, q => q
  | a :: as, vs, q => by
    obtain ⟨v, r, e, k, q⟩ := q
    exact ⟨v, r, e, h _ _ k, All2.imp h q⟩
theorem star_of {e : Expr} {es : List Expr} {env : Env} (h : plainE e = true) : starEach (e :: es) env = (false, eval e env) :: starEach es env := by
  cases e <;> first | rfl | cases h
theorem kcons {e : E} {es : List E} {xs : List Expr} (h : kEs c sc (e :: es) xs = true) : ∃ x r, xs = x :: r ∧ plainE x = true ∧ kE c sc e x = true ∧ kEs c sc es r = true := by
  unfold kEs kCons at h
  split at h
  · obtain ⟨h1, h2⟩ := an h
    obtain ⟨h2, h3⟩ := an h2
    exact ⟨_, _, rfl, h1, h2, h3⟩
  · exact nb h
theorem knil {xs : List Expr} (h : kEs c sc [] xs = true) : xs = [] := by
  unfold kEs kNil at h
  split at h
  · rfl
  · exact nb h
theorem kplain : ∀ {es : List E} {xs : List Expr}, kEs c sc es xs = true → ∀ x ∈ xs, plainE x = true
  | [], xs, h => by rw [knil h]; intro x m; cases m
  | e :: es, xs, h => by
    obtain ⟨x, r, rfl, h1, _, h3⟩ := kcons h
    intro y m
    rcases List.mem_cons.mp m with rfl | m
    · exact h1
    · exact kplain h3 y m
theorem klen : ∀ {es : List E} {xs : List Expr}, kEs c sc es xs = true → xs.length = es.length
  | [], xs, h => by rw [knil h]; rfl
  | e :: es, xs, h => by
    obtain ⟨x, r, rfl, h1, _, h3⟩ := kcons h
    rw [List.length_cons, List.length_cons, klen h3]
theorem pa_gen {α : Type} (cn : CnE w c xv X sc Fx W) {r : E → List OD → R α} {rs : List E → List OD → R (List α)} {K : Hp → Hp → α → V → Prop} (hm : ∀ {H Hf H' Hf'}, Gr H Hf H' Hf' → ∀ a v, K H Hf a v → K H' Hf' a v)
    (h0 : ∀ Γ, rs [] Γ = .ok []) (h1 : ∀ e es Γ, rs (e :: es) Γ = (r e Γ).bind fun d => (rs es Γ).bind fun ds => .ok (d :: ds)) :
    ∀ {es : List E} {xs : List Expr}, (∀ e ∈ es, ∀ x, kE c sc e x = true → PE X x (tR w xv W (r e) fun _ H Hf a v => K H Hf a v)) → kEs c sc es xs = true →
      PA X xs fun σ H Q => ∃ Hf Γ, At w xv Γ σ H Hf ∧ wpR w W σ H Hf (rs es Γ) fun as => ∀ vs H' Hf', Gr H Hf H' Hf' → All2 (K H' Hf') as vs → Q vs H'
  | [], xs, _, h => by
    rw [knil h]
    exact PA.imp pa_nil fun σ H Q ⟨Hf, Γ, a, q⟩ => by rw [h0] at q; exact q [] H Hf (Gr.refl a.lf) rfl
  | e :: es, xs, he, h => by
    obtain ⟨x, r', rfl, hp, h2, h3⟩ := kcons h
    refine PA.imp (pa_cons (he e List.mem_cons_self x h2) (pa_gen cn hm h0 h1 (fun e m => he e (List.mem_cons_of_mem _ m)) h3) (star_of hp)) fun σ H Q ⟨Hf, Γ, a, q⟩ => ?_
    rw [h1] at q
    refine ⟨Hf, Γ, a, (wpR.bind.mp q).imp fun d _ q v1 H1 Hf1 g1 k1 => ?_⟩
    refine ⟨Hf1, Γ, a.mono cn.xvo g1, (wpR.bind.mp q).mono g1 fun ds _ q vs H2 Hf2 g2 k2 => ?_⟩
    exact q _ H2 Hf2 (g1.trans g2) ⟨v1, vs, rfl, hm g2 _ _ k1, k2⟩
theorem ArgB.mono {H Hf H' Hf' : Hp} (g : Gr H Hf H' Hf') (d : D × Bool) (v : V) (h : ArgB w H Hf d v) : ArgB w H' Hf' d v := by
  obtain ⟨h1, as, h2, h3, h4⟩ := h
  refine ⟨h1.mono g, as, h2, fun a m => ?_, Rep.mono w (fun a o e => ?_) _ _ h4⟩
  · obtain ⟨n, us, e⟩ := h3 a m
    exact ⟨g.ext.none e n, us, g.le _ _ e⟩
  · by_cases m : a ∈ as
    · rw [frzH_in m] at e ⊢
      exact g.le _ _ e
    · rw [frzH_out m] at e ⊢
      exact g.ext.le _ _ e
theorem all2_reps {H Hf : Hp} : ∀ {ds : List D} {vs : List V}, All2 (fun d v => Rep w Hf d v) ds vs → Reps w Hf ds vs
  | [], _, h => Reps.nil_iff.mpr h
  | d :: ds, vs, h => by
    obtain ⟨v, r, e, k, q⟩ := h
    exact Reps.cons_iff.mpr ⟨v, r, e, k, all2_reps (H := H) q⟩
theorem all2_opns {H Hf : Hp} : ∀ {ds : List D} {vs : List V}, All2 (fun d v => Opn w H Hf d v) ds vs → Opns w H Hf ds vs
  | [], _, h => h
  | d :: ds, vs, h => by
    obtain ⟨v, r, e, k, q⟩ := h
    exact ⟨v, r, e, k, all2_opns q⟩
theorem All2.length {α : Type} {K : α → V → Prop} : ∀ {as : List α} {vs : List V}, All2 K as vs → vs.length = as.length
  | [], _, h => by rw [show _ = [] from h]; rfl
  | a :: as, vs, h => by
    obtain ⟨v, r, rfl, k, q⟩ := h
    rw [List.length_cons, List.length_cons, All2.length q]
def tFs (w : Wd) (xv : XV) (W : WX) (Fx : MP.Fx) (es : List E) : TA := fun σ H Q => ∃ Hf Γ, At w xv Γ σ H Hf ∧ wpR w W σ H Hf (evF Fx es Γ) fun ds => ∀ vs H' Hf', Gr H Hf H' Hf' → All2 (fun d v => Rep w Hf' d v) ds vs → Q vs H'
def tOs (w : Wd) (xv : XV) (W : WX) (Fx : MP.Fx) (es : List E) : TA := fun σ H Q => ∃ Hf Γ, At w xv Γ σ H Hf ∧ wpR w W σ H Hf (evOs Fx es Γ) fun ds => ∀ vs H' Hf', Gr H Hf H' Hf' → All2 (fun d v => Opn w H' Hf' d v) ds vs → Q vs H'
def tAs (w : Wd) (xv : XV) (W : WX) (Fx : MP.Fx) (es : List E) : TA := fun σ H Q => ∃ Hf Γ, At w xv Γ σ H Hf ∧ wpR w W σ H Hf (evAs Fx es Γ) fun ds => ∀ vs H' Hf', Gr H Hf H' Hf' → All2 (fun d v => ArgB w H' Hf' d v) ds vs → Q vs H'
theorem pa_F (cn : CnE w c xv X sc Fx W) {es : List E} {xs : List Expr} (he : ∀ e ∈ es, SE w c e) (h : kEs c sc es xs = true) : PA X xs (tFs w xv W Fx es) :=
  pa_gen cn (K := fun _ Hf d v => Rep w Hf d v) (fun g a v k => Rep.mono w g.ext.le _ _ k) (fun Γ => by unfold evF; rfl) (fun e es Γ => by rw [evF]) (fun e m x k => pe_F cn.hK (he e m xv X sc Fx W cn x false k)) h
theorem pa_O (cn : CnE w c xv X sc Fx W) {es : List E} {xs : List Expr} (he : ∀ e ∈ es, SE w c e) (h : kEs c sc es xs = true) : PA X xs (tOs w xv W Fx es) :=
  pa_gen cn (K := fun H Hf d v => Opn w H Hf d v) (fun g a v k => k.mono g) (fun Γ => by unfold evOs; rfl) (fun e es Γ => by rw [evOs]) (fun e m x k => pe_O cn.hK (he e m xv X sc Fx W cn x true k)) h
theorem pa_A (cn : CnE w c xv X sc Fx W) {es : List E} {xs : List Expr} (he : ∀ e ∈ es, SE w c e) (h : kEs c sc es xs = true) : PA X xs (tAs w xv W Fx es) :=
  pa_gen cn (K := fun H Hf d v => ArgB w H Hf d v) (fun g a v k => k.mono g) (fun Γ => by unfold evAs; rfl) (fun e es Γ => by rw [evAs]) (fun e m x k => pe_G cn.hK (he e m xv X sc Fx W cn x true k)) h
theorem small1000 {n : Nat} (h : n ≤ 1000) : n ≤ sizeLine := by rw [sizeLine_eq]; omega
theorem evF_len {es : List E} : ∀ {Γ : List OD} {ds : List D}, evF Fx es Γ = .ok ds → ds.length = es.length := by
  induction es with
  | nil => intro Γ ds h; unfold evF at h; cases h; rfl
  | cons e es ih =>
    intro Γ ds h
    rw [evF] at h
    obtain ⟨d, _, h⟩ := rb h
    obtain ⟨ds', h1, h⟩ := rb h
    cases h
    rw [List.length_cons, List.length_cons, ih h1]
theorem se_tup {es : List E} (he : ∀ e ∈ es, SE w c e) : SE w c (.tup es) := fun xv X sc Fx W cn x pk h => by
  unfold kE kTup at h
  split at h
  · obtain ⟨h1, h2⟩ := an h
    have hl := of_decide_eq_true h1
    refine PE.imp (pe_tup (pa_F cn he h2)) fun σ H Q ⟨Hf, Γ, a, q⟩ => ?_
    refine ⟨Hf, Γ, a, (wpR.bind.mp q).imp fun ds eds q vs H1 Hf1 g1 k1 => ⟨?_, fun p hp => ?_⟩⟩
    · rw [k1.length, evF_len eds]
      exact small1000 hl
    · have g2 := gr_newf (o := .tup vs) g1.lf hp
      exact q _ _ _ (g1.trans g2) (res_fz (rep_tup g1.lf hp (all2_reps (H := H1) k1)))
  · exact nb h
/-! ### a list of what was reckoned -/
def ResL (w : Wd) (xv : XV) (H Hf : Hp) : List OD → List V → List Addr → Prop
  | [], vs, as => vs = [] ∧ as = []
  | o :: os, vs, as => ∃ v r as1 as2, vs = v :: r ∧ as = as1 ++ as2 ∧ RepO w xv H Hf o v as1 ∧ ResL w xv H Hf os r as2
theorem ResL.mono {H Hf H' Hf' : Hp} (hx : XvOk xv) (g : Gr H Hf H' Hf') : ∀ {os : List OD} {vs : List V} {as : List Addr}, ResL w xv H Hf os vs as → ResL w xv H' Hf' os vs as
  | [], _, _, h => h
  | o :: os, vs, as, h => by
    obtain ⟨v, r, as1, as2, e1, e2, h1, h2⟩ := h
    exact ⟨v, r, as1, as2, e1, e2, h1.mono hx g, h2.mono hx g⟩
theorem repO_alive {H Hf : Hp} {o : OD} {v : V} {as : List Addr} (h : RepO w xv H Hf o v as) : ∀ a ∈ as, H a ≠ none := by
  intro a m
  cases o with
  | un => rw [show as = [] from h] at m; cases m
  | fz d => rw [h.1] at m; cases m
  | own ds =>
    obtain ⟨b, vs, _, rfl, h1, _⟩ := h
    rw [List.mem_singleton.mp m, h1]
    exact fun z => nomatch z
  | own2 pp rs =>
    obtain ⟨b, vs, as', _, rfl, h1, _, h3, _⟩ := h
    rcases List.mem_cons.mp m with rfl | m
    · rw [h1]; exact fun z => nomatch z
    · obtain ⟨us, e⟩ := h3.there a m
      rw [e]; exact fun z => nomatch z
  | oi c fs =>
    obtain ⟨b, dx, fvs, _, rfl, h1, _⟩ := h
    rw [List.mem_singleton.mp m, h1]
    exact fun z => nomatch z
  | xv c p => rw [h.1] at m; cases m
theorem resL_alive {H Hf : Hp} : ∀ {os : List OD} {vs : List V} {as : List Addr}, ResL w xv H Hf os vs as → ∀ a ∈ as, H a ≠ none
  | [], _, _, h => fun a m => by rw [h.2] at m; cases m
  | o :: os, vs, as, h => by
    obtain ⟨v, r, as1, as2, e1, rfl, h1, h2⟩ := h
    intro a m
    rcases List.mem_append.mp m with m | m
    · exact repO_alive h1 a m
    · exact resL_alive h2 a m
theorem resL_none {H Hf : Hp} : ∀ {os : List OD} {vs : List V} {as : List Addr}, ResL w xv H Hf os vs as → ∀ a ∈ as, Hf a = none
  | [], _, _, h => fun a m => by rw [h.2] at m; cases m
  | o :: os, vs, as, h => by
    obtain ⟨v, r, as1, as2, e1, rfl, h1, h2⟩ := h
    intro a m
    rcases List.mem_append.mp m with m | m
    · exact RepO.none h1 a m
    · exact resL_none h2 a m
/-- fresh, each its own -/
structure NewL (w : Wd) (xv : XV) (H0 H Hf : Hp) (os : List OD) (vs : List V) : Prop where
  ex : ∃ as, ResL w xv H Hf os vs as ∧ as.Nodup ∧ ∀ a ∈ as, H0 a = none
theorem NewL.nil {H0 H Hf : Hp} : NewL w xv H0 H Hf [] [] := ⟨[], ⟨rfl, rfl⟩, List.nodup_nil, fun a m => nomatch m⟩
/-- one more, reckoned ahead of the others -/
theorem NewL.cons {H0 Hf0 H1 Hf1 H Hf : Hp} (hx : XvOk xv) (g1 : Gr H0 Hf0 H1 Hf1) (g2 : Gr H1 Hf1 H Hf) {o : OD} {os : List OD} {v : V} {vs : List V} (h1 : Res w xv H0 H1 Hf1 false o v) (h2 : NewL w xv H1 H Hf os vs) : NewL w xv H0 H Hf (o :: os) (v :: vs) := by
  obtain ⟨as1, r1, n1, f1⟩ := h1
  obtain ⟨as2, r2, n2, f2⟩ := h2.ex
  refine ⟨as1 ++ as2, ⟨v, vs, as1, as2, rfl, rfl, r1.mono hx g2, r2⟩, List.nodup_append.mpr ⟨n1, n2, fun a m1 b m2 e => ?_⟩, fun a m => ?_⟩
  · subst e
    exact repO_alive r1 a m1 (f2 a m2)
  · rcases List.mem_append.mp m with m | m
    · exact f1 rfl a m
    · exact g1.none_of (f2 a m)
/-- one more, reckoned behind the others -/
theorem NewL.snoc {H0 Hf0 H1 Hf1 H Hf : Hp} (hx : XvOk xv) (g1 : Gr H0 Hf0 H1 Hf1) (g2 : Gr H1 Hf1 H Hf) {o : OD} {os : List OD} {v : V} {vs : List V} (h2 : NewL w xv H0 H1 Hf1 os vs) (h1 : Res w xv H1 H Hf false o v) : NewL w xv H0 H Hf (os ++ [o]) (vs ++ [v]) := by
  obtain ⟨as1, r1, n1, f1⟩ := h1
  obtain ⟨as2, r2, n2, f2⟩ := h2.ex
  have r3 := r2.mono hx g2
  have app : ∀ {os : List OD} {vs : List V} {as : List Addr}, ResL w xv H Hf os vs as → ResL w xv H Hf (os ++ [o]) (vs ++ [v]) (as ++ as1) := by
    intro os
    induction os with
    | nil =>
      intro vs as h
      obtain ⟨rfl, rfl⟩ := h
      exact ⟨v, [], as1, [], rfl, by simp, r1, rfl, rfl⟩
    | cons p os ih =>
      intro vs as h
      obtain ⟨u, r, b1, b2, rfl, rfl, k1, k2⟩ := h
      exact ⟨u, r ++ [v], b1, b2 ++ as1, rfl, by rw [List.append_assoc], k1, ih k2⟩
  refine ⟨as2 ++ as1, app r3, List.nodup_append.mpr ⟨n2, n1, fun a m1 b m2 e => ?_⟩, fun a m => ?_⟩
  · subst e
    exact resL_alive r2 a m1 (f1 rfl a m2)
  · rcases List.mem_append.mp m with m | m
    · exact f2 a m
    · exact g1.none_of (f1 rfl a m)
theorem allO_cons {α : Type} {f : OD → Option α} {a : OD} {as : List OD} {bs : List α} (h : allO f (a :: as) = some bs) : ∃ b r, bs = b :: r ∧ f a = some b ∧ allO f as = some r := by
  unfold allO at h
  obtain ⟨b, e1, h⟩ := Option.bind_eq_some_iff.mp h
  obtain ⟨r, e2, h⟩ := Option.map_eq_some_iff.mp h
  exact ⟨b, r, h.symm, e1, e2⟩
theorem allO_nil {α : Type} {f : OD → Option α} {bs : List α} (h : allO f [] = some bs) : bs = [] := by
  cases h
  rfl
theorem resL_fz {H Hf : Hp} : ∀ {os : List OD} {vs : List V} {as : List Addr} {ds : List D}, ResL w xv H Hf os vs as → allO fzO os = some ds → Reps w Hf ds vs
  | [], vs, as, ds, h, e => by rw [allO_nil e, h.1]; exact Reps.nil_iff.mpr rfl
  | o :: os, vs, as, ds, h, e => by
    obtain ⟨v, r, as1, as2, rfl, rfl, h1, h2⟩ := h
    obtain ⟨d, ds', rfl, e1, e2⟩ := allO_cons e
    cases o with
    | fz d' => cases e1; exact Reps.cons_iff.mpr ⟨v, r, rfl, h1.2, resL_fz h2 e2⟩
    | _ => cases e1
theorem resL_own {H Hf : Hp} : ∀ {os : List OD} {vs : List V} {as : List Addr} {rs : List (Bool × List D)}, ResL w xv H Hf os vs as → allO owO os = some rs → RepRows w H Hf rs vs as
  | [], vs, as, ds, h, e => by rw [allO_nil e]; exact h
  | o :: os, vs, as, ds, h, e => by
    obtain ⟨v, r, as1, as2, rfl, rfl, h1, h2⟩ := h
    obtain ⟨d, ds', rfl, e1, e2⟩ := allO_cons e
    cases o with
    | own d' =>
      cases e1
      obtain ⟨a, us, rfl, rfl, k1, k2, k3⟩ := h1
      exact ⟨a, us, r, as2, rfl, rfl, k1, k2, k3, resL_own h2 e2⟩
    | _ => cases e1
theorem resL_frz {H Hf G : Hp} (l : Le Hf G) : ∀ {os : List OD} {vs : List V} {as : List Addr} {ds : List D}, ResL w xv H Hf os vs as → (∀ a ∈ as, G a = H a) → allO OD.toD os = some ds → Reps w G ds vs
  | [], vs, as, ds, h, _, e => by rw [allO_nil e, h.1]; exact Reps.nil_iff.mpr rfl
  | o :: os, vs, as, ds, h, f, e => by
    obtain ⟨v, r, as1, as2, rfl, rfl, h1, h2⟩ := h
    obtain ⟨d, ds', rfl, e1, e2⟩ := allO_cons e
    refine Reps.cons_iff.mpr ⟨v, r, rfl, Rep.mono w (fun a u q => ?_) _ _ (h1.frz e1), resL_frz l h2 (fun a m => f a (List.mem_append_right _ m)) e2⟩
    by_cases m : a ∈ as1
    · rw [frzH_in m] at q
      rw [f a (List.mem_append_left _ m)]
      exact q
    · rw [frzH_out m] at q
      exact l _ _ q
theorem rows_upd {H Hf : Hp} {p : Addr} {u : HO} (hp : H p = none) {rs : List (Bool × List D)} {vs : List V} {as : List Addr} (l : Le Hf H) (h : RepRows w H Hf rs vs as) : RepRows w (upd H p u) Hf rs vs as := h.mono (gr_new l hp)
/-- a new list of these -/
theorem mk_res {H0 Hf0 H Hf : Hp} {os : List OD} {vs : List V} {o : OD} {p : Addr} (g : Gr H0 Hf0 H Hf) (h : NewL w xv H0 H Hf os vs) (e : mkOwn os = some o) (hp : H p = none) :
    ∃ Hf', Gr H0 Hf0 (upd H p (.lst vs)) Hf' ∧ Res w xv H0 (upd H p (.lst vs)) Hf' false o (.ref p) := by
  obtain ⟨as, r, nd, f⟩ := h.ex
  have hp0 : H0 p = none := g.none_of hp
  have g2 : Gr H0 Hf0 (upd H p (.lst vs)) Hf := g.trans (gr_new g.lf hp)
  have npas : p ∉ as := fun m => resL_alive r p m hp
  unfold mkOwn at e
  split at e
  · rename_i ds q
    cases e
    exact ⟨Hf, g2, [p], ⟨p, vs, rfl, rfl, upd_same, g.lf.none hp, resL_fz r q⟩, by simp, fun _ a m => by rw [List.mem_singleton.mp m]; exact hp0⟩
  · split at e
    · rename_i rs q
      cases e
      refine ⟨Hf, g2, p :: as, ⟨p, vs, as, rfl, rfl, upd_same, g.lf.none hp, rows_upd hp g.lf (resL_own r q), fun z => nomatch z⟩, List.nodup_cons.mpr ⟨npas, nd⟩, fun _ a m => ?_⟩
      rcases List.mem_cons.mp m with rfl | m
      · exact hp0
      · exact f a m
    · obtain ⟨ds, q, rfl⟩ := Option.map_eq_some_iff.mp e
      have n := resL_none r
      have g3 := frzH_gr g n f
      refine ⟨frzH H Hf as, g3.trans (gr_new g3.lf hp), [p], ⟨p, vs, rfl, rfl, upd_same, g3.lf.none hp, resL_frz (frzH_le n) r (fun a m => frzH_in m) q⟩, by simp, fun _ a m => by rw [List.mem_singleton.mp m]; exact hp0⟩
theorem pa_V (cn : CnE w c xv X sc Fx W) : ∀ {es : List E} {xs : List Expr}, (∀ e ∈ es, SE w c e) → kEs c sc es xs = true →
    PA X xs fun σ H Q => ∃ Hf Γ, At w xv Γ σ H Hf ∧ wpR w W σ H Hf (evV Fx es Γ) fun os => ∀ vs H' Hf', Gr H Hf H' Hf' → NewL w xv H H' Hf' os vs → vs.length = es.length → Q vs H'
  | [], xs, _, h => by
    rw [knil h]
    exact PA.imp pa_nil fun σ H Q ⟨Hf, Γ, a, q⟩ => by unfold evV at q; exact q [] H Hf (Gr.refl a.lf) NewL.nil rfl
  | e :: es, xs, he, h => by
    obtain ⟨x, r', rfl, hp, h2, h3⟩ := kcons h
    refine PA.imp (pa_cons (he e List.mem_cons_self xv X sc Fx W cn x false h2) (pa_V cn (fun e m => he e (List.mem_cons_of_mem _ m)) h3) (star_of hp)) fun σ H Q ⟨Hf, Γ, a, q⟩ => ?_
    rw [evV] at q
    refine ⟨Hf, Γ, a, (wpR.bind.mp q).imp fun d _ q v1 H1 Hf1 g1 k1 => ?_⟩
    rw [Bool.and_false] at k1
    refine ⟨Hf1, Γ, a.mono cn.xvo g1, (wpR.bind.mp q).mono g1 fun ds _ q vs H2 Hf2 g2 k2 l2 => ?_⟩
    exact q _ H2 Hf2 (g1.trans g2) (NewL.cons cn.xvo g1 g2 k1 k2) (by rw [List.length_cons, List.length_cons, l2])
theorem se_lst {es : List E} (he : ∀ e ∈ es, SE w c e) : SE w c (.lst es) := fun xv X sc Fx W cn x pk h => by
  unfold kE kLst at h
  split at h
  · obtain ⟨h1, h2⟩ := an h
    have hl := of_decide_eq_true h1
    refine PE.imp (pe_lst (pa_V cn he h2)) fun σ H Q ⟨Hf, Γ, a, q⟩ => ?_
    refine ⟨Hf, Γ, a, (wpR.bind.mp q).imp fun os eos q vs H1 Hf1 g1 k1 l1 => ⟨?_, fun p hp => ?_⟩⟩
    · rw [l1]
      exact small1000 hl
    · obtain ⟨o, eo, q⟩ := wpR.ofO.mp q
      obtain ⟨Hf2, g2, r2⟩ := mk_res g1 k1 eo hp
      exact q _ _ Hf2 g2 r2
  · exact nb h
end
end MP

end

section
set_option Elab.async false
set_option linter.all false
set_option maxRecDepth 100000
namespace MP
open PySem PySem.Spec L2
section
variable {w : Wd} {c : Ck} {xv : XV} {X : Cx} {sc : Scope} {Fx : MP.Fx} {W : WX}
theorem Res.mono {H0 H Hf H' Hf' : Hp} (hx : XvOk xv) (g : Gr H Hf H' Hf') {p : Bool} {o : OD} {v : V} (r : Res w xv H0 H Hf p o v) : Res w xv H0 H' Hf' p o v := by
  obtain ⟨as, h1, h2, h3⟩ := r
  exact ⟨as, h1.mono hx g, h2, h3⟩
theorem plainIx {y : Expr} (h : plainE y = true) : PlainIx y := fun o i => by
  cases y <;> first | rfl | cases h
theorem subD_ne {pk p : Bool} {o : OD} {j : Int} : ∀ c q, subD pk p o j ≠ .ex c q := fun c q h => by
  have no : ∀ {α : Type} {x : Option α} {c : Nat} {q : Option D}, R.ofO x ≠ .ex c q := by
    intro α x c q h
    cases x <;> cases h
  unfold subD at h
  repeat' split at h
  all_goals first | (cases h; done) | exact no h
theorem se_sub {a i : E} (ha : SE w c a) (hi : SE w c i) : SE w c (.sub a i) := fun xv X sc Fx W cn x pk h => by
  unfold kE kSub at h
  split at h
  · obtain ⟨h1, h2⟩ := an h
    obtain ⟨h2, h3⟩ := an h2
    have pa := ha xv X sc Fx W cn _ true h1
    have pi := pe_O cn.hK (hi xv X sc Fx W cn _ true h3)
    refine PE.imp (pe_ix (ix_list.or ix_tup) pa pi (plainIx h2)) fun σ H Q ⟨Hf, Γ, at_, q⟩ => ?_
    refine ⟨Hf, Γ, at_, (wpR.bind.mp q).imp fun o _ q v1 H1 Hf1 g1 o1 => ?_⟩
    refine ⟨Hf1, Γ, at_.mono cn.xvo g1, (asI_op (wpR.bind.mp q)).mono g1 fun d _ q v2 H2 Hf2 g2 o2 => ?_⟩
    obtain ⟨j, rfl, q⟩ := q
    obtain ⟨o', e, q⟩ := wp_ok q subD_ne
    rw [Bool.and_true] at o1
    obtain ⟨b, vs, u, rfl, s, eI, Hf3, g3, r3⟩ := (o1.mono cn.xvo g2).sub (g1.trans g2) e
    have ej := o2.int
    subst ej
    have qq := q u H2 Hf3 g3 r3
    rw [← cn.hK] at s
    rcases s with s | s
    · exact .inl ⟨b, vs, j, u, rfl, rfl, s, eI, qq⟩
    · exact .inr ⟨b, vs, j, u, rfl, rfl, s, eI, qq⟩
  · exact nb h
/-! ### slices -/
theorem slcD_ne {x : D} {l h : Option Int} : ∀ c q, slcD x l h ≠ .ex c q := fun c q e => by
  unfold slcD at e
  split at e <;> cases e
theorem sIx_eq (n d : Nat) (i : Option Int) : MP.sIx n d i = HT.sIx n d i := by cases i <;> rfl
theorem cut_reps {H : Hp} {ds : List D} {vs : List V} (r : Reps w H ds vs) (l h : Option Int) : Reps w H (MP.cutL ds l h) (L2.cutV vs l h) := by
  unfold MP.cutL L2.cutV
  rw [r.length]
  simp only [sIx_eq]
  exact (r.drop _).take _
theorem cut_all {H : Hp} {ds : List D} {l h : Option Int} (e : HT.sIx ds.length 0 l = 0 ∧ HT.sIx ds.length ds.length h = ds.length) : MP.cutL ds l h = ds := by
  unfold MP.cutL
  rw [sIx_eq, sIx_eq, e.1, e.2]
  simp
theorem PO.imp {X : Cx} {x : Option Expr} {t t' : TO} (h : PO X x t) (i : ∀ σ H Q, t' σ H Q → t σ H Q) : PO X x t' := ⟨fun pins s σ H Q I q => h.run pins s σ H Q I (i _ _ _ q)⟩
/-- a slice's part -/
theorem po_O (cn : CnE w c xv X sc Fx W) {e : E} (he : SE w c e) {x : Option Expr} (h : kPart (isNon e) (kE c sc e) x = true) :
    PO X x fun σ H Q => ∃ Hf Γ, At w xv Γ σ H Hf ∧ wpR w W σ H Hf (part (isNon e) (oper (isPath e) (ev Fx e Γ true))) fun l => ∀ H' Hf', Gr H Hf H' Hf' → Q l H' := by
  cases x with
  | none =>
    refine PO.imp po_none fun σ H Q ⟨Hf, Γ, a, q⟩ => ?_
    have h : isNon e = true := h
    rw [h] at q
    exact q H Hf (Gr.refl a.lf)
  | some x =>
    obtain ⟨h1, h2⟩ := an h
    have h1 : isNon e = false := by simpa using h1
    refine PO.imp (po_some (pe_O cn.hK (he xv X sc Fx W cn x true h2))) fun σ H Q ⟨Hf, Γ, a, q⟩ => ?_
    rw [h1] at q
    have q : wpR w W σ H Hf ((asI (oper (isPath e) (ev Fx e Γ true))).bind fun i => .ok (some i)) fun l => ∀ H' Hf', Gr H Hf H' Hf' → Q l H' := q
    refine ⟨Hf, Γ, a, (asI_op (wpR.bind.mp q)).imp fun d _ q v H' Hf' g o => ?_⟩
    obtain ⟨i, rfl, q⟩ := q
    exact ⟨i, o.int, q H' Hf' g⟩
theorem se_slc {a l u : E} (ha : SE w c a) (hl : SE w c l) (hu : SE w c u) : SE w c (.slc a l u) := fun xv X sc Fx W cn x pk h => by
  unfold kE kSlc at h
  split at h
  · obtain ⟨h1, h2⟩ := an h
    obtain ⟨h2, h3⟩ := an h2
    have pa := pe_O cn.hK (ha xv X sc Fx W cn _ true h1)
    refine PE.imp (pe_slice (sl_list.or sl_tupA) pa (po_O cn hl h2) (po_O cn hu h3)) fun σ H Q ⟨Hf, Γ, at_, q⟩ => ?_
    refine ⟨Hf, Γ, at_, (wpR.bind.mp q).imp fun d _ q v1 H1 Hf1 g1 o1 => ?_⟩
    refine ⟨Hf1, Γ, at_.mono cn.xvo g1, (wpR.bind.mp q).mono g1 fun lo _ q H2 Hf2 g2 => ?_⟩
    have g12 := g1.trans g2
    refine ⟨Hf2, Γ, at_.mono cn.xvo g12, (wpR.bind.mp q).mono g12 fun hi _ q H3 Hf3 g3 => ?_⟩
    have g := g12.trans g3
    have o3 := (o1.mono g2).mono g3
    cases d with
    | lst ds =>
      obtain ⟨b, vs, rfl, s, rr⟩ := o3.lst g3.lf
      refine .inl ⟨b, vs, rfl, .inl s, ?_⟩
      exact Out.own g3.lf (cut_reps rr lo hi) (out_of cn g q)
    | tup ds =>
      obtain ⟨b, vs, rfl, s, rr⟩ := o3.tup g3.lf
      refine .inr ⟨b, vs, rfl, by rw [cn.hK]; exact s, fun e => ?_, fun _ => Out.tup g3.lf (cut_reps rr lo hi) (out_of cn g q)⟩
      have k : Out w xv H3 Hf3 (.fz (.tup ds)) Q := by
        have := out_of cn g q
        rw [rr.length] at e
        rwa [cut_all (H := H) e] at this
      rcases o3 with o3 | ⟨_, _, _, e2, _⟩
      · exact Out.fz g3.lf o3 k
      · cases e2
    | _ => exact q.elim
  · exact nb h
theorem reps_rev {H : Hp} : ∀ {ds : List D} {vs : List V}, Reps w H ds vs → Reps w H ds.reverse vs.reverse
  | [], vs, h => by rw [Reps.nil_iff.mp h]; exact Reps.nil_iff.mpr rfl
  | d :: ds, vs, h => by
    obtain ⟨v, r, rfl, h1, h2⟩ := Reps.cons_iff.mp h
    rw [List.reverse_cons, List.reverse_cons]
    exact (reps_rev h2).append (Reps.cons_iff.mpr ⟨v, [], rfl, h1, Reps.nil_iff.mpr rfl⟩)
/-- x[::-1] -/
theorem se_rev {a : E} (ha : SE w c a) : SE w c (.rev a) := fun xv X sc Fx W cn x pk h => by
  unfold kE kRev at h
  split at h
  · have pa := pe_O cn.hK (ha xv X sc Fx W cn _ true h)
    refine PE.imp (pe_revL pa) fun σ H Q ⟨Hf, Γ, at_, q⟩ => ?_
    refine ⟨Hf, Γ, at_, (wpR.bind.mp q).imp fun d _ q v1 H1 Hf1 g1 o1 => ?_⟩
    cases d with
    | lst ds =>
      obtain ⟨b, vs, rfl, s, rr⟩ := o1.lst g1.lf
      exact ⟨b, vs, rfl, .inl s, Out.own g1.lf (reps_rev rr) (out_of cn g1 q)⟩
    | _ => exact q.elim
  · exact nb h
/-! ### fields -/
theorem abase {e : Expr} {f : Str} {env : Env} {whole : Sem Value} (h : notSuper e = true) : attributeBase e f env whole = whole := by
  unfold attributeBase
  split
  · cases h
  · rfl
theorem look_zip : ∀ {fs : List Str} {vs : List V} {i : Nat} {f : Str} {v : V}, fs.Nodup → fs[i]? = some f → vs[i]? = some v → (fs.zip vs).lookup f = some v
  | [], _, _, _, _, _, e, _ => by simp at e
  | g :: fs, [], _, _, _, _, _, e => by simp at e
  | g :: fs, u :: vs, i, f, v, nd, e1, e2 => by
    obtain ⟨n1, n2⟩ := List.nodup_cons.mp nd
    cases i with
    | zero =>
      simp at e1 e2
      subst e1 e2
      simp
    | succ i =>
      simp only [List.getElem?_cons_succ] at e1 e2
      have ne : f ≠ g := fun z => n1 (by rw [← z]; exact List.mem_of_getElem? e1)
      rw [List.zip_cons_cons, List.lookup_cons, beq_false_of_ne ne]
      exact look_zip n2 e1 e2
def rAtM (w : Wd) (xv : XV) (Fx : MP.Fx) (f : Nat) : V → Hp → VK → Prop := fun x H Q => (∃ a C dx fs v, x = .ref a ∧ H a = some (.ins C dx fs) ∧ Cls w.K C ∧ NoAttr w.K C (w.nm f) ∧ fs.lookup (w.nm f) = some v ∧ Q v H) ∨ rXa w xv Fx f x H Q
theorem pe_at {f : Str} {e : Expr} {r : V → Hp → VK → Prop} {te : TE} {pos : Pos} (hr : AtR X f r) (he : PE X e te) (hn : notSuper e = true) : PE X (.Attribute e f pos) fun σ H Q => te σ H fun x H1 => r x H1 Q := by
  refine ⟨fun pins s σ H Q I h => ?_⟩
  exact attr_of (abase hn) (thn (he.run pins s σ H _ I h) fun u s1 ⟨x, H1, I1, rx, q⟩ => hr pins s1 σ H1 x u Q I1 rx q)
theorem atM (cn : CnE w c xv X sc Fx W) (f : Nat) : AtR X (w.nm f) (rAtM w xv Fx f) := fun pins s σ H x u Q I rx h => by
  rcases h with ⟨a, C, dx, fs, v, rfl, e, k, n, l, q⟩ | h
  · cases rx
    rw [← cn.hK] at k n
    exact getattr_ok I e k n l fun u s' I' ru => ⟨v, H, I', ru, q⟩
  · exact cn.xat f pins s σ H x u Q I rx h
theorem attrD_ne {f : Nat} {o : OD} : ∀ c q, attrD Fx f o ≠ .ex c q := fun c q h => by
  unfold attrD at h
  split at h
  · generalize (Option.map OD.fz _) = r at h
    cases r <;> cases h
  · split at h <;> cases h
  · cases h
theorem se_attr {a : E} {f : Nat} (ha : SE w c a) : SE w c (.attr a f) := fun xv X sc Fx W cn x pk h => by
  unfold kE kAttr at h
  split at h
  · obtain ⟨h1, h2⟩ := an h
    obtain ⟨h4, h3⟩ := an h2
    have e := of_decide_eq_true h3
    subst e
    rw [cn.nm]
    refine PE.imp (pe_at (atM cn f) (ha xv X sc Fx W cn _ true h1) h4) fun σ H Q ⟨Hf, Γ, at_, q⟩ => ?_
    refine ⟨Hf, Γ, at_, (wpR.bind.mp q).imp fun o eo q v1 H1 Hf1 g1 r1 => ?_⟩
    clear eo
    obtain ⟨o', e, q⟩ := wp_ok q attrD_ne
    obtain ⟨as, r1, _⟩ := r1
    unfold attrD at e
    split at e
    · rename_i k ds
      cases e1 : Fx.fld k f with
      | none => rw [e1] at e; cases e
      | some i =>
        cases e2 : ds[i]? with
        | none => rw [e1, Option.bind_some, e2] at e; cases e
        | some d =>
          rw [e1, Option.bind_some, e2] at e
          cases e
          obtain ⟨f1, f2, f3, f4⟩ := cn.fld k f i e1
          obtain ⟨b, dx, vs, rfl, hb, _, rr⟩ := Rep.obj_iff.mp r1.2
          obtain ⟨v, e3, rv⟩ := rr.get e2
          exact .inl ⟨b, _, dx, _, v, rfl, g1.lf _ _ hb, f1, f2, look_zip f3 f4 e3, q v H1 Hf1 g1 (res_fz rv)⟩
    · rename_i k p
      split at e
      · rename_i e1
        cases e
        exact .inr ⟨Hf1, k, p, g1.lf, r1.2, e1, fun v rv => q v H1 Hf1 g1 (res_fz rv)⟩
      · cases e
    · cases e
  · exact nb h
end
end MP

end

section
set_option Elab.async false
set_option linter.all false
set_option maxRecDepth 100000
namespace MP
open PySem PySem.Spec L2
section
variable {w : Wd} {c : Ck} {xv : XV} {X : Cx} {sc : Scope} {Fx : MP.Fx} {W : WX}
theorem star_no {env : Env} {pos : Pos} : ∀ {es : List Expr}, (∀ x ∈ es, plainE x = true) → (backTo pos (starEach es env)).any (·.1) = false
  | [], _ => rfl
  | e :: es, h => by
    rw [star_of (h e List.mem_cons_self)]
    show (false || (backTo pos (starEach es env)).any (·.1)) = false
    rw [star_no fun x m => h x (List.mem_cons_of_mem _ m)]
    rfl
theorem boot_b : ∀ f : Blt, f ≠ .gcd → bootBuiltins (bname f) = some (match f with
    | .int => .type "int"
    | .list => .type "list"
    | .tuple => .type "tuple"
    | f => .builtin (match f with
      | .len => "len" | .abs => "abs" | .sum => "sum" | .min => "min" | .max => "max" | .sorted => "sorted" | .any => "any" | .all => "all" | _ => "")) := by
  intro f h1
  cases f <;> first | exact absurd rfl h1 | decide +kernel
theorem bltD_ne {f : Blt} {xs : List D} : ∀ c q, bltD f xs ≠ .ex c q := fun c q h => by
  have no : ∀ {α β : Type} {x : Option α} {g : α → β} {c : Nat} {q : Option D}, (R.ofO x).map g ≠ .ex c q := by
    intro α β x g c q h
    cases x <;> cases h
  unfold bltD at h
  cases f <;> simp only [lenD, absD, intD, sumD, maxD, minD, listD, tupleD, sortedD, anyD, allD, gcdD] at h <;> (repeat' split at h) <;> first | (cases h; done) | exact no h
theorem se_blt {f : Blt} {es : List E} (kb : ∀ sc, kE c sc (.blt f es) = kBlt c sc f (kEs c sc es)) (he : ∀ e ∈ es, SE w c e) : SE w c (.blt f es) := fun xv X sc Fx W cn x pk h => by
  rw [kb] at h
  unfold kBlt at h
  split at h
  · rename_i nm p y xs pos
    obtain ⟨h1, h⟩ := an h
    obtain ⟨h2, h⟩ := an h
    obtain ⟨h3, h4⟩ := an h
    have e := of_decide_eq_true h2
    subst e
    have pa := pa_O cn he h4
    have pl := kplain h4
    have hs := star_of (es := xs) (env := X.env) (pl y List.mem_cons_self)
    have hn := star_no (env := X.env) (pos := pos) fun x m => pl x (List.mem_cons_of_mem y m)
    have hg := cn.gl _ h3
    have hdb := glb_of h3
    have fin : (X.calm = true ∨ f.anyhow = true → PE X (.Call (.Name (bname f) p) (y :: xs) [] pos) (tCB (rBlt w xv f) (tOs w xv W Fx es))) → PE X (.Call (.Name (bname f) p) (y :: xs) [] pos) (tE w xv W Fx (.blt f es) pk) := fun k => by
      cases hc : (Fx.calm || f.anyhow) with
      | false => exact ⟨fun pins s σ H Q I ⟨Hf, Γ, at_, q⟩ => by unfold ev at q; rw [hc] at q; exact q.elim⟩
      | true =>
        have hc' : X.calm = true ∨ f.anyhow = true := by
          rcases Bool.or_eq_true_iff.mp hc with z | z
          · exact .inl (cn.calm z)
          · exact .inr z
        refine PE.imp (k hc') fun σ H Q ⟨Hf, Γ, at_, q⟩ => ?_
        unfold ev at q
        rw [hc] at q
        have q : wpR w W σ H Hf ((evOs Fx es Γ).bind fun xs => bltD f xs) fun o => ∀ v H' Hf', Gr H Hf H' Hf' → Res w xv H H' Hf' false o v → Q v H' := q
        refine ⟨Hf, Γ, at_, (wpR.bind.mp q).imp fun ds _ q vs H1 Hf1 g1 k1 => ?_⟩
        obtain ⟨o, e, q⟩ := wp_ok q bltD_ne
        exact ⟨Hf1, ds, o, g1.lf, all2_opns k1, e, out_of cn g1 q⟩
    refine fin fun hc => ?_
    have hC : f.anyhow = false → X.calm = true := fun z => by
      rcases hc with hc | hc
      · exact hc
      · rw [z] at hc; cases hc
    have nm : (bname f) ≠ "__name__" := by cases f <;> decide
    cases f with
    | gcd => exact pe_callBfun blt_gcd hg (cn.gcd h1) pa hdb hs hn
    | len => exact pe_callB (blt_len cn.hK) hg (cn.bl _ h1 fun z => nomatch z) (boot_b .len fun z => nomatch z) pa nm hdb hs hn
    | abs => exact pe_callB blt_abs hg (cn.bl _ h1 fun z => nomatch z) (boot_b .abs fun z => nomatch z) pa nm hdb hs hn
    | sum => exact pe_callB (blt_sum cn.hK (hC rfl)) hg (cn.bl _ h1 fun z => nomatch z) (boot_b .sum fun z => nomatch z) pa nm hdb hs hn
    | min => exact pe_callB (blt_min cn.hK (hC rfl)) hg (cn.bl _ h1 fun z => nomatch z) (boot_b .min fun z => nomatch z) pa nm hdb hs hn
    | max => exact pe_callB (blt_max cn.hK (hC rfl)) hg (cn.bl _ h1 fun z => nomatch z) (boot_b .max fun z => nomatch z) pa nm hdb hs hn
    | sorted => exact pe_callB (blt_sorted cn.hK) hg (cn.bl _ h1 fun z => nomatch z) (boot_b .sorted fun z => nomatch z) pa nm hdb hs hn
    | any => exact pe_callB (blt_any (hC rfl)) hg (cn.bl _ h1 fun z => nomatch z) (boot_b .any fun z => nomatch z) pa nm hdb hs hn
    | all => exact pe_callB (blt_all (hC rfl)) hg (cn.bl _ h1 fun z => nomatch z) (boot_b .all fun z => nomatch z) pa nm hdb hs hn
    | int => exact pe_callTy blt_int hg (cn.bl _ h1 fun z => nomatch z) (boot_b .int fun z => nomatch z) pa nm hdb hs hn
    | list => exact pe_callTy (blt_list cn.hK) hg (cn.bl _ h1 fun z => nomatch z) (boot_b .list fun z => nomatch z) pa nm hdb hs hn
    | tuple => exact pe_callTy (blt_tuple cn.hK) hg (cn.bl _ h1 fun z => nomatch z) (boot_b .tuple fun z => nomatch z) pa nm hdb hs hn
  · exact nb h
end
end MP

end

section
set_option Elab.async false
set_option linter.all false
set_option maxRecDepth 100000
namespace MP
open PySem PySem.Spec L2
section
variable {w : Wd} {c : Ck} {xv : XV} {X : Cx} {sc : Scope} {Fx : MP.Fx} {W : WX}
theorem intBits_eq (i : Int) : (Builtin.Int.intBits i : Nat) = bitLen i := by
  unfold Builtin.Int.intBits bitLen
  by_cases h : i = 0 <;> simp [h]
theorem se_bm {m : Bm} {a : E} {es : List E} (ha : SE w c a) : SE w c (.bm m a es) := fun xv X sc Fx W cn x pk h => by
  unfold kE at h
  cases m <;> cases es <;> first | exact nb h | skip
  unfold kBits at h
  simp only at h
  split at h
  · obtain ⟨h1, h⟩ := an h
    obtain ⟨h2, h⟩ := an h
    obtain ⟨h3, h4⟩ := an h
    have e := of_decide_eq_true h3
    subst e
    refine PE.imp (pe_bits (pe_O cn.hK (ha xv X sc Fx W cn _ true h1)) (abase h2) h4) fun σ H Q ⟨Hf, Γ, at_, q⟩ => ?_
    refine ⟨Hf, Γ, at_, (wpR.bind.mp q).imp fun d _ q v H1 Hf1 g1 o1 => ?_⟩
    unfold evOs at q
    simp only [R.bind_ok] at q
    cases d with
    | int i => exact ⟨i, o1.int, by rw [intBits_eq]; exact q _ H1 Hf1 g1 res_int⟩
    | _ => exact q.elim
  · exact nb h
/-! ### isinstance -/
theorem tyName_ne (t : Ty) (h : ∀ k, t ≠ .cls k) (h2 : ∀ k, t ≠ .exc k) (h3 : t ≠ .tnone) : tyName w.nm t ≠ "__name__" ∧ bootBuiltins (tyName w.nm t) = some (tyVal w t) := by
  cases t with
  | cls k => exact absurd rfl (h k)
  | exc k => exact absurd rfl (h2 k)
  | tnone => exact absurd rfl h3
  | _ => exact ⟨by dsimp only [tyName]; decide, by dsimp only [tyName, tyVal]; decide +kernel⟩
theorem pe_ty (cn : CnE w c xv X sc Fx W) {t : Ty} {x : Str} {p : Pos} (h : kTy c sc t x = true) : PE X (.Name x p) (tC (tyV w t)) := by
  unfold kTy at h
  obtain ⟨h1, h⟩ := an h
  obtain ⟨h2, h3⟩ := an h
  have e := of_decide_eq_true h3
  subst e
  have m := cn.ty t h2
  rw [cn.nm] at h1 ⊢
  have hg := cn.gl _ h1
  have hd := glb_of h1
  cases t with
  | cls k => exact pe_glob hg m rfl hd
  | exc k => exact pe_glob hg m rfl hd
  | tnone => exact m.elim
  | tint => exact pe_bltn hg m (tyName_ne (w := w) .tint (fun _ z => nomatch z) (fun _ z => nomatch z) (fun z => nomatch z)).2 rfl (tyName_ne (w := w) .tint (fun _ z => nomatch z) (fun _ z => nomatch z) (fun z => nomatch z)).1 hd
  | tbool => exact pe_bltn hg m (tyName_ne (w := w) .tbool (fun _ z => nomatch z) (fun _ z => nomatch z) (fun z => nomatch z)).2 rfl (tyName_ne (w := w) .tbool (fun _ z => nomatch z) (fun _ z => nomatch z) (fun z => nomatch z)).1 hd
  | tstr => exact pe_bltn hg m (tyName_ne (w := w) .tstr (fun _ z => nomatch z) (fun _ z => nomatch z) (fun z => nomatch z)).2 rfl (tyName_ne (w := w) .tstr (fun _ z => nomatch z) (fun _ z => nomatch z) (fun z => nomatch z)).1 hd
  | tlist => exact pe_bltn hg m (tyName_ne (w := w) .tlist (fun _ z => nomatch z) (fun _ z => nomatch z) (fun z => nomatch z)).2 rfl (tyName_ne (w := w) .tlist (fun _ z => nomatch z) (fun _ z => nomatch z) (fun z => nomatch z)).1 hd
  | ttuple => exact pe_bltn hg m (tyName_ne (w := w) .ttuple (fun _ z => nomatch z) (fun _ z => nomatch z) (fun z => nomatch z)).2 rfl (tyName_ne (w := w) .ttuple (fun _ z => nomatch z) (fun _ z => nomatch z) (fun z => nomatch z)).1 hd
  | verr => exact pe_bltn hg m (tyName_ne (w := w) .verr (fun _ z => nomatch z) (fun _ z => nomatch z) (fun z => nomatch z)).2 rfl (tyName_ne (w := w) .verr (fun _ z => nomatch z) (fun _ z => nomatch z) (fun z => nomatch z)).1 hd
theorem pa_tys (cn : CnE w c xv X sc Fx W) : ∀ {ts : List Ty} {xs : List Expr}, kTys c sc ts xs = true → PA X xs (fun σ H Q => Q (ts.map (tyV w)) H)
  | [], [], h => pa_nil
  | [], x :: xs, h => nb h
  | t :: ts, [], h => nb h
  | t :: ts, .Name y p :: xs, h => by
    obtain ⟨h1, h2⟩ := an h
    exact PA.imp (pa_cons (pe_ty cn h1) (pa_tys cn h2)) fun σ H Q q => q
theorem kTy_ok {t : Ty} {y : Str} (h : kTy c sc t y = true) : c.ty t = true := by
  unfold kTy at h
  exact (an (an h).2).1
theorem kTys_ok : ∀ {ts : List Ty} {xs : List Expr}, kTys c sc ts xs = true → ∀ t ∈ ts, c.ty t = true
  | [], _, _, t, m => nomatch m
  | t :: ts, [], h, _, _ => nb h
  | t :: ts, .Name y p :: xs, h, u, m => by
    obtain ⟨h1, h2⟩ := an h
    rcases List.mem_cons.mp m with rfl | m
    · exact kTy_ok h1
    · exact kTys_ok h2 u m
theorem se_inst {a : E} {ts : List Ty} (ha : SE w c a) : SE w c (.inst a ts) := fun xv X sc Fx W cn x pk h => by
  unfold kE kInst at h
  split at h
  · rename_i f p x t pos
    obtain ⟨h1, h⟩ := an h
    obtain ⟨h2, h⟩ := an h
    obtain ⟨h3, h⟩ := an h
    obtain ⟨h3', h⟩ := an h
    obtain ⟨h4, h5⟩ := an h
    have e := of_decide_eq_true h1
    subst e
    have hp := ha xv X sc Fx W cn _ true h4
    have hs : ∀ {es : List Expr}, starEach (x :: es) X.env = (false, eval x X.env) :: starEach es X.env := star_of h3
    have hs2 : starEach [t] X.env = (false, eval t X.env) :: starEach [] X.env := star_of h3'
    have hn : (backTo pos (starEach [t] X.env)).any (·.1) = false := by rw [hs2]; rfl
    have hb : bootBuiltins "isinstance" = some (.builtin "isinstance") := by decide +kernel
    unfold kTyE at h5
    split at h5
    · rename_i y py
      cases ts with
      | nil => exact nb h5
      | cons t ts =>
        cases ts with
        | cons _ _ => exact nb h5
        | nil =>
          refine PE.imp (pe_callB cn.is1 (cn.gl _ h2) cn.isi hb (pa_cons hp (pa_cons (pe_ty cn h5) pa_nil hs2) hs) (by decide) (by decide) hs hn) fun σ H Q ⟨Hf, Γ, at_, q⟩ => ?_
          refine ⟨Hf, Γ, at_, (wpR.bind.mp q).imp fun o _ q v H1 Hf1 g1 r1 => ?_⟩
          obtain ⟨as, r1, _⟩ := r1
          obtain ⟨fo, e, q⟩ := wpR.ofO.mp q
          obtain ⟨b, e, rfl⟩ := Option.map_eq_some_iff.mp e
          have e2 : isTy o t Fx.sub = some b := by
            unfold anyTy at e
            cases q : isTy o t Fx.sub with
            | none => rw [q] at e; cases e
            | some b' => rw [q] at e; cases b' <;> (cases e; rfl)
          exact ⟨Hf1, o, v, as, t, b, rfl, kTy_ok h5, g1.lf, r1, e2, q _ H1 Hf1 g1 res_bl⟩
    · rename_i ys _ _
      obtain ⟨h5, h6⟩ := an h5
      obtain ⟨h6, h7⟩ := an h6
      have h6 := of_decide_eq_true h6
      have h7 : ts ≠ [] := fun z => by rw [z] at h7; cases h7
      refine PE.imp (pe_callB cn.isT (cn.gl _ h2) cn.isi hb (pa_cons hp (pa_cons (pe_tup (pa_tys cn h5)) pa_nil hs2) hs) (by decide) (by decide) hs hn) fun σ H Q ⟨Hf, Γ, at_, q⟩ => ?_
      refine ⟨Hf, Γ, at_, (wpR.bind.mp q).imp fun o _ q v H1 Hf1 g1 r1 => ?_⟩
      obtain ⟨as, r1, _⟩ := r1
      obtain ⟨fo, e, q⟩ := wpR.ofO.mp q
      obtain ⟨b, e3, rfl⟩ := Option.map_eq_some_iff.mp e
      refine ⟨by rw [List.length_map]; exact small1000 (by omega), fun tp hp => ?_⟩
      have g2 := gr_newf (o := .tup (ts.map (tyV w))) g1.lf hp
      exact ⟨_, o, v, as, ts, tp, b, rfl, upd_same, h7, kTys_ok h5, g2.lf, r1.mono cn.xvo g2, e3, q _ _ _ (g1.trans g2) res_bl⟩
    · exact nb h5
  · exact nb h
end
end MP

end

section
set_option Elab.async false
set_option linter.all false
set_option maxRecDepth 100000
namespace MP
open PySem PySem.Spec L2
section
variable {w : Wd} {c : Ck} {xv : XV} {X : Cx} {sc : Scope} {Fx : MP.Fx} {W : WX}
/-! ### lending lists of one's own -/
/-- the frozen part without these -/
def lessH (Hf : Hp) (as : List Addr) : Hp := fun a => if a ∈ as then none else Hf a
theorem lessH_in {Hf : Hp} {as : List Addr} {a : Addr} (h : a ∈ as) : lessH Hf as a = none := if_pos h
theorem lessH_out {Hf : Hp} {as : List Addr} {a : Addr} (h : a ∉ as) : lessH Hf as a = Hf a := if_neg h
/-- these are lists -/
def Lsts (Hf : Hp) (as : List Addr) : Prop := ∀ a ∈ as, ∃ us, Hf a = some (.lst us)
theorem less_rd {Hf : Hp} {as : List Addr} (l : Lsts Hf as) {a : Addr} {u : HO} (n : ∀ us, u ≠ .lst us) (h : Rd Hf a u) : Rd (lessH Hf as) a u := by
  have no : a ∉ as := fun m => by
    obtain ⟨us, e⟩ := l a m
    rcases h with h | ⟨o, h⟩
    · rw [e] at h; exact n us (Option.some.inj h).symm
    · rw [e] at h; cases h
  rcases h with h | ⟨o, h⟩
  · exact .inl (by rw [lessH_out no]; exact h)
  · exact .inr ⟨o, by rw [lessH_out no]; exact h⟩
mutual
theorem Rep.less {Hf : Hp} {as : List Addr} (l : Lsts Hf as) : ∀ (d : D) (v : V), d.noL = true → Rep w Hf d v → Rep w (lessH Hf as) d v
  | .non, _, _, h => h
  | .bl _, _, _, h => h
  | .int _, _, _, h => h
  | .str _, _, _, h => h
  | .tup ds, v, n, h => by
    obtain ⟨a, vs, e, s, r⟩ := Rep.tup_iff.mp h
    refine Rep.tup_iff.mpr ⟨a, vs, e, ?_, Reps.less l ds vs n r⟩
    rcases s with s | s
    · exact .inl (less_rd l (fun _ z => nomatch z) s)
    · exact .inr s
  | .lst ds, v, n, h => nomatch n
  | .scr ds, v, n, h => nomatch n
  | .obj c ds, v, n, h => by
    obtain ⟨a, dx, vs, e, s, z, r⟩ := Rep.obj_iff.mp h
    have no : a ∉ as := fun m => by
      obtain ⟨us, e⟩ := l a m
      rw [e] at s; cases s
    exact Rep.obj_iff.mpr ⟨a, dx, vs, e, by rw [lessH_out no]; exact s, z, Reps.less l ds vs n r⟩
theorem Reps.less {Hf : Hp} {as : List Addr} (l : Lsts Hf as) : ∀ (ds : List D) (vs : List V), D.noLs ds = true → Reps w Hf ds vs → Reps w (lessH Hf as) ds vs
  | [], _, _, h => h
  | d :: ds, vs, n, h => by
    obtain ⟨v, r, e, h1, h2⟩ := Reps.cons_iff.mp h
    obtain ⟨n1, n2⟩ := an (show (d.noL && D.noLs ds) = true from n)
    exact Reps.cons_iff.mpr ⟨v, r, e, Rep.less l d v n1 h1, Reps.less l ds r n2 h2⟩
end
theorem less_le {Hf : Hp} {as : List Addr} : Le (lessH Hf as) Hf := fun a o e => by
  by_cases m : a ∈ as
  · rw [lessH_in m] at e; cases e
  · rw [lessH_out m] at e; exact e
theorem less_none {Hf : Hp} {as : List Addr} {a : Addr} (h : Hf a = none) : lessH Hf as a = none := by
  by_cases m : a ∈ as
  · exact lessH_in m
  · rw [lessH_out m]; exact h
theorem rows_less {H Hf : Hp} {as : List Addr} (l : Lsts Hf as) : ∀ {rs : List (Bool × List D)} {vs : List V} {bs : List Addr}, (rs.all fun r => !r.1 && D.noLs r.2) = true → RepRows w H Hf rs vs bs → RepRows w H (lessH Hf as) rs vs bs
  | [], _, _, _, h => h
  | (b, ds) :: rs, vs, bs, n, h => by
    rw [List.all_cons] at n
    obtain ⟨n1, n2⟩ := an n
    obtain ⟨n1, n3⟩ := an n1
    cases b with
    | true => cases n1
    | false =>
      obtain ⟨a, us, r, as', e1, e2, h1, h2, h3, h4⟩ := h
      exact ⟨a, us, r, as', e1, e2, h1, less_none h2, Reps.less l _ _ n3 h3, rows_less l n2 h4⟩
theorem RepO.less {H Hf : Hp} {as : List Addr} (l : Lsts Hf as) {o : OD} {v : V} {bs : List Addr} (n : o.noFL = true) (h : RepO w xv H Hf o v bs) : RepO w xv H (lessH Hf as) o v bs := by
  cases o with
  | fz d => exact ⟨h.1, Rep.less l d v n h.2⟩
  | own ds =>
    obtain ⟨a, vs, e1, e2, h1, h2, h3⟩ := h
    exact ⟨a, vs, e1, e2, h1, less_none h2, Reps.less l _ _ n h3⟩
  | own2 pp rs =>
    obtain ⟨a, vs, as', e1, e2, h1, h2, h3, hp⟩ := h
    exact ⟨a, vs, as', e1, e2, h1, less_none h2, rows_less l n h3, hp⟩
  | _ => cases n
theorem less_gr {H Hf H' Hf' : Hp} {as : List Addr} (n : ∀ a ∈ as, Hf a = none) (lf : Le Hf H) (g : Gr H (frzH H Hf as) H' Hf') : Gr H Hf H' (lessH Hf' as) := by
  refine ⟨g.le, ⟨fun a o e => ?_, fun a h => ?_⟩, less_le.trans g.lf⟩
  · have no : a ∉ as := fun m => by rw [n a m] at e; cases e
    rw [lessH_out no]
    exact g.ext.le _ _ (frzH_le n a o e)
  · by_cases m : a ∈ as
    · rw [lessH_in m, n a m]
    · rw [lessH_out m, g.ext.old a h, frzH_out m]
theorem RepO.toXv {H Hf : Hp} {o : OD} {v : V} {bs : List Addr} (h : RepO w xv0 H Hf o v bs) : RepO w xv H Hf o v bs := by
  cases o with
  | xv c p => exact h.2.elim
  | _ => exact h
theorem Res.toXv {H0 H Hf : Hp} {p : Bool} {o : OD} {v : V} (h : Res w xv0 H0 H Hf p o v) : Res w xv H0 H Hf p o v := by
  obtain ⟨as, r, h⟩ := h
  exact ⟨as, r.toXv, h⟩
/-- all that is lent -/
theorem lend_all {H Hf : Hp} : ∀ {bs : List (D × Bool)} {vs : List V}, All2 (fun d v => ArgB w H Hf d v) bs vs → ∃ as, (bs.any (·.2) = false → as = []) ∧ (∀ a ∈ as, Hf a = none ∧ ∃ us, H a = some (.lst us)) ∧ Reps w (frzH H Hf as) (bs.map (·.1)) vs
  | [], vs, h => ⟨[], fun _ => rfl, fun a m => (nomatch m), Reps.nil_iff.mpr h⟩
  | b :: bs, vs, h => by
    obtain ⟨v, r, rfl, ⟨_, as1, p1, p2, p3⟩, h2⟩ := h
    obtain ⟨as2, q1, q2, q3⟩ := lend_all h2
    have up : ∀ {as' : List Addr}, (∀ a ∈ as', a ∈ as1 ++ as2) → (∀ a ∈ as1 ++ as2, Hf a = none) → Le (frzH H Hf as') (frzH H Hf (as1 ++ as2)) := by
      intro as' sub n a o e
      by_cases m : a ∈ as'
      · rw [frzH_in (sub a m)]
        rw [frzH_in m] at e
        exact e
      · rw [frzH_out m] at e
        have no : a ∉ as1 ++ as2 := fun z => by rw [n a z] at e; cases e
        rw [frzH_out no]
        exact e
    have n : ∀ a ∈ as1 ++ as2, Hf a = none ∧ ∃ us, H a = some (.lst us) := fun a m => by
      rcases List.mem_append.mp m with m | m
      · exact p2 a m
      · exact q2 a m
    refine ⟨as1 ++ as2, fun e => ?_, n, Reps.cons_iff.mpr ⟨v, r, rfl, Rep.mono w (up (fun a m => List.mem_append_left _ m) fun a m => (n a m).1) _ _ p3, Reps.mono w (up (fun a m => List.mem_append_right _ m) fun a m => (n a m).1) _ _ q3⟩⟩
    rw [List.any_cons] at e
    obtain ⟨e1, e2⟩ := Bool.or_eq_false_iff.mp e
    rw [p1 e1, q1 e2]
    rfl
theorem frzH_nil {H Hf : Hp} : frzH H Hf [] = Hf := funext fun a => frzH_out (by simp)
/-- behind a call that was lent lists -/
theorem lent_out {H0 Hf0 H Hf : Hp} {σ : L2.St} {bs : List (D × Bool)} {as : List Addr} {r : R OD} {Q : VK} (g : Gr H0 Hf0 H Hf) (he : bs.any (·.2) = false → as = []) (ha : ∀ a ∈ as, Hf a = none ∧ ∃ us, H a = some (.lst us))
    (q : wpR w W σ H Hf (lent bs r) fun o => Out w xv H Hf o Q) : wpR w W σ H (frzH H Hf as) r fun o => Out w xv0 H (frzH H Hf as) o Q := by
  have n : ∀ a ∈ as, Hf a = none := fun a m => (ha a m).1
  unfold lent at q
  split at q
  · have ls : ∀ {H' Hf' : Hp}, Gr H (frzH H Hf as) H' Hf' → Lsts Hf' as := fun gg a m => by
      obtain ⟨us, e⟩ := (ha a m).2
      exact ⟨us, gg.ext.le _ _ (by rw [frzH_in m]; exact e)⟩
    cases r with
    | ok o =>
      simp only at q
      split at q
      · rename_i hn
        refine fun v H' Hf' gg rr => ?_
        obtain ⟨cs, r1, r2, r3⟩ := rr
        exact q v H' (lessH Hf' as) (less_gr n g.lf gg) ⟨cs, (r1.less (ls gg) hn).toXv, r2, r3⟩
      · exact q.elim
    | ex k p =>
      refine fun cls d H' Hf' gg x => ?_
      obtain ⟨y, x1, x2, x3, x4⟩ := x
      cases p with
      | none => exact q cls d H' _ (less_gr n g.lf gg) ⟨y, x1, x2, x3, fun z e => nomatch e⟩
      | some p =>
        simp only at q
        split at q
        · rename_i hn
          refine q cls d H' _ (less_gr n g.lf gg) ⟨y, x1, x2, x3, fun z e => ?_⟩
          cases e
          obtain ⟨f, da, v, e2, e3, e4, e5⟩ := x4 p rfl
          refine ⟨f, da, v, e2, e3, ?_, Rep.less (ls gg) _ _ hn e5⟩
          have no : da ∉ as := fun m => by
            obtain ⟨us, e⟩ := ls gg da m
            rw [e] at e4; cases e4
          rw [lessH_out no]
          exact e4
        · exact q.elim
    | bad => exact q.elim
  · rename_i hb
    have hb : bs.any (·.2) = false := by simpa using hb
    have := he hb
    subst this
    rw [frzH_nil]
    exact q.imp fun o _ q v H' Hf' gg rr => q v H' Hf' gg rr.toXv
end
end MP
namespace MP
open PySem PySem.Spec L2
section
variable {w : Wd} {c : Ck} {xv : XV} {X : Cx} {sc : Scope} {Fx : MP.Fx} {W : WX}
theorem All2.app {α : Type} {K : α → V → Prop} : ∀ {as bs : List α} {vs us : List V}, All2 K as vs → All2 K bs us → All2 K (as ++ bs) (vs ++ us)
  | [], _, _, _, h, k => by rw [show _ = [] from h]; exact k
  | a :: as, bs, vs, us, h, k => by
    obtain ⟨v, r, rfl, h1, h2⟩ := h
    exact ⟨v, r ++ us, rfl, h1, h2.app k⟩
theorem Reps.split {H : Hp} : ∀ {as bs : List D} {vs us : List V}, vs.length = as.length → Reps w H (as ++ bs) (vs ++ us) → Reps w H as vs ∧ Reps w H bs us
  | [], _, vs, us, e, h => by
    rw [List.length_eq_zero_iff.mp e] at h ⊢
    exact ⟨Reps.nil_iff.mpr rfl, h⟩
  | a :: as, bs, [], us, e, h => by cases e
  | a :: as, bs, v :: vs, us, e, h => by
    obtain ⟨v', r, e2, h1, h2⟩ := Reps.cons_iff.mp h
    rw [List.cons_append] at e2
    cases e2
    obtain ⟨h3, h4⟩ := Reps.split (by simpa using e) h2
    exact ⟨Reps.cons_iff.mpr ⟨v, vs, rfl, h1, h3⟩, h4⟩
theorem out_res {H Hf H2 Hf2 : Hp} {Q : VK} {o : OD} (g : Gr H Hf H2 Hf2) (q : ∀ v H' Hf', Gr H Hf H' Hf' → Res w xv H H' Hf' false o v → Q v H') : Out w xv H2 Hf2 o Q := fun v H' Hf' g3 r => q v H' Hf' (g.trans g3) (r.back g)
theorem evAs_nil {Fx : MP.Fx} {Γ : List OD} : evAs Fx [] Γ = .ok [] := by unfold evAs; rfl
theorem se_call {f : Nat} {es kes : List E} {ks : List Nat} (he : ∀ e ∈ es, SE w c e) : SE w c (.call f es ks kes) := fun xv X sc Fx W cn x pk h => by
  unfold kE at h
  cases ks <;> cases kes <;> first | exact nb h | skip
  unfold kCall at h
  simp only at h
  split at h
  · obtain ⟨h0, h⟩ := an h
    obtain ⟨h1, h⟩ := an h
    obtain ⟨h2, h3⟩ := an h
    have e := of_decide_eq_true h1
    subst e
    rw [cn.nm] at h2 ⊢
    · refine PE.imp (cn.cal2 f _ _ _ _ _ h0 h2 (kplain h3) (pa_A cn he h3)) fun σ H Q ⟨Hf, Γ, at_, q⟩ => ?_
      unfold ev at q
      simp only [evAs_nil, R.bind_ok, List.append_nil, List.map_nil] at q
      refine ⟨Hf, Γ, at_, (wpR.bind.mp q).imp fun as _ q vs H1 Hf1 g1 k1 => ?_⟩
      obtain ⟨cs, l1, l2, l3⟩ := lend_all k1
      refine ⟨frzH H1 Hf1 cs, as.map (·.1), frzH_lf g1.lf, l3, ?_⟩
      exact lent_out (xv := xv) g1 l1 l2 (q.mono g1 fun o _ q => out_res g1 q)
  · exact nb h
theorem se_mk {k : Nat} {es : List E} (he : ∀ e ∈ es, SE w c e) : SE w c (.mk k es) := fun xv X sc Fx W cn x pk h => by
  unfold kE kMk at h
  split at h
  · obtain ⟨h0, h⟩ := an h
    obtain ⟨h1, h⟩ := an h
    obtain ⟨h2, h3⟩ := an h
    have e := of_decide_eq_true h1
    subst e
    rw [cn.nm] at h2 ⊢
    cases hcm : Fx.calm with
    | false => exact ⟨fun pins s σ H Q I ⟨Hf, Γ, at_, q⟩ => by unfold ev at q; rw [hcm] at q; exact q.elim⟩
    | true =>
      refine PE.imp (cn.mak hcm k _ _ _ _ _ h0 h2 (kplain h3) (pa_A cn he h3)) fun σ H Q ⟨Hf, Γ, at_, q⟩ => ?_
      unfold ev at q
      simp only [hcm, Bool.true_eq_false, if_false] at q
      refine ⟨Hf, Γ, at_, (wpR.bind.mp q).imp fun as _ q vs H1 Hf1 g1 k1 => ?_⟩
      obtain ⟨cs, l1, l2, l3⟩ := lend_all k1
      refine ⟨frzH H1 Hf1 cs, as.map (·.1), frzH_lf g1.lf, l3, ?_⟩
      exact lent_out (xv := xv) g1 l1 l2 (q.mono g1 fun o _ q => out_res g1 q)
  · exact nb h
theorem se_meth {a : E} {m : Nat} {es : List E} (ha : SE w c a) (he : ∀ e ∈ es, SE w c e) : SE w c (.meth a m es) := fun xv X sc Fx W cn x pk h => by
  unfold kE kMeth at h
  split at h
  · obtain ⟨h01, h⟩ := an h
    obtain ⟨h0, h1⟩ := an h01
    obtain ⟨h2, h⟩ := an h
    obtain ⟨h3, h⟩ := an h
    obtain ⟨h4, h5⟩ := an h
    have e := of_decide_eq_true h3
    subst e
    rw [cn.nm]
    cases hcm : Fx.calm with
    | false => exact ⟨fun pins s σ H Q I ⟨Hf, Γ, at_, q⟩ => by unfold ev at q; rw [hcm] at q; exact q.elim⟩
    | true =>
      refine PE.imp (cn.met hcm m _ _ _ _ _ _ h0 h2 h5 (kplain h4) (pe_O cn.hK (ha xv X sc Fx W cn _ true h1)) (pa_A cn he h4)) fun σ H Q ⟨Hf, Γ, at_, q⟩ => ?_
      unfold ev at q
      simp only [hcm, Bool.true_eq_false, if_false] at q
      refine ⟨Hf, Γ, at_, (wpR.bind.mp q).imp fun d _ q v H1 Hf1 g1 o1 => ?_⟩
      cases d with
      | obj k ds =>
        simp only at q
        cases hm : Fx.meth k m with
        | none => rw [hm] at q; exact q.elim
        | some f =>
          rw [hm] at q
          simp only at q
          have o1 : Rep w Hf1 (.obj k ds) v := by
            rcases o1 with o1 | ⟨_, _, _, e, _⟩
            · exact o1
            · cases e
          obtain ⟨b, dx, ws, rfl, hb, hl, rr⟩ := Rep.obj_iff.mp o1
          refine ⟨k, f, hm, ⟨b, dx, ws, rfl, g1.lf _ _ hb, hl⟩, ?_⟩
          refine ⟨Hf1, Γ, at_.mono cn.xvo g1, (wpR.bind.mp q).mono g1 fun as _ q vs H2 Hf2 g2 k2 => ?_⟩
          have g := g1.trans g2
          obtain ⟨cs, l1, l2, l3⟩ := lend_all k2
          refine ⟨frzH H2 Hf2 cs, .obj k ds :: as.map (·.1), frzH_lf g2.lf, Reps.cons_iff.mpr ⟨_, _, rfl, ?_, l3⟩, ?_⟩
          · exact Rep.mono w (g2.ext.le.trans (frzH_le fun a m => (l2 a m).1)) _ _ o1
          · exact lent_out (xv := xv) g l1 l2 (q.mono g fun o _ q => out_res g q)
      | _ => exact q.elim
  · exact nb h
end
end MP

end

section
set_option Elab.async false
set_option linter.all false
set_option maxRecDepth 100000
set_option maxHeartbeats 2000000
/-! enumerate of a list, of a tuple -/
namespace PySem
namespace EnT
open Sem (wp)
open AutoSeq1 (wpAny_loadPart')
theorem new_tup (t : Addr) (its : Array Value) : Meets (Builtin.«enumerate.__new__» ⟨[.type "enumerate", .ref t], []⟩) (fun _ R s => s.heap.IsTuple t its ∧
      R (.ok (.ret (.ref (s.heap.push { cls := .type "tuple_iterator", data := .fields #[.ref t, .int 0 0] }).objs.size)))
        { s with heap := (s.heap.push { cls := .type "tuple_iterator", data := .fields #[.ref t, .int 0 0] }).push { cls := .type "enumerate", data := .fields #[.none, .bool false, .ref s.heap.objs.size, rawInt 0, .none, .none] } }) :=
  .of_wp fun prog w A R s h => by
    obtain ⟨hp, g, d, tk, os⟩ := s; obtain ⟨hL, h⟩ := h
    have hsub := sub_enumerate
    obtain ⟨o, hl, hc⟩ := id hL
    wp_walk using wpAny_loadPart' hl
    refine wpAny_stack_any fun st => wpAny_pure ?_
    split
    · rename_i c _ _ _ _ _
      cases (c == Value.type "enumerate")
      · wp_walk using wpAny_loadPart' hl, wpAny_pyIter_tuple hL
        exact ⟨_, rfl, h⟩
      · wp_walk using wpAny_loadPart' hl, wpAny_pyIter_tuple hL
        exact ⟨_, rfl, h⟩
    · wp_walk using wpAny_loadPart' hl, wpAny_pyIter_tuple hL
      exact ⟨_, rfl, h⟩
section
variable {prog : Program} {w : World} {A : Around} {E : Value → Shared → Prop} {s : Shared}
theorem call_tup {t : Addr} {its : Array Value} {Q : Value → Shared → Prop} (hL : s.heap.IsTuple t its)
    (h : ∀ h', IsEnum h' (s.heap.objs.size + 1) s.heap.objs.size 0 .none → h'.IsTupleIter s.heap.objs.size t 0 → h'.objs.size = s.heap.objs.size + 2 →
      (∀ b o, s.heap.get? b = some o → h'.get? b = some o) → Q (.ref (s.heap.objs.size + 1)) { s with heap := h' }) :
    wpAny (model prog w) A (call (.type "enumerate") [.ref t]) Q E s := by
  refine callType_new F.called_enumerate (by decide) (F.typeCall_enumerate_1 _) (F.newCall_enumerate_1 _) (fun obj => F.args_object_init_2 obj _) F.entry_enumerate_new (new_tup t its) ⟨hL, ?_⟩
  have hz : (s.heap.push { cls := .type "tuple_iterator", data := .fields #[.ref t, .int 0 0] }).objs.size = s.heap.objs.size + 1 := Heap.size_push ..
  show _ ∧ _
  rw [hz]
  have he : IsEnum ((s.heap.push { cls := .type "tuple_iterator", data := .fields #[.ref t, .int 0 0] }).push
      { cls := .type "enumerate", data := .fields #[.none, .bool false, .ref s.heap.objs.size, rawInt 0, .none, .none] }) (s.heap.objs.size + 1) s.heap.objs.size 0 .none := by
    have q := Heap.get?_push_size (s.heap.push { cls := .type "tuple_iterator", data := .fields #[.ref t, .int 0 0] })
      (o := { cls := .type "enumerate", data := .fields #[.none, .bool false, .ref s.heap.objs.size, rawInt 0, .none, .none] }) rfl
    rw [hz] at q; exact q
  refine ⟨⟨_, he, rfl⟩, h _ he ⟨_, Heap.get?_push_of_some _ (Heap.get?_push_size _ rfl), rfl, rfl⟩ (by rw [Heap.size_push, hz]) fun b o x => Heap.get?_push_of_some _ (Heap.get?_push_of_some _ x)⟩
end
end EnT
end PySem
namespace L2
open PySem PySem.Spec PyProof.Rows
def IteT (K : PySem.W.Frag) (a : Addr) : It :=
  ⟨fun i H => ∃ (xs : List V) (x : V), SqT K H a xs ∧ xs[i]? = some x, fun i H v H' => ∃ T x, v = .ref T ∧ H T = none ∧ H' = upd H T (.tup [.int (i : Nat), x]) ∧ ∀ xs, SqT K H a xs → xs[i]? = some x, fun i H => ∃ xs : List V, SqT K H a xs ∧ xs.length ≤ i⟩
theorem turn_enumT {P : Program} {w : World} {K : PySem.W.Frag} {elts : List Expr} {kk : Nat} {tpos : Pos} (a e it : Addr) (hae : a ≠ it) :
    Turn P w K (.Tuple elts kk tpos) (IteT K a) [e, it] e (fun i h => (∃ old, IsEnum h e it ((i : Nat) : Int) old) ∧ h.IsTupleIter it a i ∧ e ≠ it ∧ a ≠ e) where
  mem := by simp
  obj := fun i h st b hb => by
    obtain ⟨⟨old, he⟩, ⟨o, ho, hc, hd⟩, _⟩ := st
    rcases List.mem_cons.mp hb with z | hb
    · rw [z]; exact ⟨_, he, fun v q => nomatch q⟩
    · rw [List.mem_singleton.mp hb]; exact ⟨o, ho, fun v q => by rw [hd] at q; cases q⟩
  keep := fun i h h' st k => let ⟨⟨old, he⟩, hi, hne⟩ := st; ⟨⟨old, k e (by simp) _ he⟩, hi.at fun o q => k it (by simp) o q, hne⟩
  item := by
    intro X hP hw hK hc i pins s σ H E I hf st hg
    subst hP hw hK
    obtain ⟨⟨old, he⟩, hit, hne, hna⟩ := st
    obtain ⟨xs, x, hq, hx⟩ := hg
    obtain ⟨its, rv, p, hz⟩ := I.tuple hq
    have ht : s.heap.IsTuple a its.toArray := p
    have hlen := rv.length
    have hlt := (List.getElem?_eq_some_iff.mp hx).1
    obtain ⟨u0, hu0, ru⟩ := rv.get hx
    have hel : e < s.heap.objs.size := Heap.lt_size he
    have hil : it < s.heap.objs.size := by obtain ⟨_, q, _⟩ := hit; exact Heap.lt_size q
    have nef : e ∉ [it, a] := by
      intro m
      rcases List.mem_cons.mp m with z | m
      · exact hne z
      · exact hna (List.mem_singleton.mp m).symm
    refine wpAny_pyNext_enum_itemD (Draws.tuple (A := X.A.in1) (I.ok.hd hc) it a hae its.toArray) he ⟨hit, ht⟩ (by simp; omega) hne nef fun u h' tk hu ho hit' hT hsz hk => ?_
    have eu : u = u0 := by
      have hu : its.toArray[i]? = some u := hu
      simp at hu
      rw [hu] at hu0
      exact Option.some.inj hu0
    subst eu
    refine ⟨_, rfl, wpAny_letOwnedTupleGo_enum (s := { s with heap := h', toks := tk + 1 }) ho fun h'' he' sb => ?_⟩
    have hT2 : h''.get? s.heap.objs.size = some { cls := .type "tuple", data := .seq #[.int i tk, u] } := (sb.2 _ (Nat.ne_of_gt hel)).trans hT
    have new : ObjOk X.prog X.w (upd H s.heap.objs.size (.tup [.int (i : Nat), x])) h'' s.heap.objs.size (.tup [.int (i : Nat), x]) :=
      ⟨by show 2 ≤ sizeLine; decide, [.int i tk, u], .cons ⟨_, rfl⟩ (.cons ru .nil), ⟨_, hT2, rfl, _, rfl⟩⟩
    have I1 : Inv X pins σ (upd H s.heap.objs.size (.tup [.int (i : Nat), x])) { s with heap := h'', toks := tk + 1 } :=
      I.turnedNew (ch := [e, it]) (fun b ob hb q => (sb.2 b (fun z => hb (by simp [z]))).trans (hk b ob (fun z => hb (by simp [z])) (fun z => hb (by simp [z])) q)) hf (Nat.le_refl _) new
    refine ⟨.ref s.heap.objs.size, _, I1, rfl, ⟨_, x, rfl, I.hok.fresh (Nat.le_refl _), rfl, fun ys hy => by rw [I.tuple_inj hy hq]; exact hx⟩, ⟨⟨u, ?_⟩, hit'.1.at fun o q => (sb.2 it (Ne.symm hne)).trans q, hne, hna⟩, fun b hb => ?_⟩
    · have e1 : ((i + 1 : Nat) : Int) = (i : Int) + 1 := by omega
      rw [e1]; exact he'
    · have hb' : b < s.heap.objs.size := by
        rcases List.mem_cons.mp hb with z | hb
        · rw [z]; exact hel
        · rw [List.mem_singleton.mp hb]; exact hil
      rw [upd_ne (Nat.ne_of_lt hb')]
      exact (hf b hb).1
  done := by
    intro X hP hw hK hc i pins s σ H E I hf st hg
    subst hP hw hK
    obtain ⟨⟨old, he⟩, hit, hne, hna⟩ := st
    obtain ⟨xs, hq, hx⟩ := hg
    obtain ⟨its, rv, p, hz⟩ := I.tuple hq
    have ht : s.heap.IsTuple a its.toArray := p
    obtain ⟨f0, f1, f2, f3, f4, f5⟩ := hf it (by simp)
    have hl := rv.length
    have hT : s.TypeIs (.ref e) "enumerate" := ⟨_, he, rfl⟩
    unfold pyNext
    refine wpAny_bind (wpAny_attempt (wpAny_callSpecial?_slot (name := Str.ofString "__next__") hT F.slot_enumerate_next
      (wpAny_call_entry F.slot_enumerate_next hT F.entry_enumerate_next ?_ (F.args_enumerate_next_1 _))))
    show wpAny _ _ (field (.ref e) 2 >>= _) _ _ _
    refine wpAny_bind (wpAny_field he rfl (x := .ref it) rfl ?_)
    refine wpAny_bind (wpAny_nextOf_tuple_end (A := X.A.in1) (I.ok.hd hc) hit ht (by simp; omega) fun h' x he' hx' => ?_)
    obtain ⟨o, ho, hc'⟩ := hx'
    refine wpAny_bind (wpAny_isInstance (T := "StopIteration") (b := true) ⟨o, ho, hc'⟩ isSubtype_stop ?_)
    exact wpAny_pure ⟨rfl, I.turned (t' := s.toks) (fun b o hb q => he' b o hb q) f0 f1 f3 f4 f5⟩
  self := fun A i s Q E st h => let ⟨⟨_, he⟩, _⟩ := st; wpAny_pyIter_enum he h
def iEnumA (K : PySem.W.Frag) (ta : TA) : TI := fun σ H R => ta σ H fun vs H1 => ∃ a xs, vs = [.ref a] ∧ ((SqL K H1 a xs ∧ R (Ite K a) H1) ∨ (SqT K H1 a xs ∧ R (IteT K a) H1))
theorem pi_enumA {X : Cx} {e : Expr} {ta : TA} {p pos tpos : Pos} {elts : List Expr} {kk : Nat} (hg : Gl X "enumerate") (hm : X.mg "enumerate" = none) (ha : PA X [e] ta) (hs : starEach [e] X.env = [(false, eval e X.env)]) :
    PI X (.Tuple elts kk tpos) (.Call (.Name "enumerate" p) [e] [] pos) (iEnumA X.K ta) := by
  refine ⟨fun pins s σ H R I h => ?_⟩
  refine Call_ (ld_blt I hg hm boot_enumerate (PyProof.Rows.callWith_type1 (thn (ha.run pos pins s σ H _ I h) fun us s1 ⟨vs, H1, I1, r1, q1⟩ => ?_) hs rfl))
  obtain ⟨a, xs, ex, q⟩ := q1
  subst ex
  cases r1 with
  | cons r rr =>
    cases rr
    cases r
    rcases q with ⟨hq, q⟩ | ⟨hq, q⟩
    · obtain ⟨its, rv, p', hz⟩ := I1.list hq
      refine call_enumerate_list p'.isList fun h' he hit hsz hk => wpAny_pyIter_enum he ?_
      have I2 : Inv X pins σ H1 { s1 with heap := h' } := I1.kept (t' := s1.toks) hk
      refine ⟨s1.heap.objs.size + 1, [s1.heap.objs.size + 1, s1.heap.objs.size], _, _, H1, rfl, I2, turn_enum a (s1.heap.objs.size + 1) s1.heap.objs.size, ⟨⟨.none, he⟩, hit, Nat.succ_ne_self _⟩, fun b hb => ?_, q⟩
      have hle : s1.heap.objs.size ≤ b := by
        rcases List.mem_cons.mp hb with z | hb
        · rw [z]; exact Nat.le_add_right _ _
        · rw [List.mem_singleton.mp hb]; exact Nat.le_refl _
      exact I1.fpOk hle (I1.hok.fresh hle)
    · obtain ⟨its, rv, p', hz⟩ := I1.tuple hq
      have ht : s1.heap.IsTuple a its.toArray := p'
      have hal : a < s1.heap.objs.size := by obtain ⟨o, q, _⟩ := ht; exact Heap.lt_size q
      refine EnT.call_tup ht fun h' he hit hsz hk => wpAny_pyIter_enum he ?_
      have I2 : Inv X pins σ H1 { s1 with heap := h' } := I1.kept (t' := s1.toks) hk
      refine ⟨s1.heap.objs.size + 1, [s1.heap.objs.size + 1, s1.heap.objs.size], _, _, H1, rfl, I2, turn_enumT a (s1.heap.objs.size + 1) s1.heap.objs.size (Nat.ne_of_lt hal), ⟨⟨.none, he⟩, hit, Nat.succ_ne_self _, Nat.ne_of_lt (Nat.lt_succ_of_lt hal)⟩, fun b hb => ?_, q⟩
      have hle : s1.heap.objs.size ≤ b := by
        rcases List.mem_cons.mp hb with z | hb
        · rw [z]; exact Nat.le_add_right _ _
        · rw [List.mem_singleton.mp hb]; exact Nat.le_refl _
      exact I1.fpOk hle (I1.hok.fresh hle)
end L2

end

section
set_option Elab.async false
set_option linter.all false
set_option maxRecDepth 100000
namespace MP
open PySem PySem.Spec L2
section
variable {w : Wd} {c : Ck} {xv : XV} {X : Cx} {sc : Scope} {Fx : MP.Fx} {W : WX}
/-! ### a comprehension's block -/
theorem relS_free {sc : Scope} : ∀ {names : List (Str × NameKind)} {x : Str}, names.lookup x = some .free →
    (names.map fun (n, k) => if (k == NameKind.free && sc.kind == .function && sc.names.lookup n == some .cell) then (n, NameKind.cell) else (n, k)).lookup x = some .cell ∨
    (names.map fun (n, k) => if (k == NameKind.free && sc.kind == .function && sc.names.lookup n == some .cell) then (n, NameKind.cell) else (n, k)).lookup x = some .free
  | [], _, h => by cases h
  | (n, k0) :: r, x, h => by
    have ih := @relS_free sc r x
    have e : ((n, k0) :: r).map (fun (n, k) => if (k == NameKind.free && sc.kind == .function && sc.names.lookup n == some .cell) then (n, NameKind.cell) else (n, k)) =
      (if (k0 == NameKind.free && sc.kind == .function && sc.names.lookup n == some .cell) = true then (n, NameKind.cell) else (n, k0)) :: r.map (fun (n, k) => if (k == NameKind.free && sc.kind == .function && sc.names.lookup n == some .cell) then (n, NameKind.cell) else (n, k)) := rfl
    rw [e]
    cases hx : x == n with
    | true =>
      rw [List.lookup_cons, hx] at h
      cases h
      by_cases hc : (NameKind.free == NameKind.free && sc.kind == .function && sc.names.lookup n == some .cell) = true
      · rw [if_pos hc, List.lookup_cons, hx]; exact .inl rfl
      · rw [if_neg hc, List.lookup_cons, hx]; exact .inr rfl
    | false =>
      rw [List.lookup_cons, hx] at h
      by_cases hc : (k0 == NameKind.free && sc.kind == .function && sc.names.lookup n == some .cell) = true
      · rw [if_pos hc, List.lookup_cons, hx]; exact ih h
      · rw [if_neg hc, List.lookup_cons, hx]; exact ih h
abbrev Wno : WX := fun _ _ _ _ => False
theorem blk_vis {scope : Scope} {cl : List (Str × Addr)} {C : Addr} {x : Str} (h : MP.vis scope x = true) : Vis (compEnvC scope cl C X.env).scope x := by
  unfold MP.vis at h
  obtain ⟨h, _⟩ := an h
  split at h
  · rename_i e
    exact .inl (lookup_relS_keep (sc := X.env.scope) (fun z => nomatch z) e)
  · rename_i e
    exact .inr (.inl (lookup_relS_keep (sc := X.env.scope) (fun z => nomatch z) e))
  · rename_i e
    rcases relS_free (sc := X.env.scope) e with q | q
    · exact .inr (.inl q)
    · exact .inr (.inr q)
  · exact nb h
theorem blk_lo {scope : Scope} {cl : List (Str × Addr)} {C : Addr} {s : Shared} {H : Hp} {fp : List Addr} {x : Str} (h : MP.loc scope x = true) :
    Loc (X.blk s H scope (compEnvC scope cl C X.env) fp).env.scope x ∧ ((X.blk s H scope (compEnvC scope cl C X.env) fp).fn x = true ∨ (X.blk s H scope (compEnvC scope cl C X.env) fp).env.scope.names.lookup x = some .local) := by
  unfold MP.loc at h
  split at h
  · rename_i e
    have e2 := lookup_relS_keep (k := .local) (sc := X.env.scope) (fun z => nomatch z) e
    exact ⟨.inl e2, .inr e2⟩
  · rename_i e
    exact ⟨.inr (lookup_relS_keep (sc := X.env.scope) (fun z => nomatch z) e), .inl (by show (scope.names.lookup x == some NameKind.cell) = true; rw [e]; rfl)⟩
  · exact nb h
theorem CnE.blk (cn : CnE w c xv X sc Fx W) (hc : Fx.calm = true) (s : Shared) (H : Hp) (scope : Scope) (C : Addr) (cl : List (Str × Addr)) (fp : List Addr) : CnE w c xv (X.blk s H scope (compEnvC scope cl C X.env) fp) scope Fx Wno where
  hK := cn.hK
  hN := cn.hN
  nm := cn.nm
  nd := cn.nd
  vi := fun x h => blk_vis h
  gl := fun x h => by
    unfold MP.glb at h
    have e := of_decide_eq_true (an h).1
    exact lookup_relS_keep (sc := X.env.scope) (fun z => nomatch z) e
  cf := fun x h => by
    rcases h with h | h
    · exact .inl (lookup_relS_keep (sc := X.env.scope) (fun z => nomatch z) h)
    · exact relS_free (sc := X.env.scope) h
  hu := cn.hu
  calm := cn.calm
  xvo := cn.xvo
  gv := cn.gv
  bl := cn.bl
  gcd := cn.gcd
  rng := cn.rng
  enm := cn.enm
  zip := cn.zip
  isi := cn.isi
  ty := cn.ty
  is1 := (cn.ww hc).is1 _ _ _ _ _ _ _ _ _
  isT := (cn.ww hc).isT _ _ _ _ _ _ _ _ _
  fld := cn.fld
  xat := (cn.ww hc).xat _ _ _ _ _ _ _ _ _
  tk := fun u s' ⟨_, _, _, _, _, _, _, _, _, _, _, _, _, _, _, _, w⟩ => w.elim
  cah := fun z => by rw [hc] at z; cases z
  ww := fun _ => ⟨(cn.ww hc).is1, (cn.ww hc).isT, (cn.ww hc).xat, (cn.ww hc).cal, (cn.ww hc).mak, (cn.ww hc).met⟩
/-! ### targets, for reading -/
def Dif (vs : List Nat) (σ σ' : L2.St) : Prop := σ'.length = σ.length ∧ ∀ j, j ∉ vs → σ'[j]? = σ[j]?
theorem Dif.refl {vs : List Nat} {σ : L2.St} : Dif vs σ σ := ⟨rfl, fun _ _ => rfl⟩
theorem Dif.trans {vs us : List Nat} {σ σ1 σ2 : L2.St} (a : Dif vs σ σ1) (b : Dif us σ1 σ2) : Dif (vs ++ us) σ σ2 := ⟨b.1.trans a.1, fun j h => by
  rw [List.mem_append] at h
  rw [b.2 j fun m => h (.inr m), a.2 j fun m => h (.inl m)]⟩
theorem wipe_get (σ : L2.St) : ∀ (vs : List Nat) (j : Nat), (wipe σ vs)[j]? = if j ∈ vs then (if j < σ.length then some none else none) else σ[j]?
  | [], j => by unfold wipe; simp
  | v :: vs, j => by
    unfold wipe
    rw [List.getElem?_set, wipe_length, wipe_get σ vs j]
    by_cases e : v = j
    · subst e
      simp
    · rw [if_neg e]
      by_cases m : j ∈ vs
      · rw [if_pos m, if_pos (List.mem_cons_of_mem _ m)]
      · rw [if_neg m, if_neg (fun z => by
          rcases List.mem_cons.mp z with z | z
          · exact e z.symm
          · exact m z)]
theorem wipe_dif {σ σ2 : L2.St} {vs : List Nat} (h : Dif vs (wipe σ vs) σ2) : wipe σ2 vs = wipe σ vs := by
  apply List.ext_getElem?
  intro j
  have e := h.1
  rw [wipe_length] at e
  rw [wipe_get, wipe_get, e]
  by_cases m : j ∈ vs
  · rw [if_pos m, if_pos m]
  · rw [if_neg m, if_neg m, h.2 j m, wipe_get, if_neg m]
def T.lv (N : List Str) (t : T) : List Nat := (T.own N t).map (·.2)
def T.lvs (N : List Str) (ts : List T) : List Nat := (T.own.owns N ts).map (·.2)
def gA (w : Wd) (xv : XV) (N : List Str) (t : T) : TG := fun v σ H Q => ∃ Hf Γ d Γ', At w xv Γ σ H Hf ∧ Rep w Hf d v ∧ setT t (.fz d) Γ = some Γ' ∧ ∀ σ', At w xv Γ' σ' H Hf → Dif (t.lv N) σ σ' → Q σ' H
def gAs (w : Wd) (xv : XV) (N : List Str) (ts : List T) : TGs := fun vs σ H Q => ∃ Hf Γ ds Γ', At w xv Γ σ H Hf ∧ Reps w Hf ds vs ∧ setTs ts ds Γ = some Γ' ∧ ∀ σ', At w xv Γ' σ' H Hf → Dif (T.lvs N ts) σ σ' → Q σ' H
theorem ae_cons {t : T} {e : Expr} {es : List Expr} {env : Env} (h : kT c sc t e = true) : assignEach (e :: es) env = (false, assign e env) :: assignEach es env := by
  cases t <;> cases e <;> first | rfl | exact nb h
theorem ae_len {env : Env} : ∀ {ts : List T} {es : List Expr}, kTs c sc ts es = true → (assignEach es env).length = ts.length ∧ (assignEach es env).findIdx? (·.1) = none
  | [], [], _ => ⟨rfl, rfl⟩
  | [], _ :: _, h => nb h
  | _ :: _, [], h => nb h
  | t :: ts, e :: es, h => by
    obtain ⟨h1, h2⟩ := an h
    obtain ⟨h3, h4⟩ := ae_len (env := env) h2
    rw [ae_cons h1]
    refine ⟨by rw [List.length_cons, List.length_cons, h3], ?_⟩
    rw [List.findIdx?_cons]
    simp [h4]
theorem setTs_len : ∀ {ts : List T} {ds : List D} {Γ Γ' : List OD}, setTs ts ds Γ = some Γ' → ds.length = ts.length
  | [], [], _, _, _ => rfl
  | [], _ :: _, _, _, h => by unfold setTs at h; cases h
  | _ :: _, [], _, _, h => by unfold setTs at h; cases h
  | t :: ts, d :: ds, Γ, Γ', h => by
    unfold setTs at h
    obtain ⟨Γ1, h1, h2⟩ := Option.bind_eq_some_iff.mp h
    rw [List.length_cons, List.length_cons, setTs_len h2]
theorem PG.or {X : Cx} {e : Expr} {t t' : TG} (h : PG X e t) (h' : PG X e t') : PG X e (fun v σ H Q => t v σ H Q ∨ t' v σ H Q) := ⟨fun pins s σ H v u Q I r hq => by
  rcases hq with hq | hq
  · exact h.run pins s σ H v u Q I r hq
  · exact h'.run pins s σ H v u Q I r hq⟩
theorem PG.imp {X : Cx} {e : Expr} {t t' : TG} (h : PG X e t) (i : ∀ v σ H Q, t' v σ H Q → t v σ H Q) : PG X e t' := ⟨fun pins s σ H v u Q I r hq => h.run pins s σ H v u Q I r (i _ _ _ _ hq)⟩
theorem PGs.imp {X : Cx} {e : List Expr} {t t' : TGs} (h : PGs X e t) (i : ∀ v σ H Q, t' v σ H Q → t v σ H Q) : PGs X e t' := ⟨fun pins s σ H v u Q I r hq => h.run pins s σ H v u Q I r (i _ _ _ _ hq)⟩
theorem At.set {Γ : List OD} {σ : L2.St} {H Hf : Hp} (a : At w xv Γ σ H Hf) {i : Nat} (hi : i < Γ.length) {d : D} {v : V} (r : Rep w Hf d v) : At w xv (Γ.set i (.fz d)) (σ.set i (some v)) H Hf := by
  refine ⟨a.lf, fun j o e ne => ?_, by rw [List.length_set, List.length_set]; exact a.ln⟩
  rw [List.getElem?_set] at e
  by_cases q : i = j
  · subst q
    rw [if_pos rfl, if_pos hi] at e
    cases e
    exact ⟨v, [], by rw [List.getElem?_set, if_pos rfl, if_pos (by rw [← a.ln]; exact hi)], ⟨rfl, r⟩, List.nodup_nil⟩
  · rw [if_neg q] at e
    obtain ⟨v', as, e1, h⟩ := a.sl j o e ne
    exact ⟨v', as, by rw [List.getElem?_set, if_neg q]; exact e1, h⟩
mutual
theorem pg_A (hK : X.K = w.K) (hN : X.N = c.N) (nd : X.N.Nodup) (lo : ∀ x, MP.loc sc x = true → Loc X.env.scope x ∧ (X.fn x = true ∨ X.env.scope.names.lookup x = some .local)) (hc : X.calm = true) :
    ∀ {t : T} {e : Expr}, kT c sc t e = true → PG X e (gA w xv c.N t)
  | .n i, e, h => by
    unfold kT at h
    split at h
    · rename_i x p heq
      cases heq
      obtain ⟨h1, h2⟩ := an h
      obtain ⟨h3, h4⟩ := lo _ h2
      refine PG.imp (pg_name nd (by rw [hN]; exact of_decide_eq_true h1) h3 h4) fun v σ H Q ⟨Hf, Γ, d, Γ', a, r, e, q⟩ => ?_
      unfold setT at e
      split at e
      · rename_i hi
        cases e
        refine q _ (a.set hi r) ⟨by rw [List.length_set], fun j m => ?_⟩
        have : i ≠ j := fun z => m (by unfold T.lv T.own; simp [z])
        rw [List.getElem?_set, if_neg this]
      · cases e
    · rename_i heq
      cases heq
    · exact nb h
  | .t ts, e, h => by
    unfold kT at h
    split at h
    · rename_i heq
      cases heq
    · rename_i es kk p heq
      cases heq
      obtain ⟨l1, l2⟩ := ae_len (env := X.env) h
      have ih := pgs_A hK hN nd lo hc h
      refine PG.imp (PG.or (pg_tup hc ih l1 l2) (pg_lst hc ih l1 l2)) fun v σ H Q ⟨Hf, Γ, d, Γ', a, r, e, q⟩ => ?_
      unfold setT at e
      have e : (match d.items with
        | some ds => setTs ts ds Γ
        | none => none) = some Γ' := e
      have q : ∀ σ', At w xv Γ' σ' H Hf → Dif (T.lvs c.N ts) σ σ' → Q σ' H := fun σ' a' k => q σ' a' (by unfold T.lv T.own; exact k)
      cases d with
      | tup ds =>
        obtain ⟨b, vs, rfl, s, rr⟩ := Rep.tup_iff.mp r
        exact .inl ⟨b, vs, rfl, by rw [hK]; exact a.lf.sqT w s, by rw [rr.length, setTs_len e], Hf, Γ, ds, Γ', a, rr, e, q⟩
      | lst ds =>
        obtain ⟨b, vs, rfl, s, rr⟩ := Rep.lst_iff.mp r
        exact .inr ⟨b, vs, rfl, .inl (a.lf.rd s), by rw [rr.length, setTs_len e], Hf, Γ, ds, Γ', a, rr, e, q⟩
      | _ => cases e
    · exact nb h
theorem pgs_A (hK : X.K = w.K) (hN : X.N = c.N) (nd : X.N.Nodup) (lo : ∀ x, MP.loc sc x = true → Loc X.env.scope x ∧ (X.fn x = true ∨ X.env.scope.names.lookup x = some .local)) (hc : X.calm = true) :
    ∀ {ts : List T} {es : List Expr}, kTs c sc ts es = true → PGs X es (gAs w xv c.N ts)
  | [], [], h => PGs.imp pgs_nil fun vs σ H Q ⟨Hf, Γ, ds, Γ', a, r, e, q⟩ => by
    cases ds with
    | nil =>
      unfold setTs at e
      cases e
      exact ⟨Reps.nil_iff.mp r, q σ a Dif.refl⟩
    | cons d ds => unfold setTs at e; cases e
  | [], _ :: _, h => nb h
  | _ :: _, [], h => nb h
  | t :: ts, e :: es, h => by
    obtain ⟨h1, h2⟩ := an h
    refine PGs.imp (pgs_cons (pg_A hK hN nd lo hc h1) (pgs_A hK hN nd lo hc h2) (by rw [ae_cons h1]; rfl)) fun vs σ H Q ⟨Hf, Γ, ds, Γ', a, r, e, q⟩ => ?_
    cases ds with
    | nil => unfold setTs at e; cases e
    | cons d ds =>
      unfold setTs at e
      obtain ⟨Γ1, e1, e2⟩ := Option.bind_eq_some_iff.mp e
      obtain ⟨v, vs', rfl, r1, r2⟩ := Reps.cons_iff.mp r
      refine ⟨v, vs', rfl, Hf, Γ, d, Γ1, a, r1, e1, fun σ1 a1 k1 => ⟨Hf, Γ1, ds, Γ', a1, r2, e2, fun σ2 a2 k2 => q σ2 a2 ?_⟩⟩
      have := k1.trans k2
      unfold T.lvs T.own.owns
      rw [List.map_append]
      exact this
end
mutual
/-- what a target's names held is of no matter -/
theorem setT_ag (N : List Str) : ∀ (t : T) (o : OD) (Γ Δ Γ' : List OD) (L : List Nat), Γ.length = Δ.length → (∀ j, j ∉ t.lv N ++ L → Γ[j]? = Δ[j]?) → setT t o Γ = some Γ' → ∃ Δ', setT t o Δ = some Δ' ∧ Γ'.length = Δ'.length ∧ ∀ j, j ∉ L → Γ'[j]? = Δ'[j]?
  | .n i, o, Γ, Δ, Γ', L, hl, ha, h => by
    unfold setT at h ⊢
    split at h
    · rename_i hi
      cases h
      rw [if_pos (by rw [← hl]; exact hi)]
      refine ⟨_, rfl, by rw [List.length_set, List.length_set]; exact hl, fun j m => ?_⟩
      rw [List.getElem?_set, List.getElem?_set]
      by_cases q : i = j
      · rw [if_pos q, if_pos q, hl]
      · rw [if_neg q, if_neg q]
        refine ha j fun z => ?_
        rcases List.mem_append.mp z with z | z
        · unfold T.lv T.own at z
          have z2 : j = i := by simpa using z
          exact q z2.symm
        · exact m z
    · cases h
  | .t ts, o, Γ, Δ, Γ', L, hl, ha, h => by
    unfold setT at h ⊢
    split at h
    · exact setTs_ag N ts _ Γ Δ Γ' L hl (by unfold T.lv T.own at ha; exact ha) h
    · cases h
theorem setTs_ag (N : List Str) : ∀ (ts : List T) (ds : List D) (Γ Δ Γ' : List OD) (L : List Nat), Γ.length = Δ.length → (∀ j, j ∉ T.lvs N ts ++ L → Γ[j]? = Δ[j]?) → setTs ts ds Γ = some Γ' → ∃ Δ', setTs ts ds Δ = some Δ' ∧ Γ'.length = Δ'.length ∧ ∀ j, j ∉ L → Γ'[j]? = Δ'[j]?
  | [], [], Γ, Δ, Γ', L, hl, ha, h => by
    unfold setTs at h ⊢
    cases h
    exact ⟨Δ, rfl, hl, fun j m => ha j (by simpa [T.lvs, T.own.owns] using m)⟩
  | [], _ :: _, _, _, _, _, _, _, h => by unfold setTs at h; cases h
  | _ :: _, [], _, _, _, _, _, _, h => by unfold setTs at h; cases h
  | t :: ts, d :: ds, Γ, Δ, Γ', L, hl, ha, h => by
    unfold setTs at h ⊢
    obtain ⟨Γ1, e1, e2⟩ := Option.bind_eq_some_iff.mp h
    obtain ⟨Δ1, k1, k2, k3⟩ := setT_ag N t (.fz d) Γ Δ Γ1 (T.lvs N ts ++ L) hl (fun j m => ha j fun z => m (by
      unfold T.lvs T.own.owns at z
      rw [List.map_append, List.append_assoc] at z
      exact z)) e1
    obtain ⟨Δ', k4, k5, k6⟩ := setTs_ag N ts ds Γ1 Δ1 Γ' L k2 k3 e2
    exact ⟨Δ', by rw [k1]; exact k4, k5, k6⟩
end
def unAt (vs : List Nat) (Γ : List OD) : List OD := vs.foldl (fun Γ v => Γ.set v .un) Γ
theorem unAt_get : ∀ (vs : List Nat) (Γ : List OD), (unAt vs Γ).length = Γ.length ∧ ∀ j, (unAt vs Γ)[j]? = if j ∈ vs then (if j < Γ.length then some .un else none) else Γ[j]?
  | [], Γ => ⟨rfl, fun j => by unfold unAt; simp⟩
  | v :: vs, Γ => by
    obtain ⟨h1, h2⟩ := unAt_get vs (Γ.set v .un)
    refine ⟨by unfold unAt at h1 ⊢; rw [List.foldl_cons, h1, List.length_set], fun j => ?_⟩
    have : unAt (v :: vs) Γ = unAt vs (Γ.set v .un) := rfl
    rw [this, h2, List.length_set, List.getElem?_set]
    by_cases m : j ∈ vs
    · rw [if_pos m, if_pos (List.mem_cons_of_mem _ m)]
    · rw [if_neg m]
      by_cases e : v = j
      · subst e; simp
      · rw [if_neg e, if_neg (fun z => by
          rcases List.mem_cons.mp z with z | z
          · exact e z.symm
          · exact m z)]
theorem setT_un {N : List Str} {t : T} {o : OD} {Γ Γ' : List OD} (h : setT t o Γ = some Γ') : setT t o (unAt (t.lv N) Γ) = some Γ' := by
  obtain ⟨h1, h2⟩ := unAt_get (t.lv N) Γ
  obtain ⟨Δ', k1, k2, k3⟩ := setT_ag N t o Γ (unAt (t.lv N) Γ) Γ' [] h1.symm (fun j m => by
    rw [List.append_nil] at m
    rw [h2, if_neg m]) h
  rw [k1, List.ext_getElem? fun j => (k3 j (by simp)).symm]
theorem At.wipe {Γ : List OD} {σ : L2.St} {H Hf : Hp} (a : At w xv Γ σ H Hf) (vs : List Nat) : At w xv (unAt vs Γ) (wipe σ vs) H Hf := by
  obtain ⟨h1, h2⟩ := unAt_get vs Γ
  refine ⟨a.lf, fun j o e ne => ?_, by rw [h1, wipe_length]; exact a.ln⟩
  rw [h2] at e
  by_cases m : j ∈ vs
  · rw [if_pos m] at e
    split at e
    · cases e; exact absurd rfl ne
    · cases e
  · rw [if_neg m] at e
    obtain ⟨v, as, e1, q⟩ := a.sl j o e ne
    exact ⟨v, as, by rw [wipe_get, if_neg m]; exact e1, q⟩
end
end MP

end

section
set_option Elab.async false
set_option linter.all false
set_option maxRecDepth 100000
namespace MP
open PySem PySem.Spec L2
section
variable {w : Wd} {c : Ck} {xv : XV} {X : Cx} {sc : Scope} {Fx : MP.Fx} {W : WX}
/-! ### what is gone through -/
/-- at turn i the i-th item -/
def WalkAt (w : Wd) (J : It) (ds : List D) (H Hf : Hp) : Prop := ∀ i, (∀ d, ds[i]? = some d → J.go i H ∧ ∀ x H1, J.yld i H x H1 → ∃ Hf1, Gr H Hf H1 Hf1 ∧ Rep w Hf1 d x) ∧ (ds.length ≤ i → J.stop i H)
def WalkC (w : Wd) (J : It) (ds : List D) (H0 Hf0 : Hp) : Prop := ∀ H Hf, Gr H0 Hf0 H Hf → WalkAt w J ds H Hf
def WalkF (w : Wd) (J : It) (ds : List D) (_H0 Hf0 : Hp) : Prop := ∀ H Hf, Le Hf0 Hf → Le Hf H → WalkAt w J ds H Hf
theorem walkFC {J : It} {ds : List D} {H0 Hf0 : Hp} (h : WalkF w J ds H0 Hf0) : WalkC w J ds H0 Hf0 := fun H Hf g => h H Hf g.ext.le g.lf
theorem walk_L {H Hf : Hp} {a : Addr} {vs : List V} {ds : List D} (l : Le Hf H) (hs : SqL w.K H a vs) (rr : Reps w Hf ds vs) : WalkAt w (Itl w.K a) ds H Hf := fun i => by
  refine ⟨fun d e => ?_, fun hl => ⟨vs, hs, by rw [rr.length]; exact hl⟩⟩
  obtain ⟨v, e1, r⟩ := rr.get e
  refine ⟨⟨vs, v, hs, e1⟩, fun x H1 ⟨e2, y⟩ => ?_⟩
  subst e2
  have := y vs hs
  rw [e1] at this
  cases this
  exact ⟨Hf, Gr.refl l, r⟩
theorem walk_T {H Hf : Hp} {a : Addr} {vs : List V} {ds : List D} (l : Le Hf H) (hs : SqT w.K H a vs) (rr : Reps w Hf ds vs) : WalkAt w (Itt w.K a) ds H Hf := fun i => by
  refine ⟨fun d e => ?_, fun hl => ⟨vs, hs, by rw [rr.length]; exact hl⟩⟩
  obtain ⟨v, e1, r⟩ := rr.get e
  refine ⟨⟨vs, v, hs, e1⟩, fun x H1 ⟨e2, y⟩ => ?_⟩
  subst e2
  have := y vs hs
  rw [e1] at this
  cases this
  exact ⟨Hf, Gr.refl l, r⟩
theorem smallI_ok {i : Int} (h : smallI i = true) : -(2 ^ 62) ≤ i ∧ i < 2 ^ 62 := by
  unfold smallI at h
  simp only [Bool.and_eq_true, decide_eq_true_eq] at h
  omega
theorem rangeI_get {lo hi : Int} {i : Nat} (h : i < (hi - lo).toNat) : (rangeI lo hi)[i]? = some (.int (lo + i)) := by
  unfold rangeI
  rw [List.getElem?_map, List.getElem?_range h]
  rfl
theorem rangeI_len {lo hi : Int} : (rangeI lo hi).length = (hi - lo).toNat := by
  unfold rangeI
  rw [List.length_map, List.length_range]
theorem walk_R {H Hf : Hp} {lo hi : Int} (l : Le Hf H) : WalkAt w (Itr lo (hi - lo).toNat) (rangeI lo hi) H Hf := fun i => by
  refine ⟨fun d e => ?_, fun hl => by rw [rangeI_len] at hl; exact hl⟩
  have hi' := (List.getElem?_eq_some_iff.mp e).1
  rw [rangeI_len] at hi'
  rw [rangeI_get hi'] at e
  cases e
  refine ⟨hi', fun x H1 ⟨e2, y⟩ => ?_⟩
  subst e2 y
  exact ⟨Hf, Gr.refl l, Rep.int_iff.mpr rfl⟩
theorem enmD_get : ∀ (k : Nat) (ds : List D) (i : Nat), (enmD k ds)[i]? = ds[i]?.map fun d => .tup [.int ((k + i : Nat) : Int), d]
  | k, [], i => by unfold enmD; simp
  | k, d :: ds, 0 => by unfold enmD; simp
  | k, d :: ds, i + 1 => by
    unfold enmD
    rw [List.getElem?_cons_succ, List.getElem?_cons_succ, enmD_get (k + 1) ds i, show k + 1 + i = k + (i + 1) by omega]
theorem enmD_len : ∀ (k : Nat) (ds : List D), (enmD k ds).length = ds.length
  | k, [] => rfl
  | k, d :: ds => by unfold enmD; rw [List.length_cons, List.length_cons, enmD_len]
theorem new_pair {H Hf : Hp} {T : Addr} {d e : D} {u v : V} (l : Le Hf H) (hT : H T = none) (r1 : Rep w Hf d u) (r2 : Rep w Hf e v) : ∃ Hf1, Gr H Hf (upd H T (.tup [u, v])) Hf1 ∧ Rep w Hf1 (.tup [d, e]) (.ref T) :=
  ⟨_, gr_newf l hT, rep_tup l hT (Reps.cons_iff.mpr ⟨u, [v], rfl, r1, Reps.cons_iff.mpr ⟨v, [], rfl, r2, Reps.nil_iff.mpr rfl⟩⟩)⟩
theorem walk_EL {H Hf : Hp} {a : Addr} {vs : List V} {ds : List D} (l : Le Hf H) (hs : SqL w.K H a vs) (rr : Reps w Hf ds vs) : WalkAt w (Ite w.K a) (enmD 0 ds) H Hf := fun i => by
  refine ⟨fun d e => ?_, fun hl => ⟨vs, hs, by rw [rr.length]; rw [enmD_len] at hl; exact hl⟩⟩
  rw [enmD_get] at e
  obtain ⟨d0, e0, rfl⟩ := Option.map_eq_some_iff.mp e
  obtain ⟨v, e1, r⟩ := rr.get e0
  refine ⟨⟨vs, v, hs, e1⟩, fun x H1 ⟨T, u, e2, hT, e3, y⟩ => ?_⟩
  subst e2 e3
  have := y vs hs
  rw [e1] at this
  cases this
  rw [Nat.zero_add]
  exact new_pair l hT (Rep.int_iff.mpr rfl) r
theorem walk_ET {H Hf : Hp} {a : Addr} {vs : List V} {ds : List D} (l : Le Hf H) (hs : SqT w.K H a vs) (rr : Reps w Hf ds vs) : WalkAt w (IteT w.K a) (enmD 0 ds) H Hf := fun i => by
  refine ⟨fun d e => ?_, fun hl => ⟨vs, hs, by rw [rr.length]; rw [enmD_len] at hl; exact hl⟩⟩
  rw [enmD_get] at e
  obtain ⟨d0, e0, rfl⟩ := Option.map_eq_some_iff.mp e
  obtain ⟨v, e1, r⟩ := rr.get e0
  refine ⟨⟨vs, v, hs, e1⟩, fun x H1 ⟨T, u, e2, hT, e3, y⟩ => ?_⟩
  subst e2 e3
  have := y vs hs
  rw [e1] at this
  cases this
  rw [Nat.zero_add]
  exact new_pair l hT (Rep.int_iff.mpr rfl) r
theorem zipD_get : ∀ (xs ys : List D) (i : Nat) (d : D), (zipD xs ys)[i]? = some d → ∃ x y, xs[i]? = some x ∧ ys[i]? = some y ∧ d = .tup [x, y]
  | [], ys, i, d, h => by unfold zipD at h; simp at h
  | x :: xs, [], i, d, h => by unfold zipD at h; simp at h
  | x :: xs, y :: ys, 0, d, h => by unfold zipD at h; simp at h; exact ⟨x, y, by simp, by simp, h.symm⟩
  | x :: xs, y :: ys, i + 1, d, h => by
    unfold zipD at h
    rw [List.getElem?_cons_succ] at h
    obtain ⟨a, b, h1, h2, h3⟩ := zipD_get xs ys i d h
    exact ⟨a, b, by rw [List.getElem?_cons_succ]; exact h1, by rw [List.getElem?_cons_succ]; exact h2, h3⟩
theorem zipD_len : ∀ (xs ys : List D), (zipD xs ys).length = min xs.length ys.length
  | [], ys => by unfold zipD; simp
  | x :: xs, [] => by unfold zipD; simp
  | x :: xs, y :: ys => by unfold zipD; rw [List.length_cons, List.length_cons, List.length_cons, zipD_len]; omega
theorem walk_ZL {H Hf : Hp} {a b : Addr} {vs us : List V} {ds es : List D} (l : Le Hf H) (hs : SqL w.K H a vs) (ht : SqL w.K H b us) (rr : Reps w Hf ds vs) (qq : Reps w Hf es us) : WalkAt w (Itz w.K a b) (zipD ds es) H Hf := fun i => by
  refine ⟨fun d e => ?_, fun hl => ⟨vs, us, hs, ht, by rw [rr.length, qq.length]; rw [zipD_len] at hl; omega⟩⟩
  obtain ⟨d1, d2, e1, e2, rfl⟩ := zipD_get _ _ _ _ e
  obtain ⟨v, e3, r1⟩ := rr.get e1
  obtain ⟨u, e4, r2⟩ := qq.get e2
  refine ⟨⟨vs, us, v, u, hs, ht, e3, e4⟩, fun x H1 ⟨T, v', u', e5, hT, e6, y, z⟩ => ?_⟩
  subst e5 e6
  have y := y vs hs
  rw [e3] at y
  cases y
  have z := z us ht
  rw [e4] at z
  cases z
  exact new_pair l hT r1 r2
theorem walk_ZT {H Hf : Hp} {a b : Addr} {vs us : List V} {ds es : List D} (l : Le Hf H) (hs : SqT w.K H a vs) (ht : SqT w.K H b us) (rr : Reps w Hf ds vs) (qq : Reps w Hf es us) : WalkAt w (RZ.ItzT w.K a b) (zipD ds es) H Hf := fun i => by
  refine ⟨fun d e => ?_, fun hl => ⟨vs, us, hs, ht, by rw [rr.length, qq.length]; rw [zipD_len] at hl; omega⟩⟩
  obtain ⟨d1, d2, e1, e2, rfl⟩ := zipD_get _ _ _ _ e
  obtain ⟨v, e3, r1⟩ := rr.get e1
  obtain ⟨u, e4, r2⟩ := qq.get e2
  refine ⟨⟨vs, us, v, u, hs, ht, e3, e4⟩, fun x H1 ⟨T, v', u', e5, hT, e6, y, z⟩ => ?_⟩
  subst e5 e6
  have y := y vs hs
  rw [e3] at y
  cases y
  have z := z us ht
  rw [e4] at z
  cases z
  exact new_pair l hT r1 r2
def rC (Fx : MP.Fx) (it : E) (Γ : List OD) : R (List D) := itemsR (oper (isPath it) (ev Fx it Γ true))
def rF (Fx : MP.Fx) (it : E) (Γ : List OD) : R (List D) := itemsR (frz (ev Fx it Γ false))
def tI (w : Wd) (xv : XV) (W : WX) (r : List OD → R (List D)) (K : It → List D → Hp → Hp → Prop) : TI := fun σ H R =>
  ∃ Hf Γ, At w xv Γ σ H Hf ∧ wpR w W σ H Hf (r Γ) fun ds => ∀ J H' Hf', Gr H Hf H' Hf' → K J ds H' Hf' → R J H'
theorem PI.imp {X : Cx} {tg it : Expr} {t t' : TI} (h : PI X tg it t) (i : ∀ σ H R, t' σ H R → t σ H R) : PI X tg it t' := ⟨fun pins s σ H R I hq => h.run pins s σ H R I (i _ _ _ hq)⟩
/-- for a comprehension, for a loop -/
def IC (w : Wd) (c : Ck) (it : E) : Prop := ∀ (xv : XV) (X : Cx) (sc : Scope) (Fx : MP.Fx) (W : WX), CnE w c xv X sc Fx W → Fx.calm = true → ∀ (t x : Expr), kI c sc t it x = true → PI X t x (tI w xv W (rC Fx it) (WalkC w))
def IF (w : Wd) (c : Ck) (it : E) : Prop := ∀ (xv : XV) (X : Cx) (sc : Scope) (Fx : MP.Fx) (W : WX), CnE w c xv X sc Fx W → Fx.calm = true → ∀ (t x : Expr), kI c sc t it x = true → PI X t x (tI w xv W (rF Fx it) (WalkF w))
theorem ifc {it : E} (h : IF w c it) (e : ∀ Fx Γ, rC Fx it Γ = rF Fx it Γ) : IC w c it := fun xv X sc Fx W cn hc t x k =>
  PI.imp (h xv X sc Fx W cn hc t x k) fun σ H R ⟨Hf, Γ, a, q⟩ => ⟨Hf, Γ, a, by
    rw [e] at q
    exact q.imp fun ds _ q J H' Hf' g k => q J H' Hf' g (walkFC k)⟩
def iSeq (K : PySem.W.Frag) (tl : TE) : TI := fun σ H R => tl σ H fun x H1 => ∃ a, x = .ref a ∧ (((∃ xs, SqL K H1 a xs) ∧ R (Itl K a) H1) ∨ ((∃ xs, SqT K H1 a xs) ∧ R (Itt K a) H1))
theorem pi_seq {X : Cx} {tg l : Expr} {tl : TE} (hl : PE X l tl) : PI X tg l (iSeq X.K tl) := by
  refine ⟨fun pins s σ H R I h => ?_⟩
  refine thn (hl.run pins s σ H _ I h) fun v s1 ⟨x, H1, I1, r1, q1⟩ => ?_
  obtain ⟨a, e, q⟩ := q1
  subst e
  cases r1
  rcases q with ⟨⟨xs, hq⟩, q⟩ | ⟨⟨xs, hq⟩, q⟩
  · obtain ⟨its, rv, p, hz⟩ := I1.list hq
    refine wpAny_pyIter_list p.isList ?_
    refine ⟨s1.heap.objs.size, [s1.heap.objs.size], _, _, H1, rfl, I1.kept (t' := s1.toks) fun b o e => Heap.get?_push_of_some _ e, turn_list a _, ⟨_, Heap.get?_push_size _ rfl, rfl, rfl⟩, fun b hb => ?_, q⟩
    have e : b = s1.heap.objs.size := by simpa using hb
    subst e
    exact I1.fpOk (Nat.le_refl _) (I1.hok.fresh (Nat.le_refl _))
  · obtain ⟨its, rv, p, hz⟩ := I1.tuple hq
    refine wpAny_pyIter_tuple (show s1.heap.IsTuple a its.toArray from p) ?_
    refine ⟨s1.heap.objs.size, [s1.heap.objs.size], _, _, H1, rfl, I1.kept (t' := s1.toks) fun b o e => Heap.get?_push_of_some _ e, turn_tuple a _, ⟨_, Heap.get?_push_size _ rfl, rfl, rfl⟩, fun b hb => ?_, q⟩
    have e : b = s1.heap.objs.size := by simpa using hb
    subst e
    exact I1.fpOk (Nat.le_refl _) (I1.hok.fresh (Nat.le_refl _))
def plainI : E → Bool
  | .rng _ => false
  | .enm _ => false
  | .zip _ _ => false
  | _ => true
theorem kI_plain {it : E} {t : Expr} (h : plainI it = true) : kI c sc t it = kE c sc it := by
  cases it <;> first | rfl | cases h
theorem ic_seq {it : E} (hp : plainI it = true) (h : SE w c it) : IC w c it := fun xv X sc Fx W cn hc t x k => by
  rw [kI_plain hp] at k
  refine PI.imp (pi_seq (pe_O cn.hK (h xv X sc Fx W cn x true k))) fun σ H R ⟨Hf, Γ, a, q⟩ => ?_
  refine ⟨Hf, Γ, a, (wpR.bind.mp q).imp fun d _ q v H' Hf' g o => ?_⟩
  obtain ⟨ds, e, q⟩ := wpR.ofO.mp q
  cases d with
  | lst ds' =>
    cases e
    obtain ⟨b, vs, rfl, s, rr⟩ := o.lst g.lf
    have sq : ∀ {H2 : Hp}, Le H' H2 → SqL w.K H2 b vs := fun l => .inl (l.rd s)
    refine ⟨b, rfl, .inl ⟨⟨vs, by rw [cn.hK]; exact sq (Le.refl _)⟩, ?_⟩⟩
    rw [cn.hK]
    exact q _ H' Hf' g fun H2 Hf2 g2 => walk_L g2.lf (sq g2.le) (Reps.mono w g2.ext.le _ _ rr)
  | tup ds' =>
    cases e
    obtain ⟨b, vs, rfl, s, rr⟩ := o.tup g.lf
    refine ⟨b, rfl, .inr ⟨⟨vs, by rw [cn.hK]; exact s⟩, ?_⟩⟩
    rw [cn.hK]
    exact q _ H' Hf' g fun H2 Hf2 g2 => walk_T g2.lf (g2.le.sqT w s) (Reps.mono w g2.ext.le _ _ rr)
  | _ => cases e
theorem if_seq {it : E} (hp : plainI it = true) (h : SE w c it) : IF w c it := fun xv X sc Fx W cn hc t x k => by
  rw [kI_plain hp] at k
  refine PI.imp (pi_seq (pe_F cn.hK (h xv X sc Fx W cn x false k))) fun σ H R ⟨Hf, Γ, a, q⟩ => ?_
  refine ⟨Hf, Γ, a, (wpR.bind.mp q).imp fun d _ q v H' Hf' g r => ?_⟩
  obtain ⟨ds, e, q⟩ := wpR.ofO.mp q
  cases d with
  | lst ds' =>
    cases e
    obtain ⟨b, vs, rfl, s, rr⟩ := Rep.lst_iff.mp r
    have sq : ∀ {Hf2 H2 : Hp}, Le Hf' Hf2 → Le Hf2 H2 → SqL w.K H2 b vs := fun l1 l2 => .inl (l2.rd (l1.rd s))
    refine ⟨b, rfl, .inl ⟨⟨vs, by rw [cn.hK]; exact sq (Le.refl _) g.lf⟩, ?_⟩⟩
    rw [cn.hK]
    exact q _ H' Hf' g fun H2 Hf2 l1 l2 => walk_L l2 (sq l1 l2) (Reps.mono w l1 _ _ rr)
  | tup ds' =>
    cases e
    obtain ⟨b, vs, rfl, s, rr⟩ := Rep.tup_iff.mp r
    have sq : ∀ {Hf2 H2 : Hp}, Le Hf' Hf2 → Le Hf2 H2 → SqT w.K H2 b vs := fun l1 l2 => l2.sqT w (l1.sqT w s)
    refine ⟨b, rfl, .inr ⟨⟨vs, by rw [cn.hK]; exact sq (Le.refl _) g.lf⟩, ?_⟩⟩
    rw [cn.hK]
    exact q _ H' Hf' g fun H2 Hf2 l1 l2 => walk_T l2 (sq l1 l2) (Reps.mono w l1 _ _ rr)
  | _ => cases e
theorem evOs_len {Fx : MP.Fx} {es : List E} : ∀ {Γ : List OD} {ds : List D}, evOs Fx es Γ = .ok ds → ds.length = es.length := by
  induction es with
  | nil => intro Γ ds h; unfold evOs at h; cases h; rfl
  | cons e es ih =>
    intro Γ ds h
    rw [evOs] at h
    obtain ⟨d, _, h⟩ := rb h
    obtain ⟨ds', h1, h⟩ := rb h
    cases h
    rw [List.length_cons, List.length_cons, ih h1]
theorem frm {H Hf : Hp} {σ : L2.St} {r : R OD} {k : List D → Prop} (q : wpR w W σ H Hf (itemsR (frz r)) k) : wpR w W σ H Hf r fun o => ∃ d ds, o.toD = some d ∧ d.items = some ds ∧ k ds := by
  refine (wpR.bind.mp (wpR.bind.mp q)).imp fun o _ q => ?_
  obtain ⟨d, e1, q⟩ := wpR.ofO.mp q
  obtain ⟨ds, e2, q⟩ := wpR.ofO.mp q
  exact ⟨d, ds, e1, e2, q⟩
theorem if_rng {es : List E} (he : ∀ e ∈ es, SE w c e) : IF w c (.rng es) := fun xv X sc Fx W cn hc t x k => by
  have h2 : kRng sc (kEs c sc es) x = true := k
  unfold kRng at h2
  split at h2
  · rename_i f fp y zs pp
    obtain ⟨k1, h2⟩ := an h2
    obtain ⟨k2, h2⟩ := an h2
    obtain ⟨k4, k3⟩ := an h2
    have k4 := of_decide_eq_true k4
    have ef := of_decide_eq_true k1
    subst ef
    have pa := pa_O cn he k3
    have pl := kplain k3
    cases zs with
    | nil =>
      refine PI.imp (pi_range1 (cn.gl _ k2) cn.rng pa (star_of (pl y List.mem_cons_self))) fun σ H R ⟨Hf, Γ, a, q⟩ => ?_
      unfold rF ev at q
      simp only [hc, Bool.true_eq_false, if_false] at q
      refine ⟨Hf, Γ, a, (wpR.bind.mp (frm q)).imp fun xs exs q vs H' Hf' g k => ?_⟩
      have hl : xs.length = 1 := by rw [evOs_len exs, ← klen k3]; rfl
      obtain ⟨d, rfl⟩ := List.length_eq_one_iff.mp hl
      obtain ⟨v, _, rfl, k, rfl⟩ := k
      cases d with
      | int n =>
        unfold rngD at q
        simp only at q
        split at q
        · rename_i hs
          obtain ⟨_, _, e1, e2, q⟩ := q
          cases e1
          cases e2
          obtain ⟨b1, b2⟩ := smallI_ok hs
          refine ⟨n, by rw [k.int], b1, b2, ?_⟩
          have := q (Itr 0 (n - 0).toNat) H' Hf' g fun H2 Hf2 l1 l2 => walk_R l2
          rw [Int.sub_zero] at this
          exact this
        · exact q.elim
      | _ => exact q.elim
    | cons z zs =>
      have : zs = [] := by
        cases zs with
        | nil => rfl
        | cons _ _ => simp at k4
      subst this
      refine PI.imp (pi_range2 (cn.gl _ k2) cn.rng pa (by rw [star_of (pl y List.mem_cons_self), star_of (pl z (by simp))]; rfl) (star_of (pl z (by simp)))) fun σ H R ⟨Hf, Γ, a, q⟩ => ?_
      unfold rF ev at q
      simp only [hc, Bool.true_eq_false, if_false] at q
      refine ⟨Hf, Γ, a, (wpR.bind.mp (frm q)).imp fun xs exs q vs H' Hf' g k => ?_⟩
      have hl : xs.length = 2 := by rw [evOs_len exs, ← klen k3]; rfl
      obtain ⟨d, d2, rfl⟩ : ∃ d d2, xs = [d, d2] := by
        cases xs with
        | nil => cases hl
        | cons d xs =>
          cases xs with
          | nil => cases hl
          | cons d2 xs =>
            cases xs with
            | nil => exact ⟨d, d2, rfl⟩
            | cons _ _ => simp at hl
      obtain ⟨v, _, rfl, k, v2, _, rfl, k5, rfl⟩ := k
      cases d with
      | int m =>
        cases d2 with
        | int n =>
          unfold rngD at q
          simp only at q
          split at q
          · rename_i hs
            obtain ⟨hs1, hs2⟩ := an hs
            obtain ⟨_, _, e1, e2, q⟩ := q
            cases e1
            cases e2
            obtain ⟨b1, b2⟩ := smallI_ok hs1
            obtain ⟨b3, b4⟩ := smallI_ok hs2
            exact ⟨m, n, by rw [k.int, k5.int], ⟨b1, b2, b3, b4⟩, q _ H' Hf' g fun H2 Hf2 l1 l2 => walk_R l2⟩
          · exact q.elim
        | _ => exact q.elim
      | _ => exact q.elim
  · exact nb h2
theorem rng_cf {es : List E} (Fx : MP.Fx) (Γ : List OD) : rC Fx (.rng es) Γ = rF Fx (.rng es) Γ := by
  unfold rC rF ev
  cases hcm : Fx.calm with
  | false => rfl
  | true =>
  simp only [Bool.true_eq_false, if_false]
  cases evOs Fx es Γ with
  | ok xs =>
    show itemsR (oper false (rngD xs)) = itemsR (frz (rngD xs))
    unfold rngD
    split <;> first | rfl | (split <;> rfl)
  | ex c p => rfl
  | bad => rfl
theorem if_enm {a : E} (ha : SE w c a) : IF w c (.enm a) := fun xv X sc Fx W cn hc t x k => by
  have h2 : (isTupT t && kEnm sc (kE c sc a) x) = true := k
  obtain ⟨h1, h2⟩ := an h2
  unfold kEnm at h2
  split at h2
  · rename_i _ f fp y pp _
    obtain ⟨k1, h2⟩ := an h2
    obtain ⟨k2, h2⟩ := an h2
    obtain ⟨k3, k4⟩ := an h2
    have ef := of_decide_eq_true k1
    subst ef
    cases t with
    | Tuple elts kk tpos =>
      have hs : starEach [y] X.env = (false, eval y X.env) :: starEach [] X.env := star_of k3
      refine PI.imp (pi_enumA (cn.gl _ k2) cn.enm (pa_cons (pe_F cn.hK (ha xv X sc Fx W cn y false k4)) pa_nil hs) hs) fun σ H R ⟨Hf, Γ, at_, q⟩ => ?_
      unfold rF ev at q
      refine ⟨Hf, Γ, at_, (wpR.bind.mp (wpR.bind.mp (frm q))).imp fun d _ q v H' Hf' g r => ?_⟩
      obtain ⟨ds, e, q2⟩ := wpR.ofO.mp q
      obtain ⟨_, _, e1, e2, q3⟩ := q2
      cases e1
      cases e2
      cases d with
      | lst ds' =>
        cases e
        obtain ⟨b, vs, rfl, s, rr⟩ := Rep.lst_iff.mp r
        have sq : ∀ {Hf2 H2 : Hp}, Le Hf' Hf2 → Le Hf2 H2 → SqL w.K H2 b vs := fun l1 l2 => .inl (l2.rd (l1.rd s))
        refine ⟨b, vs, rfl, .inl ⟨by rw [cn.hK]; exact sq (Le.refl _) g.lf, ?_⟩⟩
        rw [cn.hK]
        exact q3 _ H' Hf' g fun H2 Hf2 l1 l2 => walk_EL l2 (sq l1 l2) (Reps.mono w l1 _ _ rr)
      | tup ds' =>
        cases e
        obtain ⟨b, vs, rfl, s, rr⟩ := Rep.tup_iff.mp r
        have sq : ∀ {Hf2 H2 : Hp}, Le Hf' Hf2 → Le Hf2 H2 → SqT w.K H2 b vs := fun l1 l2 => l2.sqT w (l1.sqT w s)
        refine ⟨b, vs, rfl, .inr ⟨by rw [cn.hK]; exact sq (Le.refl _) g.lf, ?_⟩⟩
        rw [cn.hK]
        exact q3 _ H' Hf' g fun H2 Hf2 l1 l2 => walk_ET l2 (sq l1 l2) (Reps.mono w l1 _ _ rr)
      | _ => cases e
    | _ => exact nb h1
  · exact nb h2
theorem enm_cf {a : E} (Fx : MP.Fx) (Γ : List OD) : rC Fx (.enm a) Γ = rF Fx (.enm a) Γ := by
  unfold rC rF ev
  cases itemsR (frz (ev Fx a Γ false)) <;> rfl
theorem if_zip {a b : E} (ha : SE w c a) (hb : SE w c b) : IF w c (.zip a b) := fun xv X sc Fx W cn hc t x k => by
  have h2 : (isTupT t && kZip sc (kE c sc a) (kE c sc b) x) = true := k
  obtain ⟨h1, h2⟩ := an h2
  unfold kZip at h2
  split at h2
  · rename_i _ f fp y z pp _
    obtain ⟨k1, h2⟩ := an h2
    obtain ⟨k2, h2⟩ := an h2
    obtain ⟨k3, h2⟩ := an h2
    obtain ⟨k4, h2⟩ := an h2
    obtain ⟨k5, k6⟩ := an h2
    have ef := of_decide_eq_true k1
    subst ef
    cases t with
    | Tuple elts kk tpos =>
      have hs : starEach [y, z] X.env = (false, eval y X.env) :: starEach [z] X.env := star_of k3
      have hs2 : starEach [z] X.env = (false, eval z X.env) :: starEach [] X.env := star_of k4
      have hn : (backTo pp (starEach [z] X.env)).any (·.1) = false := by rw [hs2]; rfl
      refine PI.imp (RZ.pi_zipA (cn.gl _ k2) cn.zip (pa_cons (pe_F cn.hK (ha xv X sc Fx W cn y false k5)) (pa_cons (pe_F cn.hK (hb xv X sc Fx W cn z false k6)) pa_nil hs2) hs) hs hn) fun σ H R ⟨Hf, Γ, at_, q⟩ => ?_
      unfold rF ev at q
      refine ⟨Hf, Γ, at_, (wpR.bind.mp (frm q)).imp fun d _ q v H1 Hf1 g1 r1 => ?_⟩
      refine ⟨Hf1, Γ, at_.mono cn.xvo g1, (wpR.bind.mp q).mono g1 fun e _ q u H' Hf' g2 r2 => ?_⟩
      have g := g1.trans g2
      cases d with
      | lst ds =>
        cases e with
        | lst es =>
          obtain ⟨_, _, e1, e2, q⟩ := q
          cases e1
          cases e2
          obtain ⟨b1, vs, rfl, s, rr⟩ := Rep.lst_iff.mp (Rep.mono w g2.ext.le _ _ r1)
          obtain ⟨b2, us, rfl, s2, qq⟩ := Rep.lst_iff.mp r2
          have sq : ∀ {Hf2 H2 : Hp}, Le Hf' Hf2 → Le Hf2 H2 → SqL w.K H2 b1 vs := fun l1 l2 => .inl (l2.rd (l1.rd s))
          have sq2 : ∀ {Hf2 H2 : Hp}, Le Hf' Hf2 → Le Hf2 H2 → SqL w.K H2 b2 us := fun l1 l2 => .inl (l2.rd (l1.rd s2))
          refine ⟨b1, b2, vs, us, rfl, .inl ⟨by rw [cn.hK]; exact sq (Le.refl _) g.lf, by rw [cn.hK]; exact sq2 (Le.refl _) g.lf, ?_⟩⟩
          rw [cn.hK]
          exact q _ H' Hf' g fun H2 Hf2 l1 l2 => walk_ZL l2 (sq l1 l2) (sq2 l1 l2) (Reps.mono w l1 _ _ rr) (Reps.mono w l1 _ _ qq)
        | _ => exact q.elim
      | tup ds =>
        cases e with
        | tup es =>
          obtain ⟨_, _, e1, e2, q⟩ := q
          cases e1
          cases e2
          obtain ⟨b1, vs, rfl, s, rr⟩ := Rep.tup_iff.mp (Rep.mono w g2.ext.le _ _ r1)
          obtain ⟨b2, us, rfl, s2, qq⟩ := Rep.tup_iff.mp r2
          have sq : ∀ {Hf2 H2 : Hp}, Le Hf' Hf2 → Le Hf2 H2 → SqT w.K H2 b1 vs := fun l1 l2 => l2.sqT w (l1.sqT w s)
          have sq2 : ∀ {Hf2 H2 : Hp}, Le Hf' Hf2 → Le Hf2 H2 → SqT w.K H2 b2 us := fun l1 l2 => l2.sqT w (l1.sqT w s2)
          refine ⟨b1, b2, vs, us, rfl, .inr ⟨by rw [cn.hK]; exact sq (Le.refl _) g.lf, by rw [cn.hK]; exact sq2 (Le.refl _) g.lf, ?_⟩⟩
          rw [cn.hK]
          exact q _ H' Hf' g fun H2 Hf2 l1 l2 => walk_ZT l2 (sq l1 l2) (sq2 l1 l2) (Reps.mono w l1 _ _ rr) (Reps.mono w l1 _ _ qq)
        | _ => exact q.elim
      | _ => cases e <;> exact q.elim
    | _ => exact nb h1
  · exact nb h2
theorem zip_cf {a b : E} (Fx : MP.Fx) (Γ : List OD) : rC Fx (.zip a b) Γ = rF Fx (.zip a b) Γ := by
  unfold rC rF ev
  cases frz (ev Fx a Γ false) with
  | ok d =>
    cases frz (ev Fx b Γ false) with
    | ok e => cases d <;> cases e <;> rfl
    | ex c p => rfl
    | bad => rfl
  | ex c p => rfl
  | bad => rfl
end
end MP

end

section
set_option Elab.async false
set_option linter.all false
set_option maxRecDepth 100000
namespace MP
open PySem PySem.Spec L2
section
variable {w : Wd} {c : Ck} {xv : XV} {X : Cx} {sc : Scope} {Fx : MP.Fx} {W : WX}
/-! ### comprehensions -/
theorem PTs.imp {X : Cx} {es : List Expr} {t t' : TT} (h : PTs X es t) (i : ∀ σ H Q, t' σ H Q → t σ H Q) : PTs X es t' := ⟨fun pins s σ H Q I hq => h.run pins s σ H Q I (i _ _ _ hq)⟩
def tCs (w : Wd) (xv : XV) (Fx : MP.Fx) (cs : List E) : TT := fun σ H Q => ∃ Hf Γ, At w xv Γ σ H Hf ∧ wpR w Wno σ H Hf (evC Fx cs Γ) fun b => ∀ H' Hf', Gr H Hf H' Hf' → Q b H'
theorem pts_C (cn : CnE w c xv X sc Fx Wno) {cs : List E} {xs : List Expr} (hl : cs.length ≤ 1) (he : ∀ e ∈ cs, ST w c e) (h : kEs c sc cs xs = true) : PTs X xs (tCs w xv Fx cs) := by
  cases cs with
  | nil =>
    rw [knil h]
    refine PTs.imp pts_nil fun σ H Q ⟨Hf, Γ, a, q⟩ => ?_
    unfold evC at q
    exact q H Hf (Gr.refl a.lf)
  | cons e es =>
    have : es = [] := by
      cases es with
      | nil => rfl
      | cons _ _ => simp at hl
    subst this
    obtain ⟨x, r, rfl, hp, h2, h3⟩ := kcons h
    rw [knil h3]
    refine PTs.imp (pts_one (he e List.mem_cons_self xv X sc Fx Wno cn x h2)) fun σ H Q ⟨Hf, Γ, a, q⟩ => ?_
    refine ⟨Hf, Γ, a, ?_⟩
    unfold evC at q
    refine (wpR.bind.mp q).imp fun b _ q => ?_
    cases b with
    | true => unfold evC at q; exact q
    | false => exact q
def delD (H : Hp) (D : Addr) : Hp := fun a => if a = D then none else H a
theorem delD_same {H : Hp} {D : Addr} : delD H D D = none := if_pos rfl
theorem delD_ne {H : Hp} {D a : Addr} (h : a ≠ D) : delD H D a = H a := if_neg h
theorem upd_delD {H : Hp} {D : Addr} {u : HO} : upd H D u = upd (delD H D) D u := by
  funext a
  by_cases e : a = D
  · subst e; rw [upd_same, upd_same]
  · rw [upd_ne e, upd_ne e, delD_ne e]
theorem upd_back {H : Hp} {D : Addr} {u : HO} (h : H D = some u) : upd (delD H D) D u = H := by
  funext a
  by_cases e : a = D
  · subst e; rw [upd_same, h]
  · rw [upd_ne e, delD_ne e]
theorem delD_gr {Hm Hf H4 Hf4 : Hp} {D : Addr} {u : HO} (l : Le Hf Hm) (hD : Hm D = none) (g : Gr (upd Hm D u) Hf H4 Hf4) : Gr Hm Hf (delD H4 D) Hf4 := by
  have hf : Hf4 D = none := by
    rw [g.ext.old D (by rw [upd_same]; exact fun z => nomatch z), l.none hD]
  refine ⟨fun a o e => ?_, ⟨g.ext.le, fun a h => g.ext.old a ?_⟩, fun a o e => ?_⟩
  · have ne : a ≠ D := fun z => by rw [z, hD] at e; cases e
    rw [delD_ne ne]
    exact g.le _ _ (by rw [upd_ne ne]; exact e)
  · by_cases z : a = D
    · rw [z, upd_same]; exact fun z => nomatch z
    · rw [upd_ne z]; exact h
  · have ne : a ≠ D := fun z => by rw [z, hf] at e; cases e
    rw [delD_ne ne]
    exact g.lf _ _ e
theorem RepRows.cong {H H2 Hf : Hp} : ∀ {rs : List (Bool × List D)} {vs : List V} {as : List Addr}, (∀ a ∈ as, H2 a = H a) → RepRows w H Hf rs vs as → RepRows w H2 Hf rs vs as
  | [], _, _, _, h => h
  | (true, ds) :: rs, vs, as, n, h => by
    obtain ⟨v, r, e, h1, h2⟩ := h
    exact ⟨v, r, e, h1, RepRows.cong n h2⟩
  | (false, ds) :: rs, vs, as, n, h => by
    obtain ⟨a, us, r, as', e1, rfl, h1, h2, h3, h4⟩ := h
    exact ⟨a, us, r, as', e1, rfl, by rw [n a List.mem_cons_self]; exact h1, h2, h3, RepRows.cong (fun a m => n a (List.mem_cons_of_mem _ m)) h4⟩
theorem RepO.cong {H H2 Hf : Hp} {o : OD} {v : V} {as : List Addr} (n : ∀ a ∈ as, H2 a = H a) (h : RepO w xv H Hf o v as) : RepO w xv H2 Hf o v as := by
  cases o with
  | un => exact h
  | fz d => exact h
  | own ds =>
    obtain ⟨a, vs, e1, rfl, h1, h2⟩ := h
    exact ⟨a, vs, e1, rfl, by rw [n a List.mem_cons_self]; exact h1, h2⟩
  | own2 pp rs =>
    obtain ⟨a, vs, as', e1, rfl, h1, h2, h3, hp⟩ := h
    exact ⟨a, vs, as', e1, rfl, by rw [n a List.mem_cons_self]; exact h1, h2, h3.cong fun a m => n a (List.mem_cons_of_mem _ m), hp⟩
  | oi c fs =>
    obtain ⟨a, dx, fvs, e1, rfl, h1, h2⟩ := h
    exact ⟨a, dx, fvs, e1, rfl, by rw [n a List.mem_cons_self]; exact h1, h2⟩
  | xv c p => exact h
theorem Res.delD {Hm H4 Hf4 : Hp} {D : Addr} {u : HO} {o : OD} {v : V} (r : Res w xv (upd Hm D u) H4 Hf4 false o v) : Res w xv Hm (delD H4 D) Hf4 false o v := by
  obtain ⟨as, r, nd, f⟩ := r
  have f := f rfl
  have ne : ∀ a ∈ as, a ≠ D := fun a m z => by
    have := f a m
    rw [z, upd_same] at this
    cases this
  refine ⟨as, r.cong fun a m => delD_ne (ne a m), nd, fun _ a m => ?_⟩
  have := f a m
  rw [upd_ne (ne a m)] at this
  exact this
theorem NewL.mono {H0 H Hf H' Hf' : Hp} (hx : XvOk xv) (g : Gr H Hf H' Hf') {os : List OD} {vs : List V} (h : NewL w xv H0 H Hf os vs) : NewL w xv H0 H' Hf' os vs := by
  obtain ⟨as, r, nd, f⟩ := h.ex
  exact ⟨as, r.mono hx g, nd, f⟩
theorem NewL.back {H0 Hf0 H1 Hf1 H Hf : Hp} (g : Gr H0 Hf0 H1 Hf1) {os : List OD} {vs : List V} (h : NewL w xv H1 H Hf os vs) : NewL w xv H0 H Hf os vs := by
  obtain ⟨as, r, nd, f⟩ := h.ex
  exact ⟨as, r, nd, fun a m => g.none_of (f a m)⟩
/-- ahead of the i-th turn -/
def CP (w : Wd) (xv : XV) (g : List OD → R OD) (f : List OD → R Bool) (tg : T) (Γ : List OD) (ds : List D) (all : List OD) (D : Addr) (H1 Hf1 : Hp) (i : Nat) (H : Hp) : Prop :=
  ∃ Hm Hf os acc rest, H = upd Hm D (.lst acc) ∧ Hm D = none ∧ Gr H1 Hf1 Hm Hf ∧ NewL w xv H1 Hm Hf os acc ∧ acc.length ≤ i ∧ compL g f tg Γ (ds.drop i) = .ok rest ∧ os ++ rest = all
theorem comp_ok (cn : CnE w c xv X sc Fx W) {sc2 : Scope} {own : List (Str × Nat)} (h : blkC c.N sc sc2 own = true) : BlkOk X.N X.env.scope sc2 own := by
  have ok0 := blkOk_by h
  exact ⟨ok0.kind, ok0.uniq, by rw [cn.hN]; exact ok0.ix, fun y hy e => cn.cf _ (ok0.free y hy e), by rw [cn.hN]; exact ok0.own⟩
theorem set_no {i : Expr} {env : Env} (h : noSet i = true) : ∀ v, foldedSetIterable i env v = pure v := fun v => by
  cases i <;> first | rfl | exact nb h
/-- what a comprehension comes to -/
theorem comp_imp {e : E} {tg : T} {it : E} {cs : List E} (hx : XvOk xv) (hcm : Fx.calm = true) {pk : Bool} {σ : L2.St} {H : Hp} {Q : VK} (h : tE w xv W Fx (.comp e tg it cs) pk σ H Q) :
    tLc (tI w xv W (rC Fx it) (WalkC w)) (gA w xv c.N tg) (tCs w xv Fx cs) (tE w xv Wno Fx e false) ((T.own c.N tg).map (·.2)) σ H Q := by
  obtain ⟨Hf, Γ, at_, q⟩ := h
  unfold ev at q
  simp only [hcm, Bool.true_eq_false, if_false] at q
  refine ⟨Hf, Γ, at_, (wpR.bind.mp q).imp fun ds _ q J H1 Hf1 g1 wk D hD => ?_⟩
  split at q
  · exact q.elim
  rename_i hline
  have hz : ds.length ≤ sizeLine := by
    have := line_le
    omega
  -- the items
  obtain ⟨all, eall, q⟩ : ∃ all, compL (fun Γ' => ev Fx e Γ' false) (fun Γ' => evC Fx cs Γ') tg Γ ds = .ok all ∧ wpR w W σ H Hf (R.ofO (mkOwn all)) fun o => ∀ v H' Hf', Gr H Hf H' Hf' → Res w xv H H' Hf' false o v → Q v H' := by
    have q := wpR.bind.mp q
    have ne : ∀ (ds : List MP.D) (k : Nat) (p : Option MP.D), compL (fun Γ' => ev Fx e Γ' false) (fun Γ' => evC Fx cs Γ') tg Γ ds ≠ .ex k p := by
      intro ds
      induction ds with
      | nil => intro k p z; unfold compL at z; cases z
      | cons d ds ih =>
        intro k p z
        unfold compL at z
        split at z
        · split at z
          · split at z
            · cases q2 : compL (fun Γ' => ev Fx e Γ' false) (fun Γ' => evC Fx cs Γ') tg Γ ds with
              | ok a => rw [q2] at z; cases z
              | ex k2 p2 => exact ih k2 p2 q2
              | bad => rw [q2] at z; cases z
            · cases z
          · exact ih k p z
          · cases z
        · cases z
    exact wp_ok q (ne ds)
  obtain ⟨o, eo, qf⟩ := wpR.ofO.mp q
  refine ⟨fun i m H => m = ds.length - i ∧ i ≤ ds.length ∧ CP w xv (fun Γ' => ev Fx e Γ' false) (fun Γ' => evC Fx cs Γ') tg Γ ds all D H1 Hf1 i H, ⟨ds.length, by simp, Nat.zero_le _, H1, Hf1, [], [], all, rfl, hD, Gr.refl g1.lf, NewL.nil, Nat.le_refl _, eall, rfl⟩, ?_⟩
  rintro i m H2 ⟨rfl, hi, Hm, Hf2, os, acc, rest, rfl, hDm, g2, nl, hacc, er, ea⟩
  have g3 : Gr Hm Hf2 (upd Hm D (.lst acc)) Hf2 := gr_new g2.lf hDm
  have wa := wk _ _ (g2.trans g3)
  by_cases hlt : i < ds.length
  · refine .inr ?_
    have ed : ds[i]? = some ds[i] := List.getElem?_eq_getElem hlt
    obtain ⟨hgo, hy⟩ := (wa i).1 _ ed
    refine ⟨hgo, CP w xv (fun Γ' => ev Fx e Γ' false) (fun Γ' => evC Fx cs Γ') tg Γ ds all D H1 Hf1 (i + 1), fun H' p => ⟨ds.length - (i + 1), by omega, rfl, hlt, p⟩, fun x1 H3 y => ?_⟩
    obtain ⟨Hf3, g4, rx⟩ := hy x1 H3 y
    rw [List.drop_eq_getElem_cons hlt] at er
    unfold compL at er
    split at er
    · rename_i Γ' eΓ
      have gg := (g1.trans (g2.trans g3)).trans g4
      refine ⟨Hf3, unAt (tg.lv c.N) Γ, _, Γ', (at_.mono hx gg).wipe _, rx, setT_un eΓ, fun σ2 a2 dif => ⟨wipe_dif dif, Hf3, Γ', a2, ?_⟩⟩
      split at er
      · rename_i et
        rw [et]
        refine fun H4 Hf4 g5 => ?_
        show tE w xv Wno Fx e false σ2 H4 _
        split at er
        · rename_i o1 eo1
          refine ⟨Hf4, Γ', a2.mono hx g5, ?_⟩
          have eo1 : ev Fx e Γ' false = .ok o1 := eo1
          show wpR w Wno σ2 H4 Hf4 (ev Fx e Γ' false) _
          rw [eo1]
          refine fun v H5 Hf5 g6 r6 => ?_
          rw [Bool.and_false] at r6
          have g7 : Gr (upd Hm D (.lst acc)) Hf2 H5 Hf5 := (g4.trans g5).trans g6
          have hD5 : H5 D = some (.lst acc) := g7.le _ _ upd_same
          have hr : Res w xv (upd Hm D (.lst acc)) H5 Hf5 false o1 v := r6.back (g4.trans g5)
          have g8 := delD_gr g2.lf hDm g7
          obtain ⟨r1, er1, er2⟩ := rb er
          cases er2
          refine ⟨acc, hD5, by omega, MP.delD H5 D, Hf5, os ++ [o1], acc ++ [v], r1, upd_delD, delD_same, g2.trans g8, NewL.snoc hx g2 g8 nl hr.delD, by rw [List.length_append, List.length_singleton]; omega, er1, by rw [List.append_assoc]; exact ea⟩
        · cases er
      · rename_i et
        rw [et]
        refine fun H4 Hf4 g5 => ?_
        show CP w xv _ _ tg Γ ds all D H1 Hf1 (i + 1) H4
        have g7 : Gr (upd Hm D (.lst acc)) Hf2 H4 Hf4 := g4.trans g5
        have hD5 : H4 D = some (.lst acc) := g7.le _ _ upd_same
        have g8 := delD_gr g2.lf hDm g7
        exact ⟨MP.delD H4 D, Hf4, os, acc, rest, (upd_back hD5).symm, delD_same, g2.trans g8, nl.mono hx g8, by omega, er, ea⟩
      · cases er
    · cases er
  · have e : i = ds.length := by omega
    subst e
    refine .inl ⟨(wa _).2 (Nat.le_refl _), ?_⟩
    rw [List.drop_length] at er
    unfold compL at er
    cases er
    rw [List.append_nil] at ea
    subst ea
    obtain ⟨Hf9, g9, r9⟩ := mk_res (g1.trans g2) (nl.back g1) eo hDm
    exact qf _ _ Hf9 g9 r9

theorem se_comp {e : E} {tg : T} {it : E} {cs : List E} (he : SE w c e) (hcs : ∀ d ∈ cs, ST w c d) (hit : IC w c it) : SE w c (.comp e tg it cs) := fun xv X sc Fx W cn x pk h => by
  rw [kE_comp] at h
  unfold kComp at h
  split at h
  · rename_i x0 t i ifs sc2 pos
    obtain ⟨h1, h⟩ := an h
    obtain ⟨h2, h⟩ := an h
    obtain ⟨h3, h⟩ := an h
    obtain ⟨h4, h⟩ := an h
    obtain ⟨h5, h⟩ := an h
    obtain ⟨h6, h⟩ := an h
    obtain ⟨h7, h8⟩ := an h
    have hl := of_decide_eq_true h6
    cases hcm : Fx.calm with
    | false => exact ⟨fun pins s σ H Q I ⟨Hf, Γ, at_, q⟩ => by unfold ev at q; rw [hcm] at q; exact q.elim⟩
    | true =>
      have hc := cn.calm hcm
      have bl := fun (s : Shared) (H : Hp) (C : Addr) (cl : List (Str × Addr)) (fp : List Addr) => cn.blk hcm s H sc2 C cl fp
      refine PE.imp (pe_lc hc cn.nd (hit xv X sc Fx W cn hcm t i h3) (comp_ok cn h7)
        (fun s H C cl fp => pg_A (w := w) (xv := xv) (sc := sc2) (bl s H C cl fp).hK (bl s H C cl fp).hN (bl s H C cl fp).nd (fun x h => blk_lo h) hc h2)
        (fun s H C cl fp => pts_C (bl s H C cl fp) hl hcs h5)
        (fun s H C cl fp => he xv _ sc2 Fx Wno (bl s H C cl fp) x0 false h1) (set_no h4)) fun σ H Q q => comp_imp cn.xvo hcm q
  · exact nb h
end
end MP

end

section
set_option Elab.async false
set_option linter.all false
set_option maxRecDepth 100000
namespace MP
open PySem PySem.Spec L2
section
variable {w : Wd} {c : Ck}
theorem se_false {e : E} (h : ∀ sc x, kE c sc e x = false) : SE w c e := fun xv X sc Fx W cn x pk k => by
  rw [h] at k
  exact nb k
/-- what is reckoned rightly, tests too -/
def All (w : Wd) (c : Ck) (e : E) : Prop := SE w c e ∧ ST w c e ∧ SW w c e
theorem mk_all {e : E} (h : SE w c e) (hp : ∀ sc x, kE c sc e x = true → plainT x = true) (hw : ∀ sc op xs p, kE c sc e (.BoolOp op xs p) = false) : All w c e := ⟨h, h.st hp, sw_vac hw⟩
theorem all_false {e : E} (h : ∀ sc x, kE c sc e x = false) : All w c e := mk_all (se_false h) (fun sc x k => by rw [h] at k; exact nb k) fun sc op xs p => h _ _
theorem mem_lt {e : E} {es : List E} (h : e ∈ es) : sizeOf e < sizeOf es := List.sizeOf_lt_of_mem h
/-- list(range(..)), tuple(range(..)) -/
theorem reps_rg {Hf : Hp} (a b : Int) : Reps w Hf (rangeI a b) (rgV a b) := by
  have := Reps.of_ints (w := w) (H := Hf) ((List.range (b - a).toNat).map fun (k : Nat) => a + (k : Int))
  rw [List.map_map, List.map_map] at this
  exact this
theorem rg_ok {a b : Int} (h1 : smallI a = true) (h2 : smallI b = true) : RgOk a b := by
  unfold smallI at h1 h2
  obtain ⟨a1, a2⟩ := an h1
  obtain ⟨b1, b2⟩ := an h2
  have a1 := of_decide_eq_true a1
  have a2 := of_decide_eq_true a2
  have b1 := of_decide_eq_true b1
  have b2 := of_decide_eq_true b2
  exact ⟨by omega, by omega, by omega, by omega, by omega⟩
def lrgO (f : Blt) (vs : List V) : HO := match f with
  | .tuple => .tup vs
  | _ => .lst vs
theorem lrg_fin {xv : XV} {W : WX} {f : Blt} {a b : Int} {σ : L2.St} {H Hf H1 Hf1 : Hp} {Q : VK} (hf : f = .list ∨ f = .tuple) (g : Gr H Hf H1 Hf1) (q : wpR w W σ H Hf (bltD f [.lst (rangeI a b)]) fun o => ∀ v H' Hf', Gr H Hf H' Hf' → Res w xv H H' Hf' false o v → Q v H') :
    ∀ p, H1 p = none → Q (.ref p) (upd H1 p (lrgO f (rgV a b))) := by
  intro p hp
  rcases hf with rfl | rfl
  · exact q _ _ _ (g.trans (gr_new g.lf hp)) ((res_own g.lf hp (reps_rg a b)).back g)
  · exact q _ _ _ (g.trans (gr_newf g.lf hp)) (res_fz (rep_tup g.lf hp (reps_rg a b)))
theorem se_lrg {f : Blt} {es : List E} (he : ∀ e ∈ es, SE w c e) : SE w c (.blt f [.rng es]) := fun xv X sc Fx W cn x pk h => by
  unfold kE at h
  simp only at h
  unfold kLrg at h
  split at h
  · rename_i nm p g gp y ys pos2 pos
    obtain ⟨h0, h⟩ := an h
    obtain ⟨h1, h⟩ := an h
    obtain ⟨h2, h⟩ := an h
    obtain ⟨h3, h⟩ := an h
    obtain ⟨h4, h⟩ := an h
    obtain ⟨h5, h⟩ := an h
    obtain ⟨h6, h7⟩ := an h
    have e := of_decide_eq_true h2
    subst e
    have e := of_decide_eq_true h4
    subst e
    have hl := of_decide_eq_true h6
    have hf : f = .list ∨ f = .tuple := by
      rcases Bool.or_eq_true_iff.mp h0 with z | z
      · exact .inl (by simpa using z)
      · exact .inr (by simpa using z)
    cases hcm : Fx.calm with
    | false => exact ⟨fun pins s σ H Q I ⟨Hf, Γ, at_, q⟩ => by
        unfold ev evOs ev at q
        simp only [hcm, if_true] at q
        have q : wpR w W σ H Hf (if (false || f.anyhow) = true then R.bad else R.bad) _ := q
        rw [ite_self] at q
        exact q.elim⟩
    | true =>
    have hc := cn.calm hcm
    -- what the range is
    have main : ∀ (te : L2.St → Hp → (Int → Int → Hp → Prop) → Prop), PRg X (.Call (.Name "range" gp) (y :: ys) [] pos2) te → (∀ σ H Q, tE w xv W Fx (.blt f [.rng es]) pk σ H Q → te σ H fun a b H1 => RgOk a b ∧ ∀ p, H1 p = none → Q (.ref p) (upd H1 p (lrgO f (rgV a b)))) → PE X (.Call (.Name (bname f) p) [.Call (.Name "range" gp) (y :: ys) [] pos2] [] pos) (tE w xv W Fx (.blt f [.rng es]) pk) := by
      intro te hr hi
      rcases hf with rfl | rfl
      · exact PE.imp (pe_listRg hc (cn.gl _ h3) (cn.bl _ h1 fun z => nomatch z) hr) hi
      · exact PE.imp (pe_tupRg hc (cn.gl _ h3) (cn.bl _ h1 fun z => nomatch z) hr) hi
    have evq : ∀ {Γ : List OD} {σ : L2.St} {H Hf : Hp} {k : OD → Prop}, wpR w W σ H Hf (ev Fx (.blt f [.rng es]) Γ pk) k → wpR w W σ H Hf (evOs Fx es Γ) fun xs => ∃ d, rngD xs = .ok (.fz d) ∧ wpR w W σ H Hf (bltD f [d]) k := by
      intro Γ σ H Hf k q
      unfold ev at q
      simp only [hcm, Bool.true_or, if_true] at q
      unfold evOs at q
      unfold ev at q
      simp only [hcm, Bool.true_eq_false, if_false] at q
      refine (wpR.bind.mp (wpR.bind.mp (wpR.bind.mp (wpR.bind.mp q)))).imp fun xs _ q => ?_
      unfold rngD at q ⊢
      split at q
      · split at q
        · rename_i hs
          rw [if_pos hs]
          exact ⟨_, rfl, by unfold evOs at q; exact q⟩
        · exact q.elim
      · split at q
        · rename_i hs
          rw [if_pos hs]
          exact ⟨_, rfl, by unfold evOs at q; exact q⟩
        · exact q.elim
      · split at q
        · rename_i hs
          rw [if_pos hs]
          exact ⟨_, rfl, by unfold evOs at q; exact q⟩
        · exact q.elim
      · exact q.elim
    have pl := kplain h7
    cases es with
    | nil => have := knil h7; cases this
    | cons e1 es =>
      obtain ⟨x1, r1, z1, p1, k1, k2⟩ := kcons h7
      cases z1
      have pa1 := pe_O cn.hK (he e1 List.mem_cons_self xv X sc Fx W cn y true k1)
      cases es with
      | nil =>
        have := knil k2
        subst this
        refine main _ (prg_1 (cn.gl _ h5) cn.rng pa1 (star_of p1)) fun σ H Q ⟨Hf, Γ, at_, q⟩ => ?_
        have q := evq q
        unfold evOs at q
        refine ⟨Hf, Γ, at_, (wpR.bind.mp q).imp fun d _ q v H1 Hf1 g1 o1 => ?_⟩
        unfold evOs at q
        obtain ⟨dr, er, q⟩ := (show ∃ dr, rngD [d] = .ok (.fz dr) ∧ wpR w W σ H Hf (bltD f [dr]) _ from q)
        cases d with
        | int n =>
          unfold rngD at er
          simp only at er
          split at er
          · rename_i hs
            cases er
            exact ⟨n, o1.int, rg_ok (by decide) hs, lrg_fin hf g1 q⟩
          · cases er
        | _ => cases er
      | cons e2 es =>
        obtain ⟨x2, r2, z2, p2, k3, k4⟩ := kcons k2
        subst z2
        have : r2 = [] := by
          cases r2 with
          | nil => rfl
          | cons _ _ => simp at hl
        subst this
        have he3 : es = [] := by
          have := klen k4
          exact List.length_eq_zero_iff.mp this.symm
        subst he3
        have pa2 := pe_O cn.hK (he e2 (by simp) xv X sc Fx W cn x2 true k3)
        refine main _ (prg_2 (cn.gl _ h5) cn.rng pa1 pa2 (by rw [star_of p1]) (star_of p2) (by rw [star_of p2]; rfl)) fun σ H Q ⟨Hf, Γ, at_, q⟩ => ?_
        have q := evq q
        unfold evOs at q
        refine ⟨Hf, Γ, at_, (wpR.bind.mp q).imp fun d _ q v H1 Hf1 g1 o1 => ?_⟩
        have q := wpR.bind.mp q
        unfold evOs at q
        refine ⟨Hf1, Γ, at_.mono cn.xvo g1, (wpR.bind.mp q).mono g1 fun d2 _ q v2 H2 Hf2 g2 o2 => ?_⟩
        unfold evOs at q
        obtain ⟨dr, er, q⟩ := (show ∃ dr, rngD [d, d2] = .ok (.fz dr) ∧ wpR w W σ H Hf (bltD f [dr]) _ from q)
        cases d with
        | int m =>
          cases d2 with
          | int n =>
            unfold rngD at er
            simp only at er
            split at er
            · rename_i hs
              cases er
              obtain ⟨s1, s2⟩ := an hs
              have o1 : v = .int m := o1.int
              exact ⟨m, n, o1, o2.int, rg_ok s1 s2, lrg_fin hf (g1.trans g2) q⟩
            · cases er
          | _ => cases er
        | _ => cases er
  · exact nb h
theorem se_all : ∀ (n : Nat) (e : E), sizeOf e < n → All w c e := by
  intro n
  induction n with
  | zero => intro e h; exact absurd h (Nat.not_lt_zero _)
  | succ n ih =>
    intro e h
    have li : ∀ {es : List E}, sizeOf es < n → ∀ e ∈ es, SE w c e := fun h e m => (ih e (Nat.lt_trans (mem_lt m) h)).1
    cases e with
    | int i => exact mk_all se_int (fun sc x k => by unfold kE kInt at k; split at k <;> first | rfl | exact nb k) fun sc op xs p => by unfold kE kInt; rfl
    | bl i => exact mk_all se_bl (fun sc x k => by unfold kE kBl at k; split at k <;> first | rfl | exact nb k) fun sc op xs p => by unfold kE kBl; rfl
    | non => exact mk_all se_non (fun sc x k => by unfold kE kNon at k; split at k <;> first | rfl | exact nb k) fun sc op xs p => by unfold kE kNon; rfl
    | str x => exact mk_all se_str (fun sc x k => by unfold kE kStr at k; split at k <;> first | rfl | exact nb k) fun sc op xs p => by unfold kE kStr; rfl
    | var i => exact mk_all se_var (fun sc x k => by unfold kE kVar at k; split at k <;> first | rfl | exact nb k) fun sc op xs p => by unfold kE kVar; rfl
    | glob g => exact mk_all se_glob (fun sc x k => by unfold kE kGlob at k; split at k <;> first | rfl | exact nb k) fun sc op xs p => by unfold kE kGlob; rfl
    | bin op a b =>
      rw [E.bin.sizeOf_spec] at h
      exact mk_all (se_bin (ih a (by omega)).1 (ih b (by omega)).1) (fun sc x k => by unfold kE kBin at k; split at k <;> first | rfl | exact nb k) fun sc op xs p => by unfold kE kBin; rfl
    | neg a =>
      rw [E.neg.sizeOf_spec] at h
      exact mk_all (se_neg (ih a (by omega)).1) (fun sc x k => by unfold kE kNeg at k; split at k <;> first | rfl | exact nb k) fun sc op xs p => by unfold kE kNeg; rfl
    | notE a =>
      rw [E.notE.sizeOf_spec] at h
      exact ⟨se_not (ih a (by omega)).1, st_not (ih a (by omega)).2.1, sw_vac fun sc op xs p => by unfold kE kNot; rfl⟩
    | cmp op a b =>
      rw [E.cmp.sizeOf_spec] at h
      exact ⟨se_cmp (ih a (by omega)).1 (ih b (by omega)).1, st_cmp (ih a (by omega)).1 (ih b (by omega)).1, sw_vac fun sc op xs p => by unfold kE kCmp; rfl⟩
    | chain o1 o2 a b d =>
      rw [E.chain.sizeOf_spec] at h
      exact ⟨(bo_chain (ih a (by omega)).1 (ih b (by omega)).1 (ih d (by omega)).1).se, st_chain (ih a (by omega)).1 (ih b (by omega)).1 (ih d (by omega)).1, sw_vac fun sc op xs p => by unfold kE kChain; rfl⟩
    | isN a yes =>
      rw [E.isN.sizeOf_spec] at h
      exact ⟨(bo_isN (ih a (by omega)).1).se, (bo_isN (ih a (by omega)).1).st ev_isN_bl, sw_vac fun sc op xs p => by unfold kE kIsN; rfl⟩
    | isB a b yes =>
      rw [E.isB.sizeOf_spec] at h
      exact ⟨(bo_isB (ih a (by omega)).1).se, (bo_isB (ih a (by omega)).1).st ev_isB_bl, sw_vac fun sc op xs p => by unfold kE kIsB; rfl⟩
    | andE a b =>
      rw [E.andE.sizeOf_spec] at h
      have k := sw_and (ih a (by omega)).2.1 (ih b (by omega)).2.2
      exact ⟨se_and (ih a (by omega)).1 (ih b (by omega)).1, k.st and_bo, k⟩
    | orE a b =>
      rw [E.orE.sizeOf_spec] at h
      have k := sw_or (ih a (by omega)).2.1 (ih b (by omega)).2.2
      exact ⟨se_or (ih a (by omega)).1 (ih b (by omega)).1, k.st or_bo, k⟩
    | one a =>
      rw [E.one.sizeOf_spec] at h
      have k := sw_one (ih a (by omega)).2.1
      exact ⟨se_one (ih a (by omega)).1, k.st one_bo, k⟩
    | ite t a b =>
      rw [E.ite.sizeOf_spec] at h
      exact ⟨se_ite (ih t (by omega)).2.1 (ih a (by omega)).1 (ih b (by omega)).1, st_ite (ih t (by omega)).2.1 (ih a (by omega)).2.1 (ih b (by omega)).2.1, sw_vac fun sc op xs p => by unfold kE kIte; rfl⟩
    | tup es =>
      rw [E.tup.sizeOf_spec] at h
      exact mk_all (se_tup (li (by omega))) (fun sc x k => by unfold kE kTup at k; split at k <;> first | rfl | exact nb k) fun sc op xs p => by unfold kE kTup; rfl
    | lst es =>
      rw [E.lst.sizeOf_spec] at h
      exact mk_all (se_lst (li (by omega))) (fun sc x k => by unfold kE kLst at k; split at k <;> first | rfl | exact nb k) fun sc op xs p => by unfold kE kLst; rfl
    | sub a i =>
      rw [E.sub.sizeOf_spec] at h
      exact mk_all (se_sub (ih a (by omega)).1 (ih i (by omega)).1) (fun sc x k => by unfold kE kSub at k; split at k <;> first | rfl | exact nb k) fun sc op xs p => by unfold kE kSub; rfl
    | slc a l u =>
      rw [E.slc.sizeOf_spec] at h
      exact mk_all (se_slc (ih a (by omega)).1 (ih l (by omega)).1 (ih u (by omega)).1) (fun sc x k => by unfold kE kSlc at k; split at k <;> first | rfl | exact nb k) fun sc op xs p => by unfold kE kSlc; rfl
    | rev a =>
      rw [E.rev.sizeOf_spec] at h
      exact mk_all (se_rev (ih a (by omega)).1) (fun sc x k => by unfold kE kRev at k; split at k <;> first | rfl | exact nb k) fun sc op xs p => by unfold kE kRev; rfl
    | attr a f =>
      rw [E.attr.sizeOf_spec] at h
      exact mk_all (se_attr (ih a (by omega)).1) (fun sc x k => by unfold kE kAttr at k; split at k <;> first | rfl | exact nb k) fun sc op xs p => by unfold kE kAttr; rfl
    | call f es ks kes =>
      rw [E.call.sizeOf_spec] at h
      exact mk_all (se_call (li (by omega))) (fun sc x k => by
        unfold kE at k
        cases ks <;> cases kes <;> first | exact nb k | skip
        unfold kCall at k
        simp only at k
        split at k <;> first | rfl | exact nb k) fun sc op xs p => by
        unfold kE
        cases ks <;> cases kes <;> rfl
    | mk k es =>
      rw [E.mk.sizeOf_spec] at h
      exact mk_all (se_mk (li (by omega))) (fun sc x k => by unfold kE kMk at k; split at k <;> first | rfl | exact nb k) fun sc op xs p => by unfold kE kMk; rfl
    | meth a m es =>
      rw [E.meth.sizeOf_spec] at h
      exact mk_all (se_meth (ih a (by omega)).1 (li (by omega))) (fun sc x k => by unfold kE kMeth at k; split at k <;> first | rfl | exact nb k) fun sc op xs p => by unfold kE kMeth; rfl
    | blt f es =>
      rw [E.blt.sizeOf_spec] at h
      by_cases hr : ∃ rs, es = [.rng rs]
      · obtain ⟨rs, rfl⟩ := hr
        have h9 : sizeOf rs < n := by
          rw [List.cons.sizeOf_spec, E.rng.sizeOf_spec] at h
          omega
        exact mk_all (se_lrg (li h9)) (fun sc x k => by unfold kE kLrg at k; simp only at k; split at k <;> first | rfl | exact nb k) fun sc op xs p => by unfold kE kLrg; rfl
      · have kb : ∀ sc, kE c sc (.blt f es) = kBlt c sc f (kEs c sc es) := fun sc => by
          unfold kE
          split
          · exact absurd ⟨_, rfl⟩ hr
          · rfl
        exact mk_all (se_blt kb (li (by omega))) (fun sc x k => by rw [kb] at k; unfold kBlt at k; split at k <;> first | rfl | exact nb k) fun sc op xs p => by rw [kb]; unfold kBlt; rfl
    | bm m a es =>
      rw [E.bm.sizeOf_spec] at h
      exact mk_all (se_bm (ih a (by omega)).1) (fun sc x k => by
        unfold kE at k
        cases m <;> cases es <;> first | exact nb k | skip
        unfold kBits at k
        simp only at k
        split at k <;> first | rfl | exact nb k) fun sc op xs p => by
        unfold kE
        cases m <;> cases es <;> rfl
    | inst a ts =>
      rw [E.inst.sizeOf_spec] at h
      exact mk_all (se_inst (ih a (by omega)).1) (fun sc x k => by unfold kE kInst at k; split at k <;> first | rfl | exact nb k) fun sc op xs p => by unfold kE kInst; rfl
    | comp e tg it cs =>
      rw [E.comp.sizeOf_spec] at h
      have hit : IC w c it := by
        by_cases hp : plainI it = true
        · exact ic_seq hp (ih it (by omega)).1
        · cases it with
          | rng es =>
            rw [E.rng.sizeOf_spec] at h
            exact ifc (if_rng (li (by omega))) fun Fx Γ => rng_cf Fx Γ
          | enm a =>
            rw [E.enm.sizeOf_spec] at h
            exact ifc (if_enm (ih a (by omega)).1) fun Fx Γ => enm_cf Fx Γ
          | zip a b =>
            rw [E.zip.sizeOf_spec] at h
            exact ifc (if_zip (ih a (by omega)).1 (ih b (by omega)).1) fun Fx Γ => zip_cf Fx Γ
          | _ => exact absurd rfl hp
      refine mk_all (se_comp (ih e (by omega)).1 (fun d m => (ih d (Nat.lt_trans (mem_lt m) (by omega))).2.1) hit) (fun sc x k => by rw [kE_comp] at k; unfold kComp at k; split at k <;> first | rfl | exact nb k) fun sc op xs p => by rw [kE_comp]; unfold kComp; rfl
    | rng => exact all_false fun sc x => by unfold kE; rfl
    | enm => exact all_false fun sc x => by unfold kE; rfl
    | zip => exact all_false fun sc x => by unfold kE; rfl
theorem SE.all (e : E) : SE w c e := (se_all _ e (Nat.lt_succ_self _)).1
theorem IF.all (it : E) : IF w c it := by
  by_cases hp : plainI it = true
  · exact if_seq hp (SE.all it)
  · cases it with
    | rng es => exact if_rng fun e _ => SE.all e
    | enm a => exact if_enm (SE.all a)
    | zip a b => exact if_zip (SE.all a) (SE.all b)
    | _ => exact absurd rfl hp
theorem IC.all (it : E) : IC w c it := by
  by_cases hp : plainI it = true
  · exact ic_seq hp (SE.all it)
  · cases it with
    | rng es => exact ifc (if_rng fun e _ => SE.all e) fun Fx Γ => rng_cf Fx Γ
    | enm a => exact ifc (if_enm (SE.all a)) fun Fx Γ => enm_cf Fx Γ
    | zip a b => exact ifc (if_zip (SE.all a) (SE.all b)) fun Fx Γ => zip_cf Fx Γ
    | _ => exact absurd rfl hp
theorem ST.all (e : E) : ST w c e := (se_all _ e (Nat.lt_succ_self _)).2.1
end
end MP

end

section
set_option Elab.async false
set_option linter.all false
set_option maxRecDepth 100000
namespace MP
open PySem PySem.Spec L2
/-! ### the state between statements -/
/-- one name -/
def Slot (w : Wd) (xv : XV) (H0 H Hf : Hp) (o : OD) (s : Option (Option V)) (as : List Addr) : Prop :=
  (o = .un ∧ as = []) ∨ ∃ v, s = some (some v) ∧ RepO w xv H Hf o v as ∧ as.Nodup ∧ ∀ a ∈ as, H0 a = none
/-- H0, Hf0: at the def's entry; Hb: what was there before -/
structure J (w : Wd) (xv : XV) (H0 Hf0 Hb : Hp) (Γ : List OD) (σ : L2.St) (H Hf : Hp) : Prop where
  gr : Gr H0 Hf0 H Hf
  hb : Le Hb Hf
  len : Γ.length = σ.length
  own : ∃ A : Nat → List Addr, (∀ i o, Γ[i]? = some o → Slot w xv H0 H Hf o σ[i]? (A i)) ∧ (∀ i, Γ[i]? = none → A i = []) ∧ ∀ i j, i ≠ j → ∀ a ∈ A i, a ∉ A j
section
variable {w : Wd} {xv : XV} {H0 Hf0 Hb : Hp} {Γ : List OD} {σ : L2.St} {H Hf H' Hf' : Hp}
theorem J.at (h : J w xv H0 Hf0 Hb Γ σ H Hf) : At w xv Γ σ H Hf := ⟨h.gr.lf, fun i o e n => by
  obtain ⟨A, h1, _, _⟩ := h.own
  rcases h1 i o e with ⟨z, _⟩ | ⟨v, e1, r, nd, _⟩
  · exact absurd z n
  · exact ⟨v, A i, e1, r, nd⟩, h.len⟩
theorem Slot.mono (hx : XvOk xv) (g : Gr H Hf H' Hf') {o : OD} {s : Option (Option V)} {as : List Addr} (h : Slot w xv H0 H Hf o s as) : Slot w xv H0 H' Hf' o s as := by
  rcases h with h | ⟨v, e, r, n⟩
  · exact .inl h
  · exact .inr ⟨v, e, r.mono hx g, n⟩
theorem J.mono (hx : XvOk xv) (h : J w xv H0 Hf0 Hb Γ σ H Hf) (g : Gr H Hf H' Hf') : J w xv H0 Hf0 Hb Γ σ H' Hf' := by
  obtain ⟨A, h1, h2, h3⟩ := h.own
  exact ⟨h.gr.trans g, h.hb.trans g.ext.le, h.len, A, fun i o e => (h1 i o e).mono hx g, h2, h3⟩
theorem J.weak {Hb2 : Hp} (l : Le Hb2 Hb) (h : J w xv H0 Hf0 Hb Γ σ H Hf) : J w xv H0 Hf0 Hb2 Γ σ H Hf := ⟨h.gr, l.trans h.hb, h.len, h.own⟩
theorem Slot.alive {o : OD} {s : Option (Option V)} {as : List Addr} (h : Slot w xv H0 H Hf o s as) : ∀ a ∈ as, H a ≠ none := by
  rcases h with ⟨_, rfl⟩ | ⟨v, e, r, n⟩
  · intro a m; cases m
  · exact repO_alive r
def updA (A : Nat → List Addr) (i : Nat) (as : List Addr) : Nat → List Addr := fun j => if j = i then as else A j
theorem updA_same {A : Nat → List Addr} {i : Nat} {as : List Addr} : updA A i as i = as := if_pos rfl
theorem updA_ne {A : Nat → List Addr} {i j : Nat} {as : List Addr} (h : ¬ i = j) : updA A i as j = A j := if_neg (Ne.symm h)
theorem get_set {α : Type} {xs : List α} {i j : Nat} {x : α} : (xs.set i x)[j]? = if i = j then (if i < xs.length then some x else none) else xs[j]? := List.getElem?_set
theorem updA_dis {A : Nat → List Addr} {i : Nat} {as : List Addr} (h3 : ∀ i j, i ≠ j → ∀ a ∈ A i, a ∉ A j) (dis : ∀ j, ∀ a ∈ as, a ∈ A j → False) : ∀ j k, j ≠ k → ∀ a ∈ updA A i as j, a ∉ updA A i as k := fun j k ne a m1 m2 => by
  by_cases q1 : i = j
  · subst q1
    rw [updA_same] at m1
    rw [updA_ne ne] at m2
    exact dis k a m1 m2
  · rw [updA_ne q1] at m1
    by_cases q2 : i = k
    · subst q2
      rw [updA_same] at m2
      exact dis j a m2 m1
    · rw [updA_ne q2] at m2
      exact h3 j k ne a m1 m2
/-- what was just reckoned is given a name -/
theorem J.set (hx : XvOk xv) (h : J w xv H0 Hf0 Hb Γ σ H Hf) (g : Gr H Hf H' Hf') {i : Nat} (hi : i < Γ.length) {o : OD} {v : V} (r : Res w xv H H' Hf' false o v) : J w xv H0 Hf0 Hb (Γ.set i o) (σ.set i (some v)) H' Hf' := by
  obtain ⟨A, h1, h2, h3⟩ := h.own
  obtain ⟨as, r1, nd, f⟩ := r
  have f := f rfl
  have hs : i < σ.length := by rw [← h.len]; exact hi
  have dis : ∀ j, ∀ a ∈ as, a ∈ A j → False := fun j a m1 m2 => by
    cases e : Γ[j]? with
    | none => rw [h2 j e] at m2; cases m2
    | some p => exact (h1 j p e).alive a m2 (f a m1)
  refine ⟨h.gr.trans g, h.hb.trans g.ext.le, by rw [List.length_set, List.length_set]; exact h.len, updA A i as, fun j p e => ?_, fun j e => ?_, updA_dis h3 dis⟩
  · rw [get_set] at e
    by_cases q : i = j
    · subst q
      rw [if_pos rfl, if_pos hi] at e
      cases e
      rw [updA_same, get_set, if_pos rfl, if_pos hs]
      exact .inr ⟨v, rfl, r1, nd, fun a m => h.gr.none_of (f a m)⟩
    · rw [if_neg q] at e
      rw [updA_ne q, get_set, if_neg q]
      exact (h1 j p e).mono hx g
  · rw [get_set] at e
    by_cases q : i = j
    · rw [if_pos q, if_pos hi] at e
      cases e
    · rw [if_neg q] at e
      rw [updA_ne q]
      exact h2 j e
/-- a name is forgotten -/
theorem J.clr (h : J w xv H0 Hf0 Hb Γ σ H Hf) (i : Nat) (x : Option V) : J w xv H0 Hf0 Hb (Γ.set i .un) (σ.set i x) H Hf := by
  obtain ⟨A, h1, h2, h3⟩ := h.own
  refine ⟨h.gr, h.hb, by rw [List.length_set, List.length_set]; exact h.len, updA A i [], fun j p e => ?_, fun j e => ?_, updA_dis h3 fun j a m => nomatch m⟩
  · rw [get_set] at e
    by_cases q : i = j
    · subst q
      rw [if_pos rfl] at e
      split at e
      · cases e
        rw [updA_same]
        exact .inl ⟨rfl, rfl⟩
      · cases e
    · rw [if_neg q] at e
      rw [updA_ne q, get_set, if_neg q]
      exact h1 j p e
  · rw [get_set] at e
    by_cases q : i = j
    · subst q
      exact updA_same
    · rw [if_neg q] at e
      rw [updA_ne q]
      exact h2 j e
theorem RepRows.out {u : HO} {b : Addr} : ∀ {rs : List (Bool × List D)} {vs : List V} {as : List Addr}, b ∉ as → RepRows w H Hf rs vs as → RepRows w (upd H b u) Hf rs vs as
  | [], _, _, _, h => h
  | (true, ds) :: rs, vs, as, n, h => by
    obtain ⟨v, r, e, h1, h2⟩ := h
    exact ⟨v, r, e, h1, RepRows.out n h2⟩
  | (false, ds) :: rs, vs, as, n, h => by
    obtain ⟨a, us, r, as', e1, rfl, h1, h2, h3, h4⟩ := h
    have ne : a ≠ b := fun z => n (by rw [z]; exact List.mem_cons_self)
    exact ⟨a, us, r, as', e1, rfl, by rw [upd_ne ne]; exact h1, h2, h3, RepRows.out (fun m => n (List.mem_cons_of_mem _ m)) h4⟩
theorem RepO.out {u : HO} {b : Addr} {o : OD} {v : V} {as : List Addr} (n : b ∉ as) (h : RepO w xv H Hf o v as) : RepO w xv (upd H b u) Hf o v as := by
  cases o with
  | un => exact h
  | fz d => exact h
  | own ds =>
    obtain ⟨a, vs, e1, rfl, h1, h2⟩ := h
    have ne : a ≠ b := fun z => n (by rw [z]; exact List.mem_cons_self)
    exact ⟨a, vs, e1, rfl, by rw [upd_ne ne]; exact h1, h2⟩
  | own2 pp rs =>
    obtain ⟨a, vs, as', e1, rfl, h1, h2, h3, hp⟩ := h
    have ne : a ≠ b := fun z => n (by rw [z]; exact List.mem_cons_self)
    exact ⟨a, vs, as', e1, rfl, by rw [upd_ne ne]; exact h1, h2, h3.out (fun m => n (List.mem_cons_of_mem _ m)), hp⟩
  | oi c fs =>
    obtain ⟨a, dx, fvs, e1, rfl, h1, h2⟩ := h
    have ne : a ≠ b := fun z => n (by rw [z]; exact List.mem_cons_self)
    exact ⟨a, dx, fvs, e1, rfl, by rw [upd_ne ne]; exact h1, h2⟩
  | xv c p => exact h
theorem J.slot (h : J w xv H0 Hf0 Hb Γ σ H Hf) {i : Nat} {o : OD} (e : Γ[i]? = some o) (ne : o ≠ .un) : ∃ v as, σ[i]? = some (some v) ∧ RepO w xv H Hf o v as ∧ as.Nodup ∧ (∀ a ∈ as, H0 a = none) := by
  obtain ⟨A, h1, h2, h3⟩ := h.own
  rcases h1 i o e with ⟨z, _⟩ | ⟨v, e1, r, nd, f⟩
  · exact absurd z ne
  · exact ⟨v, A i, e1, r, nd, f⟩
theorem set_same {α : Type} {xs : List α} {i : Nat} {x : α} (h : xs[i]? = some x) : xs.set i x = xs := by
  apply List.ext_getElem?
  intro j
  rw [get_set]
  by_cases q : i = j
  · subst q
    have := (List.getElem?_eq_some_iff.mp h).1
    rw [if_pos rfl, if_pos this, h]
  · rw [if_neg q]
/-- a list of one's own is rewritten -/
theorem J.upd (h : J w xv H0 Hf0 Hb Γ σ H Hf) {i : Nat} {ds : List D} (e : Γ[i]? = some (.own ds)) :
    ∃ a vs, σ[i]? = some (some (.ref a)) ∧ H a = some (.lst vs) ∧ Hf a = none ∧ Reps w Hf ds vs ∧
      ∀ ds' vs', Reps w Hf ds' vs' → J w xv H0 Hf0 Hb (Γ.set i (.own ds')) σ (upd H a (.lst vs')) Hf := by
  obtain ⟨A, h1, h2, h3⟩ := h.own
  have hi := (List.getElem?_eq_some_iff.mp e).1
  rcases h1 i _ e with ⟨z, _⟩ | ⟨v, e1, r, nd, f⟩
  · cases z
  obtain ⟨a, vs, rfl, eA, q1, q2, q3⟩ := r
  refine ⟨a, vs, e1, q1, q2, q3, fun ds' vs' r' => ?_⟩
  have ha0 : H0 a = none := f a (by rw [eA]; exact List.mem_cons_self)
  have ne0 : ∀ x, H0 x ≠ none → x ≠ a := fun x n z => n (by rw [z]; exact ha0)
  refine ⟨⟨fun x o q => ?_, h.gr.ext, fun x o q => ?_⟩, h.hb, by rw [List.length_set]; exact h.len, A, fun j p q => ?_, fun j q => ?_, h3⟩
  · have : x ≠ a := fun z => by rw [z, ha0] at q; cases q
    rw [upd_ne this]
    exact h.gr.le _ _ q
  · have : x ≠ a := fun z => by rw [z, q2] at q; cases q
    rw [upd_ne this]
    exact h.gr.lf _ _ q
  · rw [get_set] at q
    by_cases z : i = j
    · subst z
      rw [if_pos rfl, if_pos hi] at q
      cases q
      exact .inr ⟨.ref a, e1, ⟨a, vs', rfl, eA, upd_same, q2, r'⟩, nd, f⟩
    · rw [if_neg z] at q
      have na : a ∉ A j := h3 i j z a (by rw [eA]; exact List.mem_cons_self)
      rcases h1 j p q with h | ⟨v, e2, r2, n⟩
      · exact .inl h
      · exact .inr ⟨v, e2, r2.out na, n⟩
  · rw [get_set] at q
    by_cases z : i = j
    · rw [if_pos z, if_pos hi] at q; cases q
    · rw [if_neg z] at q; exact h2 j q
/-- what is not changed any more is frozen -/
theorem J.frz1 (hx : XvOk xv) (h : J w xv H0 Hf0 Hb Γ σ H Hf) {i : Nat} {Γ' : List OD} (e : frzAt Γ i = some Γ') : ∃ Hf', J w xv H0 Hf0 Hb Γ' σ H Hf' := by
  obtain ⟨A, h1, h2, h3⟩ := h.own
  unfold frzAt at e
  split at e
  · rename_i o eo
    obtain ⟨d, ed, rfl⟩ := Option.map_eq_some_iff.mp e
    have hi := (List.getElem?_eq_some_iff.mp eo).1
    rcases h1 i _ eo with ⟨z, _⟩ | ⟨v, e1, r, nd, f⟩
    · subst z; cases ed
    have n := r.none
    have l1 := frzH_le (H := H) n
    have mono : ∀ {o : OD} {v : V} {as : List Addr}, (∀ a ∈ as, a ∉ A i) → RepO w xv H Hf o v as → RepO w xv H (frzH H Hf (A i)) o v as := by
      intro o v as dj r
      have no : ∀ {a : Addr}, a ∈ as → Hf a = none → frzH H Hf (A i) a = none := fun m q => by rw [frzH_out (dj _ m)]; exact q
      cases o with
      | un => exact r
      | fz d => exact ⟨r.1, Rep.mono w l1 _ _ r.2⟩
      | own ds =>
        obtain ⟨a, vs, q1, rfl, q3, q4, q5⟩ := r
        exact ⟨a, vs, q1, rfl, q3, no List.mem_cons_self q4, Reps.mono w l1 _ _ q5⟩
      | own2 pp rs =>
        obtain ⟨a, vs, as', q1, rfl, q3, q4, q5, qp⟩ := r
        refine ⟨a, vs, as', q1, rfl, q3, no List.mem_cons_self q4, ?_⟩
        have rows : ∀ {rs : List (Bool × List D)} {vs : List V} {bs : List Addr}, (∀ a ∈ bs, a ∉ A i) → RepRows w H Hf rs vs bs → RepRows w H (frzH H Hf (A i)) rs vs bs := by
          intro rs
          induction rs with
          | nil => intro vs bs _ h; exact h
          | cons r rs ih =>
            obtain ⟨b, ds⟩ := r
            intro vs bs dj h
            cases b with
            | true =>
              obtain ⟨v, r, e, p1, p2⟩ := h
              exact ⟨v, r, e, Rep.mono w l1 _ _ p1, ih dj p2⟩
            | false =>
              obtain ⟨b, us, r, bs', p0, rfl, p1, p2, p3, p4⟩ := h
              exact ⟨b, us, r, bs', p0, rfl, p1, by rw [frzH_out (dj b List.mem_cons_self)]; exact p2, Reps.mono w l1 _ _ p3, ih (fun a m => dj a (List.mem_cons_of_mem _ m)) p4⟩
        exact ⟨rows (fun a m => dj a (List.mem_cons_of_mem _ m)) q5, qp⟩
      | oi c fs =>
        obtain ⟨a, dx, fvs, q1, rfl, q3, q4, q5⟩ := r
        exact ⟨a, dx, fvs, q1, rfl, q3, no List.mem_cons_self q4, q5.1.mono l1, q5.2⟩
      | xv c p => exact ⟨r.1, hx _ _ _ _ _ l1 r.2⟩
    refine ⟨frzH H Hf (A i), frzH_gr h.gr n f, h.hb.trans l1, by rw [List.length_set]; exact h.len, updA A i [], fun j p q => ?_, fun j q => ?_, updA_dis h3 fun j a m => nomatch m⟩
    · rw [get_set] at q
      by_cases z : i = j
      · subst z
        rw [if_pos rfl, if_pos hi] at q
        cases q
        rw [updA_same]
        exact .inr ⟨v, e1, ⟨rfl, r.frz ed⟩, List.nodup_nil, fun a m => nomatch m⟩
      · rw [if_neg z] at q
        rw [updA_ne z]
        rcases h1 j p q with h | ⟨v, e2, r2, nf⟩
        · exact .inl h
        · exact .inr ⟨v, e2, mono (h3 j i (Ne.symm z)) r2, nf⟩
    · rw [get_set] at q
      by_cases z : i = j
      · rw [if_pos z, if_pos hi] at q; cases q
      · rw [if_neg z] at q
        rw [updA_ne z]
        exact h2 j q
  · cases e
theorem J.frz (hx : XvOk xv) : ∀ {xs : List Nat} {Γ : List OD} {Hf : Hp} {Γ' : List OD}, J w xv H0 Hf0 Hb Γ σ H Hf → frzAll xs Γ = some Γ' → ∃ Hf', J w xv H0 Hf0 Hb Γ' σ H Hf'
  | [], Γ, Hf, Γ', h, e => by cases e; exact ⟨Hf, h⟩
  | x :: xs, Γ, Hf, Γ', h, e => by
    obtain ⟨Γ1, e1, e2⟩ := Option.bind_eq_some_iff.mp e
    obtain ⟨Hf1, h1⟩ := h.frz1 hx e1
    exact J.frz hx h1 e2
/-! ### lists of lists -/
theorem J.put2 (hx : XvOk xv) (h : J w xv H0 Hf0 Hb Γ σ H Hf) {H1 Hf1 : Hp} (g : Gr H Hf H1 Hf1) {i : Nat} {o : OD} (e : Γ[i]? = some o) (ne : o ≠ .un) :
    ∃ v as, σ[i]? = some (some v) ∧ RepO w xv H1 Hf1 o v as ∧ as.Nodup ∧ (∀ a ∈ as, H0 a = Option.none) ∧ (∀ a ∈ as, H a ≠ Option.none) ∧
      ∀ H2 o' as2, (∀ x, x ∉ as → H2 x = H1 x) → RepO w xv H2 Hf1 o' v as2 → as2.Nodup → (∀ x ∈ as2, x ∈ as ∨ H x = Option.none) → J w xv H0 Hf0 Hb (Γ.set i o') σ H2 Hf1 := by
  obtain ⟨A, h1, h2, h3⟩ := h.own
  have hi := (List.getElem?_eq_some_iff.mp e).1
  rcases h1 i _ e with ⟨z, _⟩ | ⟨v, e1, r, nd, f⟩
  · exact absurd z ne
  have al : ∀ a ∈ A i, H a ≠ none := repO_alive r
  have r1 := r.mono hx g
  have n1 := r1.none
  refine ⟨v, A i, e1, r1, nd, f, al, fun H2 o' as2 he r2 nd2 sub => ?_⟩
  have gr1 := h.gr.trans g
  have dis : ∀ j, j ≠ i → ∀ a ∈ as2, a ∈ A j → False := fun j ij a m1 m2 => by
    rcases sub a m1 with m | m
    · exact h3 i j (Ne.symm ij) a m m2
    · cases e : Γ[j]? with
      | none => rw [h2 j e] at m2; cases m2
      | some p => exact (h1 j p e).alive a m2 m
  refine ⟨⟨fun x o q => ?_, gr1.ext, fun x o q => ?_⟩, h.hb.trans g.ext.le, by rw [List.length_set]; exact h.len, updA A i as2, fun j p q => ?_, fun j q => ?_, fun j k jk a m1 m2 => ?_⟩
  · have : x ∉ A i := fun z => by rw [f x z] at q; cases q
    rw [he x this]
    exact gr1.le _ _ q
  · have : x ∉ A i := fun z => by rw [n1 x z] at q; cases q
    rw [he x this]
    exact gr1.lf _ _ q
  · rw [get_set] at q
    by_cases z : i = j
    · subst z
      rw [if_pos rfl, if_pos hi] at q
      cases q
      rw [updA_same]
      refine .inr ⟨v, e1, r2, nd2, fun a m => ?_⟩
      rcases sub a m with m | m
      · exact f a m
      · exact h.gr.none_of m
    · rw [if_neg z] at q
      rw [updA_ne z]
      rcases h1 j p q with h | ⟨u, e2, r3, nf⟩
      · exact .inl h
      · exact .inr ⟨u, e2, (r3.mono hx g).cong fun a m => he a fun m2 => h3 i j z a m2 m, nf⟩
  · rw [get_set] at q
    by_cases z : i = j
    · rw [if_pos z, if_pos hi] at q; cases q
    · rw [if_neg z] at q
      rw [updA_ne z]
      exact h2 j q
  · by_cases q1 : i = j
    · subst q1
      rw [updA_same] at m1
      rw [updA_ne jk] at m2
      exact dis k (Ne.symm jk) a m1 m2
    · rw [updA_ne q1] at m1
      by_cases q2 : i = k
      · subst q2
        rw [updA_same] at m2
        exact dis j jk a m2 m1
      · rw [updA_ne q2] at m2
        exact h3 j k jk a m1 m2
/-- one row -/
def RepRow (w : Wd) (H Hf : Hp) : Bool × List D → V → List Addr → Prop
  | (true, ds), v, as => as = [] ∧ Rep w Hf (.lst ds) v
  | (false, ds), v, as => ∃ a us, v = .ref a ∧ as = [a] ∧ H a = some (.lst us) ∧ Hf a = Option.none ∧ Reps w Hf ds us
theorem RepRows.cons_iff {r : Bool × List D} {rs : List (Bool × List D)} {vs : List V} {as : List Addr} : RepRows w H Hf (r :: rs) vs as ↔ ∃ v vs' bs as', vs = v :: vs' ∧ as = bs ++ as' ∧ RepRow w H Hf r v bs ∧ RepRows w H Hf rs vs' as' := by
  obtain ⟨b, ds⟩ := r
  cases b with
  | true =>
    constructor
    · rintro ⟨v, r, e, h1, h2⟩
      exact ⟨v, r, [], as, e, rfl, ⟨rfl, h1⟩, h2⟩
    · rintro ⟨v, vs', bs, as', rfl, rfl, ⟨rfl, h1⟩, h2⟩
      exact ⟨v, vs', rfl, h1, h2⟩
  | false =>
    constructor
    · rintro ⟨a, us, r, as', e1, e2, h1, h2, h3, h4⟩
      exact ⟨.ref a, r, [a], as', e1, e2, ⟨a, us, rfl, rfl, h1, h2, h3⟩, h4⟩
    · rintro ⟨v, vs', bs, as', rfl, rfl, ⟨a, us, rfl, rfl, h1, h2, h3⟩, h4⟩
      exact ⟨a, us, vs', as', rfl, rfl, h1, h2, h3, h4⟩
theorem RepRow.cong {H2 : Hp} {r : Bool × List D} {v : V} {as : List Addr} (n : ∀ a ∈ as, H2 a = H a) (h : RepRow w H Hf r v as) : RepRow w H2 Hf r v as := by
  obtain ⟨b, ds⟩ := r
  cases b with
  | true => exact h
  | false =>
    obtain ⟨a, us, e1, rfl, h1, h2⟩ := h
    exact ⟨a, us, e1, rfl, by rw [n a List.mem_cons_self]; exact h1, h2⟩
theorem RepRows.length : ∀ {rs : List (Bool × List D)} {vs : List V} {as : List Addr}, RepRows w H Hf rs vs as → vs.length = rs.length
  | [], vs, _, h => by rw [h.1]; rfl
  | r :: rs, vs, as, h => by
    obtain ⟨v, vs', bs, as', rfl, rfl, _, h2⟩ := RepRows.cons_iff.mp h
    rw [List.length_cons, List.length_cons, RepRows.length h2]
theorem RepRows.snoc {r : Bool × List D} {v : V} {bs : List Addr} (hr : RepRow w H Hf r v bs) : ∀ {rs : List (Bool × List D)} {vs : List V} {as : List Addr}, RepRows w H Hf rs vs as → RepRows w H Hf (rs ++ [r]) (vs ++ [v]) (as ++ bs)
  | [], vs, as, h => by
    obtain ⟨rfl, rfl⟩ := h
    exact RepRows.cons_iff.mpr ⟨v, [], bs, [], rfl, (List.append_nil _).symm, hr, rfl, rfl⟩
  | r1 :: rs, vs, as, h => by
    obtain ⟨u, vs', cs, as', rfl, rfl, h1, h2⟩ := RepRows.cons_iff.mp h
    exact RepRows.cons_iff.mpr ⟨u, _, cs, _, rfl, List.append_assoc .., h1, RepRows.snoc hr h2⟩
/-- row k is another one -/
theorem RepRows.setR {r : Bool × List D} {v : V} {bs : List Addr} (hr : RepRow w H Hf r v bs) (nb : bs.Nodup) : ∀ {rs : List (Bool × List D)} {vs : List V} {as : List Addr} {k : Nat}, RepRows w H Hf rs vs as → as.Nodup → (∀ x ∈ bs, x ∉ as) → k < rs.length →
    ∃ as2, RepRows w H Hf (rs.set k r) (vs.set k v) as2 ∧ as2.Nodup ∧ ∀ x ∈ as2, x ∈ as ∨ x ∈ bs
  | [], vs, as, k, h, nd, dj, hk => absurd hk (Nat.not_lt_zero _)
  | r1 :: rs, vs, as, 0, h, nd, dj, hk => by
    obtain ⟨u, vs', cs, as', rfl, rfl, h1, h2⟩ := RepRows.cons_iff.mp h
    refine ⟨bs ++ as', RepRows.cons_iff.mpr ⟨v, vs', bs, as', rfl, rfl, hr, h2⟩, List.nodup_append.mpr ⟨nb, (List.nodup_append.mp nd).2.1, fun a m b m2 z => dj a m (z ▸ List.mem_append_right _ m2)⟩, fun x m => ?_⟩
    rcases List.mem_append.mp m with m | m
    · exact .inr m
    · exact .inl (List.mem_append_right _ m)
  | r1 :: rs, vs, as, k + 1, h, nd, dj, hk => by
    obtain ⟨u, vs', cs, as', rfl, rfl, h1, h2⟩ := RepRows.cons_iff.mp h
    obtain ⟨n1, n2, n3⟩ := List.nodup_append.mp nd
    obtain ⟨as2, k1, k2, k3⟩ := RepRows.setR hr nb h2 n2 (fun x m z => dj x m (List.mem_append_right _ z)) (Nat.lt_of_succ_lt_succ hk)
    refine ⟨cs ++ as2, RepRows.cons_iff.mpr ⟨u, _, cs, as2, rfl, rfl, h1, k1⟩, List.nodup_append.mpr ⟨n1, k2, fun a m b m2 z => ?_⟩, fun x m => ?_⟩
    · subst z
      rcases k3 a m2 with m3 | m3
      · exact n3 a m a m3 rfl
      · exact dj a m3 (List.mem_append_left _ m)
    · rcases List.mem_append.mp m with m | m
      · exact .inl (List.mem_append_left _ m)
      · rcases k3 x m with m | m
        · exact .inl (List.mem_append_right _ m)
        · exact .inr m
/-- row k is rewritten -/
theorem RepRows.updR : ∀ {rs : List (Bool × List D)} {vs : List V} {as : List Addr} {k : Nat} {ds : List D}, RepRows w H Hf rs vs as → as.Nodup → rs[k]? = some (false, ds) →
    ∃ b us, vs[k]? = some (.ref b) ∧ b ∈ as ∧ H b = some (.lst us) ∧ Hf b = Option.none ∧ Reps w Hf ds us ∧ ∀ ds' us', Reps w Hf ds' us' → RepRows w (upd H b (.lst us')) Hf (rs.set k (false, ds')) vs as
  | [], vs, as, k, ds, h, nd, e => by simp at e
  | r1 :: rs, vs, as, 0, ds, h, nd, e => by
    obtain ⟨u, vs', cs, as', rfl, rfl, h1, h2⟩ := RepRows.cons_iff.mp h
    simp at e
    subst e
    obtain ⟨b, us, rfl, rfl, k1, k2, k3⟩ := h1
    refine ⟨b, us, rfl, by simp, k1, k2, k3, fun ds' us' r' => RepRows.cons_iff.mpr ⟨.ref b, vs', [b], as', rfl, rfl, ⟨b, us', rfl, rfl, upd_same, k2, r'⟩, h2.out ?_⟩⟩
    exact (List.nodup_cons.mp nd).1
  | r1 :: rs, vs, as, k + 1, ds, h, nd, e => by
    obtain ⟨u, vs', cs, as', rfl, rfl, h1, h2⟩ := RepRows.cons_iff.mp h
    obtain ⟨n1, n2, n3⟩ := List.nodup_append.mp nd
    obtain ⟨b, us, k1, k2, k3, k4, k5, k6⟩ := RepRows.updR h2 n2 (by simpa using e)
    refine ⟨b, us, by simpa using k1, List.mem_append_right _ k2, k3, k4, k5, fun ds' us' r' => RepRows.cons_iff.mpr ⟨u, vs', cs, as', rfl, rfl, h1.cong fun a m => ?_, k6 ds' us' r'⟩⟩
    exact upd_ne fun z => n3 a m b k2 z
/-- a row that was just reckoned -/
theorem Res.row {H0 H Hf : Hp} {o : OD} {v : V} {r : Bool × List D} (h : Res w xv H0 H Hf false o v) (e : rowO o = some r) : ∃ bs, RepRow w H Hf r v bs ∧ bs.Nodup ∧ ∀ a ∈ bs, H0 a = Option.none := by
  obtain ⟨as, r1, nd, f⟩ := h
  cases o with
  | own ds =>
    cases e
    obtain ⟨a, vs, e1, rfl, h1, h2, h3⟩ := r1
    exact ⟨[a], ⟨a, vs, e1, rfl, h1, h2, h3⟩, nd, f rfl⟩
  | fz d =>
    cases d with
    | lst ds =>
      cases e
      exact ⟨[], ⟨rfl, r1.2⟩, List.nodup_nil, fun a m => nomatch m⟩
    | _ => cases e
  | _ => cases e
/-- all rows are frozen -/
theorem RepRows.frzA {Hf' : Hp} (l : Le Hf Hf') {rs : List (Bool × List D)} : ∀ {vs : List V} {as : List Addr}, RepRows w H Hf rs vs as → (∀ a ∈ as, Hf' a = H a) → RepRows w H Hf' (rs.map fun r => (true, r.2)) vs [] := by
  induction rs with
  | nil => intro vs as h _; exact ⟨h.1, rfl⟩
  | cons r rs ih =>
    intro vs as h f
    obtain ⟨u, vs', cs, as', rfl, rfl, h1, h2⟩ := RepRows.cons_iff.mp h
    refine ⟨u, vs', rfl, ?_, ih h2 fun a m => f a (List.mem_append_right _ m)⟩
    obtain ⟨b, ds⟩ := r
    cases b with
    | true => exact Rep.mono w l _ _ h1.2
    | false =>
      obtain ⟨a, us, rfl, rfl, k1, k2, k3⟩ := h1
      exact Rep.lst_iff.mpr ⟨a, us, rfl, .inl (by rw [f a (by simp)]; exact k1), Reps.mono w l _ _ k3⟩
theorem updA_dis2 {A : Nat → List Addr} {i : Nat} {as : List Addr} (h3 : ∀ i j, i ≠ j → ∀ a ∈ A i, a ∉ A j) (dis : ∀ j, j ≠ i → ∀ a ∈ as, a ∈ A j → False) : ∀ j k, j ≠ k → ∀ a ∈ updA A i as j, a ∉ updA A i as k := fun j k ne a m1 m2 => by
  by_cases q1 : i = j
  · subst q1
    rw [updA_same] at m1
    rw [updA_ne ne] at m2
    exact dis k (Ne.symm ne) a m1 m2
  · rw [updA_ne q1] at m1
    by_cases q2 : i = k
    · subst q2
      rw [updA_same] at m2
      exact dis j ne a m2 m1
    · rw [updA_ne q2] at m2
      exact h3 j k ne a m1 m2
theorem J.frz2 (hx : XvOk xv) (h : J w xv H0 Hf0 Hb Γ σ H Hf) {i : Nat} {Γ' : List OD} (e : frz2At Γ i = some Γ') : ∃ Hf', J w xv H0 Hf0 Hb Γ' σ H Hf' := by
  unfold frz2At at e
  split at e
  · rename_i p rs eo
    cases e
    obtain ⟨A, h1, h2, h3⟩ := h.own
    have hi := (List.getElem?_eq_some_iff.mp eo).1
    rcases h1 i _ eo with ⟨z, _⟩ | ⟨v, e1, r, nd, f⟩
    · cases z
    obtain ⟨a, vs, as', rfl, eA, q1, q2, q3, q4⟩ := r
    have f' : ∀ x ∈ as', H0 x = Option.none := fun x m => f x (by rw [eA]; exact List.mem_cons_of_mem _ m)
    have n := q3.none
    have l1 := frzH_le (H := H) n
    have na : a ∉ as' := by rw [eA] at nd; exact (List.nodup_cons.mp nd).1
    have mono : ∀ {o : OD} {v : V} {bs : List Addr}, (∀ x ∈ bs, x ∉ as') → RepO w xv H Hf o v bs → RepO w xv H (frzH H Hf as') o v bs := by
      intro o v bs dj r
      have no : ∀ {x : Addr}, x ∈ bs → Hf x = Option.none → frzH H Hf as' x = Option.none := fun m q => by rw [frzH_out (dj _ m)]; exact q
      cases o with
      | un => exact r
      | fz d => exact ⟨r.1, Rep.mono w l1 _ _ r.2⟩
      | own ds =>
        obtain ⟨a, vs, q1, rfl, q3, q4, q5⟩ := r
        exact ⟨a, vs, q1, rfl, q3, no List.mem_cons_self q4, Reps.mono w l1 _ _ q5⟩
      | own2 pp rs =>
        obtain ⟨a, vs, cs, q1, rfl, q3, q4, q5, qp⟩ := r
        refine ⟨a, vs, cs, q1, rfl, q3, no List.mem_cons_self q4, ?_, qp⟩
        have rows : ∀ {rs : List (Bool × List D)} {vs : List V} {bs : List Addr}, (∀ x ∈ bs, x ∉ as') → RepRows w H Hf rs vs bs → RepRows w H (frzH H Hf as') rs vs bs := by
          intro rs
          induction rs with
          | nil => intro vs bs _ h; exact h
          | cons r rs ih =>
            obtain ⟨b, ds⟩ := r
            intro vs bs dj h
            cases b with
            | true =>
              obtain ⟨v, r, e, p1, p2⟩ := h
              exact ⟨v, r, e, Rep.mono w l1 _ _ p1, ih dj p2⟩
            | false =>
              obtain ⟨b, us, r, bs', p0, rfl, p1, p2, p3, p4⟩ := h
              exact ⟨b, us, r, bs', p0, rfl, p1, by rw [frzH_out (dj b List.mem_cons_self)]; exact p2, Reps.mono w l1 _ _ p3, ih (fun a m => dj a (List.mem_cons_of_mem _ m)) p4⟩
        exact rows (fun x m => dj x (List.mem_cons_of_mem _ m)) q5
      | oi c fs =>
        obtain ⟨a, dx, fvs, q1, rfl, q3, q4, q5⟩ := r
        exact ⟨a, dx, fvs, q1, rfl, q3, no List.mem_cons_self q4, q5.1.mono l1, q5.2⟩
      | xv c p => exact ⟨r.1, hx _ _ _ _ _ l1 r.2⟩
    refine ⟨frzH H Hf as', frzH_gr h.gr n f', h.hb.trans l1, by rw [List.length_set]; exact h.len, updA A i [a], fun j p q => ?_, fun j q => ?_, updA_dis2 h3 fun j ji x m m2 => ?_⟩
    · rw [get_set] at q
      by_cases z : i = j
      · subst z
        rw [if_pos rfl, if_pos hi] at q
        cases q
        rw [updA_same]
        refine .inr ⟨.ref a, e1, ⟨a, vs, [], rfl, rfl, q1, by rw [frzH_out na]; exact q2, q3.frzA l1 fun b m => frzH_in m, q4⟩, by simp, fun x m => ?_⟩
        rw [List.mem_singleton.mp m]
        exact f a (by rw [eA]; exact List.mem_cons_self)
      · rw [if_neg z] at q
        rw [updA_ne z]
        rcases h1 j p q with h | ⟨v, e2, r2, nf⟩
        · exact .inl h
        · exact .inr ⟨v, e2, mono (fun x m m2 => h3 i j z x (by rw [eA]; exact List.mem_cons_of_mem _ m2) m) r2, nf⟩
    · rw [get_set] at q
      by_cases z : i = j
      · rw [if_pos z, if_pos hi] at q; cases q
      · rw [if_neg z] at q
        rw [updA_ne z]
        exact h2 j q
    · rw [List.mem_singleton.mp m] at m2
      exact h3 i j (Ne.symm ji) a (by rw [eA]; exact List.mem_cons_self) m2
  · cases e; exact ⟨Hf, h⟩
  · cases e
end
end MP

end

section
set_option Elab.async false
set_option linter.all false
set_option maxRecDepth 100000
namespace MP
open PySem PySem.Spec L2
theorem look_zip_at {α : Type} : ∀ {ps : List Str} {us : List α} {i : Nat} {x : Str} {u : α}, ps.Nodup → ps[i]? = some x → us[i]? = some u → (ps.zip us).lookup x = some u
  | [], _, _, _, _, _, e, _ => by simp at e
  | p :: ps, [], _, _, _, _, _, e => by simp at e
  | p :: ps, v :: us, i, x, u, nd, e1, e2 => by
    obtain ⟨n1, n2⟩ := List.nodup_cons.mp nd
    cases i with
    | zero => simp at e1 e2; subst e1 e2; simp
    | succ i =>
      simp only [List.getElem?_cons_succ] at e1 e2
      have ne : x ≠ p := fun z => n1 (by rw [← z]; exact List.mem_of_getElem? e1)
      rw [List.zip_cons_cons, List.lookup_cons, beq_false_of_ne ne]
      exact look_zip_at n2 e1 e2
theorem look_zip_no {α : Type} : ∀ {ps : List Str} {us : List α} {i : Nat} {x : Str}, ps.Nodup → ps[i]? = some x → us.length ≤ i → (ps.zip us).lookup x = none
  | [], _, _, _, _, e, _ => by simp at e
  | p :: ps, [], _, _, _, _, _ => by simp
  | p :: ps, v :: us, i, x, nd, e1, e2 => by
    obtain ⟨n1, n2⟩ := List.nodup_cons.mp nd
    cases i with
    | zero => simp at e2
    | succ i =>
      simp only [List.getElem?_cons_succ, List.length_cons] at e1 e2
      have ne : x ≠ p := fun z => n1 (by rw [← z]; exact List.mem_of_getElem? e1)
      rw [List.zip_cons_cons, List.lookup_cons, beq_false_of_ne ne]
      exact look_zip_no n2 e1 (by omega)
theorem zip_snoc {α : Type} : ∀ {ps : List Str} {us : List α} {x : Str} {u : α}, ps[us.length]? = some x → ps.zip us ++ [(x, u)] = ps.zip (us ++ [u])
  | [], us, _, _, e => by simp at e
  | p :: ps, [], x, u, e => by simp at e; subst e; simp
  | p :: ps, v :: us, x, u, e => by
    simp only [List.length_cons, List.getElem?_cons_succ] at e
    rw [List.zip_cons_cons, List.cons_append, zip_snoc e, List.cons_append, List.zip_cons_cons]
theorem fm_zip {α : Type} {ps : List Str} (nd : ps.Nodup) {us : List α} (hl : us.length = ps.length) : (ps.filterMap fun n => ((ps.zip us).lookup n).map fun v => (n, v)) = ps.zip us := by
  have key : ∀ (qs : List Str) (vs : List α), vs.length = qs.length → (∀ (i : Nat) (x : Str) (v : α), qs[i]? = some x → vs[i]? = some v → (ps.zip us).lookup x = some v) → (qs.filterMap fun n => ((ps.zip us).lookup n).map fun v => (n, v)) = qs.zip vs := by
    intro qs
    induction qs with
    | nil => intro vs _ _; rfl
    | cons q qs ih =>
      intro vs hl h
      cases vs with
      | nil => simp at hl
      | cons v vs =>
        rw [List.filterMap_cons, h 0 q v rfl rfl]
        show (q, v) :: _ = _
        rw [ih vs (by simpa using hl) fun i x u e1 e2 => h (i + 1) x u (by simpa using e1) (by simpa using e2)]
        rfl
  exact key ps us hl fun i x v e1 e2 => look_zip_at nd e1 e2
/-- the loop over the defaults -/
theorem dfl_loop {ps : List Str} (nd : ps.Nodup) : ∀ (l : List (Str × Value)) (us : List Value) (i : Nat) (its : List Value), i ≤ us.length → (∀ k q, l[k]? = some q → ps[i + k]? = some q.1 ∧ its[k]? = some q.2) → l.length = its.length → us.length ≤ i + its.length →
    (forIn l (ps.zip us) fun (q : Str × Value) (slots : List (Str × Value)) => (if (slots.lookup q.1).isNone = true then pure (ForInStep.yield (slots ++ [(q.1, q.2)])) else pure (ForInStep.yield slots) : Sem (ForInStep (List (Str × Value))))) = (pure (ps.zip (us ++ its.drop (us.length - i))) : Sem (List (Str × Value)))
  | [], us, i, its, h, _, hl, h2 => by
    have : its = [] := List.length_eq_zero_iff.mp hl.symm
    subst this
    simp
  | q :: l, us, i, its, h, hq, hl, h2 => by
    cases its with
    | nil => simp at hl
    | cons d its =>
      obtain ⟨e1, e2⟩ := hq 0 q rfl
      have e2 : d = q.2 := by simpa using e2
      subst e2
      rw [Nat.add_zero] at e1
      rw [List.forIn_cons]
      by_cases lt : i < us.length
      · have e3 : ((ps.zip us).lookup q.1).isNone = false := by
          rw [look_zip_at nd e1 (List.getElem?_eq_getElem lt)]; rfl
        rw [e3]
        simp only [Bool.false_eq_true, if_false, pure_bind]
        rw [dfl_loop nd l us (i + 1) its lt (fun k p e => by
          obtain ⟨a, b⟩ := hq (k + 1) p (by simpa using e)
          exact ⟨by rw [show i + 1 + k = i + (k + 1) by omega]; exact a, by simpa using b⟩) (by simpa using hl) (by simp at h2; omega)]
        have : us.length - i = (us.length - (i + 1)) + 1 := by omega
        rw [this, List.drop_succ_cons]
      · have e4 : i = us.length := by omega
        subst e4
        have e3 : ((ps.zip us).lookup q.1).isNone = true := by rw [look_zip_no nd e1 (Nat.le_refl _)]; rfl
        rw [e3]
        simp only [if_true, pure_bind]
        rw [zip_snoc e1]
        have := dfl_loop nd l (us ++ [q.2]) (us.length + 1) its (by simp) (fun k p e => by
          obtain ⟨a, b⟩ := hq (k + 1) p (by simpa using e)
          exact ⟨by rw [show us.length + 1 + k = us.length + (k + 1) by omega]; exact a, by simpa using b⟩) (by simpa using hl) (by simp)
        rw [this]
        simp
theorem bind_pos {x qual : Str} {as : List PySem.Arg} {kd : List (Option Expr)} {d : List Expr} {body : List Stmt} {scope : Scope} {dV kV doc pm : Value} {an : Option Addr} {cdv ct : Value} {us : List Value} (nd : (as.map (·.arg)).Nodup) (h1 : us.length ≤ as.length) :
    ∃ k, bindArgs (PySem.W.fnOf x qual ⟨[], as, none, [], kd, none, d⟩ body scope dV kV doc pm an cdv ct) ⟨us, []⟩ = seqItems? dV >>= k ∧
      ∀ (o : Option (Array Value)) (its : List Value), (o.getD #[]).toList = its → its.length ≤ as.length → as.length ≤ us.length + its.length → k o = pure ((as.map (·.arg)).zip (us ++ its.drop (us.length - (as.length - its.length)))) := by
  refine ⟨_, by unfold bindArgs PySem.W.fnOf; simp only [List.map_nil, List.nil_append, List.append_nil, List.forIn_nil, pure_bind]; rfl, fun o its eo h2 h3 => ?_⟩
  have hl : (as.map (·.arg)).length = as.length := List.length_map ..
  simp only [eo, hl]
  generalize hps : as.map (·.arg) = ps at *
  have c1 : (decide (us.length > as.length) && (none : Option PySem.Arg).isNone) = false := by
    rw [Bool.and_eq_false_iff]
    exact .inl (decide_eq_false (by omega))
  have c0 : its.length - as.length = 0 := by omega
  have c2 : (List.filter (fun n => (List.lookup n (ps.zip us)).isNone) (List.take (as.length - its.length) ps)) = [] := by
    rw [List.filter_eq_nil_iff]
    intro n m
    obtain ⟨i, hi⟩ := List.getElem?_of_mem m
    have hi2 := (List.getElem?_eq_some_iff.mp hi).1
    rw [List.length_take] at hi2
    rw [List.getElem?_take_of_lt (by omega)] at hi
    rw [look_zip_at nd hi (List.getElem?_eq_getElem (by omega))]
    simp
  rw [c1, c0]
  simp only [List.drop_zero, c2, List.isEmpty_nil, Bool.not_true, Bool.false_eq_true, if_false]
  have hz : ∀ (k : Nat) (q : Str × Value), ((ps.drop (as.length - its.length)).zip its)[k]? = some q → ps[as.length - its.length + k]? = some q.1 ∧ its[k]? = some q.2 := by
    intro k q e
    obtain ⟨e1, e2⟩ := List.getElem?_zip_eq_some.mp e
    rw [List.getElem?_drop] at e1
    exact ⟨e1, e2⟩
  have hzl : ((ps.drop (as.length - its.length)).zip its).length = its.length := by
    rw [List.length_zip, List.length_drop]
    omega
  rw [dfl_loop nd _ us (as.length - its.length) its (by omega) hz hzl (by omega)]
  simp only [pure_bind]
  rw [fm_zip nd (by rw [List.length_append, List.length_drop]; omega)]
/-- f(e, ..): what is written, then the defaults -/
theorem bindsD {K : PySem.W.Frag} {x qual : Str} {as : List PySem.Arg} {kd : List (Option Expr)} {d : List Expr} {body : List Stmt} {scope : Scope} {dvs : List V} {kws : List (Str × V)} {f : Addr} {fd : FuncData} (F : FunD K x qual ⟨[], as, none, [], kd, none, d⟩ body scope dvs kws f fd)
    (nd : (as.map (·.arg)).Nodup) (j : Nat) (h1 : j ≤ as.length) (h2 : dvs.length ≤ as.length) (h3 : as.length ≤ j + dvs.length) :
    ∃ ds, Vals (dvs.drop (j - (as.length - dvs.length))) ds ∧ ∀ (s : Shared) (us : List Value), K.In s.heap → us.length = j → BindsTo s fd ⟨us, []⟩ ((as.map (·.arg)).zip (us ++ ds)) := by
  obtain ⟨oc, od, dV, kV, doc, pm, an, cdv, ct, osl, rfl, lk, hcd, hD, hK⟩ := F.ex
  rcases hD with ⟨rfl, rfl⟩ | ⟨_, T, o, its, m, rfl, lT, oT, rT⟩
  · refine ⟨[], by simp; exact .nil, fun s us X hl => .of_eq ?_⟩
    obtain ⟨k, e1, e2⟩ := bind_pos (x := x) (qual := qual) (kd := kd) (d := d) (body := body) (scope := scope) (dV := .none) (kV := kV) (doc := doc) (pm := pm) (an := an) (cdv := cdv) (ct := ct) (us := us) nd (by omega)
    have e3 := e2 none [] rfl (Nat.zero_le _) (by simp at h3; simp; omega)
    rw [e1]
    rw [show seqItems? .none = pure none from rfl, pure_bind, e3]
    simp
  · have l1 := rT.length
    refine ⟨its.drop (j - (as.length - dvs.length)), rT.drop _, fun s us X hl => L2.BindsTo.of_looks fun M => ?_⟩
    obtain ⟨k, e1, e2⟩ := bind_pos (x := x) (qual := qual) (kd := kd) (d := d) (body := body) (scope := scope) (dV := .ref T) (kV := kV) (doc := doc) (pm := pm) (an := an) (cdv := cdv) (ct := ct) (us := us) nd (by omega)
    rw [e1]
    refine looks_items X lT oT (.of_pure ?_)
    rw [e2 (some its.toArray) its (by simp) (by omega) (by omega), hl, l1]
theorem bindsN0 {K : PySem.W.Frag} {x qual : Str} {as : List PySem.Arg} {kd : List (Option Expr)} {d : List Expr} {body : List Stmt} {scope : Scope} {kws : List (Str × V)} {f : Addr} {fd : FuncData} (F : FunD K x qual ⟨[], as, none, [], kd, none, d⟩ body scope [] kws f fd)
    (nd : (as.map (·.arg)).Nodup) (s : Shared) (us : List Value) (hl : us.length = as.length) : BindsTo s fd ⟨us, []⟩ ((as.map (·.arg)).zip us) := by
  obtain ⟨oc, od, dV, kV, doc, pm, an, cdv, ct, osl, rfl, lk, hcd, hD, hK⟩ := F.ex
  rcases hD with ⟨_, rfl⟩ | ⟨e, _⟩
  · refine .of_eq ?_
    obtain ⟨k, e1, e2⟩ := bind_pos (x := x) (qual := qual) (kd := kd) (d := d) (body := body) (scope := scope) (dV := .none) (kV := kV) (doc := doc) (pm := pm) (an := an) (cdv := cdv) (ct := ct) (us := us) nd (by omega)
    have e3 := e2 none [] rfl (Nat.zero_le _) (by simp; omega)
    rw [e1]
    rw [show seqItems? .none = pure none from rfl, pure_bind, e3]
    simp
  · exact absurd rfl e
end MP

end

section
set_option Elab.async false
set_option linter.all false
set_option maxRecDepth 100000
set_option maxHeartbeats 2000000
/-! an own error whose __init__ says super().__init__('..') and keeps one field -/
namespace PySem
namespace ErrX
open PySem.W PySem.Calls PyProof.Rows PySem.HandSPX
/-- the text of such an __init__: the parameters' names, the field -/
def initTx (f : Str) (a : Arguments) (b : List Stmt) (sc : Scope) : Option (Str × Str) := match a, b with
  | ⟨[], [⟨s1, _, _⟩, ⟨x1, _, _⟩], none, [], _, none, _⟩, [.Expr (.Call (.Attribute (.Call (.Name su _) [] [] _) ini ap) [.Constant (.str _) _ _] [] cp) _, .Assign [.Attribute (.Name s2 _) f2 _] (.Name x2 _) _] =>
    if su = ("super" : Str) ∧ ini = ("__init__" : Str) ∧ s2 = s1 ∧ x2 = x1 ∧ f2 = f ∧ s1 ≠ x1 ∧ (ap.endLine == cp.line) = true ∧ (s1 == ("__debug__" : Str)) = false ∧ (x1 == ("__debug__" : Str)) = false ∧ sc.kind = .function ∧ sc.isCoroutine = false ∧ sc.isGenerator = false ∧ (sc.names.all fun y => decide (y.2 ≠ .cell)) = true ∧
      sc.names.lookup s1 = some .local ∧ sc.names.lookup x1 = some .local ∧ sc.names.lookup ("super" : Str) = some .globalImplicit ∧ sc.names.lookup ("__class__" : Str) = some .free then some (s1, x1) else none
  | _, _ => none
/-- what the written part says of the class, at C, and of its __init__, at fI; the cell of its class at cc -/
structure ErrTxt (prog : Program) (K : Frag) (mg : Str → Option Value) (C fI : Addr) (f : Str) : Prop where
  cls : ∃ nm q N bs bm sn sub ab col dd k0 k1 k2 k3 k5, K.lookup C = some (excClassObj nm q C N bs bm true sn sub ab col dd k0 k1 k2 k3 k5 "ValueError.__new__") ∧ refsVE bm = true
  sa : findIn K (.ref C) "__setattr__" = some (some (.builtin "object.__setattr__"))
  noN : findIn K (.ref C) f = some none
  iC : findIn K (.ref C) "__init__" = some (some (.ref fI))
  tC : typeIn K (.ref fI) = some (.type "function")
  kC : keepIn K (.ref C) = true
  exC : subIn K (.ref C) (.type "BaseException") = some true
  veC : subIn K (.ref C) (.type "ValueError") = some true
  tyC : typeIn K (.ref C) = some (.type "type")
  mro : mroIn K C (.ref C) = some true
  sup : ks_superIn K C C "__init__" = some (some (.builtin "ValueError.__init__"))
  opq : nsIn K cStatics "thirdparty.any" = some none
  fn : ∃ (oc : Value) (od : Option Addr) (name qual : Str) (a : Arguments) (b : List Stmt) (sc : Scope) (kV doc pm ct : Value) (an : Option Addr) (cda cc : Addr) (osl : Array (Option Value)) (s1 x1 : Str) (ccl : Value) (cdd : Option Addr) (vs : Array Value) (ccs : Array (Option Value)) (file : Str) (tf : Tok) (cl : Value) (cld : Option Addr) (csl : Array (Option Value)),
    K.lookup fI = some ⟨oc, od, .func (ksFn name qual a b sc .none kV doc pm an (.ref cda) ct cc), osl⟩ ∧ codeIn K (.ref cda) qual = true ∧ initTx f a b sc = some (s1, x1) ∧
    K.lookup cda = some ⟨ccl, cdd, .fields vs, ccs⟩ ∧ vs[2]? = some (.str file tf) ∧ ((prog.main.file : Str) == file) = true ∧ K.lookup cc = some ⟨cl, cld, .cell (some (.ref C)), csl⟩
  noS : mg "super" = none
  htop : (prog.main.scope.names.lookup ("super" : Str)).isSome = false
theorem one_size (v : Value) : [v].length ≤ sizeLine := by
  rw [sizeLine_eq]
  exact (by decide : 1 ≤ 16777216)
section
variable {prog : Program} {w : World} {A : Around} {E : Value → Shared → Prop} {h : Heap} {g : Array GenState} {d : Drawn} {t : Nat} {os : OsState}
variable {nm q : Str} {C N : Addr} {bs bm : List Value} {hdct : Bool} {sn : List Str} {sub : List Value} {ab : Bool} {col : Option Bool} {dd : Option Addr} {k0 k1 k2 k3 k5 : Option Value}
/-- ValueError.__init__ bound to the new error, called -/
theorem call_mw {u e t0 : Addr} {rest : List Value} {Q : Value → Shared → Prop}
    (hC : h.get? C = some (excClassObj nm q C N bs bm hdct sn sub ab col dd k0 k1 k2 k3 k5 "ValueError.__new__")) (he : h.get? e = some (excO C t0)) (hu : h.get? u = some (kxs_mw "ValueError.__init__" e)) (hrest : rest.length ≤ sizeLine)
    (hq : ∀ h' t1, (∀ b o, b ≠ e → h.get? b = some o → h'.get? b = some o) → h'.get? e = some (excO C t1) → Q .none ⟨h', g, d, t, os⟩) :
    wpAny (model prog w) A (call (.ref u) rest) Q E ⟨h, g, d, t, os⟩ := by
  refine wpAny_call (codeAny_of_tree ?_)
  show wpAny _ A.in1 (callAny (.ref u) ⟨rest, []⟩) _ _ _
  simp only [callAny]
  refine wpAny_bind (wpAny_load hu ?_)
  simp only [kxs_mw, show (Value.type "method-wrapper" == Value.type "method" || Value.type "method-wrapper" == Value.type "builtin_function_or_method" || Value.type "method-wrapper" == Value.type "method-wrapper") = true by decide, if_true]
  refine KFB.if_so (by decide) ?_
  refine wpAny_bind (check_bound_init F.excBase_ValueError.toExcCallFacts hC he rfl ?_)
  refine wpAny_bind (wpAny_pure (wpAny_pure ?_))
  refine ⟨plainId_quiet F.excBase_ValueError.init.plain _, codeAny_builtin F.excBase_ValueError.initEntry ?_⟩
  rw [Around.under_plainId F.excBase_ValueError.init.plain _]
  wp_walk
  refine hq _ h.objs.size (fun b o hb ho => ?_) ?_
  · rw [Heap.get?_update_other _ _ (Ne.symm hb)]
    exact Heap.get?_push_of_some _ ho
  · rw [Heap.get?_update_self _ (Heap.get?_push_of_some _ he) rfl]
    rfl
end
/-- what __init__ leaves of a fresh exception at x -/
structure InitEnd (h h' : Heap) (f : Str) (x C dx t1 : Addr) (v : Value) : Prop where
  keep : ∀ b o, b ≠ x → h.get? b = some o → h'.get? b = some o
  obj : h'.get? x = some { cls := .ref C, dict := some dx, data := .fields #[.ref t1, .none, .none, .none, .bool false, .none] }
  dbig : h.objs.size ≤ dx
  dne : dx ≠ x
  ns : h'.Ns1 dx (fun y => if y = f then some v else none)
section
variable {prog : Program} {w : World} {A : Around} {E : Value → Shared → Prop} {R : Result → Shared → Prop} {s : Shared} {K : Frag} {mg : Str → Option Value} {C fI : Addr} {f : Str}
theorem wpAt_mcall {c : Code} {env : Env} {o : Expr} {name : Str} {apos pos : Pos} {args : List Expr} {Q : Value → Shared → Prop}
    (hfew : ((backTo pos (starEach args env)).all (fun x => !x.1) && (backToKw pos (keywordEach [] env)).all (fun x => x.1.isSome)
      && decide (args.length + ([] : List Keyword).length + (if ([] : List Keyword).isEmpty then 0 else 1) < 30)) = true)
    (hline : (apos.endLine == pos.line) = true)
    (h : _root_.PySem.wpAt (model prog w) A c (attributeBase o name env (eval o env)) (fun ov s₁ => ∀ pl, wpAny (model prog w) A (getMethod ov name pl) (fun fx s₂ => wpAny (model prog w) A (callWith pos fx.1 fx.2 (backTo pos (starEach args env)) []) Q E s₂) E s₁) E s) :
    _root_.PySem.wpAt (model prog w) A c (eval (.Call (.Attribute o name apos) args [] pos) env) Q E s := by
  rw [arm_eval_Call]
  refine _root_.PySem.wpAt_bind (_root_.PySem.wpAt_mono h (fun ov s₁ h₁ => _root_.PySem.wpAt_of_wpAny (wpAny_bind (wpAny_standAt ?_))) fun _ _ e => e)
  have hform : methodCallForm (args.length + ([] : List Keyword).length) (backTo pos (starEach args env)) (backToKw pos (keywordEach [] env)) = true := hfew
  have hpos : methodCallPos true o env apos pos = pure pos := by unfold methodCallPos; simp [hline]
  unfold methodCall
  rw [hform]
  refine wpAny_bind (wpAny_holding (wpAny_mono (h₁ _) (fun fx s₂ h₂ => ?_) fun _ _ e => e))
  exact wpAny_bind (wpAny_of_eq hpos h₂)
theorem initTx_ok {f : Str} {a : Arguments} {b : List Stmt} {sc : Scope} {s1 x1 : Str} (h : initTx f a b sc = some (s1, x1)) :
    ∃ an1 p1 an2 p2 kd dfl p3 p4 p5 m j p6 p7 p8 p9 p10 p11 p12, a = ⟨[], [⟨s1, an1, p1⟩, ⟨x1, an2, p2⟩], none, [], kd, none, dfl⟩ ∧
      b = [.Expr (.Call (.Attribute (.Call (.Name "super" p3) [] [] p4) "__init__" p5) [.Constant (.str m) j p6] [] p7) p8, .Assign [.Attribute (.Name s1 p9) f p10] (.Name x1 p11) p12] ∧
      s1 ≠ x1 ∧ (p5.endLine == p7.line) = true ∧ (s1 == ("__debug__" : Str)) = false ∧ (x1 == ("__debug__" : Str)) = false ∧ sc.kind = .function ∧ sc.isCoroutine = false ∧ sc.isGenerator = false ∧ (∀ y ∈ sc.names, y.2 ≠ .cell) ∧
      sc.names.lookup s1 = some .local ∧ sc.names.lookup x1 = some .local ∧ sc.names.lookup ("super" : Str) = some .globalImplicit ∧ sc.names.lookup ("__class__" : Str) = some .free := by
  unfold initTx at h
  split at h
  · split at h
    · rename_i hh
      obtain ⟨h1, h2, h3, h4, h5, h6, h6l, h7, h8, h9, h10, h11, h12, h13, h14, h15, h16⟩ := hh
      subst h1 h2 h3 h4 h5
      cases h
      exact ⟨_, _, _, _, _, _, _, _, _, _, _, _, _, _, _, _, _, _, rfl, rfl, h6, h6l, h7, h8, h9, h10, h11, fun y hy => of_decide_eq_true (List.all_eq_true.mp h12 y hy), h13, h14, h15, h16⟩
    · cases h
  · cases h
theorem err_init (T : ErrTxt prog K mg C fI f) {x t0 : Addr} {v : Value} (X : K.In s.heap) (G : s.heap.Ns mainGlobals mg) (B : ∃ mb, s.heap.Ns builtinsNs mb ∧ ∀ x : Str, x ≠ "__name__" → mb x = bootBuiltins x) (hlim : s.heap.NoLimit) (hx : s.heap.get? x = some (excO C t0)) (hnx : K.lookup x = none) (hroom : A.depth < recursionLimit)
    (hq : ∀ h' tk dx t1, InitEnd s.heap h' f x C dx t1 v → R (.ok (.ret .none)) { s with heap := h', toks := tk }) :
    codeAny (model prog w) A (.call (.ref fI) ⟨[.ref x, v], []⟩) R s := by
  obtain ⟨oc, od, name, qual, a, b, sc, kV, doc, pm, ct, an, cda, cc, osl, s1, x1, ccl, cdd, vs, ccs, file, tf, cl, cld, csl, ho, hcd, htx, hcda, hvs, hfile, hcc⟩ := T.fn
  obtain ⟨nm, q, N, bs, bm, sn, sub, ab, col, dd, k0, k1, k2, k3, k5, hC, hbm⟩ := T.cls
  obtain ⟨an1, p1, an2, p2, kd, dfl, p3, p4, p5, m, j, p6, p7, p8, p9, p10, p11, p12, rfl, eb, hne, hline, hd1, hd2, hk, hco, hgen, hcell, hl1, hl2, hsu, hcn⟩ := initTx_ok htx
  have hcl : clsIn K C = some { name := nm, bases := bs, mro := .ref C :: bm, ns := N, qualname := q, hasDict := true, slotNames := sn, subclasses := sub, abstract := ab, collection := col, hasDel := false } := by unfold clsIn; rw [hC] <;> rfl
  refine ks_codeAny_call_defAt (binds := [(s1, .ref x), (x1, v)]) hroom (X _ _ ho) rfl hlim (codeRec_of X hcd) rfl ?_ hcell (fun y hy => ?_) (fun h₁ hns k₁ => ?_) hco hgen hk
  · refine .of_eq ?_
    show bindArgs (fnOf name qual ⟨[], [⟨s1, an1, p1⟩, ⟨x1, an2, p2⟩], none, [], kd, none, dfl⟩ b sc .none kV doc pm an (.ref cda) ct) _ = _
    obtain ⟨k, e1, e2⟩ := MP.bind_pos (x := name) (qual := qual) (as := [⟨s1, an1, p1⟩, ⟨x1, an2, p2⟩]) (kd := kd) (d := dfl) (body := b) (scope := sc) (dV := .none) (kV := kV) (doc := doc) (pm := pm) (an := an) (cdv := .ref cda) (ct := ct) (us := [.ref x, v]) (by simp [hne]) (by simp)
    have e3 := e2 none [] rfl (Nat.zero_le _) (by simp)
    rw [e1, show seqItems? .none = pure none from rfl, pure_bind, e3]
    rfl
  · rcases List.mem_cons.mp hy with rfl | hy
    · exact hl1
    · rcases List.mem_cons.mp hy with rfl | hy
      · exact hl2
      · cases hy
  · have X₁ : K.In h₁ := X.keeps k₁
    have hx₁ := k₁ _ _ hx
    obtain ⟨mb, hb1, hb2⟩ := B
    have hxL : s.heap.objs.size ≠ x := Nat.ne_of_gt (Heap.lt_size hx)
    have nd1 : (fun y => List.lookup y (List.reverse [(s1, Value.ref x), (x1, v)])) s1 = some (.ref x) := by simp [List.lookup, beq_false_of_ne hne]
    have nd2 : (fun y => List.lookup y (List.reverse [(s1, Value.ref x), (x1, v)])) x1 = some v := by simp [List.lookup]
    have IA : InstAt h₁ x (excO C t0) C none := ⟨hx₁, rfl, rfl, trivial⟩
    have hxC : x ≠ C := ks_ne X₁ IA hcl
    subst eb
    have hq0 : interactive (callEnv (ksFn name qual ⟨[], [⟨s1, an1, p1⟩, ⟨x1, an2, p2⟩], none, [], kd, none, dfl⟩ [.Expr (.Call (.Attribute (.Call (.Name "super" p3) [] [] p4) "__init__" p5) [.Constant (.str m) j p6] [] p7) p8, .Assign [.Attribute (.Name s1 p9) f p10] (.Name x1 p11) p12] sc .none kV doc pm an (.ref cda) ct cc) s.heap.objs.size fI) = false := by
      simp [interactive, callEnv, newEnv, hk]
    refine ks_wpAt_execs_cons (ks_wpAt_Expr_any (wpAt_mcall (by rfl) hline ?_) hq0 (by rfl))
    refine ks_wpAt_super_base (f := fI) (ar := ⟨s1, an1, p1⟩) hsu hcn (by decide +kernel) rfl (X₁ _ _ ho) rfl rfl rfl (X₁ _ _ hcda) rfl hvs hfile T.htop ?_
    refine ks_loadName_global hk hsu (loadGlobal_builtin (G.keeps k₁) T.noS (hb1.keeps k₁) ((hb2 _ (by decide +kernel)).trans (show bootBuiltins ("super" : Str) = some (.type "super") by decide +kernel)) ⟨rfl, ?_⟩)
    refine wpAny_loadName_free hk hcn rfl ⟨_, X₁ _ _ hcc, rfl⟩ ?_
    refine wpAny_loadName_local hk hl1 hns nd1 ?_
    have hC₁ := X₁ _ _ hC
    refine ks_wpAny_isType_cls hC₁ rfl ⟨rfl, ?_⟩
    refine ks_wpAny_call_super hC₁ rfl hx₁ rfl (fun c e => nomatch e) (looks_mroIn X₁ T.mro) (fun h₂ hso k₂ => ?_)
    intro pl
    have X₂ : K.In h₂ := X₁.keeps k₂
    have hx₂ := k₂ _ _ hx₁
    have IA₂ : InstAt h₂ x (excO C t0) C none := ⟨hx₂, rfl, rfl, trivial⟩
    have hI : Looks (model prog w) h₂ (isInstance (.ref x) (.type "ValueError")) true := IA₂.type.andThen (looks_subIn X₂ T.veC)
    have hsup := T.sup
    unfold ks_superIn at hsup
    rw [hcl] at hsup
    refine kxs_getMethod kxs_ValueError hso (looks_opaque X₂ T.opq) (l₀ := .ref C :: bm) (fun A Q E s k q => wpAny_bind ((looks_clsIn X₂ hcl) A _ E s k (wpAny_pure q))) rfl X₂ hsup hI hxC (by decide +kernel) ?_
    have hu₃ : (h₂.push (kxs_mw "ValueError.__init__" x)).get? h₂.objs.size = some (kxs_mw "ValueError.__init__" x) := Heap.get?_push_at rfl rfl
    have k₃ : ∀ b o, h₂.get? b = some o → (h₂.push (kxs_mw "ValueError.__init__" x)).get? b = some o := fun b o e => Heap.get?_push_of_some _ e
    refine kxs_callWith (i := "ValueError.__init__") (x := x) (by rfl) (evalArgs_plain (Calls.spliced_cons ?_))
    show wpAny _ _ (eval (.Constant (.str m) j p6) _) _ _ _
    refine Calls.Constant_str (Calls.spliced_nil ⟨hu₃, ?_⟩)
    refine call_mw (k₃ _ _ (k₂ _ _ hC₁)) (k₃ _ _ hx₂) hu₃ (one_size _) (fun h₄ t1 k₄ hx₄ => ?_)
    -- self.f = x
    have hns₂ : h₂.Ns s.heap.objs.size _ := hns.at fun o e => k₂ _ _ e
    have hns₄ : h₄.Ns s.heap.objs.size (fun x_1 => List.lookup x_1 (List.reverse [(s1, Value.ref x), (x1, v)])) := (hns.at fun o e => k₃ _ _ (k₂ _ _ e)).at fun o e => k₄ _ _ hxL e
    have X₄ : K.In h₄ := fun b o e => k₄ b o (fun z => by rw [z, hnx] at e; cases e) (k₃ _ _ (k₂ _ _ (X₁ _ _ e)))
    show _root_.PySem.wpAt _ _ _ (execs _ _) _ _ _
    refine _root_.PySem.wpAt_of_wpAny (wpAny_execs_cons (plainObj_wpAny_Assign_Attribute ?_))
    refine ldc hk hl2 hns₄ nd2 (ldc hk hl1 hns₄ nd1 ?_ hd1) hd2
    refine set_plain X₄ (ox := excO C t1) (od := none) ⟨hx₄, rfl, rfl, trivial⟩ T.sa ?_
    refine exc_osa X₄ hx₄ hcl (show refsVE (.ref C :: bm) = true from hbm) rfl T.noN (fun h₅ tk₅ dx k₅ dn dne hx₅ hn₅ => ?_)
    show wpAny _ _ (execs _ _) _ _ _
    have z1 : s.heap.objs.size < h₄.objs.size := hns₄.lt
    exact wpAny_execs_nil (hq h₅ tk₅ dx t1 ⟨fun b o hb e => k₅ b o hb (k₄ b o hb (k₃ _ _ (k₂ _ _ (k₁ _ _ e)))), hx₅, Nat.le_of_lt (Nat.lt_of_lt_of_le z1 dn), dne, hn₅⟩)
/-- a made error -/
structure OwnMade (h h' : Heap) (f : Str) (e C d : Addr) (v : Value) : Prop where
  keep : ∀ b o, h.get? b = some o → h'.get? b = some o
  new : h.objs.size ≤ e
  obj : ∃ oe vs, h'.get? e = some oe ∧ oe.cls = .ref C ∧ oe.dict = some d ∧ oe.data = .fields vs ∧ vs[1]? = some .none
  dbig : h.objs.size ≤ d
  dne : d ≠ e
  ns : h'.Ns1 d (fun y => if y = f then some v else none)
theorem err_made (T : ErrTxt prog K mg C fI f) {v : Value} (X : K.In s.heap) (G : s.heap.Ns mainGlobals mg) (B : ∃ mb, s.heap.Ns builtinsNs mb ∧ ∀ x : Str, x ≠ "__name__" → mb x = bootBuiltins x) (hlim : s.heap.NoLimit) (hroom : A.depth + 1 < recursionLimit)
    (hq : ∀ h' tk e d, OwnMade s.heap h' f e C d v → R (.ok (.ret (.ref e))) { s with heap := h', toks := tk }) :
    codeAny (model prog w) A (.call (.ref C) ⟨[v], []⟩) R s := by
  obtain ⟨nm, q, N, bs, bm, sn, sub, ab, col, dd, k0, k1, k2, k3, k5, hC, hbm⟩ := T.cls
  obtain ⟨hp, g, dr, tk, os⟩ := s
  have k : ∀ b o, hp.get? b = some o → ((hp.push (kdv_tup [v])).push (excO C hp.objs.size)).get? b = some o := fun b o e => Heap.get?_push_of_some _ (Heap.get?_push_of_some _ e)
  have hget : ((hp.push (kdv_tup [v])).push (excO C hp.objs.size)).get? (hp.objs.size + 1) = some (excO C hp.objs.size) := by heap_get
  have hnx : K.lookup (hp.objs.size + 1) = none := by
    cases e : K.lookup (hp.objs.size + 1) with
    | none => rfl
    | some o =>
      have z : hp.get? (hp.objs.size + 1) = some o := X _ _ e
      exact absurd (Nat.lt_of_succ_lt (Heap.lt_size z)) (Nat.lt_irrefl _)
  obtain ⟨mb, hb1, hb2⟩ := B
  refine call_own F.excBase_ValueError (fun X => refsVE_contains X bm hbm) (X _ _ hC) (looks_findIn X T.iC) (fun self => bind_fn X self T.tC) (one_size v) ?_
  refine err_init (s := ⟨(hp.push (kdv_tup [v])).push (excO C hp.objs.size), g, dr, tk, os⟩) T (X.keeps k) (G.keeps k) ⟨mb, hb1.keeps k, hb2⟩ (hlim.keeps k) hget hnx ?_ fun h' tk' dx t1 ⟨k', hx, dn, dne, hns⟩ => ?_
  · show A.depth + 1 < recursionLimit
    exact hroom
  · have old : ∀ b o, hp.get? b = some o → h'.get? b = some o := fun b o e => k' b o (Nat.ne_of_lt (Nat.lt_succ_of_lt (Heap.lt_size e))) (k b o e)
    have z : hp.objs.size + 1 + 1 ≤ dx := by
      have q := dn
      first
        | exact dn
        | (rw [Heap.size_push, Heap.size_push] at q; exact q)
    exact ⟨rfl, hq h' tk' (hp.objs.size + 1) dx ⟨old, Nat.le_succ _, ⟨_, _, hx, rfl, rfl, rfl, rfl⟩, Nat.le_trans (Nat.le_trans (Nat.le_succ _) (Nat.le_succ _)) z, dne, hns⟩⟩
end
end ErrX
end PySem
namespace L2
open PySem PySem.Spec PyProof.Rows PySem.ErrX
theorem relO_one {v : V} {v' : Value} {f : Str} (r : RelV v v') (g : Str) : RelO (List.lookup g [(f, v)]) (if g = f then some v' else none) := by
  by_cases hw : g = f
  · rw [if_pos hw, List.lookup_cons, beq_iff_eq.mpr hw]
    exact r
  · rw [if_neg hw, List.lookup_cons, beq_false_of_ne hw]
    trivial
section
variable {X : Cx} {C fI : Addr} {f : Str}
/-- E(e), E with one field -/
def tMkErr (C : Addr) (f : Str) (ta : TA) : St → Hp → XK → Prop := fun σ H Q => ta σ H fun vs H1 => ∃ v, vs = [v] ∧ ∀ d, H1 d = none → Q (.ref C) (some d) (upd H1 d (.xd [(f, v)]))
theorem pmk_err {x : Str} {a : Expr} {ta : TA} {p pos : Pos} (T : ErrTxt X.prog X.K X.mg C fI f) (gC : X.mg x = some (.ref C)) (hr : X.A.depth + 1 < recursionLimit) (ha : PA X [a] ta) (hg : Gl X x) (hd : (x == ("__debug__" : Str)) = false)
    (he : starEach (a :: []) X.env = (false, eval a X.env) :: starEach [] X.env := by rfl) (hpl : (backTo pos (starEach [] X.env)).any (·.1) = false := by rfl) :
    PMk X (.Call (.Name x p) [a] [] pos) (tMkErr C f ta) := by
  intro pins s σ H Q I h
  refine wpAny_Call_Name_kw (ld_glob I hg gC ?_ hd)
  refine PySem.W.callWith_K (h₀ := X.base) I.ok.mod.kin T.kC (thn (ha.run pos pins s σ H _ I h) fun us s1 hh => ?_) he hpl
  obtain ⟨vs, H1, I1, r1, v, ev, q1⟩ := hh
  subst ev
  refine ⟨I1.kIn, ?_⟩
  cases r1 with
  | cons rv rn =>
    rename_i v' us'
    cases rn
    show wpAny _ _ (call (.ref C) [v']) _ _ _
    have hlim := I1.nolimit
    obtain ⟨mb, b1, b2⟩ := I1.mod.blt
    have G1 := I1.mod.glob.keeps I1.bk
    have B1 := b1.keeps I1.bk
    have kin := I1.kIn
    obtain ⟨hp, g, dr, tk, os⟩ := s1
    refine wpAny_call (err_made T kin G1 ⟨mb, B1, b2⟩ hlim hr fun h' tk' e d M => ?_)
    show MkP X pins σ Q (.ref e) ⟨h', g, dr, tk', os⟩
    obtain ⟨oe, fv, hoe, hc, hd, hdat, h1⟩ := M.obj
    have hns := M.ns
    obtain ⟨G', g1, g2⟩ := restrict h' fun b => decide (b ≠ e)
    have gk : ∀ b, b ≠ e → G'.get? b = h'.get? b := fun b hb => g1 b (decide_eq_true hb)
    have ge : G'.get? e = none := g2 e (by simp)
    have old : ∀ b o, hp.get? b = some o → G'.get? b = some o := fun b o q => (gk b (Nat.ne_of_lt (Nat.lt_of_lt_of_le (Heap.lt_size q) M.new))).trans (M.keep b o q)
    have ob : ObjOk X.prog X.w (upd H1 d (.xd [(f, v)])) G' d (.xd [(f, v)]) := ⟨_, hns.at (fun o q => (gk d M.dne).trans q), fun y => relO_one rv y⟩
    have J : Inv X pins σ (upd H1 d (.xd [(f, v)])) ⟨G', g, dr, tk', os⟩ := I1.laid (t' := tk') old M.dbig ob
    refine ⟨e, oe, fv, ⟨G', g, dr, tk', os⟩, _, .ref C, some d, rfl, J, fun b o q => ?_, ge, hoe, ⟨hc, hd⟩, hdat, h1, ?_, rfl, I1.bare, raises_own T.exC T.tyC, q1 d (I1.hok.fresh M.dbig)⟩
    · by_cases hb : b = e
      · have q' : G'.get? b = some o := q
        rw [hb, ge] at q'; cases q'
      · exact (gk b hb).symm.trans q
    · rw [upd_ne (Ne.symm M.dne)]
      exact I1.hok.fresh M.new
end
end L2

end

section
set_option Elab.async false
set_option linter.all false
set_option maxRecDepth 100000
namespace MP
open PySem PySem.Spec L2
/-! ### the text of statements -/
abbrev KS := Stmt → Bool
def noComp : Expr → Bool
  | .ListComp .. => false
  | .SetComp .. => false
  | .DictComp .. => false
  | _ => true
def noTup : Expr → Bool
  | .Tuple .. => false
  | _ => true
def isNm : Expr → Bool
  | .Name .. => true
  | _ => false
def kPass : KS
  | .Pass _ => true
  | .Expr (.Constant (.str _) _ _) _ => true
  | _ => false
def kEx (e : KF) : KS
  | .Expr x _ => noComp x && e x
  | _ => false
def starB : Expr → Bool
  | .Starred .. => true
  | _ => false
/-- a, b = x, y: whether the stores are swapped -/
def swP (sc : Scope) (tg x : Expr) : Option (Option (List Str)) := match tg, x with
  | .Tuple ts _ _, .Tuple vs _ _ =>
    if (!(ts.length == 2 || ts.length == 3) || vs.length != ts.length) = true then some none
    else if vs.any starB then some none
    else
      let names := ts.filterMap fun
        | .Name id pos => if sc.names.lookup id == some .local && pos.line == (ts.head?.map (·.pos.line)).getD 0 then some id else none
        | _ => none
      if (names.length != ts.length || names.eraseDups.length != names.length) = true then some none
      else if vs.all (foldedForSure 8) then some none
      else if vs.all (constantsAlone 8) then none
      else some (some names)
  | .List _ _, .Tuple .. => none
  | _, _ => some none
def kAsg (sc : Scope) (t e : KF) : KS
  | .Assign [tg] x _ => noComp x && (decide (swP sc tg x = some none) && (t tg && e x))
  | _ => false
/-- a, b = x, y, the stores swapped -/
def kPar (c : Ck) (sc : Scope) (ts : List T) (es : List Expr → Bool) : KS
  | .Assign [.Tuple [.Name x px, .Name y py] kt pt] (.Tuple [a, b] k2 pt2) _ => (match ts with
      | [.n i, .n j] => decide (c.N[i]? = some x) && (decide (c.N[j]? = some y) && (decide (sc.names.lookup x = some .local) && (decide (sc.names.lookup y = some .local) && (decide (i ≠ j) && (es [a, b] &&
          decide (swP sc (.Tuple [.Name x px, .Name y py] kt pt) (.Tuple [a, b] k2 pt2) = some (some [x, y])))))))
      | _ => false)
  | .Assign [.Tuple [.Name x px, .Name y py, .Name z pz] kt pt] (.Tuple [a, b, d] k2 pt2) _ => (match ts with
      | [.n i, .n j, .n l] => decide (c.N[i]? = some x) && (decide (c.N[j]? = some y) && (decide (c.N[l]? = some z) && (decide (sc.names.lookup x = some .local) && (decide (sc.names.lookup y = some .local) && (decide (sc.names.lookup z = some .local) &&
          (decide (i ≠ j) && (decide (i ≠ l) && (decide (j ≠ l) && (es [a, b, d] && decide (swP sc (.Tuple [.Name x px, .Name y py, .Name z pz] kt pt) (.Tuple [a, b, d] k2 pt2) = some (some [x, y, z])))))))))))
      | _ => false)
  | _ => false
/-- name = [.. for ..], the name a cell -/
def kSetCl (c : Ck) (sc : Scope) (t : T) (e : KF) : KS
  | .Assign [.Name y _] x _ => (match t with
      | .n i => decide (c.N[i]? = some y) && (decide (sc.names.lookup y = some .cell) && e x)
      | _ => false)
  | _ => false
/-- name = [.. for ..], the name a local -/
def kSetLc (c : Ck) (sc : Scope) (t : T) (e : KF) : KS
  | .Assign [.Name y py] (.ListComp x gs sc2 p) _ => (match t with
      | .n i => decide (c.N[i]? = some y) && (decide (sc.names.lookup y = some .local) && ((py.line == p.line) && (!(sc2.names.any fun (n, k) => n == y && (k == .local || k == .cell)) && e (.ListComp x gs sc2 p))))
      | _ => false)
  | _ => false
def kWhl (t : KF) (b : List Stmt → Bool) : KS
  | .While x ys [] _ => t x && b ys
  | _ => false
def kApp (c : Ck) (sc : Scope) (i : Nat) (e : KF) : KS
  | .Expr (.Call (.Attribute (.Name y _) g ap) [z] [] p) _ => decide (c.N[i]? = some y) && (vis sc y && (decide (g = ("append" : Str)) && (ap.endLine == p.line && (plainE z && e z))))
  | _ => false
/-- self.f = e -/
def kFld (c : Ck) (sc : Scope) (f : Nat) (e : KF) : KS
  | .Assign [.Attribute (.Name y _) g _] z _ => decide (c.N[0]? = some y) && (vis sc y && (decide (c.nm f = g) && e z))
  | _ => false
/-- x[i] = e -/
def kSet (c : Ck) (sc : Scope) (i : Nat) (ie e : KF) : KS
  | .Assign [.Subscript (.Name y _) k _] z _ => decide (c.N[i]? = some y) && (vis sc y && (plainE k && (ie k && e z)))
  | _ => false
/-- x[i][j] = e -/
def kSet2 (c : Ck) (sc : Scope) (i : Nat) (ie je e : KF) : KS
  | .Assign [.Subscript (.Subscript (.Name y _) k _) l _] z _ => decide (c.N[i]? = some y) && (vis sc y && (plainE k && (ie k && (plainE l && (je l && e z)))))
  | _ => false
/-- t = f(x, ..), f changes x -/
def kMcall (c : Ck) (sc : Scope) (t f i : Nat) (es : List Expr → Bool) : KS
  | .Assign [.Name tx _] (.Call (.Name fx _) (.Name y _ :: ys) [] _) _ => decide (c.N[t]? = some tx) && (loc sc tx && (c.fn f && (decide (c.nm f = fx) && (glb sc fx && (decide (c.N[i]? = some y) && (vis sc y && es ys))))))
  | _ => false
def kRet (non : Bool) (e : KF) : KS
  | .Return none _ => non
  | .Return (some x) _ => e x
  | _ => false
def kIff (t : KF) (a b : List Stmt → Bool) : KS
  | .If x ys zs _ => t x && (a ys && b zs)
  | _ => false
def kFor (t : KF) (it : Expr → KF) (b : List Stmt → Bool) : KS
  | .For tg x ys [] _ => noSet x && (t tg && (it tg x && b ys))
  | _ => false
def kRaisT (c : Ck) (sc : Scope) (k : Nat) (m : List Nat) : KS
  | .Raise (some (.Call (.Name x _) [.Constant (.str z) _ _] [] _)) none _ => c.ex k && (decide (c.nm k = x) && (glb sc x && decide (strOf m = z)))
  | _ => false
/-- raise E(e), E with a field -/
def kRaisF (c : Ck) (sc : Scope) (k : Nat) (e : KF) : KS
  | .Raise (some (.Call (.Name x _) [z] [] _)) none _ => c.exf k && (decide (c.nm k = x) && (glb sc x && (plainE z && e z)))
  | _ => false
def kRais (c : Ck) (sc : Scope) (k : Nat) (e : E) (ke : KF) : KS := fun st => (match e with
    | .str m => kRaisT c sc k m st
    | _ => false) || kRaisF c sc k ke st
def kTry (c : Ck) (sc : Scope) (b : List Stmt → Bool) (k : Nat) (n : Option Nat) (h : List Stmt → Bool) : KS
  | .Try ys [.ExceptHandler (some (.Name x _)) v (z :: zs) _] [] [] _ => b ys && (kTy c sc (.exc k) x && ((match n, v with
      | none, none => true
      | some i, some y => decide (c.N[i]? = some y) && decide (sc.names.lookup y = some .local)
      | _, _ => false) && h (z :: zs)))
  | _ => false
/-- several except clauses -/
def kTrys (b : List Stmt → Bool) (hs : List ExceptHandler → Bool) : KS
  | .Try ys (z :: zs) [] [] _ => b ys && hs (z :: zs)
  | _ => false
def kHdl (c : Ck) (sc : Scope) (s : S) (h : List Stmt → Bool) (r : List ExceptHandler → Bool) : List ExceptHandler → Bool
  | .ExceptHandler (some (.Name x _)) v (z :: zs) _ :: rest => (match hdlOf s with
      | some (k, n) => kTy c sc (.exc k) x && (match n, v with
        | none, none => true
        | some i, some y => decide (c.N[i]? = some y) && decide (sc.names.lookup y = some .local)
        | _, _ => false)
      | none => false) && (h (z :: zs) && r rest)
  | _ => false
def kCons' (a : KS) (r : List Stmt → Bool) : List Stmt → Bool
  | x :: xs => a x && r xs
  | _ => false
mutual
def kS (c : Ck) (sc : Scope) : S → KS
  | .pass => kPass
  | .ex e => kEx (kE c sc e)
  | .asg t e => fun st => kAsg sc (kT c sc t) (kE c sc e) st || ((match t, e with
      | .t ts, .tup es => kPar c sc ts (kEs c sc es) st
      | _, _ => false) || (match e with
      | .comp .. => kSetLc c sc t (kE c sc e) st || kSetCl c sc t (kE c sc e) st
      | _ => false))
  | .whl t b => kWhl (kE c sc t) (kSs c sc b)
  | .app i e => kApp c sc i (kE c sc e)
  | .fld f e => kFld c sc f (kE c sc e)
  | .set i ie e => kSet c sc i (kE c sc ie) (kE c sc e)
  | .set2 i ie je e => kSet2 c sc i (kE c sc ie) (kE c sc je) (kE c sc e)
  | .mcall t f i es => kMcall c sc t f i (kEs c sc es)
  | .ret e => kRet (isNon e) (kE c sc e)
  | .iff t a b => kIff (kE c sc t) (kSs c sc a) (kSs c sc b)
  | .forr t it b => kFor (kT c sc t) (fun tg => kI c sc tg it) (kSs c sc b)
  | .rais k es => match es with
    | [e] => kRais c sc k e (kE c sc e)
    | _ => fun _ => false
  | .tryy b k n h => kTry c sc (kSs c sc b) k n (kSs c sc h)
  | .trym b hs => kTrys (kSs c sc b) (kHs c sc hs)
  | _ => fun _ => false
def kSs (c : Ck) (sc : Scope) : List S → List Stmt → Bool
  | [] => kNil
  | s :: ss => match s with
    | .frz _ => kSs c sc ss
    | .frz2 _ => kSs c sc ss
    | s => kCons' (kS c sc s) (kSs c sc ss)
def kHs (c : Ck) (sc : Scope) : List S → List ExceptHandler → Bool
  | [] => fun l => l.isEmpty
  | s :: ss => kHdl c sc s (kSuite c sc s) (kHs c sc ss)
/-- a clause's suite -/
def kSuite (c : Ck) (sc : Scope) : S → List Stmt → Bool
  | .hdl _ _ h => kSs c sc h
  | _ => fun _ => false
end
/-! ### what is wanted behind a statement -/
def wpX (w : Wd) (xv : XV) (W : WX) (H0 Hf0 Hb : Hp) (D : Ends) : XR → Prop
  | .ok .nx Γ => ∀ σ H Hf, J w xv H0 Hf0 Hb Γ σ H Hf → D.nx σ H
  | .ok (.rt o) Γ => ∀ v σ H Hf, J w xv H0 Hf0 Hb Γ σ H Hf → Res w xv H0 H Hf false o v → D.rt v H
  | .ok .bk Γ => ∀ σ H Hf, J w xv H0 Hf0 Hb Γ σ H Hf → D.bk σ H
  | .ok .ct Γ => ∀ σ H Hf, J w xv H0 Hf0 Hb Γ σ H Hf → D.ct σ H
  | .ex c p Γ => ∀ cls d σ H Hf, J w xv H0 Hf0 Hb Γ σ H Hf → ExR w Hf c p cls d → W cls d σ H
  | .bad => False
section
variable {w : Wd} {xv : XV} {W : WX} {H0 Hf0 Hb : Hp} {D : Ends} {Γ : List OD} {σ : L2.St} {H Hf : Hp}
theorem wpX.liftR (hx : XvOk xv) {α : Type} {r : R α} {f : α → XR} (j : J w xv H0 Hf0 Hb Γ σ H Hf) (h : wpX w xv W H0 Hf0 Hb D (liftR r Γ f)) : wpR w W σ H Hf r fun a => wpX w xv W H0 Hf0 Hb D (f a) := by
  cases r with
  | ok a => exact h
  | ex c p => exact fun cls d H' Hf' g e => h cls d σ H' Hf' (j.mono hx g) e
  | bad => exact h
theorem wpX.liftO {α : Type} {r : Option α} {f : α → XR} (h : wpX w xv W H0 Hf0 Hb D (liftO r f)) : ∃ a, r = some a ∧ wpX w xv W H0 Hf0 Hb D (f a) := by
  cases r with
  | some a => exact ⟨a, rfl, h⟩
  | none => exact h.elim
end
/-- statements' reading -/
def tX (w : Wd) (xv : XV) (W : WX) (r : List OD → XR) : TS := fun D σ H => ∃ H0 Hf0 Hb Hf Γ, J w xv H0 Hf0 Hb Γ σ H Hf ∧ wpX w xv W H0 Hf0 Hb D (r Γ)
theorem PS.imp {X : Cx} {e : Stmt} {t t' : TS} (h : PS X e t) (i : ∀ D σ H, t' D σ H → t D σ H) : PS X e t' := ⟨fun pins s σ H Q I hq => h.run pins s σ H Q I (i _ _ _ hq)⟩
theorem PSs.imp {X : Cx} {e : List Stmt} {t t' : TS} (h : PSs X e t) (i : ∀ D σ H, t' D σ H → t D σ H) : PSs X e t' := ⟨fun pins s σ H Q I hq => h.run pins s σ H Q I (i _ _ _ hq)⟩
/-- behind a call that changed its first argument -/
def MvOut (w : Wd) (H Hf : Hp) (A : List Addr) (x : Addr) (r : R (MP.D × List (Bool × List MP.D))) (Q : VK) : Prop := match r with
  | .ok (d, rs) => ∀ v H' Hf' A', Gr (lessH H A) Hf H' Hf' → RepO (w.at x) xv0 H' Hf' (.own2 true rs) (.ref x) A' → A'.Nodup → (∀ a ∈ A', a ∈ A ∨ H a = none) → Rep w Hf' d v → Q v H'
  | _ => False
/-! ### contexts -/
/-- a caught error's value -/
def xvA (w : Wd) (a : Addr) (cls : Value) (d : Option Addr) : XV := fun k p v Hf => v = .ref a ∧ ExR w Hf k p cls d
/-- Y: a context of the same def while an error is handled, or of a def that is called then -/
structure HotOf (X Y : Cx) : Prop where
  prog : Y.prog = X.prog
  w : Y.w = X.w
  K : Y.K = X.K
  mg : Y.mg = X.mg
  base : Y.base = X.base
  dp : Y.A.depth ≤ X.A.depth
  un : Y.A.units ≤ X.A.units
structure Fc (w : Wd) (c : Ck) (X : Cx) (sc : Scope) (G : Gx) : Prop where
  hK : X.K = w.K
  hN : X.N = c.N
  nm : c.nm = w.nm
  nd : X.N.Nodup
  vi : ∀ x, MP.vis sc x = true → Vis X.env.scope x
  gl : ∀ x, MP.glb sc x = true → Gl X x
  lo : ∀ x, MP.loc sc x = true → Loc X.env.scope x ∧ (X.fn x = true ∨ X.env.scope.names.lookup x = some .local)
  kin : ∀ x, X.env.kindOf x = sc.names.lookup x
  knd : X.env.scope.kind = .function
  rm : X.A.depth + 1 < recursionLimit
  hu : X.A.units + 65 < cLine
  cm : X.calm = true
  gcm : G.calm = true
  hcm : G.hot.calm = false
  gv : ∀ g d, G.gv g = some d → ∃ v u, X.mg (w.nm g) = some u ∧ RelV v u ∧ ∀ H, Rep w H d v
  hgv : G.hot.gv = G.gv
  bl : ∀ f, c.bl f = true → f ≠ .gcd → X.mg (bname f) = none
  gcd : c.bl .gcd = true → X.mg "gcd" = some (.builtin "math.gcd")
  rng : X.mg "range" = none
  enm : X.mg "enumerate" = none
  zip : X.mg "zip" = none
  isi : X.mg "isinstance" = none
  ty : ∀ t, c.ty t = true → TyMg w X t
  hsub : G.sub = w.P.sub ∧ G.hot.sub = w.P.sub
  hxf : G.xf = w.P.xf ∧ G.hot.xf = w.P.xf
  /-- isinstance of data -/
  isB : ∀ (a : String), a ∈ ["NoneType", "bool", "int", "str", "list", "tuple"] → ∀ k, (c.ty (.cls k) = true ∨ c.ty (.exc k) = true) → PySem.W.kitOne w.K (.type a) (.ref (w.cad k)) = some false
  isO : ∀ k q, w.P.cl k = some q → (PySem.W.findIn w.K (.ref (w.cad k)) "__class__" = some (some (.builtin "object.__class__")) ∧ PySem.W.specialIn w.K (.builtin "object.__class__") "__get__" = some (some (.builtin "getset_descriptor.__get__")) ∧
    PySem.W.takesIn w.K (.builtin "object.__class__") = some true ∧ PySem.W.mroIn w.K (w.cad k) (.type "object") = some true) ∧ Cls w.K (w.cad k) ∧ ∀ t, c.ty t = true → PySem.W.kitOne w.K (.ref (w.cad k)) (tyVal w t) = some (match t with
      | .cls j => k == j
      | _ => false)
  /-- errors -/
  isE : ∀ k q, w.P.xc k = some q → ExcC w.K (w.cad k) ∧ XfC w.K (w.cad k) ∧ (∀ f, q.fld = some f → PySem.W.findIn w.K (.ref (w.cad k)) (w.nm f) = some none) ∧ (∀ j, c.ty (.exc j) = true → PySem.W.kitOne w.K (.ref (w.cad k)) (.ref (w.cad j)) = some (w.P.sub k (.exc j)) ∧
    PySem.W.exmOne w.K (.ref (w.cad k)) (.ref (w.cad j)) = some (w.P.sub k (.exc j))) ∧ PySem.W.kitOne w.K (.ref (w.cad k)) (.type "ValueError") = some true
  fld : ∀ k f i, w.P.fld k f = some i → Cls w.K (w.cad k) ∧ NoAttr w.K (w.cad k) (w.nm f) ∧ (w.flds k).Nodup ∧ (w.flds k)[i]? = some (w.nm f)
  hfld : G.fld = w.P.fld ∧ G.hot.fld = w.P.fld
  stk : X.stack = X.env :: X.outer
  frm : X.env.frame = some X.env.locals
  cal : ∀ s0 H0 env outer stack ex fn pn xe W, Takes (Cx.wt X s0 H0 env outer stack ex fn pn xe) W → ∀ (f : Nat) (p pos : Pos) (y : Expr) (xs : List Expr) (ta : TA), c.fn f = true → Gl (Cx.wt X s0 H0 env outer stack ex fn pn xe) (w.nm f) → (w.nm f == ("__debug__" : Str)) = false → (∀ x ∈ y :: xs, plainE x = true) → PA (Cx.wt X s0 H0 env outer stack ex fn pn xe) (y :: xs) ta →
    PE (Cx.wt X s0 H0 env outer stack ex fn pn xe) (.Call (.Name (w.nm f) p) (y :: xs) [] pos) fun σ H Q => ta σ H fun vs H1 => ∃ Hf as, Le Hf H1 ∧ Reps w Hf as vs ∧ wpR w W σ H1 Hf (G.call f as [] []) fun o => Out w xv0 H1 Hf o Q
  mak : ∀ s0 H0 env outer stack ex fn pn xe W, Takes (Cx.wt X s0 H0 env outer stack ex fn pn xe) W → ∀ (k : Nat) (p pos : Pos) (y : Expr) (xs : List Expr) (ta : TA), c.mkc k = true → Gl (Cx.wt X s0 H0 env outer stack ex fn pn xe) (w.nm k) → (w.nm k == ("__debug__" : Str)) = false → (∀ x ∈ y :: xs, plainE x = true) → PA (Cx.wt X s0 H0 env outer stack ex fn pn xe) (y :: xs) ta →
    PE (Cx.wt X s0 H0 env outer stack ex fn pn xe) (.Call (.Name (w.nm k) p) (y :: xs) [] pos) fun σ H Q => ta σ H fun vs H1 => ∃ Hf as, Le Hf H1 ∧ Reps w Hf as vs ∧ wpR w W σ H1 Hf (G.make k as) fun o => Out w xv0 H1 Hf o Q
  met : ∀ s0 H0 env outer stack ex fn pn xe W, Takes (Cx.wt X s0 H0 env outer stack ex fn pn xe) W → ∀ (m : Nat) (o : Expr) (apos pos : Pos) (xs : List Expr) (to : TE) (ta : TA), c.me m = true → notSuper o = true → (apos.endLine == pos.line) = true → (∀ x ∈ xs, plainE x = true) → PE (Cx.wt X s0 H0 env outer stack ex fn pn xe) o to → PA (Cx.wt X s0 H0 env outer stack ex fn pn xe) xs ta →
    PE (Cx.wt X s0 H0 env outer stack ex fn pn xe) (.Call (.Attribute o (w.nm m) apos) xs [] pos) fun σ H Q => to σ H fun x H1 => ∃ k f, G.meth k m = some f ∧ (∃ a dx vs, x = .ref a ∧ H1 a = some (.ins (w.cad k) dx ((w.flds k).zip vs)) ∧ (w.flds k).length = vs.length) ∧
      ta σ H1 fun vs H2 => ∃ Hf as, Le Hf H2 ∧ Reps w Hf as (x :: vs) ∧ wpR w W σ H2 Hf (G.call f as [] []) fun o => Out w xv0 H2 Hf o Q
  mcl : ∀ s0 H0 env outer stack ex fn pn xe W, Takes (Cx.wt X s0 H0 env outer stack ex fn pn xe) W → ∀ (f : Nat) (p pos : Pos) (y : Expr) (xs : List Expr) (ta : TA), c.fn f = true → Gl (Cx.wt X s0 H0 env outer stack ex fn pn xe) (w.nm f) → (w.nm f == ("__debug__" : Str)) = false → (∀ x ∈ y :: xs, plainE x = true) → PA (Cx.wt X s0 H0 env outer stack ex fn pn xe) (y :: xs) ta →
    PE (Cx.wt X s0 H0 env outer stack ex fn pn xe) (.Call (.Name (w.nm f) p) (y :: xs) [] pos) fun σ H Q => ta σ H fun vs H1 => ∃ Hf x us as rs A, vs = .ref x :: us ∧ Le Hf H1 ∧ RepO (w.at x) xv0 H1 Hf (.own2 true rs) (.ref x) A ∧ A.Nodup ∧ Reps w Hf as us ∧ MvOut w H1 Hf A x (G.mcall f rs as) Q
  rai : ∀ k, c.ex k = true → MP.glb sc (w.nm k) = true → w.P.xc k ≠ none ∧ w.P.xf k = none ∧ ∀ pn xe (m : Str) (p p2 pos : Pos) (j : Nat), PMk (X.tr pn xe) (.Call (.Name (w.nm k) p) [.Constant (.str m) j p2] [] pos) (fun _ H Q => Q (.ref (w.cad k)) none H)
  cah : ∀ Y : Cx, HotOf X Y → ∀ (W : WX) (f : Nat) (p pos : Pos) (y : Expr) (xs : List Expr) (ta : TA), c.fn f = true → Gl Y (w.nm f) → (w.nm f == ("__debug__" : Str)) = false → (∀ x ∈ y :: xs, plainE x = true) → PA Y (y :: xs) ta →
    PE Y (.Call (.Name (w.nm f) p) (y :: xs) [] pos) fun σ H Q => ta σ H fun vs H1 => ∃ Hf as, Le Hf H1 ∧ Reps w Hf as vs ∧ wpR w W σ H1 Hf (G.hot.call f as [] []) fun o => Out w xv0 H1 Hf o Q
  raf : ∀ k, c.exf k = true → MP.glb sc (w.nm k) = true → ∃ q f fI, w.P.xc k = some q ∧ q.fld = some f ∧ PySem.ErrX.ErrTxt X.prog w.K X.mg (w.cad k) fI (w.nm f) ∧ X.mg (w.nm k) = some (.ref (w.cad k))
/-- where statements run -/
structure CnS (w : Wd) (c : Ck) (xv : XV) (X : Cx) (sc : Scope) (G : Gx) (W : WX) : Prop extends CnE w c xv X sc G.toFx W where
  lo : ∀ x, MP.loc sc x = true → Loc X.env.scope x ∧ (X.fn x = true ∨ X.env.scope.names.lookup x = some .local)
  fc : G.calm = true → Fc w c X sc G ∧ xv = xv0 ∧ PassesOwn (model X.prog X.w) X.A X.env X.xe
end MP

end

section
set_option Elab.async false
set_option linter.all false
set_option maxRecDepth 100000
namespace MP
open PySem PySem.Spec L2
section
variable {w : Wd} {c : Ck} {X : Cx} {sc : Scope} {G : Gx} {W : WX}
theorem Fc.tr (F : Fc w c X sc G) (pn : List (Addr × Obj)) (xe : Value → Shared → Prop) : Fc w c (X.tr pn xe) sc G :=
  ⟨F.hK, F.hN, F.nm, F.nd, F.vi, F.gl, F.lo, F.kin, F.knd, F.rm, F.hu, F.cm, F.gcm, F.hcm, F.gv, F.hgv, F.bl, F.gcd, F.rng, F.enm, F.zip, F.isi, F.ty, F.hsub, F.hxf, F.isB, F.isO, F.isE, F.fld, F.hfld, F.stk, F.frm, F.cal, F.mak, F.met, F.mcl, F.rai, fun Y h => F.cah Y ⟨h.prog, h.w, h.K, h.mg, h.base, h.dp, h.un⟩, F.raf⟩
def dTy : D → String
  | .non => "NoneType"
  | .bl _ => "bool"
  | .int _ => "int"
  | .str _ => "str"
  | .tup _ => "tuple"
  | .lst _ => "list"
  | .obj _ _ => ""
  | .scr _ => "list"
theorem dTy_mem {d : D} (h : ∀ k ds, d ≠ .obj k ds) : dTy d ∈ ["NoneType", "bool", "int", "str", "list", "tuple"] := by
  cases d <;> first | exact absurd rfl (h _ _) | simp [dTy]
theorem clsV (t : Ty) : ClsV (tyV w t) (tyVal w t) := by
  cases t <;> first | exact ClsV.ty _ | exact ClsV.own _
theorem clsVs : ∀ (ts : List Ty), Paired ClsV (ts.map (tyV w)) (ts.map (tyVal w))
  | [] => .nil
  | t :: ts => .cons (clsV t) (clsVs ts)
/-- a value's type and whether it is of a class -/
theorem is_fz (F : Fc w c X sc G) {H Hf : Hp} (l : Le Hf H) {d : D} {v : V} (hc : ∀ k ds, d = .obj k ds → (w.P.cl k).isSome = true) (r : Rep w Hf d v) : ∃ tv, TyX X.K H v tv ∧ ∀ t b, c.ty t = true → isTy (.fz d) t w.P.sub = some b → PySem.W.kitOne X.K tv (tyVal w t) = some b := by
  rw [F.hK]
  have base : (∀ k ds, d ≠ .obj k ds) → ∀ t b, c.ty t = true → isTy (.fz d) t w.P.sub = some b → PySem.W.kitOne w.K (.type (dTy d)) (tyVal w t) = some b := by
    intro no t b ok e
    have cl : ∀ k, (c.ty (.cls k) = true ∨ c.ty (.exc k) = true) → PySem.W.kitOne w.K (.type (dTy d)) (.ref (w.cad k)) = some false := F.isB _ (dTy_mem no)
    have ff : ∀ k, t = .cls k ∨ t = .exc k → b = false := by
      intro k hk
      rcases hk with rfl | rfl <;> cases d <;> first | exact absurd rfl (no _ _) | (cases e; done) | (cases e; rfl)
    cases t with
    | cls k => rw [ff k (.inl rfl)]; exact cl k (.inl ok)
    | exc k => rw [ff k (.inr rfl)]; exact cl k (.inr ok)
    | tnone => exact (F.ty _ ok).elim
    | tint => cases d <;> first | exact absurd rfl (no _ _) | (cases e; done) | (cases e; exact kit_ty (by dsimp only [dTy]; decide +kernel))
    | tbool => cases d <;> first | exact absurd rfl (no _ _) | (cases e; done) | (cases e; exact kit_ty (by dsimp only [dTy]; decide +kernel))
    | tstr => cases d <;> first | exact absurd rfl (no _ _) | (cases e; done) | (cases e; exact kit_ty (by dsimp only [dTy]; decide +kernel))
    | tlist => cases d <;> first | exact absurd rfl (no _ _) | (cases e; done) | (cases e; exact kit_ty (by dsimp only [dTy]; decide +kernel))
    | ttuple => cases d <;> first | exact absurd rfl (no _ _) | (cases e; done) | (cases e; exact kit_ty (by dsimp only [dTy]; decide +kernel))
    | verr => cases d <;> first | exact absurd rfl (no _ _) | (cases e; done) | (cases e; exact kit_ty (by dsimp only [dTy]; decide +kernel))
  cases d with
  | non => rw [Rep.non_iff.mp r]; exact ⟨_, .base .non, base fun _ _ z => nomatch z⟩
  | bl b => rw [Rep.bl_iff.mp r]; exact ⟨_, .base (.bl b), base fun _ _ z => nomatch z⟩
  | int b => rw [Rep.int_iff.mp r]; exact ⟨_, .base (.int b), base fun _ _ z => nomatch z⟩
  | str b => rw [Rep.str_iff.mp r]; exact ⟨_, .base (.str _), base fun _ _ z => nomatch z⟩
  | tup ds =>
    obtain ⟨a, vs, rfl, s, rr⟩ := Rep.tup_iff.mp r
    refine ⟨_, ?_, base fun _ _ z => nomatch z⟩
    rcases s with (s | ⟨o, s⟩) | ⟨o, its, n, h1, h2, _⟩
    · exact .base (.tup (l _ _ s))
    · exact .fTuple (l _ _ s)
    · exact .kTuple h1 h2
  | lst ds =>
    obtain ⟨a, vs, rfl, s, rr⟩ := Rep.lst_iff.mp r
    refine ⟨_, ?_, base fun _ _ z => nomatch z⟩
    rcases s with s | ⟨o, s⟩
    · exact .base (.lst (l _ _ s))
    · exact .base (.frz (l _ _ s))
  | scr ns =>
    obtain ⟨a, rfl, s⟩ := Rep.scr_iff.mp r
    refine ⟨_, ?_, base fun _ _ z => nomatch z⟩
    rcases s with (s | ⟨o, s⟩) | ⟨o, its, n, h1, h2, _⟩
    · exact .base (.lst (l _ _ s))
    · exact .base (.frz (l _ _ s))
    · exact .kList h1 h2
  | obj k ds =>
    obtain ⟨a, dx, vs, rfl, s, _, rr⟩ := Rep.obj_iff.mp r
    cases q : w.P.cl k with
    | none => have := hc k ds rfl; rw [q] at this; cases this
    | some cq =>
      obtain ⟨⟨h1, h2, h3, h4⟩, h5, h6⟩ := F.isO k cq q
      refine ⟨_, .base (.ins (l _ _ s) h5 h1 h2 h3 h4), fun t b ok e => ?_⟩
      unfold isTy at e
      simp only [Prog.sub, q, Option.isSome_some, if_true] at e
      cases e
      exact h6 t ok
theorem is_cl {o : OD} {t : Ty} {b : Bool} (e : isTy o t w.P.sub = some b) : ∀ d, o = .fz d → ∀ k ds, d = .obj k ds → (w.P.cl k).isSome = true := by
  rintro _ rfl k ds rfl
  unfold isTy at e
  dsimp only at e
  split at e
  · assumption
  · cases e
theorem any_cl {o : OD} {ts : List Ty} {b : Bool} (n : ts ≠ []) (e : anyTy o w.P.sub ts = some b) : ∀ d, o = .fz d → ∀ k ds, d = .obj k ds → (w.P.cl k).isSome = true := by
  cases ts with
  | nil => exact absurd rfl n
  | cons t ts =>
    unfold anyTy at e
    cases q : isTy o t w.P.sub with
    | none => rw [q] at e; cases e
    | some b => exact is_cl q
/-- .. of anything but a caught error -/
theorem is_od (F : Fc w c X sc G) {xv : XV} {H Hf : Hp} (l : Le Hf H) {o : OD} {v : V} {as : List Addr} (nx : ∀ k p, o ≠ .xv k p) (hc : ∀ d, o = .fz d → ∀ k ds, d = .obj k ds → (w.P.cl k).isSome = true) (hn : ∃ t b, isTy o t w.P.sub = some b) (r : RepO w xv H Hf o v as) :
    ∃ tv, TyX X.K H v tv ∧ ∀ t b, c.ty t = true → isTy o t w.P.sub = some b → PySem.W.kitOne X.K tv (tyVal w t) = some b := by
  have lst : ∀ {a : Addr} {vs : List V}, H a = some (.lst vs) → (∀ t b, isTy o t w.P.sub = some b → b = (match t with
      | .tlist => true
      | _ => false)) → ∃ tv, TyX X.K H (.ref a) tv ∧ ∀ t b, c.ty t = true → isTy o t w.P.sub = some b → PySem.W.kitOne X.K tv (tyVal w t) = some b := by
    intro a vs e hb
    refine ⟨.type "list", .base (.lst e), fun t b ok q => ?_⟩
    rw [hb t b q, F.hK]
    have cl : ∀ k, (c.ty (.cls k) = true ∨ c.ty (.exc k) = true) → PySem.W.kitOne w.K (.type "list") (.ref (w.cad k)) = some false := F.isB _ (by simp)
    cases t with
    | cls k => exact cl k (.inl ok)
    | exc k => exact cl k (.inr ok)
    | tnone => exact (F.ty _ ok).elim
    | _ => exact kit_ty (by decide +kernel)
  cases o with
  | un => obtain ⟨t, b, e⟩ := hn; cases t <;> cases e
  | fz d => exact is_fz F l (hc d rfl) r.2
  | own ds =>
    obtain ⟨a, vs, rfl, _, e, _⟩ := r
    exact lst e fun t b q => by cases t <;> (cases q; rfl)
  | own2 pp rs =>
    obtain ⟨a, vs, as', rfl, _, e, _⟩ := r
    exact lst e fun t b q => by cases t <;> (cases q; rfl)
  | oi k fs => obtain ⟨t, b, e⟩ := hn; cases t <;> cases e
  | xv k p => exact absurd rfl (nx k p)
theorem kitAny_of {K : PySem.W.Frag} {tv : Value} {o : OD} (h : ∀ t b, c.ty t = true → isTy o t w.P.sub = some b → PySem.W.kitOne K tv (tyVal w t) = some b) : ∀ {ts : List Ty} {b : Bool}, (∀ t ∈ ts, c.ty t = true) → anyTy o w.P.sub ts = some b → PySem.W.kitAny K tv (ts.map (tyVal w)) = some b
  | [], b, _, e => by cases e; rfl
  | t :: ts, b, ok, e => by
    unfold anyTy at e
    cases q : isTy o t w.P.sub with
    | none => rw [q] at e; cases e
    | some b1 =>
      rw [q] at e
      refine kitAny_cons (h t b1 (ok t List.mem_cons_self) q) (fun z => ?_) fun z => ?_
      · subst z
        exact kitAny_of h (fun t m => ok t (List.mem_cons_of_mem _ m)) e
      · subst z
        cases e
        rfl
theorem is1_0 (F : Fc w c X sc G) {xv : XV} {pins : List (Addr × Obj)} {s : Shared} {σ : L2.St} {H : Hp} {vs : List V} {us : List Value} {Q : VK} (I : L2.Inv X pins σ H s) (r : Vals vs us) (h : ∃ Hf o x as t b, (∀ k p, o ≠ .xv k p) ∧ vs = [x, tyV w t] ∧ c.ty t = true ∧ Le Hf H ∧ RepO w xv H Hf o x as ∧ isTy o t w.P.sub = some b ∧ Q (.bl b) H) :
    wpAny (model X.prog X.w) X.A (call (.builtin "isinstance") us) (EP X pins σ Q) X.xe s := by
  obtain ⟨Hf, o, x, as, t, b, nx, rfl, ok, l, rr, e, q⟩ := h
  obtain ⟨tv, h1, h2⟩ := is_od F l nx (is_cl e) ⟨t, b, e⟩ rr
  exact call_isi pins s σ H _ us Q I r ⟨x, tyV w t, tv, tyVal w t, b, rfl, clsV t, h1, h2 t b ok e, q⟩
theorem isT_0 (F : Fc w c X sc G) {xv : XV} {pins : List (Addr × Obj)} {s : Shared} {σ : L2.St} {H : Hp} {vs : List V} {us : List Value} {Q : VK} (I : L2.Inv X pins σ H s) (r : Vals vs us) (h : ∃ Hf o x as ts tp b, (∀ k p, o ≠ .xv k p) ∧ vs = [x, .ref tp] ∧ H tp = some (.tup (ts.map (tyV w))) ∧ ts ≠ [] ∧ (∀ t ∈ ts, c.ty t = true) ∧ Le Hf H ∧ RepO w xv H Hf o x as ∧ anyTy o w.P.sub ts = some b ∧ Q (.bl b) H) :
    wpAny (model X.prog X.w) X.A (call (.builtin "isinstance") us) (EP X pins σ Q) X.xe s := by
  obtain ⟨Hf, o, x, as, ts, tp, b, nx, rfl, ht, ne, ok, l, rr, e, q⟩ := h
  have hn : ∃ t b, isTy o t w.P.sub = some b := by
    cases ts with
    | nil => exact absurd rfl ne
    | cons t ts =>
      unfold anyTy at e
      cases q : isTy o t w.P.sub with
      | none => rw [q] at e; cases e
      | some b => exact ⟨t, b, q⟩
  obtain ⟨tv, h1, h2⟩ := is_od F l nx (any_cl ne e) hn rr
  exact call_isiT pins s σ H _ us Q I r ⟨x, tp, _, tv, _, b, rfl, ht, clsVs ts, h1, kitAny_of h2 ok e, q⟩
theorem xv0_ok : XvOk xv0 := fun _ _ _ _ _ _ h => h
/-- what holds in all blocks, where no error is handled -/
theorem CnW.of_fc (F : Fc w c X sc G) : CnW w c xv0 X G.toFx where
  is1 := fun s0 H0 env outer stack ex fn pn xe pins s σ H vs us Q I r ⟨Hf, o, x, as, t, b, h1, h2, h3, h4, h5, h6⟩ => by
    subst h1
    rw [F.hsub.1] at h5
    obtain ⟨tv, h7, h8⟩ := is_od F h3 (fun k p z => by subst z; exact h4.2.elim) (is_cl h5) ⟨t, b, h5⟩ h4
    exact call_isi (X := Cx.wt X s0 H0 env outer stack ex fn pn xe) pins s σ H _ us Q I r ⟨x, tyV w t, tv, tyVal w t, b, rfl, clsV t, h7, h8 t b h2 h5, h6⟩
  isT := fun s0 H0 env outer stack ex fn pn xe pins s σ H vs us Q I r ⟨Hf, o, x, as, ts, tp, b, h1, h2, h3, h4, h5, h6, h7, h8⟩ => by
    subst h1
    rw [F.hsub.1] at h7
    have hn : ∃ t b, isTy o t w.P.sub = some b := by
      cases ts with
      | nil => exact absurd rfl h3
      | cons t ts =>
        unfold anyTy at h7
        cases q : isTy o t w.P.sub with
        | none => rw [q] at h7; cases h7
        | some b => exact ⟨t, b, q⟩
    obtain ⟨tv, h9, h10⟩ := is_od F h5 (fun k p z => by subst z; exact h6.2.elim) (any_cl h3 h7) hn h6
    exact call_isiT (X := Cx.wt X s0 H0 env outer stack ex fn pn xe) pins s σ H _ us Q I r ⟨x, tp, _, tv, _, b, rfl, h2, clsVs ts, h9, kitAny_of h10 h4 h7, h8⟩
  xat := fun _ _ _ _ _ _ _ _ _ f pins s σ H x u Q I rx ⟨Hf, c, p, l, h, _⟩ => h.elim
  cal := F.cal
  mak := F.mak
  met := F.met
/-- expressions, where no error is handled -/
theorem CnE.of_fc (F : Fc w c X sc G) (tk : Takes X W) : CnE w c xv0 X sc G.toFx W where
  hK := F.hK
  hN := F.hN
  nm := F.nm
  nd := F.nd
  vi := F.vi
  gl := F.gl
  cf := fun x h => by
    have e : X.env.scope.names.lookup x = sc.names.lookup x := F.kin x
    rw [e]
    exact h
  hu := F.hu
  calm := fun _ => F.cm
  xvo := xv0_ok
  gv := F.gv
  bl := F.bl
  gcd := F.gcd
  rng := F.rng
  enm := F.enm
  zip := F.zip
  isi := F.isi
  ty := F.ty
  is1 := (CnW.of_fc F).is1 X.s_0 X.H_0 X.env X.outer X.stack X.ex X.fn X.pn X.xe
  isT := (CnW.of_fc F).isT X.s_0 X.H_0 X.env X.outer X.stack X.ex X.fn X.pn X.xe
  fld := fun k f i e => F.fld k f i (by rw [F.hfld.1] at e; exact e)
  xat := fun f pins s σ H x u Q I rx ⟨Hf, c, p, l, h, _⟩ => h.elim
  tk := tk
  cah := fun z => by rw [show G.toFx.calm = true from F.gcm] at z; cases z
  ww := fun _ => CnW.of_fc F
theorem CnS.of_fc (F : Fc w c X sc G) (tk : Takes X W) (hp : PassesOwn (model X.prog X.w) X.A X.env X.xe) : CnS w c xv0 X sc G W := { CnE.of_fc F tk with lo := F.lo, fc := fun _ => ⟨F, rfl, hp⟩ }
end
end MP

end

section
set_option Elab.async false
set_option linter.all false
set_option maxRecDepth 100000
set_option maxHeartbeats 4000000
/-! isinstance of a caught error that may have a dict -/
namespace PySem.W
open PySem PySem.Spec PySem.Calls PyProof.Rows
section
variable {prog : Program} {w : World} {A : Around} {E : Value → Shared → Prop} {s : Shared} {K : Frag} {x D : Addr} {ox : Obj} {od : Option Obj}
theorem mp_findD {C : Addr} {name : Str} {a g : Value} (hc : (clsIn K C).isSome = true) (ha : findIn K (.ref C) name = some (some a)) (hg : specialIn K a "__get__" = some (some g)) (ht : takesIn K a = some true) : findObj K C od name = some (.bind g a) := by
  obtain ⟨cd, hc⟩ := Option.isSome_iff_exists.mp hc
  unfold findObj
  rw [hc, Option.bind_some, ha, Option.bind_some]
  simp [hg, ht]
theorem mp_class (C : L2.ExcC K D) {Q : Option Value → Shared → Prop} (X : K.In s.heap) (I : InstAt s.heap x ox D od) (h : Q (some (.ref D)) { s with toks := s.toks + 1 }) : wpAny (model prog w) A (getAttr? (.ref x) "__class__") Q E s := by
  have hf : findObj K D od "__class__" = some (.bind (.builtin "getset_descriptor.__get__") (.builtin "object.__class__")) := mp_findD (by obtain ⟨cd, hc, _⟩ := any_some C.hd; rw [hc]; rfl) C.ha C.hn C.ht
  obtain ⟨hp, g, d, t, os⟩ := s
  have L0 := I.type (M := model prog w)
  have L1 := looks_findIn (M := model prog w) X C.hg
  have L2 := looks_findIn (M := model prog w) X C.hk
  have L3 := looks_find (M := model prog w) X I hf
  have sub : Looks (model prog w) hp (isInstance (.ref x) (.type "BaseException")) true := L0.andThen (looks_subIn X C.hs)
  have hx0 : (false && onTheHeap (Value.builtin "BaseException.__getattribute__")) = false := rfl
  have hx2 : (Value.builtin "BaseException.__getattribute__" == Value.builtin "object.__getattribute__") = false := by decide +kernel
  have hx1 : (onTheHeap (Value.ref D) && Value.builtin "BaseException.__getattribute__" == Value.builtin "object.__getattribute__") = false := by rw [hx2]; rfl
  unfold getAttr? getAttrBy? getAttrBy
  refine wpAny_bind (wpAny_mkText (wpAny_bind (wpAny_attempt (wpAny_holding (wpAny_bind (L0.at (wpAny_bind (L1.at ?_))))))))
  show wpAny _ _ (if (onTheHeap (Value.ref D) && Value.builtin "BaseException.__getattribute__" == Value.builtin "object.__getattribute__") = true then _ else _) _ _ _
  rw [hx1, if_neg Bool.false_ne_true]
  unfold getAttrByItsOwn hookBefore
  refine wpAny_bind ?_
  rw [if_pos (show onTheHeap (Value.ref D) = true from rfl)]
  refine L2.at ?_
  refine wpAny_bind (wpAny_attempt (wpAny_holding ?_))
  unfold callGetattribute
  rw [hx0, if_neg Bool.false_ne_true]
  unfold boundAndCalled
  rw [PySem.F.excAttr_ValueError.ga.bind (.ref x)]
  refine wpAny_bind (wpAny_pure ?_)
  show wpAny _ _ (call (.builtin "BaseException.__getattribute__") [.ref x, .str "__class__" t]) _ _ _
  refine wpAny_call (codeAny_call_builtin PySem.F.excAttr_ValueError.ga.plain PySem.F.entry_bexc_ga ?_)
  refine @check_slot (model prog w) _ _ ⟨hp, g, d, t + 1, os⟩ "BaseException.__getattribute__" "BaseException" "__getattribute__" (.ref x) [.str "__class__" t] [] _ (by decide +kernel) (by decide +kernel) sub (PySem.F.args_bexc_ga (.ref x) (.str "__class__" t)) ?_
  unfold Builtin.«object.__getattribute__»
  refine wpAny_bind (wpAny_of_eq (a := ((Value.ref x : Value), [Value.str "__class__" t])) (by first | rfl | (simp only [slotArgs]; rfl)) ?_)
  refine wpAny_bind (wpAny_pure (wpAny_bind (L0.at (wpAny_bind (L3.at ?_)))))
  show wpAny _ _ (holding [Value.builtin "object.__class__"] (call (.builtin "getset_descriptor.__get__") [.builtin "object.__class__", .ref x, .ref D]) >>= ret) _ _ _
  refine wpAny_bind (wpAny_holding (wpAny_call (class_get (s := ⟨hp, g, d, t + 1, os⟩) (ox := ox) (od := od) X I C.hm ?_)))
  refine wpAny_pure ?_
  show wpAny _ _ (handedOut (.ref D)) _ _ _
  rw [handedOut_of (v := .ref D) rfl]
  first
    | exact wpAny_pure (wpAny_pure h)
    | exact wpAny_pure h
    | exact wpAny_pure (wpAny_bind (wpAny_pure (wpAny_pure h)))
theorem mp_kitx (C : L2.ExcC K D) : KitX K (.ref x) (.ref D) (fun h => InstAt h x ox D od) where
  ty := fun _ _ _ I => I.type
  it := fun _ _ X _ => by
    obtain ⟨cdD, hcD, _⟩ := any_some C.hd
    unfold clsIn at hcD
    split at hcD
    · rename_i c' d' cd' sl' ho
      intro A' Q' E' s' k q
      unfold isType loadHead
      exact wpAny_bind (wpAny_loadPart (k _ _ (X _ _ ho)) (wpAny_pure q))
    · cases hcD
  ne := fun h tp dd its n sl X htp => by
    obtain ⟨cdD, hcD, _⟩ := any_some C.hd
    refine Bool.eq_false_iff.mpr fun q => ?_
    have e : D = tp := Value.ref.inj (beq_iff_eq.mp q)
    subst e
    unfold clsIn at hcD
    split at hcD
    · rename_i c' d' cd' sl' ho
      have z := (X _ _ ho).symm.trans htp
      cases z
    · cases hcD
  ca := fun X I k => mp_class C X I k
end
end PySem.W
namespace L2
open PySem PySem.Spec PyProof.Rows
/-- the error's object, as it stands -/
theorem zc_inst {X : Cx} {pins : List (Addr × Obj)} {σ : St} {H : Hp} {s : Shared} {a D : Addr} {oe : Obj} {d : Option Addr} (I : Inv X pins σ H s) (hget : s.heap.get? a = some oe) (hz : Zc (.ref D) d oe) (hf : ∃ vs, oe.data = .fields vs) (hd : ∀ da, d = some da → ∃ fs, H da = some (.xd fs)) :
    ∃ od, PySem.W.InstAt s.heap a oe D od := by
  obtain ⟨vs, hv⟩ := hf
  obtain ⟨oc, odc, oda, osl⟩ := oe
  obtain ⟨h1, h2⟩ := hz
  dsimp only at h1 h2 hv
  subst h1 h2 hv
  cases odc with
  | none => exact ⟨none, hget, rfl, rfl, trivial⟩
  | some da =>
    obtain ⟨fs, e⟩ := hd da rfl
    have hx : ObjOk X.prog X.w H s.heap da (.xd fs) := I.hok da _ e
    obtain ⟨mA, hns, hr⟩ := hx
    obtain ⟨od, ho, hl⟩ := lookIn_ns hns
    exact ⟨some od, hget, rfl, rfl, ho⟩
theorem call_isE2 {X : Cx} {a D : Addr} {oe : Obj} {d : Option Addr} {pn : List (Addr × Obj)} (C : ExcC X.K D) (hz : Zc (.ref D) d oe) (hf : ∃ vs, oe.data = .fields vs) :
    CallR (X.suite a ((a, oe) :: pn)) (.builtin "isinstance") (fun xs H Q => (∀ da, d = some da → ∃ fs, H da = some (.xd fs)) ∧ rIsE X.K D a xs H Q) := by
  intro pins s σ H xs us Q I r h
  obtain ⟨hd, c, cv, b, rfl, hcv, e, q⟩ := h
  cases r with
  | cons rx rr =>
    cases rr with
    | cons rt rr =>
      cases rr
      cases rx
      have ec := hcv _ rt
      subst ec
      obtain ⟨hget, _⟩ := I.pin (a, oe) (List.mem_append.mpr (.inl List.mem_cons_self))
      obtain ⟨od, J⟩ := zc_inst I hget hz hf hd
      exact PySem.W.kia_one (PySem.W.mp_kitx C) I.kIn J e (fun z => nomatch z) fun tk => ⟨.bl b, H, I.kept (t' := tk) fun _ _ z => z, rfl, q⟩
theorem call_isET2 {X : Cx} {a D : Addr} {oe : Obj} {d : Option Addr} {pn : List (Addr × Obj)} (C : ExcC X.K D) (hz : Zc (.ref D) d oe) (hf : ∃ vs, oe.data = .fields vs) :
    CallR (X.suite a ((a, oe) :: pn)) (.builtin "isinstance") (fun xs H Q => (∀ da, d = some da → ∃ fs, H da = some (.xd fs)) ∧ ∃ tp cs us b, xs = [V.ref a, .ref tp] ∧ H tp = some (.tup cs) ∧ Paired ClsV cs us ∧ PySem.W.kitAny X.K (.ref D) us = some b ∧ Q (.bl b) H) := by
  intro pins s σ H xs us Q I r h
  obtain ⟨hd, tp, cs, ws, b, rfl, hT, k, e, q⟩ := h
  obtain ⟨u1, u2, rfl, r1, r2⟩ := vals2 r
  cases (show u1 = Value.ref a from r1)
  cases (show u2 = Value.ref tp from r2)
  obtain ⟨hget, _⟩ := I.pin (a, oe) (List.mem_append.mpr (.inl List.mem_cons_self))
  obtain ⟨od, J⟩ := zc_inst I hget hz hf hd
  obtain ⟨_, its, rv, o, h1, h2, n, h3⟩ := (show ObjOk X.prog X.w H s.heap tp (.tup cs) from I.hok tp _ hT)
  have e3 := ClsV.all k rv
  subst e3
  obtain ⟨oc, od', dt, sl⟩ := o
  simp only at h2 h3
  subst h2 h3
  exact PySem.W.kia_tup (PySem.W.mp_kitx C) I.kIn J h1 e (fun z => nomatch z) fun tk => ⟨.bl b, H, I.tok tk, rfl, q⟩
end L2

end

section
set_option Elab.async false
set_option linter.all false
set_option maxRecDepth 100000
namespace MP
open PySem PySem.Spec L2
section
variable {w : Wd} {c : Ck} {X : Cx} {sc : Scope} {G : Gx} {W : WX}
theorem xvA_ok {a : Addr} {cls : Value} {d : Option Addr} : XvOk (xvA w a cls d) := fun k p v Hf Hf' l h => ⟨h.1, h.2.mono l⟩
theorem kit_exc (F : Fc w c X sc G) {k : Nat} {q : Xc} (e : w.P.xc k = some q) {p : Option D} : ∀ t b, c.ty t = true → isTy (.xv k p) t w.P.sub = some b → PySem.W.kitOne X.K (.ref (w.cad k)) (tyVal w t) = some b := by
  obtain ⟨_, _, _, h, h2⟩ := F.isE k q e
  intro t b ok e
  rw [F.hK]
  cases t with
  | exc j => cases e; exact (h j ok).1
  | verr => cases e; exact h2
  | _ => cases e
theorem exr_dict {H Hf : Hp} (l : Le Hf H) {k : Nat} {p : Option D} {cls : Value} {d : Option Addr} (h : ExR w Hf k p cls d) : ∀ da, d = some da → ∃ fs, H da = some (.xd fs) := fun da e => by
  obtain ⟨q, _, _, h3, h4⟩ := h
  cases p with
  | none => rw [h3 rfl] at e; cases e
  | some x =>
    obtain ⟨f, da', v, _, e2, e3, _⟩ := h4 x rfl
    rw [e2] at e
    cases e
    exact ⟨_, l _ _ e3⟩
theorem CnE.suite (F : Fc w c X sc G) {a : Addr} {oe : Obj} {cls : Value} {d : Option Addr} (pn : List (Addr × Obj)) (hz : Zc cls d oe) (hf : ∃ vs, oe.data = .fields vs) : CnE w c (xvA w a cls d) (X.suite a ((a, oe) :: pn)) sc G.hot (fun _ _ _ _ => False) where
  hK := F.hK
  hN := F.hN
  nm := F.nm
  nd := F.nd
  vi := F.vi
  gl := F.gl
  cf := fun x h => by
    have e : X.env.scope.names.lookup x = sc.names.lookup x := F.kin x
    show X.env.scope.names.lookup x = _ ∨ X.env.scope.names.lookup x = _
    rw [e]
    exact h
  hu := F.hu
  calm := fun z => by rw [F.hcm] at z; cases z
  xvo := xvA_ok
  gv := fun g d e => F.gv g d (by rw [← F.hgv]; exact e)
  bl := F.bl
  gcd := F.gcd
  rng := F.rng
  enm := F.enm
  zip := F.zip
  isi := F.isi
  ty := F.ty
  is1 := fun pins s σ H vs us Q I r ⟨Hf, o, x, as, t, b, h1, h2, h3, h4, h5, h6⟩ => by
    subst h1
    rw [F.hsub.2] at h5
    by_cases hx : ∃ k p, o = .xv k p
    · obtain ⟨k, p, rfl⟩ := hx
      obtain ⟨_, rfl, ex⟩ := h4
      have dd := exr_dict h3 ex
      obtain ⟨y, e1, rfl, _⟩ := ex
      have C := (F.isE k y e1).1
      rw [← F.hK] at C
      exact call_isE2 C hz hf pins s σ H _ us Q I r ⟨dd, tyV w t, tyVal w t, b, rfl, fun u ru => (clsV t).eq ru, kit_exc F e1 t b h2 h5, h6⟩
    · obtain ⟨tv, h7, h8⟩ := is_od F h3 (fun k p z => hx ⟨k, p, z⟩) (is_cl h5) ⟨t, b, h5⟩ h4
      exact call_isi (X := X.suite a ((a, oe) :: pn)) pins s σ H _ us Q I r ⟨x, tyV w t, tv, tyVal w t, b, rfl, clsV t, h7, h8 t b h2 h5, h6⟩
  isT := fun pins s σ H vs us Q I r ⟨Hf, o, x, as, ts, tp, b, h1, h2, h3, h4, h5, h6, h7, h8⟩ => by
    subst h1
    rw [F.hsub.2] at h7
    by_cases hx : ∃ k p, o = .xv k p
    · obtain ⟨k, p, rfl⟩ := hx
      obtain ⟨_, rfl, ex⟩ := h6
      have dd := exr_dict h5 ex
      obtain ⟨y, e1, rfl, _⟩ := ex
      have C := (F.isE k y e1).1
      rw [← F.hK] at C
      exact call_isET2 C hz hf pins s σ H _ us Q I r ⟨dd, tp, _, _, b, rfl, h2, clsVs ts, kitAny_of (kit_exc F e1) h4 h7, h8⟩
    · have hn : ∃ t b, isTy o t w.P.sub = some b := by
        cases ts with
        | nil => exact absurd rfl h3
        | cons t ts =>
          unfold anyTy at h7
          cases q : isTy o t w.P.sub with
          | none => rw [q] at h7; cases h7
          | some b => exact ⟨t, b, q⟩
      obtain ⟨tv, h9, h10⟩ := is_od F h5 (fun k p z => hx ⟨k, p, z⟩) (any_cl h3 h7) hn h6
      exact call_isiT (X := X.suite a ((a, oe) :: pn)) pins s σ H _ us Q I r ⟨x, tp, _, tv, _, b, rfl, h2, clsVs ts, h9, kitAny_of h10 h4 h7, h8⟩
  fld := fun k f i e => F.fld k f i (by rw [F.hfld.2] at e; exact e)
  xat := fun f pins s σ H x u Q I rx ⟨Hf, k, p, l, ⟨ex, y, e1, ec, _, h4⟩, ef, q⟩ => by
    subst ex ec
    obtain ⟨f', da, v, e2, rfl, e4, rv⟩ := h4 p rfl
    rw [F.hxf.2] at ef
    have ef' : y.fld = some f := by
      unfold Prog.xf at ef
      rw [e1] at ef
      exact ef
    rw [e2] at ef'
    cases ef'
    obtain ⟨_, T, hno, _⟩ := F.isE k y e1
    have hno := hno f e2
    rw [← F.hK] at T hno
    obtain rfl : u = Value.ref a := rx
    obtain ⟨ha, _⟩ := I.pin (a, oe) (List.mem_append_left _ List.mem_cons_self)
    obtain ⟨vs, hd⟩ := hf
    have hx : ObjOk X.prog X.w H s.heap da (.xd [(w.nm f, v)]) := I.hok da _ (l _ _ e4)
    obtain ⟨mA, hns, hr⟩ := hx
    obtain ⟨od, ho, hl⟩ := lookIn_ns hns
    obtain ⟨u, hu, ru⟩ := RelO.some_of (v := v) (o := mA (w.nm f)) (by
      have := hr (w.nm f)
      rw [List.lookup_cons, beq_self_eq_true] at this
      exact this)
    have J : PySem.W.InstAt s.heap a oe (w.cad k) (some od) := ⟨ha, hz.1, by unfold PySem.W.notCls; rw [hd] <;> rfl, by rw [hz.2]; exact ho⟩
    exact HandSPX.exc_get I.kIn J T.ga T.gg T.exC (PySem.W.findObj_own T.hdC hno rfl (by rw [hl, hu])) (handed_of ru) ⟨v, H, I.tok _, ru, q v rv⟩
  tk := fun u s' ⟨a, B, sI, pins, σ, H, cls, d, e, I, nb, up, sky, na, os, ag, w⟩ => w.elim
  cah := fun _ f p pos y xs ta h1 h2 h3 h4 => F.cah (X.suite a ((a, oe) :: pn)) ⟨rfl, rfl, rfl, rfl, rfl, Nat.le_refl _, Nat.le_refl _⟩ _ f p pos y xs ta h1 (F.gl _ h2) (glb_of0 h2) h3 h4
  ww := fun z => by rw [F.hcm] at z; cases z
theorem CnS.suite (F : Fc w c X sc G) {a : Addr} {oe : Obj} {cls : Value} {d : Option Addr} (pn : List (Addr × Obj)) (hz : Zc cls d oe) (hf : ∃ vs, oe.data = .fields vs) : CnS w c (xvA w a cls d) (X.suite a ((a, oe) :: pn)) sc { G with toFx := G.hot } (fun _ _ _ _ => False) :=
  { CnE.suite F pn hz hf with lo := F.lo, fc := fun z => by rw [show ({ G with toFx := G.hot } : Gx).calm = G.hot.calm from rfl, F.hcm] at z; cases z }
end
end MP

end

section
set_option Elab.async false
set_option linter.all false
set_option maxRecDepth 100000
namespace MP
open PySem PySem.Spec L2
section
variable {w : Wd} {c : Ck} {xv : XV} {X : Cx} {sc : Scope} {G : Gx} {W : WX}
theorem sw_eq {sc : Scope} {env : Env} (hk : ∀ x, env.kindOf x = sc.names.lookup x) (hd : env.scope.kind = .function) {tg x : Expr} {r : Option (List Str)} (h : swP sc tg x = some r) : swappedStores [tg] x env = pure r := by
  unfold swP at h
  split at h
  · rename_i ts k p vs k2 p2
    have hb : env.blockKind = .function := by unfold Env.blockKind; rw [hd]; rfl
    unfold swappedStores
    simp only [hb, hk, bne_self_eq_false, Bool.or_false]
    split at h
    · rename_i h1
      cases h
      exact if_pos h1
    · rename_i h1
      refine Eq.trans (if_neg h1) ?_
      split at h
      · rename_i h2
        cases h
        exact if_pos h2
      · rename_i h2
        refine Eq.trans (if_neg h2) ?_
        simp only at h
        split at h
        · rename_i h3
          cases h
          exact if_pos h3
        · rename_i h3
          refine Eq.trans (if_neg h3) ?_
          split at h
          · rename_i h4
            cases h
            exact if_pos h4
          · rename_i h4
            refine Eq.trans (if_neg h4) ?_
            split at h
            · cases h
            · rename_i h5
              cases h
              exact if_neg h5
  · cases h
  · rename_i h1 h2
    cases h
    cases tg with
    | Tuple es k p => cases x <;> first | rfl | exact absurd rfl (h1 _ _ _ _ _ _ rfl)
    | List es k => cases x <;> first | rfl | exact absurd rfl (h2 _ _ _ _ _ rfl)
    | _ => rfl
/-! ### targets -/
def gX (w : Wd) (xv : XV) (t : T) : TG := fun v σ H Q => ∃ H0 Hf0 Hb Hf Γ d Γ', J w xv H0 Hf0 Hb Γ σ H Hf ∧ Rep w Hf d v ∧ setT t (.fz d) Γ = some Γ' ∧ ∀ σ', J w xv H0 Hf0 Hb Γ' σ' H Hf → Q σ' H
def gXs (w : Wd) (xv : XV) (ts : List T) : TGs := fun vs σ H Q => ∃ H0 Hf0 Hb Hf Γ ds Γ', J w xv H0 Hf0 Hb Γ σ H Hf ∧ Reps w Hf ds vs ∧ setTs ts ds Γ = some Γ' ∧ ∀ σ', J w xv H0 Hf0 Hb Γ' σ' H Hf → Q σ' H
mutual
theorem pg_D (cn : CnS w c xv X sc G W) (hc : X.calm = true) : ∀ {t : T} {e : Expr}, kT c sc t e = true → PG X e (gX w xv t)
  | .n i, e, h => by
    unfold kT at h
    split at h
    · rename_i x p heq
      cases heq
      obtain ⟨h1, h2⟩ := an h
      obtain ⟨h3, h4⟩ := cn.lo _ h2
      refine PG.imp (pg_name cn.nd (by rw [cn.hN]; exact of_decide_eq_true h1) h3 h4) fun v σ H Q ⟨H0, Hf0, Hb, Hf, Γ, d, Γ', j, r, e, q⟩ => ?_
      unfold setT at e
      split at e
      · rename_i hi
        cases e
        exact q _ (j.set cn.xvo (Gr.refl j.gr.lf) hi (res_fz r))
      · cases e
    · rename_i heq
      cases heq
    · exact nb h
  | .t ts, e, h => by
    unfold kT at h
    split at h
    · rename_i heq
      cases heq
    · rename_i es kk p heq
      cases heq
      obtain ⟨l1, l2⟩ := ae_len (env := X.env) h
      refine PG.imp (PG.or (pg_tup hc (pgs_D cn hc h) l1 l2) (pg_lst hc (pgs_D cn hc h) l1 l2)) fun v σ H Q ⟨H0, Hf0, Hb, Hf, Γ, d, Γ', j, r, e, q⟩ => ?_
      unfold setT at e
      have e : (match d.items with
        | some ds => setTs ts ds Γ
        | none => none) = some Γ' := e
      cases d with
      | tup ds =>
        obtain ⟨a, vs, rfl, s, rr⟩ := Rep.tup_iff.mp r
        exact .inl ⟨a, vs, rfl, by rw [cn.hK]; exact j.gr.lf.sqT w s, by rw [rr.length, setTs_len e], H0, Hf0, Hb, Hf, Γ, ds, Γ', j, rr, e, q⟩
      | lst ds =>
        obtain ⟨a, vs, rfl, s, rr⟩ := Rep.lst_iff.mp r
        exact .inr ⟨a, vs, rfl, .inl (j.gr.lf.rd s), by rw [rr.length, setTs_len e], H0, Hf0, Hb, Hf, Γ, ds, Γ', j, rr, e, q⟩
      | _ => cases e
    · exact nb h
theorem pgs_D (cn : CnS w c xv X sc G W) (hc : X.calm = true) : ∀ {ts : List T} {es : List Expr}, kTs c sc ts es = true → PGs X es (gXs w xv ts)
  | [], [], h => PGs.imp pgs_nil fun vs σ H Q ⟨H0, Hf0, Hb, Hf, Γ, ds, Γ', j, r, e, q⟩ => by
    cases ds with
    | nil =>
      unfold setTs at e
      cases e
      exact ⟨Reps.nil_iff.mp r, q σ j⟩
    | cons d ds => unfold setTs at e; cases e
  | [], _ :: _, h => nb h
  | _ :: _, [], h => nb h
  | t :: ts, e :: es, h => by
    obtain ⟨h1, h2⟩ := an h
    refine PGs.imp (pgs_cons (pg_D cn hc h1) (pgs_D cn hc h2) (by rw [ae_cons h1]; rfl)) fun vs σ H Q ⟨H0, Hf0, Hb, Hf, Γ, ds, Γ', j, r, e, q⟩ => ?_
    cases ds with
    | nil => unfold setTs at e; cases e
    | cons d ds =>
      unfold setTs at e
      obtain ⟨Γ1, e1, e2⟩ := Option.bind_eq_some_iff.mp e
      obtain ⟨v, vs', rfl, r1, r2⟩ := Reps.cons_iff.mp r
      exact ⟨v, vs', rfl, H0, Hf0, Hb, Hf, Γ, d, Γ1, j, r1, e1, fun σ1 j1 => ⟨H0, Hf0, Hb, Hf, Γ1, ds, Γ', j1, r2, e2, q⟩⟩
end
/-! ### statements -/
def SS (w : Wd) (c : Ck) (s : S) : Prop := ∀ (xv : XV) (X : Cx) (sc : Scope) (G : Gx) (W : WX), CnS w c xv X sc G W → ∀ (st : Stmt), kS c sc s st = true → PS X st (tX w xv W (exec s G))
def SL (w : Wd) (c : Ck) (ss : List S) : Prop := ∀ (xv : XV) (X : Cx) (sc : Scope) (G : Gx) (W : WX), CnS w c xv X sc G W → ∀ (sts : List Stmt), kSs c sc ss sts = true → PSs X sts (tX w xv W (execs ss G))
theorem ss_pass : SS w c .pass := fun xv X sc G W cn st h => by
  unfold kS kPass at h
  split at h
  · exact PS.imp ps_pass fun D σ H ⟨H0, Hf0, Hb, Hf, Γ, j, q⟩ => by unfold exec at q; exact q σ H Hf j
  · exact PS.imp ps_doc fun D σ H ⟨H0, Hf0, Hb, Hf, Γ, j, q⟩ => by unfold exec at q; exact q σ H Hf j
  · exact nb h
theorem swap_no {x : Expr} {tg : Option Expr} {l : Nat} {env : Env} (h : noComp x = true) : swapsWith x tg l env = pure false := by
  cases x <;> first | rfl | cases h
theorem ss_ex {e : E} : SS w c (.ex e) := fun xv X sc G W cn st h => by
  unfold kS kEx at h
  split at h
  · obtain ⟨h1, h2⟩ := an h
    refine PS.imp (ps_expr (SE.all e xv X sc G.toFx W cn.toCnE _ true h2) (swap_no h1)) fun D σ H ⟨H0, Hf0, Hb, Hf, Γ, j, q⟩ => ?_
    unfold exec at q
    exact ⟨Hf, Γ, j.at, (q.liftR cn.xvo j).imp fun o _ q v H' Hf' g r => q σ H' Hf' (j.mono cn.xvo g)⟩
  · exact nb h
/-- t = e, the plain way -/
theorem ps_asg0 {t : T} {e : E} (cn : CnS w c xv X sc G W) {st : Stmt} (h : kAsg sc (kT c sc t) (kE c sc e) st = true) : PS X st (tX w xv W (exec (.asg t e) G)) := by
  unfold kAsg at h
  split at h
  · rename_i tg x p
    obtain ⟨h1, h⟩ := an h
    obtain ⟨h2, h⟩ := an h
    obtain ⟨h3, h4⟩ := an h
    have h2 := of_decide_eq_true h2
    have pe := SE.all e xv X sc G.toFx W cn.toCnE _ false h4
    cases t with
    | n i =>
      cases tg with
      | Name y q =>
        obtain ⟨k1, k2⟩ := an (show (decide (c.N[i]? = some y) && MP.loc sc y) = true from h3)
        obtain ⟨k3, k4⟩ := cn.lo _ k2
        refine PS.imp (ps_set cn.nd (by rw [cn.hN]; exact of_decide_eq_true k1) k3 pe (swap_no h1) k4) fun D σ H ⟨H0, Hf0, Hb, Hf, Γ, j, q⟩ => ?_
        unfold exec at q
        simp only [T.isT, Bool.and_false, Bool.false_eq_true, if_false] at q
        refine ⟨Hf, Γ, j.at, (q.liftR cn.xvo j).imp fun o _ q v H' Hf' g r => ?_⟩
        obtain ⟨Γ', e1, q⟩ := q.liftO
        unfold setT at e1
        split at e1
        · rename_i hi
          cases e1
          rw [Bool.and_false] at r
          exact q _ H' Hf' (j.set cn.xvo g hi r)
        · cases e1
      | _ => exact nb h3
    | t ts =>
      cases hcm : G.calm with
      | false =>
        exact ⟨fun pins s σ H D I ⟨H0, Hf0, Hb, Hf, Γ, j, q⟩ => by
          unfold exec at q
          simp only [hcm, T.isT, Bool.not_false, Bool.and_self, if_true] at q
          exact q.elim⟩
      | true =>
        have hc := cn.calm hcm
        obtain ⟨F, _, _⟩ := cn.fc hcm
        have e1 : (assignEach [tg] X.env).map (·.2) = [assign tg X.env] := by rw [ae_cons h3]; rfl
        have hw : swappedStores [tg] x X.env = pure none := sw_eq F.kin F.knd h2
        refine PS.imp (ps_asg pe (pg_D cn hc h3) (swap_no h1) hw e1) fun D σ H ⟨H0, Hf0, Hb, Hf, Γ, j, q⟩ => ?_
        unfold exec at q
        simp only [hcm, Bool.not_true, Bool.false_and, Bool.false_eq_true, if_false] at q
        refine ⟨Hf, Γ, j.at, (q.liftR cn.xvo j).imp fun o _ q v H' Hf' g r => ?_⟩
        obtain ⟨Γ', e1, q⟩ := q.liftO
        have e2 : ∃ d, o.toD = some d ∧ setT (.t ts) (.fz d) Γ = some Γ' := by
          unfold setT at e1 ⊢
          cases q : o.toD with
          | none => rw [q] at e1; cases e1
          | some d => rw [q] at e1; exact ⟨d, rfl, e1⟩
        obtain ⟨d, e3, e4⟩ := e2
        rw [Bool.and_false] at r
        obtain ⟨Hf2, g2, r2⟩ := r.data g e3
        exact ⟨H0, Hf0, Hb, Hf2, Γ, d, Γ', j.mono cn.xvo g2, r2, e4, fun σ' j' => q σ' H' Hf2 j'⟩
  · exact nb h
theorem setT_n {i : Nat} {o : OD} {Γ Γ' : List OD} (h : setT (.n i) o Γ = some Γ') : i < Γ.length ∧ Γ' = Γ.set i o := by
  unfold setT at h
  split at h
  · rename_i hi
    cases h
    exact ⟨hi, rfl⟩
  · cases h
theorem tup_asg {ts : List T} {es : List E} {H0 Hf0 Hb : Hp} {D : Ends} {Γ : List OD} {σ : L2.St} {H Hf : Hp} (hx : XvOk xv) (hcm : G.calm = true) (j : J w xv H0 Hf0 Hb Γ σ H Hf) (q : wpX w xv W H0 Hf0 Hb D (exec (.asg (.t ts) (.tup es)) G Γ)) :
    wpR w W σ H Hf (evF G.toFx es Γ) fun ds => ∃ Γ', setTs ts ds Γ = some Γ' ∧ wpX w xv W H0 Hf0 Hb D (.ok .nx Γ') := by
  unfold exec at q
  simp only [hcm, Bool.not_true, Bool.false_and, Bool.false_eq_true, if_false] at q
  have q := q.liftR hx j
  unfold ev at q
  refine (wpR.bind.mp q).imp fun ds _ q => ?_
  obtain ⟨Γ', e1, q⟩ := wpX.liftO q
  unfold setT at e1
  exact ⟨Γ', e1, q⟩
/-- a, b = x, y, the stores swapped -/
theorem ps_asgP {ts : List T} {es : List E} (cn : CnS w c xv X sc G W) {st : Stmt} (h : kPar c sc ts (kEs c sc es) st = true) : PS X st (tX w xv W (exec (.asg (.t ts) (.tup es)) G)) := by
  cases hcm : G.calm with
  | false =>
    exact ⟨fun pins s σ H D I ⟨H0, Hf0, Hb, Hf, Γ, j, q⟩ => by
      unfold exec at q
      simp only [hcm, T.isT, Bool.not_false, Bool.and_self, if_true] at q
      exact q.elim⟩
  | true =>
    have hc := cn.calm hcm
    obtain ⟨F, _, _⟩ := cn.fc hcm
    unfold kPar at h
    split at h
    · rename_i x px y py kt pt a b k2 pt2 pos
      split at h
      · rename_i i j
        obtain ⟨h1, h⟩ := an h
        obtain ⟨h2, h⟩ := an h
        obtain ⟨h3, h⟩ := an h
        obtain ⟨h4, h⟩ := an h
        obtain ⟨h5, h⟩ := an h
        obtain ⟨h6, h7⟩ := an h
        have hij := of_decide_eq_true h5
        have kk : ∀ x, X.env.scope.names.lookup x = sc.names.lookup x := F.kin
        refine PS.imp (ps_par hc cn.nd (by rw [cn.hN]; exact of_decide_eq_true h1) (by rw [cn.hN]; exact of_decide_eq_true h2) hij (by rw [kk]; exact of_decide_eq_true h3) (by rw [kk]; exact of_decide_eq_true h4) (pa_F cn.toCnE (fun e _ => SE.all e) h6) (sw_eq F.kin F.knd (of_decide_eq_true h7))) fun D σ H ⟨H0, Hf0, Hb, Hf, Γ, jj, q⟩ => ?_
        refine ⟨Hf, Γ, jj.at, (tup_asg cn.xvo hcm jj q).imp fun ds _ ⟨Γ', e1, q⟩ vs H' Hf' g al => ?_⟩
        have l2 := setTs_len e1
        obtain ⟨d1, d2, rfl⟩ : ∃ d1 d2, ds = [d1, d2] := by
          match ds, l2 with
          | [d1, d2], _ => exact ⟨d1, d2, rfl⟩
        obtain ⟨v1, _, rfl, r1, v2, _, rfl, r2, rfl⟩ := al
        refine ⟨v1, v2, rfl, ?_⟩
        unfold setTs at e1
        obtain ⟨Γ1, e2, e1⟩ := Option.bind_eq_some_iff.mp e1
        unfold setTs at e1
        obtain ⟨Γ2, e3, e1⟩ := Option.bind_eq_some_iff.mp e1
        unfold setTs at e1
        cases e1
        obtain ⟨i1, rfl⟩ := setT_n e2
        obtain ⟨i2, rfl⟩ := setT_n e3
        have j1 := jj.set cn.xvo g i1 (res_fz (H0 := H) r1)
        exact q _ H' Hf' (j1.set cn.xvo (Gr.refl j1.gr.lf) i2 (res_fz r2))
      · exact nb h
    · rename_i x px y py z pz kt pt a b d k2 pt2 pos
      split at h
      · rename_i i j l
        obtain ⟨h1, h⟩ := an h
        obtain ⟨h2, h⟩ := an h
        obtain ⟨h3, h⟩ := an h
        obtain ⟨h4, h⟩ := an h
        obtain ⟨h5, h⟩ := an h
        obtain ⟨h6, h⟩ := an h
        obtain ⟨h7, h⟩ := an h
        obtain ⟨h8, h⟩ := an h
        obtain ⟨h9, h⟩ := an h
        obtain ⟨h10, h11⟩ := an h
        have kk : ∀ x, X.env.scope.names.lookup x = sc.names.lookup x := F.kin
        refine PS.imp (ps_par3 hc cn.nd (by rw [cn.hN]; exact of_decide_eq_true h1) (by rw [cn.hN]; exact of_decide_eq_true h2) (by rw [cn.hN]; exact of_decide_eq_true h3) (of_decide_eq_true h7) (of_decide_eq_true h8) (of_decide_eq_true h9) (by rw [kk]; exact of_decide_eq_true h4) (by rw [kk]; exact of_decide_eq_true h5) (by rw [kk]; exact of_decide_eq_true h6)
          (pa_F cn.toCnE (fun e _ => SE.all e) h10) (sw_eq F.kin F.knd (of_decide_eq_true h11))) fun D σ H ⟨H0, Hf0, Hb, Hf, Γ, jj, q⟩ => ?_
        refine ⟨Hf, Γ, jj.at, (tup_asg cn.xvo hcm jj q).imp fun ds _ ⟨Γ', e1, q⟩ vs H' Hf' g al => ?_⟩
        have l2 := setTs_len e1
        obtain ⟨d1, d2, d3, rfl⟩ : ∃ d1 d2 d3, ds = [d1, d2, d3] := by
          match ds, l2 with
          | [d1, d2, d3], _ => exact ⟨d1, d2, d3, rfl⟩
        obtain ⟨v1, _, rfl, r1, v2, _, rfl, r2, v3, _, rfl, r3, rfl⟩ := al
        refine ⟨v1, v2, v3, rfl, ?_⟩
        unfold setTs at e1
        obtain ⟨Γ1, e2, e1⟩ := Option.bind_eq_some_iff.mp e1
        unfold setTs at e1
        obtain ⟨Γ2, e3, e1⟩ := Option.bind_eq_some_iff.mp e1
        unfold setTs at e1
        obtain ⟨Γ3, e4, e1⟩ := Option.bind_eq_some_iff.mp e1
        unfold setTs at e1
        cases e1
        obtain ⟨i1, rfl⟩ := setT_n e2
        obtain ⟨i2, rfl⟩ := setT_n e3
        obtain ⟨i3, rfl⟩ := setT_n e4
        have j1 := jj.set cn.xvo g i1 (res_fz (H0 := H) r1)
        have j2 := j1.set cn.xvo (Gr.refl j1.gr.lf) i2 (res_fz (H0 := H') r2)
        exact q _ H' Hf' (j2.set cn.xvo (Gr.refl j1.gr.lf) i3 (res_fz r3))
      · exact nb h
    · exact nb h
/-- name = [.. for ..] on one line -/
theorem ps_asgL {t : T} {e0 : E} {tg : T} {it : E} {cs : List E} (cn : CnS w c xv X sc G W) {st : Stmt} (h : kSetLc c sc t (kE c sc (.comp e0 tg it cs)) st = true) : PS X st (tX w xv W (exec (.asg t (.comp e0 tg it cs)) G)) := by
  cases hcm : G.calm with
  | false =>
    exact ⟨fun pins s σ H D I ⟨H0, Hf0, Hb, Hf, Γ, j, q⟩ => by
      unfold exec at q
      unfold ev at q
      simp only [hcm, Bool.not_false, Bool.true_and, if_true] at q
      cases t <;> exact q.elim⟩
  | true =>
    have hc := cn.calm hcm
    obtain ⟨F, _, _⟩ := cn.fc hcm
    unfold kSetLc at h
    split at h
    · rename_i y py x gs sc2 p pos
      split at h
      · rename_i i
        obtain ⟨h1, h⟩ := an h
        obtain ⟨h2, h⟩ := an h
        obtain ⟨h3, h⟩ := an h
        obtain ⟨h4, hk⟩ := an h
        have hy := of_decide_eq_true h2
        have kk : ∀ x, X.env.scope.names.lookup x = sc.names.lookup x := F.kin
        rw [kE_comp] at hk
        unfold kComp at hk
        split at hk
        · rename_i x0 t i' ifs sc3 pos' heq
          cases heq
          obtain ⟨k1, hk⟩ := an hk
          obtain ⟨k2, hk⟩ := an hk
          obtain ⟨k3, hk⟩ := an hk
          obtain ⟨k4, hk⟩ := an hk
          obtain ⟨k5, hk⟩ := an hk
          obtain ⟨k6, hk⟩ := an hk
          obtain ⟨k7, k8⟩ := an hk
          have bl := fun (s : Shared) (H : Hp) (C : Addr) (cl : List (Str × Addr)) (fp : List Addr) => cn.toCnE.blk hcm s H sc2 C cl fp
          refine PS.imp (ps_setLc hc cn.nd (by rw [cn.hN]; exact of_decide_eq_true h1) (by rw [kk]; exact hy) (sw_true F.knd (by rw [kk]; exact hy) h3 (by simpa using h4)) ((IC.all it) xv X sc G.toFx W cn.toCnE hcm t i' k3) (comp_ok cn.toCnE k7)
            (fun s H C cl fp => pg_A (w := w) (xv := xv) (sc := sc2) (bl s H C cl fp).hK (bl s H C cl fp).hN (bl s H C cl fp).nd (fun x h => blk_lo h) hc k2)
            (fun s H C cl fp => pts_C (bl s H C cl fp) (of_decide_eq_true k6) (fun e _ => ST.all e) k5)
            (fun s H C cl fp => SE.all e0 xv _ sc2 G.toFx Wno (bl s H C cl fp) _ false k1) (set_no k4)) fun D σ H ⟨H0, Hf0, Hb, Hf, Γ, j, q⟩ => ?_
          unfold exec at q
          simp only [hcm, Bool.not_true, Bool.false_and, Bool.false_eq_true, if_false] at q
          refine comp_imp (Fx := G.toFx) (W := W) (pk := false) cn.xvo hcm ⟨Hf, Γ, j.at, (q.liftR cn.xvo j).imp fun o _ q v H' Hf' g r => ?_⟩
          obtain ⟨Γ', e1, q⟩ := q.liftO
          unfold setT at e1
          split at e1
          · rename_i hi
            cases e1
            rw [Bool.and_false] at r
            exact q _ H' Hf' (j.set cn.xvo g hi r)
          · cases e1
        · exact nb hk
      · exact nb h
    · exact nb h
/-- name = e, the name a cell -/
theorem swap_cell {y : Str} {py : Pos} {x : Expr} {l : Nat} {env : Env} (h : env.kindOf y = some .cell) : swapsWith x (some (.Name y py)) l env = pure false := by
  have e : (env.kindOf y == some NameKind.local) = false := by rw [h]; rfl
  unfold swapsWith
  split <;> simp [e]
theorem ps_asgC {t : T} {e : E} (cn : CnS w c xv X sc G W) {st : Stmt} (h : kSetCl c sc t (kE c sc e) st = true) (hk : ∀ y, X.env.kindOf y = sc.names.lookup y) : PS X st (tX w xv W (exec (.asg t e) G)) := by
  unfold kSetCl at h
  split at h
  · rename_i y py x pos
    split at h
    · rename_i i
      obtain ⟨h1, h⟩ := an h
      obtain ⟨h2, h4⟩ := an h
      have hy := of_decide_eq_true h2
      have pe := SE.all e xv X sc G.toFx W cn.toCnE _ false h4
      obtain ⟨k3, k4⟩ := cn.lo y (by unfold MP.loc; rw [hy])
      refine PS.imp (ps_set cn.nd (by rw [cn.hN]; exact of_decide_eq_true h1) k3 pe (swap_cell (by rw [hk]; exact hy)) k4) fun D σ H ⟨H0, Hf0, Hb, Hf, Γ, j, q⟩ => ?_
      unfold exec at q
      simp only [T.isT, Bool.and_false, Bool.false_eq_true, if_false] at q
      refine ⟨Hf, Γ, j.at, (q.liftR cn.xvo j).imp fun o _ q v H' Hf' g r => ?_⟩
      obtain ⟨Γ', e1, q⟩ := q.liftO
      obtain ⟨hi, rfl⟩ := setT_n e1
      rw [Bool.and_false] at r
      exact q _ H' Hf' (j.set cn.xvo g hi r)
    · exact nb h
  · exact nb h
theorem ss_asg {t : T} {e : E} : SS w c (.asg t e) := fun xv X sc G W cn st h => by
  unfold kS at h
  rcases Bool.or_eq_true_iff.mp h with h | h
  · exact ps_asg0 cn h
  · rcases Bool.or_eq_true_iff.mp h with h | h
    · cases t with
      | n i => exact nb h
      | t ts =>
        cases e with
        | tup es => exact ps_asgP cn h
        | _ => exact nb h
    · cases e with
      | comp e0 tg it cs =>
        rcases Bool.or_eq_true_iff.mp h with h | h
        · exact ps_asgL cn h
        · cases hcm : G.calm with
          | false =>
            exact ⟨fun pins s σ H D I ⟨H0, Hf0, Hb, Hf, Γ, j, q⟩ => by
              unfold exec at q
              unfold ev at q
              simp only [hcm, Bool.not_false, Bool.true_and, if_true] at q
              cases t <;> exact q.elim⟩
          | true =>
            obtain ⟨F, _, _⟩ := cn.fc hcm
            exact ps_asgC cn h F.kin
      | _ => exact nb h
/-- while -/
theorem ss_whl {t : E} {b : List S} (hb : SL w c b) : SS w c (.whl t b) := fun xv X sc G W cn st h => by
  unfold kS kWhl at h
  split at h
  · rename_i x ys p
    obtain ⟨h1, h2⟩ := an h
    cases hcm : G.calm with
    | false =>
      exact ⟨fun pins s σ H D I ⟨H0, Hf0, Hb, Hf, Γ, j, q⟩ => by
        unfold exec at q
        simp only [hcm, if_true] at q
        exact q.elim⟩
    | true =>
      obtain ⟨F, rfl, hp⟩ := cn.fc hcm
      refine PS.imp (ps_while hp (ST.all t xv0 X sc G.toFx W cn.toCnE x h1) (hb xv0 X sc G W cn ys h2)) fun D σ H ⟨H0, Hf0, Hb, Hf, Γ, j, q⟩ => ?_
      unfold exec at q
      simp only [hcm, Bool.true_eq_false, if_false] at q
      refine ⟨fun m σ H => ∃ Hf Γ, J w xv0 H0 Hf0 Hb Γ σ H Hf ∧ wpX w xv0 W H0 Hf0 Hb D (whlL (fun Γ => tru (ev G.toFx t Γ true)) (fun Γ => execs b G Γ) m Γ), ⟨G.wide, Hf, Γ, j, q⟩, fun m σ H ⟨Hf, Γ, j, q⟩ => ?_⟩
      cases m with
      | zero => exact q.elim
      | succ m =>
        unfold whlL at q
        refine ⟨Hf, Γ, j.at, (q.liftR cn.xvo j).imp fun d _ q H' Hf' g => ?_⟩
        have j' := j.mono cn.xvo g
        cases d with
        | false => exact q σ H' Hf' j'
        | true =>
          refine ⟨fun σ H => ∃ Hf Γ, J w xv0 H0 Hf0 Hb Γ σ H Hf ∧ wpX w xv0 W H0 Hf0 Hb D (whlL (fun Γ => tru (ev G.toFx t Γ true)) (fun Γ => execs b G Γ) m Γ), fun σ' H' p => ⟨m, Nat.lt_succ_self _, p⟩, H0, Hf0, Hb, Hf', Γ, j', ?_⟩
          have q : wpX w xv0 W H0 Hf0 Hb D (match execs b G Γ with
            | .ok .nx Γ2 => whlL (fun Γ => tru (ev G.toFx t Γ true)) (fun Γ => execs b G Γ) m Γ2
            | .ok .ct Γ2 => whlL (fun Γ => tru (ev G.toFx t Γ true)) (fun Γ => execs b G Γ) m Γ2
            | .ok .bk Γ2 => .ok .nx Γ2
            | r => r) := q
          cases q2 : execs b G Γ with
          | ok f Γ2 =>
            rw [q2] at q
            cases f with
            | nx => exact fun σ H Hf j => ⟨Hf, Γ2, j, q⟩
            | ct => exact fun σ H Hf j => ⟨Hf, Γ2, j, q⟩
            | bk => exact q
            | rt o => exact q
          | ex k p Γ2 => rw [q2] at q; exact q
          | bad => rw [q2] at q; exact q.elim
  · exact nb h
theorem ss_ret {e : E} : SS w c (.ret e) := fun xv X sc G W cn st h => by
  unfold kS kRet at h
  split at h
  · refine PS.imp ps_retN fun D σ H ⟨H0, Hf0, Hb, Hf, Γ, j, q⟩ => ?_
    cases e with
    | non =>
      unfold exec retE ev at q
      exact q _ σ H Hf j (res_fz (Rep.non_iff.mpr rfl))
    | _ => exact nb h
  · rename_i x p
    by_cases hv : ∃ i, e = .var i
    · obtain ⟨i, rfl⟩ := hv
      unfold kE kVar at h
      split at h
      · obtain ⟨h1, h2⟩ := an h
        obtain ⟨d1, d2⟩ := vis_of h2
        refine PS.imp (ps_ret (pe_var (by rw [cn.hN]; exact of_decide_eq_true h1) (cn.vi _ h2) d1 d2)) fun D σ H ⟨H0, Hf0, Hb, Hf, Γ, j, q⟩ => ?_
        unfold exec retE at q
        simp only at q
        cases eo : Γ[i]? with
        | none => rw [eo] at q; exact q.elim
        | some o =>
          rw [eo] at q
          have ne : o ≠ .un := fun z => by subst z; exact q.elim
          obtain ⟨v, as, e1, r, nd, f⟩ := j.slot eo ne
          refine ⟨v, e1, ?_⟩
          have q : wpX w xv W H0 Hf0 Hb D (.ok (.rt o) Γ) := by
            cases o <;> first | exact absurd rfl ne | exact q
          exact q v σ H Hf j ⟨as, r, nd, fun _ => f⟩
      · exact nb h
    · refine PS.imp (ps_ret (SE.all e xv X sc G.toFx W cn.toCnE _ false h)) fun D σ H ⟨H0, Hf0, Hb, Hf, Γ, j, q⟩ => ?_
      have q : wpX w xv W H0 Hf0 Hb D (liftR (ev G.toFx e Γ false) Γ fun o => .ok (.rt o) Γ) := by
        unfold exec retE at q
        cases e <;> first | exact absurd ⟨_, rfl⟩ hv | exact q
      exact ⟨Hf, Γ, j.at, (q.liftR cn.xvo j).imp fun o _ q v H' Hf' g r => q v σ H' Hf' (j.mono cn.xvo g) (by rw [Bool.and_false] at r; exact r.back j.gr)⟩
  · exact nb h
theorem ss_iff {t : E} {a b : List S} (ha : SL w c a) (hb : SL w c b) : SS w c (.iff t a b) := fun xv X sc G W cn st h => by
  unfold kS kIff at h
  split at h
  · obtain ⟨h1, h⟩ := an h
    obtain ⟨h2, h3⟩ := an h
    refine PS.imp (ps_if (ST.all t xv X sc G.toFx W cn.toCnE _ h1) (ha xv X sc G W cn _ h2) (hb xv X sc G W cn _ h3)) fun D σ H ⟨H0, Hf0, Hb, Hf, Γ, j, q⟩ => ?_
    unfold exec at q
    refine ⟨Hf, Γ, j.at, (q.liftR cn.xvo j).imp fun d _ q H' Hf' g => ?_⟩
    cases d with
    | true => exact ⟨H0, Hf0, Hb, Hf', Γ, j.mono cn.xvo g, q⟩
    | false => exact ⟨H0, Hf0, Hb, Hf', Γ, j.mono cn.xvo g, q⟩
  · exact nb h
theorem ss_app {i : Nat} {e : E} : SS w c (.app i e) := fun xv X sc G W cn st h => by
  unfold kS kApp at h
  split at h
  · rename_i y yp g ap z p pp
    obtain ⟨h1, h⟩ := an h
    obtain ⟨h2, h⟩ := an h
    obtain ⟨h3, h⟩ := an h
    obtain ⟨h4, h⟩ := an h
    obtain ⟨h5, h6⟩ := an h
    have e1 := of_decide_eq_true h3
    subst e1
    obtain ⟨d1, d2⟩ := vis_of h2
    have pv : PE X (.Name y yp) (tVar i) := pe_var (by rw [cn.hN]; exact of_decide_eq_true h1) (cn.vi _ h2) d1 d2
    have hs : starEach [z] X.env = (false, eval z X.env) :: starEach [] X.env := star_of h5
    have hb : (backTo p (starEach [] X.env)).any (·.1) = false := rfl
    have few : ((backTo p (starEach [z] X.env)).all (fun x => !x.1) && (backToKw p (keywordEach [] X.env)).all (fun x => x.1.isSome) && decide ([z].length + ([] : List Keyword).length + (if ([] : List Keyword).isEmpty then 0 else 1) < 30)) = true := by
      rw [hs]; rfl
    refine PS.imp (ps_expr (pe_bm PySem.F.plainAttrs_list PySem.F.slot_list_append PySem.F.type_list_append mt_append pv (pa_cons (SE.all e xv X sc G.toFx W cn.toCnE _ false h6) pa_nil hs) (by rfl) few h4 hs hb) (by rfl)) fun D σ H ⟨H0, Hf0, Hb, Hf, Γ, j, q⟩ => ?_
    unfold exec at q
    cases ho : ownAt Γ i with
    | false => rw [ho] at q; exact q.elim
    | true =>
    rw [ho] at q
    have q : wpX w xv W H0 Hf0 Hb D (liftR (ev G.toFx e Γ false) Γ fun o => liftO (appAt Γ i o) fun Γ' => .ok .nx Γ') := q
    have q := q.liftR cn.xvo j
    obtain ⟨v0, as0, e1, r1, e0⟩ : ∃ v as, σ[i]? = some (some v) ∧ (∃ a vs, v = V.ref a ∧ H a = some (.lst vs)) ∧ True := by
      unfold ownAt at ho
      split at ho
      · rename_i ds eo
        obtain ⟨v, as, k1, ⟨a, vs, k2, _, k3, _⟩, _⟩ := j.slot eo (fun z => nomatch z)
        exact ⟨v, as, k1, ⟨a, vs, k2, k3⟩, trivial⟩
      · rename_i ds eo
        obtain ⟨v, as, k1, ⟨a, vs, as', k2, _, k3, _⟩, _⟩ := j.slot eo (fun z => nomatch z)
        exact ⟨v, as, k1, ⟨a, vs, k2, k3⟩, trivial⟩
      · cases ho
    obtain ⟨a, vs, rfl, e2⟩ := r1
    refine ⟨.ref a, e1, .inl ⟨rfl, vs, SqL.of e2⟩, Hf, Γ, j.at, q.imp fun o _ q v H' Hf' g r => ?_⟩
    obtain ⟨Γ', ea, q⟩ := q.liftO
    unfold appAt at ea
    split at ea
    · rename_i ds eo
      split at ea
      · rename_i hl
        obtain ⟨d, ed, rfl⟩ := Option.map_eq_some_iff.mp ea
        rw [Bool.and_false] at r
        obtain ⟨Hf2, g2, r2⟩ := r.data g ed
        obtain ⟨a', vs', k1, k2, k3, k4, k5⟩ := (j.mono cn.xvo g2).upd eo
        rw [e1] at k1
        cases k1
        have e5 := g.le _ _ e2
        rw [e5] at k2
        cases k2
        refine ⟨a, vs, v, rfl, rfl, e5, ?_, q _ _ _ (k5 _ _ (k4.append (Reps.cons_iff.mpr ⟨v, [], rfl, r2, Reps.nil_iff.mpr rfl⟩)))⟩
        rw [k4.length]
        have := line_le
        omega
      · cases ea
    · rename_i pp rs eo
      split at ea
      · rename_i hl
        obtain ⟨r0, er, rfl⟩ := Option.map_eq_some_iff.mp ea
        rw [Bool.and_false] at r
        obtain ⟨bs, hr, nb, fb⟩ := r.row er
        obtain ⟨u, as, k1, k2, k3, k4, k5, k6⟩ := j.put2 cn.xvo g eo (fun z => nomatch z)
        rw [e1] at k1
        cases k1
        obtain ⟨a', vs', as', z1, rfl, z2, z3, z4, z5⟩ := k2
        cases z1
        have e5 := g.le _ _ e2
        rw [e5] at z2
        cases z2
        obtain ⟨na, nd'⟩ := List.nodup_cons.mp k3
        have nab : ∀ x ∈ bs, x ∉ a :: as' := fun x m m2 => k5 x m2 (fb x m)
        have hc : ∀ x ∈ as' ++ bs, upd H' a (.lst (vs ++ [v])) x = H' x := fun x m => upd_ne fun z => by
          subst z
          rcases List.mem_append.mp m with m | m
          · exact na m
          · exact nab x m List.mem_cons_self
        refine ⟨a, vs, v, rfl, rfl, e5, ?_, q σ _ Hf' (k6 _ _ (a :: (as' ++ bs)) (fun x hx => upd_ne fun z => hx (z ▸ List.mem_cons_self)) ⟨a, _, _, rfl, rfl, upd_same, z3, RepRows.cong hc (z4.snoc hr), z5⟩ ?_ fun x m => ?_)⟩
        · rw [z4.length]
          have := line_le
          omega
        · refine List.nodup_cons.mpr ⟨fun m => ?_, List.nodup_append.mpr ⟨nd', nb, fun y m z m2 e => ?_⟩⟩
          · rcases List.mem_append.mp m with m | m
            · exact na m
            · exact nab a m List.mem_cons_self
          · subst e
            exact nab y m2 (List.mem_cons_of_mem _ m)
        · rcases List.mem_cons.mp m with rfl | m
          · exact .inl List.mem_cons_self
          · rcases List.mem_append.mp m with m | m
            · exact .inl (List.mem_cons_of_mem _ m)
            · exact .inr (fb x m)
      · cases ea
    · cases ea
  · exact nb h
end
end MP

end

section
set_option Elab.async false
set_option linter.all false
set_option maxRecDepth 100000
namespace MP
open PySem PySem.Spec PyProof.Rows L2
section
variable {w : Wd} {xv : XV} {H0 Hf0 Hb : Hp} {Γ : List OD} {σ : L2.St} {H Hf : Hp}
/-- an instance that is being made gets a field -/
theorem oiUpd (h : J w xv H0 Hf0 Hb Γ σ H Hf) {i c : Nat} {fs : List (Nat × D)} (e : Γ[i]? = some (.oi c fs)) :
    ∃ a dx fvs, σ[i]? = some (some (.ref a)) ∧ H a = some (.ins (w.cad c) dx fvs) ∧ Hf a = none ∧ RepFs w Hf fs fvs ∧ OiX w c fs a ∧
      ∀ fs' fvs', RepFs w Hf fs' fvs' → OiX w c fs' a → J w xv H0 Hf0 Hb (Γ.set i (.oi c fs')) σ (upd H a (.ins (w.cad c) dx fvs')) Hf := by
  obtain ⟨A, h1, h2, h3⟩ := h.own
  have hi := (List.getElem?_eq_some_iff.mp e).1
  rcases h1 i _ e with ⟨z, _⟩ | ⟨v, e1, r, nd, f⟩
  · cases z
  obtain ⟨a, dx, vs, rfl, eA, q1, q2, q3, q4⟩ := r
  refine ⟨a, dx, vs, e1, q1, q2, q3, q4, fun fs' vs' r' o' => ?_⟩
  have ha0 : H0 a = none := f a (by rw [eA]; exact List.mem_cons_self)
  refine ⟨⟨fun x o q => ?_, h.gr.ext, fun x o q => ?_⟩, h.hb, by rw [List.length_set]; exact h.len, A, fun j p q => ?_, fun j q => ?_, h3⟩
  · have : x ≠ a := fun z => by rw [z, ha0] at q; cases q
    rw [upd_ne this]
    exact h.gr.le _ _ q
  · have : x ≠ a := fun z => by rw [z, q2] at q; cases q
    rw [upd_ne this]
    exact h.gr.lf _ _ q
  · rw [get_set] at q
    by_cases z : i = j
    · subst z
      rw [if_pos rfl, if_pos hi] at q
      cases q
      exact .inr ⟨.ref a, e1, ⟨a, dx, vs', rfl, eA, upd_same, q2, r', o'⟩, nd, f⟩
    · rw [if_neg z] at q
      have na : a ∉ A j := h3 i j z a (by rw [eA]; exact List.mem_cons_self)
      rcases h1 j p q with h | ⟨v, e2, r2, n⟩
      · exact .inl h
      · exact .inr ⟨v, e2, r2.out na, n⟩
  · rw [get_set] at q
    by_cases z : i = j
    · rw [if_pos z, if_pos hi] at q; cases q
    · rw [if_neg z] at q; exact h2 j q
theorem RepFs.names {fs : List (Nat × D)} : ∀ {vs : List (Str × V)}, RepFs w Hf fs vs → vs.map (·.1) = fs.map fun x => w.nm x.1 := by
  induction fs with
  | nil => intro vs h; rw [show vs = [] from h]; rfl
  | cons x fs ih =>
    intro vs h
    obtain ⟨f, d⟩ := x
    obtain ⟨v, r, rfl, _, h2⟩ := h
    rw [List.map_cons, List.map_cons, ih h2]
theorem RepFs.snoc {f : Nat} {d : D} {v : V} (r : Rep w Hf d v) {fs : List (Nat × D)} : ∀ {vs : List (Str × V)}, RepFs w Hf fs vs → RepFs w Hf (fs ++ [(f, d)]) (vs ++ [(w.nm f, v)]) := by
  induction fs with
  | nil =>
    intro vs h
    rw [show vs = [] from h]
    exact ⟨v, [], rfl, r, rfl⟩
  | cons x fs ih =>
    intro vs h
    obtain ⟨g, e⟩ := x
    obtain ⟨u, r', rfl, h1, h2⟩ := h
    exact ⟨u, _, rfl, h1, ih h2⟩
theorem putF_new {f : Str} {v : V} : ∀ {fs : List (Str × V)}, f ∉ fs.map (·.1) → putF f v fs = fs ++ [(f, v)]
  | [], _ => rfl
  | (g, x) :: r, h => by
    have ne : ¬ g = f := fun z => h (by rw [z]; exact List.mem_cons_self)
    rw [putF, if_neg ne, putF_new fun m => h (List.mem_cons_of_mem _ m)]
    rfl
theorem fld_at {P : MP.Prog} {c f i : Nat} {q : Cl} (hq : P.cl c = some q) (h : P.fld c f = some i) : q.flds[i]? = some f := by
  unfold Prog.fld at h
  rw [hq] at h
  have h : q.flds.findIdx? (· == f) = some i := h
  obtain ⟨h1, h2, _⟩ := List.findIdx?_eq_some_iff_getElem.mp h
  rw [List.getElem?_eq_getElem h1, beq_iff_eq.mp h2]
theorem pre_snoc {α : Type} {xs ys : List α} {y : α} (h : xs <+: ys) (e : ys[xs.length]? = some y) : xs ++ [y] <+: ys := by
  obtain ⟨zs, rfl⟩ := h
  rw [List.getElem?_append_right (by omega), Nat.sub_self] at e
  cases zs with
  | nil => cases e
  | cons z zs => cases e; exact ⟨zs, by simp⟩
end
section
variable {w : Wd} {c : Ck}
theorem swA_no {x : Expr} {o : Expr} {f : Str} {p : Pos} {n : Nat} {env : Env} : swapsWith x (some (.Attribute o f p)) n env = pure false := by cases x <;> rfl
theorem swS_no {x : Expr} {o i : Expr} {p : Pos} {n : Nat} {env : Env} : swapsWithSole [.Subscript o i p] x n env = pure false := by cases x <;> rfl
theorem stS_no {x : Expr} {o i : Expr} {p : Pos} {env : Env} : swappedStores [.Subscript o i p] x env = pure none := by cases x <;> rfl
theorem ss_fld {f : Nat} {e : E} : SS w c (.fld f e) := fun xv X sc G W cn st h => by
  unfold kS kFld at h
  split at h
  · rename_i y yp g ap z p
    obtain ⟨h1, h⟩ := an h
    obtain ⟨h2, h⟩ := an h
    obtain ⟨h3, h4⟩ := an h
    have e1 := of_decide_eq_true h3
    subst e1
    cases hcm : G.calm with
    | false =>
      exact ⟨fun pins s σ H D I ⟨H0, Hf0, Hb, Hf, Γ, j, q⟩ => by
        unfold exec at q
        simp only [hcm, if_true] at q
        exact q.elim⟩
    | true =>
    obtain ⟨F, _, _⟩ := cn.fc hcm
    obtain ⟨d1, d2⟩ := vis_of h2
    have pv : PE X (.Name y yp) (tVar 0) := pe_var (by rw [cn.hN]; exact of_decide_eq_true h1) (cn.vi _ h2) d1 d2
    refine PS.imp (ps_fld (f := c.nm f) pv (SE.all e xv X sc G.toFx W cn.toCnE z false h4) swA_no) fun D σ H ⟨H0, Hf0, Hb, Hf, Γ, j, q⟩ => ?_
    unfold exec at q
    simp only [hcm, Bool.true_eq_false, if_false] at q
    refine ⟨Hf, Γ, j.at, (q.liftR cn.xvo j).imp fun o _ q v H' Hf' g r => ?_⟩
    obtain ⟨Γ', ea, q⟩ := q.liftO
    cases Γ with
    | nil => cases ea
    | cons o0 Γ1 =>
    cases o0 with
    | oi k fs =>
      unfold fldAt at ea
      simp only at ea
      split at ea
      · rename_i hl
        obtain ⟨hl1, hl2⟩ := hl
        obtain ⟨d, ed, rfl⟩ := Option.map_eq_some_iff.mp ea
        rw [Bool.and_false] at r
        obtain ⟨Hf2, g2, r2⟩ := r.data g ed
        obtain ⟨a, dx, fvs, k1, k2, k3, k4, k5, k6⟩ := oiUpd (j.mono cn.xvo g2) (i := 0) rfl
        obtain ⟨s1, qc, s2, s3⟩ := k5
        obtain ⟨f1, f2, f3, f4⟩ := cn.fld k f _ hl2
        have fl : w.P.fld k f = some fs.length := by rw [← F.hfld.1]; exact hl2
        have fa := fld_at s2 fl
        have nn : w.nm f ∉ fvs.map (·.1) := by
          rw [k4.names]
          have e4 : w.flds k = qc.flds.map w.nm := by unfold Wd.flds; rw [s2]
          rw [e4] at f3
          have e5 : (fs.map fun x => w.nm x.1) = (fs.map (·.1)).map w.nm := by rw [List.map_map]; rfl
          rw [e5]
          obtain ⟨zs, hz⟩ := s3
          rw [← hz] at fa f3
          have ll : (fs.map (·.1)).length = fs.length := List.length_map ..
          rw [List.getElem?_append_right (by omega), ll, Nat.sub_self] at fa
          cases zs with
          | nil => cases fa
          | cons z0 zs =>
            cases fa
            rw [List.map_append] at f3
            intro m
            exact (List.nodup_append.mp f3).2.2 _ m _ (by simp) rfl
        have nmE : c.nm f = w.nm f := by rw [cn.nm]
        have q := q σ (upd H' a (.ins (w.cad k) dx (fvs ++ [(w.nm f, v)]))) Hf2 (k6 _ _ (k4.snoc r2) ⟨s1, qc, s2, by
          rw [List.map_append]
          exact pre_snoc s3 (by rw [List.length_map]; exact fa)⟩)
        refine ⟨.ref a, k1, a, w.cad k, dx, fvs, rfl, k2, by rw [cn.hK]; exact f1, by rw [cn.hK, nmE]; exact f2, ?_, ?_⟩
        · have := congrArg List.length k4.names
          rw [List.length_map, List.length_map] at this
          omega
        · rw [nmE, putF_new nn]
          exact q
      · cases ea
    | _ => cases ea
  · exact nb h
theorem asgSub {y k : Expr} {sp : Pos} {env : Env} (h : plainE k = true) : ∀ v, assign (.Subscript y k sp) env v = (do
      let ov ← holding [v] (eval y env)
      let iv ← holding [v, ov] (eval k env)
      standAt sp
      holding [v, ov, iv] (setItem ov iv v)
      release [v, ov, iv] []) := fun v => by
  cases k <;> first | rfl | exact nb h
theorem RepRow.mono {H Hf H' Hf' : Hp} (g : Gr H Hf H' Hf') {r : Bool × List D} {v : V} {as : List Addr} (h : RepRow w H Hf r v as) : RepRow w H' Hf' r v as := by
  obtain ⟨b, ds⟩ := r
  cases b with
  | true => exact ⟨h.1, Rep.mono w g.ext.le _ _ h.2⟩
  | false =>
    obtain ⟨a, us, e1, e2, h1, h2, h3⟩ := h
    exact ⟨a, us, e1, e2, g.le _ _ h1, g.ext.none h1 h2, Reps.mono w g.ext.le _ _ h3⟩
/-- x[i] = v -/
theorem ss_set {i : Nat} {ie e : E} : SS w c (.set i ie e) := fun xv X sc G W cn st h => by
  unfold kS kSet at h
  split at h
  · rename_i y yp k sp z p
    obtain ⟨h1, h⟩ := an h
    obtain ⟨h2, h⟩ := an h
    obtain ⟨h5, h⟩ := an h
    obtain ⟨h3, h4⟩ := an h
    obtain ⟨d1, d2⟩ := vis_of h2
    have pv : PE X (.Name y yp) (tVar i) := pe_var (by rw [cn.hN]; exact of_decide_eq_true h1) (cn.vi _ h2) d1 d2
    have pi := pe_O cn.hK (SE.all ie xv X sc G.toFx W cn.toCnE k true h3)
    refine PS.imp (ps_asg (SE.all e xv X sc G.toFx W cn.toCnE z false h4) (pg_sub (pos := sp) pv pi set_list (asgSub h5)) swS_no stS_no rfl) fun D σ H ⟨H0, Hf0, Hb, Hf, Γ, j, q⟩ => ?_
    unfold exec at q
    cases ho : ownAt Γ i with
    | false => rw [ho] at q; exact q.elim
    | true =>
    rw [ho] at q
    have q : wpX w xv W H0 Hf0 Hb D (liftR (ev G.toFx e Γ false) Γ fun o => liftR (asI (oper (isPath ie) (ev G.toFx ie Γ true))) Γ fun jj => liftO (setAt Γ i jj o) fun Γ' => .ok .nx Γ') := q
    have q := q.liftR cn.xvo j
    unfold ownAt at ho
    split at ho
    · rename_i ds eo
      obtain ⟨v0, as0, e1, ⟨a, vs, rfl, _, e2, _⟩, _⟩ := j.slot eo (fun z => nomatch z)
      refine ⟨Hf, Γ, j.at, q.imp fun o _ q v H' Hf' g r => ?_⟩
      rw [Bool.and_false] at r
      have dd : ∃ Hf2, Gr H Hf H' Hf2 ∧ ∀ d, o.toD = some d → Rep w Hf2 d v := by
        cases q : o.toD with
        | none => exact ⟨Hf', g, fun d e => nomatch e⟩
        | some d =>
          obtain ⟨Hf2, g2, r2⟩ := r.data g q
          exact ⟨Hf2, g2, fun d' e => by cases e; exact r2⟩
      obtain ⟨Hf2, g2, rd⟩ := dd
      have j2 := j.mono cn.xvo g2
      refine ⟨.ref a, e1, Hf2, Γ, j2.at, (asI_op (wpX.liftR cn.xvo j2 q)).imp fun dx _ q v1 H1 Hf1 g1 o1 => ?_⟩
      obtain ⟨jj, rfl, q⟩ := q
      obtain ⟨Γ', ea, q⟩ := wpX.liftO q
      unfold setAt at ea
      rw [eo] at ea
      simp only at ea
      obtain ⟨kk, hk, ea⟩ := Option.bind_eq_some_iff.mp ea
      obtain ⟨d, ed, rfl⟩ := Option.map_eq_some_iff.mp ea
      obtain ⟨a', vs', k1, k2, k3, k4, k5⟩ := (j2.mono cn.xvo g1).upd eo
      rw [e1] at k1
      cases k1
      have e5 := g1.le _ _ (g2.le _ _ e2)
      rw [e5] at k2
      cases k2
      refine ⟨a, vs, jj, kk, rfl, o1.int, e5, ?_, q _ _ _ (k5 _ _ (k4.set (Rep.mono w g1.ext.le _ _ (rd d ed)) kk))⟩
      rw [k4.length]
      exact hk
    · rename_i pp rs eo
      obtain ⟨v0, as0, e1, ⟨a, vs, as', rfl, _, e2, _⟩, _⟩ := j.slot eo (fun z => nomatch z)
      refine ⟨Hf, Γ, j.at, q.imp fun o _ q v H' Hf' g r => ?_⟩
      rw [Bool.and_false] at r
      have j2 := j.mono cn.xvo g
      refine ⟨.ref a, e1, Hf', Γ, j2.at, (asI_op (wpX.liftR cn.xvo j2 q)).imp fun dx _ q v1 H1 Hf1 g1 o1 => ?_⟩
      obtain ⟨jj, rfl, q⟩ := q
      obtain ⟨Γ', ea, q⟩ := wpX.liftO q
      unfold setAt at ea
      rw [eo] at ea
      simp only at ea
      obtain ⟨kk, hk, ea⟩ := Option.bind_eq_some_iff.mp ea
      obtain ⟨r0, er, rfl⟩ := Option.map_eq_some_iff.mp ea
      obtain ⟨bs, hr, nb, fb⟩ := r.row er
      obtain ⟨u, as, k1, k2, k3, k4, k5, k6⟩ := j.put2 cn.xvo (g.trans g1) eo (fun z => nomatch z)
      rw [e1] at k1
      cases k1
      obtain ⟨a', vs', as', z1, rfl, z2, z3, z4, z5⟩ := k2
      cases z1
      have e5 := g1.le _ _ (g.le _ _ e2)
      rw [e5] at z2
      cases z2
      obtain ⟨na, nd'⟩ := List.nodup_cons.mp k3
      have nab : ∀ x ∈ bs, x ∉ a :: as' := fun x m m2 => k5 x m2 (fb x m)
      have hlt := ixN_lt hk
      obtain ⟨as2, s1, s2, s3⟩ := z4.setR (hr.mono g1) nb nd' (fun x m z => nab x m (List.mem_cons_of_mem _ z)) hlt
      have na2 : a ∉ as2 := fun m => by
        rcases s3 a m with m | m
        · exact na m
        · exact nab a m List.mem_cons_self
      refine ⟨a, vs, jj, kk, rfl, o1.int, e5, ?_, q σ _ Hf1 (k6 _ _ (a :: as2) (fun x hx => upd_ne fun z => hx (z ▸ List.mem_cons_self)) ⟨a, _, _, rfl, rfl, upd_same, z3, RepRows.cong (fun x m => upd_ne fun z => na2 (z ▸ m)) s1, z5⟩ (List.nodup_cons.mpr ⟨na2, s2⟩) fun x m => ?_)⟩
      · rw [z4.length]
        exact hk
      · rcases List.mem_cons.mp m with rfl | m
        · exact .inl List.mem_cons_self
        · rcases s3 x m with m | m
          · exact .inl (List.mem_cons_of_mem _ m)
          · exact .inr (fb x m)
    · cases ho
  · exact nb h
/-- x[i][j] = v -/
theorem ss_set2 {i : Nat} {ie je e : E} : SS w c (.set2 i ie je e) := fun xv X sc G W cn st h => by
  unfold kS kSet2 at h
  split at h
  · rename_i y yp k sp l sp2 z p
    obtain ⟨h1, h⟩ := an h
    obtain ⟨h2, h⟩ := an h
    obtain ⟨h5, h⟩ := an h
    obtain ⟨h3, h⟩ := an h
    obtain ⟨h6, h⟩ := an h
    obtain ⟨h7, h4⟩ := an h
    obtain ⟨d1, d2⟩ := vis_of h2
    have pv : PE X (.Name y yp) (tVar i) := pe_var (by rw [cn.hN]; exact of_decide_eq_true h1) (cn.vi _ h2) d1 d2
    have pi := pe_O cn.hK (SE.all ie xv X sc G.toFx W cn.toCnE k true h3)
    have pj := pe_O cn.hK (SE.all je xv X sc G.toFx W cn.toCnE l true h7)
    refine PS.imp (ps_asg (SE.all e xv X sc G.toFx W cn.toCnE z false h4) (pg_sub (pos := sp2) (pe_ix (pos := sp) ix_list pv pi (plainIx h5)) pj set_list (asgSub h6)) swS_no stS_no rfl) fun D σ H ⟨H0, Hf0, Hb, Hf, Γ, j, q⟩ => ?_
    unfold exec at q
    cases ho : ownAt Γ i with
    | false => rw [ho] at q; exact q.elim
    | true =>
    rw [ho] at q
    have q : wpX w xv W H0 Hf0 Hb D (liftR (ev G.toFx e Γ false) Γ fun o => liftR (asI (oper (isPath ie) (ev G.toFx ie Γ true))) Γ fun jj => if row2 Γ i jj = false then .bad else liftR (asI (oper (isPath je) (ev G.toFx je Γ true))) Γ fun ll => liftO (set2At Γ i jj ll o) fun Γ' => .ok .nx Γ') := q
    have q := q.liftR cn.xvo j
    have sl : ∃ v, σ[i]? = some (some v) ∧ (∃ a vs, v = V.ref a ∧ H a = some (.lst vs)) := by
      unfold ownAt at ho
      split at ho
      · rename_i ds eo
        obtain ⟨v, as, k1, ⟨a, vs, k2, _, k3, _⟩, _⟩ := j.slot eo (fun z => nomatch z)
        exact ⟨v, k1, ⟨a, vs, k2, k3⟩⟩
      · rename_i pp ds eo
        obtain ⟨v, as, k1, ⟨a, vs, as', k2, _, k3, _⟩, _⟩ := j.slot eo (fun z => nomatch z)
        exact ⟨v, k1, ⟨a, vs, k2, k3⟩⟩
      · cases ho
    obtain ⟨v0, e1, a, vs, rfl, e2⟩ := sl
    refine ⟨Hf, Γ, j.at, q.imp fun o _ q v H' Hf' g r => ?_⟩
    rw [Bool.and_false] at r
    have dd : ∃ Hf2, Gr H Hf H' Hf2 ∧ ∀ d, o.toD = some d → Rep w Hf2 d v := by
      cases q : o.toD with
      | none => exact ⟨Hf', g, fun d e => nomatch e⟩
      | some d =>
        obtain ⟨Hf2, g2, r2⟩ := r.data g q
        exact ⟨Hf2, g2, fun d' e => by cases e; exact r2⟩
    obtain ⟨Hf2, g2, rd⟩ := dd
    have j2 := j.mono cn.xvo g2
    refine ⟨.ref a, e1, Hf2, Γ, j2.at, (asI_op (wpX.liftR cn.xvo j2 q)).imp fun dx _ q v1 H1 Hf1 g1 o1 => ?_⟩
    obtain ⟨jj, rfl, q⟩ := q
    have j3 := j2.mono cn.xvo g1
    have hr : ∃ pp rs kk ds, Γ[i]? = some (.own2 pp rs) ∧ ixN rs.length jj = some kk ∧ rs[kk]? = some (false, ds) := by
      cases er : row2 Γ i jj with
      | false => rw [er] at q; exact q.elim
      | true =>
        unfold row2 at er
        split at er
        · rename_i pp rs eo
          split at er
          · rename_i kk hk
            split at er
            · rename_i ds e3
              exact ⟨pp, rs, kk, ds, eo, hk, e3⟩
            · cases er
          · cases er
        · cases er
    have q : wpX w xv W H0 Hf0 Hb D (liftR (asI (oper (isPath je) (ev G.toFx je Γ true))) Γ fun ll => liftO (set2At Γ i jj ll o) fun Γ' => .ok .nx Γ') := by
      cases er : row2 Γ i jj with
      | false => rw [er] at q; exact q.elim
      | true => rw [er] at q; exact q
    have q3 := asI_op (wpX.liftR cn.xvo j3 q)
    · obtain ⟨pp, rs, kk, ds, eo, hk, er⟩ := hr
      obtain ⟨u, as, k1, k2, k3, k4, k5, k6⟩ := j2.put2 cn.xvo g1 eo (fun z => nomatch z)
      rw [e1] at k1
      cases k1
      obtain ⟨a', vs', as', z1, rfl, z2, z3, z4, z5⟩ := k2
      cases z1
      have e5 := g1.le _ _ (g2.le _ _ e2)
      rw [e5] at z2
      cases z2
      obtain ⟨na, nd'⟩ := List.nodup_cons.mp k3
      obtain ⟨b, us, b1, b2, b3, b4, b5, b6⟩ := z4.updR nd' er
      refine ⟨a, vs, jj, .ref b, rfl, o1.int, SqL.of e5, ?_, Hf1, Γ, j3.at, q3.imp fun dy _ q v2 H2 Hf3 g3 o2 => ?_⟩
      · unfold L2.atI
        rw [z4.length, show L2.ixN rs.length jj = some kk from hk]
        exact b1
      · obtain ⟨ll, rfl, q⟩ := q
        obtain ⟨Γ', ea, q⟩ := wpX.liftO q
        unfold set2At at ea
        rw [eo] at ea
        simp only [hk, Option.bind_some, er] at ea
        obtain ⟨mm, hm, ea⟩ := Option.bind_eq_some_iff.mp ea
        obtain ⟨d, ed, rfl⟩ := Option.map_eq_some_iff.mp ea
        obtain ⟨u, as, k1, k2, k3, k4, k5, k6⟩ := j2.put2 cn.xvo (g1.trans g3) eo (fun z => nomatch z)
        rw [e1] at k1
        cases k1
        obtain ⟨a', vs', as', z1, rfl, z2, z3, z4, z5⟩ := k2
        cases z1
        have e6 := g3.le _ _ e5
        rw [e6] at z2
        cases z2
        obtain ⟨na, nd'⟩ := List.nodup_cons.mp k3
        obtain ⟨b', us', c1, c2, c3, c4, c5, c6⟩ := z4.updR nd' er
        rw [b1] at c1
        cases c1
        have e7 := g3.le _ _ b3
        rw [e7] at c3
        cases c3
        have nab : a ≠ b := fun z => na (z ▸ c2)
        refine ⟨b, us, ll, mm, rfl, o2.int, e7, ?_, q σ _ Hf3 (k6 _ _ (a :: as') (fun x hx => upd_ne fun z => hx (z ▸ List.mem_cons_of_mem _ c2)) ⟨a, vs, as', rfl, rfl, by rw [upd_ne nab]; exact e6, z3, c6 _ _ (c5.set (Rep.mono w (g1.ext.le.trans g3.ext.le) _ _ (rd d ed)) mm), z5⟩ k3 fun x m => .inl m)⟩
        rw [c5.length]
        exact hm
  · exact nb h
/-! ### calls that change their first argument -/
theorem J.less {xv : XV} {H0 Hf0 Hb : Hp} {Γ : List OD} {σ : L2.St} {H Hf : Hp} (h : J w xv H0 Hf0 Hb Γ σ H Hf) {i : Nat} {o : OD} (e : Γ[i]? = some o) (ne : o ≠ .un) :
    ∃ v as, σ[i]? = some (some v) ∧ RepO w xv H Hf o v as ∧ as.Nodup ∧ J w xv H0 Hf0 Hb (Γ.set i .un) σ (lessH H as) Hf := by
  obtain ⟨A, h1, h2, h3⟩ := h.own
  have hi := (List.getElem?_eq_some_iff.mp e).1
  rcases h1 i _ e with ⟨z, _⟩ | ⟨v, e1, r, nd, f⟩
  · exact absurd z ne
  have n := r.none
  refine ⟨v, A i, e1, r, nd, ⟨⟨fun x o q => ?_, h.gr.ext, fun x o q => ?_⟩, h.hb, by rw [List.length_set]; exact h.len, updA A i [], fun j p q => ?_, fun j q => ?_, updA_dis h3 fun j a m => nomatch m⟩⟩
  · have : x ∉ A i := fun z => by rw [f x z] at q; cases q
    rw [lessH_out this]
    exact h.gr.le _ _ q
  · have : x ∉ A i := fun z => by rw [n x z] at q; cases q
    rw [lessH_out this]
    exact h.gr.lf _ _ q
  · rw [get_set] at q
    by_cases z : i = j
    · subst z
      rw [if_pos rfl, if_pos hi] at q
      cases q
      rw [updA_same]
      exact .inl ⟨rfl, rfl⟩
    · rw [if_neg z] at q
      rw [updA_ne z]
      rcases h1 j p q with h | ⟨u, e2, r3, nf⟩
      · exact .inl h
      · exact .inr ⟨u, e2, r3.cong fun a m => lessH_out fun m2 => h3 i j z a m2 m, nf⟩
  · rw [get_set] at q
    by_cases z : i = j
    · rw [if_pos z, if_pos hi] at q; cases q
    · rw [if_neg z] at q
      rw [updA_ne z]
      exact h2 j q
theorem rows_at {x : Addr} {H Hf : Hp} : ∀ {rs : List (Bool × List D)} {vs : List V} {as : List Addr}, RepRows (w.at x) H Hf rs vs as ↔ RepRows w H Hf rs vs as
  | [], _, _ => Iff.rfl
  | (true, ds) :: rs, vs, as => by
    unfold RepRows
    rw [Rep_at]
    exact exists_congr fun v => exists_congr fun r => and_congr Iff.rfl (and_congr Iff.rfl rows_at)
  | (false, ds) :: rs, vs, as => by
    unfold RepRows
    rw [Reps_at]
    exact exists_congr fun a => exists_congr fun us => exists_congr fun r => exists_congr fun as' => and_congr Iff.rfl (and_congr Iff.rfl (and_congr Iff.rfl (and_congr Iff.rfl (and_congr Iff.rfl rows_at))))
theorem ss_mcall {t f i : Nat} {es : List E} : SS w c (.mcall t f i es) := fun xv X sc G W cn st h => by
  unfold kS kMcall at h
  split at h
  · rename_i tx tp fx fp y yp ys pos pos2
    obtain ⟨h1, h⟩ := an h
    obtain ⟨h2, h⟩ := an h
    obtain ⟨h3, h⟩ := an h
    obtain ⟨h4, h⟩ := an h
    obtain ⟨h5, h⟩ := an h
    obtain ⟨h6, h⟩ := an h
    obtain ⟨h7, h8⟩ := an h
    have e0 := of_decide_eq_true h4
    subst e0
    cases hcm : G.calm with
    | false =>
      exact ⟨fun pins s σ H D I ⟨H0, Hf0, Hb, Hf, Γ, j, q⟩ => by
        unfold exec at q
        simp only [hcm, if_true] at q
        exact q.elim⟩
    | true =>
    obtain ⟨F, rfl, _⟩ := cn.fc hcm
    obtain ⟨d1, d2⟩ := vis_of h7
    obtain ⟨k3, k4⟩ := cn.lo _ h2
    have pv : PE X (.Name y yp) (tVar i) := pe_var (by rw [cn.hN]; exact of_decide_eq_true h6) (cn.vi _ h7) d1 d2
    rw [cn.nm] at h5 ⊢
    have pc := F.mcl X.s_0 X.H_0 X.env X.outer X.stack X.ex X.fn X.pn X.xe W cn.tk f fp pos (.Name y yp) ys _ h3 (cn.gl _ h5) (glb_of0 h5) (fun z m => by
      rcases List.mem_cons.mp m with rfl | m
      · rfl
      · exact kplain h8 z m) (pa_cons pv (pa_A cn.toCnE (fun e _ => SE.all e) h8) (star_of rfl))
    refine PS.imp (ps_set cn.nd (by rw [cn.hN]; exact of_decide_eq_true h1) k3 pc (swap_no rfl) k4) fun D σ H ⟨H0, Hf0, Hb, Hf, Γ, j, q⟩ => ?_
    unfold exec at q
    simp only [hcm, Bool.true_eq_false, if_false] at q
    split at q
    · rename_i p rs eo
      obtain ⟨v0, A0, e1, r0, nd0, j0⟩ := j.less eo (fun z => nomatch z)
      have ju : J w xv0 H0 Hf0 Hb (Γ.set i .un) σ H Hf := by
        have := j.clr i (some v0)
        rwa [set_same e1] at this
      refine ⟨v0, e1, Hf, Γ.set i .un, ju.at, (wpX.liftR cn.xvo ju q).imp fun as _ q vs H1 Hf1 g1 k1 => ?_⟩
      split at q
      · exact q.elim
      · rename_i hb
        have hb : as.any (·.2) = false := by simpa using hb
        obtain ⟨cs, l1, l2, l3⟩ := lend_all k1
        rw [l1 hb, frzH_nil] at l3
        obtain ⟨v1, A, e2, r1, nd, j1⟩ := (j.mono cn.xvo g1).less eo (fun z => nomatch z)
        rw [e1] at e2
        cases e2
        obtain ⟨a, us, as', rfl, rfl, q1, q2, q3, q4⟩ := r1
        refine ⟨Hf1, a, vs, as.map (·.1), rs, a :: as', rfl, g1.lf, ⟨a, us, as', rfl, rfl, q1, q2, rows_at.mpr q3, fun _ => rfl⟩, nd, l3, ?_⟩
        cases hm : G.mcall f rs (as.map (·.1)) with
        | ok dr =>
          obtain ⟨d, rs'⟩ := dr
          rw [hm] at q
          simp only at q
          split at q
          · exact q.elim
          · intro v H' Hf' A' g2 r2 nd2 sub rd
            obtain ⟨a2, us2, as2, z1, rfl, w1, w2, w3, w4⟩ := r2
            cases z1
            have j2 := j1.set cn.xvo g2 (i := i) (o := .own2 p rs') (v := .ref a) (by rw [List.length_set]; exact (List.getElem?_eq_some_iff.mp eo).1) ⟨a :: as2, ⟨a, us2, as2, rfl, rfl, w1, w2, rows_at.mp w3, q4⟩, nd2, fun _ x m => by
              rcases sub x m with m | m
              · exact lessH_in m
              · exact less_none m⟩
            rw [List.set_set, set_same e1] at j2
            obtain ⟨Γ', ea, q⟩ := wpX.liftO q
            obtain ⟨hi, rfl⟩ := setT_n ea
            exact q _ H' Hf' (j2.set cn.xvo (Gr.refl j2.gr.lf) hi (res_fz (H0 := H') rd))
        | ex k p => rw [hm] at q; exact q.elim
        | bad => rw [hm] at q; exact q.elim
    · exact q.elim
  · exact nb h
end
end MP

end

section
set_option Elab.async false
set_option linter.all false
set_option maxRecDepth 100000
/-! several except clauses, each with a name or without one -/
namespace MP
open PySem PySem.Spec PyProof.Rows L2
/-- one clause: its class, the slot of its name, its suite's reading -/
structure HdA where
  c : Value
  nm : Option Nat
  ts : Addr → Value → Option Addr → TS
def hdD (D : Ends) : Option Nat → Ends
  | none => D
  | some i => { nx := fun σ H => D.nx (σ.set i none) H, rt := D.rt, bk := fun σ H => D.bk (σ.set i none) H, ct := fun σ H => D.ct (σ.set i none) H }
def hdS (σ : L2.St) (a : Addr) : Option Nat → L2.St
  | none => σ
  | some i => σ.set i (some (.ref a))
def wTries (K : PySem.W.Frag) (Wout : WX) (D : Ends) : List HdA → WX
  | [] => Wout
  | h :: r => fun cls d σ H => ∃ yes, PySem.W.exmOne K cls h.c = some yes ∧ (yes = true → ∀ a, H a = none → h.ts a cls d (hdD D h.nm) (hdS σ a h.nm) H) ∧ (yes = false → wTries K Wout D r cls d σ H)
def SuiteOk (X : Cx) (h : HdA) (sts : List Stmt) : Prop := ∀ (a : Addr) (oe : Obj) (cls : Value) (d : Option Addr) (pn : List (Addr × Obj)), Zc cls d oe → (∃ vs, oe.data = .fields vs) → PSs (X.suite a ((a, oe) :: pn)) sts (h.ts a cls d)
inductive HdsA (X : Cx) : List ExceptHandler → List HdA → Prop
  | nil : HdsA X [] []
  | cons {x : Str} {v : Option Str} {h : HdA} {z : Stmt} {zs : List Stmt} {p q : Pos} {hds : List ExceptHandler} {l : List HdA} (hc : Names X x h.c)
      (ho : (h.nm = none ∧ v = none) ∨ ∃ i n, h.nm = some i ∧ v = some n ∧ X.N[i]? = some n ∧ X.env.kindOf n = some .local) (hs : SuiteOk X h (z :: zs)) (r : HdsA X hds l) :
      HdsA X (.ExceptHandler (some (.Name x p)) v (z :: zs) q :: hds) (h :: l)
section
variable {X : Cx} {body : List Stmt} {h0 : ExceptHandler} {hds : List ExceptHandler} {l : List HdA} {pos : Pos} {tb : WX → TS} {Wout : WX}
theorem ps_tries (hs : X.stack = X.env :: X.outer) (hf : X.env.frame = some X.env.locals) (hN : X.N.Nodup) (tk : Takes X Wout)
    (hb : ∀ (W : WX) (pn : List (Addr × Obj)) (xe : Value → Shared → Prop), Takes (X.tr pn xe) W → PassesOwn (model X.prog X.w) X.A X.env xe → PSs (X.tr pn xe) body (tb W))
    (hh : HdsA X (h0 :: hds) l) : PS X (.Try body (h0 :: hds) [] [] pos) (fun D σ H => tb (wTries X.K Wout D l) D σ H) := by
  refine ⟨fun pins s σ H D I h => wpAny_Try_except ?_⟩
  have ok := I.ok
  have frs1 : X.A.frames = some (X.env :: X.outer) := by rw [ok.frames, hs]
  -- the body's ends
  refine wpAny_mono ((hb (wTries X.K Wout D l) (X.pn ++ pins) (fun u s1 => wpAny (model X.prog X.w) X.A (noteFrame u X.env)
    (fun _ s2 => wpAny (model X.prog X.w) X.A (setFlight u none) (fun _ s3 => wpAny (model X.prog X.w) X.A (handleBy u X.env (h0 :: hds)) (SP X pins D) X.xe s3) X.xe s2) X.xe s1) (fun u s1 xx => ?_) PassesOwn.looking).run [] s σ H D (I.toTry _) h)
    (fun f s1 q => match f, q with
      | .next, ⟨σ', H', J, k⟩ => wpAny_execs_nil ⟨σ', H', J.ofTry ok, k⟩
      | .brk, ⟨σ', H', J, k⟩ => ⟨σ', H', J.ofTry ok, k⟩
      | .cont, ⟨σ', H', J, k⟩ => ⟨σ', H', J.ofTry ok, k⟩
      | .ret _, ⟨v, σ', H', J, r, k⟩ => ⟨v, σ', H', J.ofTry ok, r, k⟩) (fun _ _ z => z)
  obtain ⟨a, B, sI, pins1, σ1, H1, cls, d, rfl, J0, keep, up, sky, fresh, eo, bare, wish⟩ := xx
  have J : Inv X pins σ1 H1 sI := J0.ofTry ok
  rw [show (X.tr (X.pn ++ pins) _).stack = X.env :: X.outer from hs] at sky
  show wpAny _ X.A (noteFrame (.ref a) X.env) _ _ s1
  refine Sky.land Zc.steady frs1 hf sky fun h3 fl3 up3 => ?_
  have u3 := up.trans up3
  have J3 : Inv X pins σ1 H1 { s1 with heap := h3 } := J.landed keep fl3.1 u3 eo bare
  obtain ⟨oe, vs, there, kind, data⟩ := fl3.there
  have apart : a ∉ frs (X.env :: X.outer) := fun m => by
    obtain ⟨_, o', e', no⟩ := fl3.2.2.1.mem m
    rw [there] at e'
    cases e'
    exact no _ data
  have nl : a ≠ X.env.locals := fun z => apart (List.mem_filterMap.mpr ⟨X.env, List.mem_cons_self, by rw [hf, z]⟩)
  have nf : a ∉ X.fs := fun m => by
    obtain ⟨e, he, q⟩ := List.mem_filterMap.mp m
    exact apart (List.mem_filterMap.mpr ⟨e, List.mem_cons_of_mem _ he, q⟩)
  have S3 := J3.suite there data fresh nl nf
  have clauses : ∀ {hs' : List ExceptHandler} {l' : List HdA}, HdsA X hs' l' → wTries X.K Wout D l' cls d σ1 H1 → wpAny (model X.prog X.w) X.A (handleBy (.ref a) X.env hs') (SP X pins D) X.xe { s1 with heap := h3 } := by
    intro hs' l' hk
    induction hk with
    | nil =>
      intro wout
      refine wpAny_handleBy_nil ?_
      obtain ⟨_, _, _, oe2, vs2, T, oT, ts2, he2, hz2, hd2, t1, tr⟩ := id fl3
      unfold PySem.passOn
      refine wpAny_bind (wpAny_field he2 hd2 t1 ?_)
      rw [if_neg (by simp)]
      have out : wpAny (model X.prog X.w) X.A (setFlight (.ref a) X.env.frame) (fun _ s4 => wpAny (model X.prog X.w) X.A (throw (.ref a) : Sem Flow) (SP X pins D) X.xe s4) X.xe { s1 with heap := h3 } := by
        rw [hf]
        refine HandSPX.setFlight_upZ fl3 fun h4 sky4 up4 => wpAny_throw (tk _ _ ⟨a, B, sI, pins, σ1, H1, cls, d, rfl, J, keep, u3.trans up4, .inr (.inr ?_), fresh, eo, bare, wout⟩)
        rw [hs]
        exact sky4
      first
        | exact wpAny_bind (wpAny_pure (wpAny_bind out))
        | exact wpAny_bind out
    | @cons x v hd z zs p q hds2 l2 hc ho hsu r ih =>
      intro wc
      obtain ⟨yes, says, hy, hn⟩ := wc
      refine wpAny_handleBy_cons (codeAny_handlers_test ?_) (by intro q; cases q)
      have isOf : PySem.W.Looks (model X.prog X.w) h3 (typeOf (.ref a)) cls := fun A Q E s k q => wpAny_typeOf_ref (k _ _ there) (by rw [kind.1]; exact q)
      have cmp := PySem.W.exm_one (M := model X.prog X.w) J3.kIn isOf says
      have name : ∀ {Q E : Value → Shared → Prop}, Q hd.c { s1 with heap := h3 } → wpAny (model X.prog X.w) (X.A.mark (some (.ref a))) (eval (.Name x p) X.env) Q E { s1 with heap := h3 } := fun {Q E} k => by
        obtain ⟨g1, g2, g3 | ⟨g3, g4, g5⟩⟩ := hc
        · exact ld_glob (X := X.suite a ((a, oe) :: (X.pn ++ pins))) S3 g1 g3 k g2
        · exact ld_blt (X := X.suite a ((a, oe) :: (X.pn ++ pins))) S3 g1 g3 g4 k g5 g2
      refine name (cmp.here ?_)
      cases yes with
      | false => exact ih (hn rfl)
      | true =>
        have want := hy rfl a fresh
        rcases ho with ⟨e1, rfl⟩ | ⟨i, n, e1, rfl, hi, hloc⟩
        · rw [e1] at want
          refine codeAny_handlers_suite (HandSPX.lands_againZ fl3 fun h4 fl4 up4 => ?_)
          have J4 : Inv X pins σ1 H1 { s1 with heap := h4 } := J.landed keep fl4.1 (u3.trans up4) eo bare
          obtain ⟨oe4, vs4, there4, kind4, data4⟩ := fl4.there
          refine wpAny_mono ((hsu a oe4 cls d (X.pn ++ pins) kind4 ⟨_, data4⟩).run [] _ _ H1 _ (J4.suite there4 data4 fresh nl nf) want) (fun f s6 k => ?_) fun _ _ z => z.elim
          match f, k with
          | .next, ⟨σ6, H6, S6, k⟩ => exact ⟨_, _, S6.unsuite ok, k⟩
          | .brk, ⟨σ6, H6, S6, k⟩ => exact ⟨_, _, S6.unsuite ok, k⟩
          | .cont, ⟨σ6, H6, S6, k⟩ => exact ⟨_, _, S6.unsuite ok, k⟩
          | .ret _, ⟨v6, σ6, H6, S6, r6, k⟩ => exact ⟨_, _, _, S6.unsuite ok, r6, k⟩
        · rw [e1] at want
          refine codeAny_handlers_suite_as (HandSPX.lands_againZ fl3 fun h4 fl4 up4 => ?_)
          have J4 : Inv X pins σ1 H1 { s1 with heap := h4 } := J.landed keep fl4.1 (u3.trans up4) eo bare
          obtain ⟨oe4, vs4, there4, kind4, data4⟩ := fl4.there
          refine store_ok (X := X.suite a ((a, oe4) :: (X.pn ++ pins))) (v := .ref a) (J4.suite there4 data4 fresh nl nf) hN hi (.inl hloc) rfl (fun s5 S5 => ?_) (.inr hloc)
          refine wpAny_mono ((hsu a oe4 cls d (X.pn ++ pins) kind4 ⟨_, data4⟩).run [] s5 _ H1 _ S5 want) (fun f s6 k => ?_) fun _ _ z => z.elim
          match f, k with
          | .next, ⟨σ6, H6, S6, k⟩ => exact gone_ok (S6.unsuite ok) hN hi hloc fun s7 J7 => ⟨_, _, J7, k⟩
          | .brk, ⟨σ6, H6, S6, k⟩ => exact gone_ok (S6.unsuite ok) hN hi hloc fun s7 J7 => ⟨_, _, J7, k⟩
          | .cont, ⟨σ6, H6, S6, k⟩ => exact gone_ok (S6.unsuite ok) hN hi hloc fun s7 J7 => ⟨_, _, J7, k⟩
          | .ret _, ⟨v6, σ6, H6, S6, r6, k⟩ => exact gone_ok (S6.unsuite ok) hN hi hloc fun s7 J7 => ⟨_, _, _, J7, r6, k⟩
  exact clauses hh wish
end
end MP

end

section
set_option Elab.async false
set_option linter.all false
set_option maxRecDepth 100000
namespace MP
open PySem PySem.Spec L2
section
variable {w : Wd} {c : Ck} {xv : XV} {X : Cx} {sc : Scope} {G : Gx} {W : WX}
/-! ### raise -/
theorem ss_rais {k : Nat} {es : List E} : SS w c (.rais k es) := fun xv X sc G W cn st h => by
  unfold kS at h
  split at h
  · rename_i e
    cases hcm : G.calm with
    | false =>
      exact ⟨fun pins s σ H D I ⟨H0, Hf0, Hb, Hf, Γ, j, q⟩ => by
        unfold exec at q
        simp only [hcm, if_true] at q
        exact q.elim⟩
    | true =>
      obtain ⟨F, rfl, hp⟩ := cn.fc hcm
      unfold kRais at h
      rcases Bool.or_eq_true_iff.mp h with h | h
      · cases e with
        | str m =>
          have h : kRaisT c sc k m st = true := h
          unfold kRaisT at h
          split at h
          · rename_i x p z j p2 pos pos2 _ _
            obtain ⟨h1, h⟩ := an h
            obtain ⟨h2, h⟩ := an h
            obtain ⟨h3, h4⟩ := an h
            have e1 := of_decide_eq_true h2
            subst e1
            rw [cn.nm] at h3 ⊢
            obtain ⟨r1, r2, r3⟩ := F.rai k h1 h3
            refine PS.imp (ps_raise (cn.calm hcm) cn.tk (r3 X.pn X.xe z p p2 pos j)) fun D σ H ⟨H0, Hf0, Hb, Hf, Γ, j, q⟩ => ?_
            unfold exec at q
            simp only [hcm, Bool.true_eq_false, if_false] at q
            unfold evF ev evF frz at q
            simp only [R.bind_ok, OD.toD, R.ofO_some, liftR_ok, F.hxf.1, r2, Option.isSome_none, Bool.false_eq_true, if_false] at q
            cases e : w.P.xc k with
            | none => exact absurd e r1
            | some y => exact q _ _ σ H Hf j ⟨y, e, rfl, fun _ => rfl, fun x e => nomatch e⟩
          · exact nb h
        | _ => exact nb h
      · unfold kRaisF at h
        split at h
        · rename_i x p z pos pos2 _
          obtain ⟨h1, h⟩ := an h
          obtain ⟨h2, h⟩ := an h
          obtain ⟨h3, h⟩ := an h
          obtain ⟨h4, h5⟩ := an h
          have e1 := of_decide_eq_true h2
          subst e1
          rw [cn.nm] at h3 ⊢
          obtain ⟨y, f, fI, e2, e3, T, gC⟩ := F.raf k h1 h3
          have hs : starEach [z] X.env = (false, eval z X.env) :: starEach [] X.env := star_of h4
          rw [← F.hK] at T
          refine PS.imp (ps_raise (cn.calm hcm) cn.tk (pmk_err T gC F.rm (pa_cons (pe_F cn.hK (SE.all e xv0 X sc G.toFx W cn.toCnE z false h5)) pa_nil hs) (F.gl _ h3) (glb_of h3) hs rfl)) fun D σ H ⟨H0, Hf0, Hb, Hf, Γ, j, q⟩ => ?_
          unfold exec at q
          simp only [hcm, Bool.true_eq_false, if_false] at q
          have q := q.liftR cn.xvo j
          unfold evF at q
          refine ⟨Hf, Γ, j.at, (wpR.bind.mp q).imp fun d _ q v H1 Hf1 g1 r1 => ?_⟩
          unfold evF at q
          have ex : (G.toFx.xf k).isSome = true := by
            have : G.toFx.xf k = w.P.xf k := by rw [F.hxf.1]
            rw [this]
            unfold Prog.xf
            rw [e2]
            show y.fld.isSome = true
            rw [e3]
            rfl
          have q : wpX w xv0 W H0 Hf0 Hb D (.ex k (if (G.toFx.xf k).isSome then some d else none) Γ) := q
          rw [ex, if_pos rfl] at q
          refine ⟨v, rfl, fun da hd => ?_⟩
          have g2 := gr_newf (o := .xd [(w.nm f, v)]) g1.lf hd
          exact q _ _ σ _ _ (j.mono cn.xvo (g1.trans g2)) ⟨y, e2, rfl, (fun z => nomatch z), fun x e => by
            cases e
            exact ⟨f, da, v, e3, rfl, upd_same, Rep.mono w g2.ext.le _ _ r1⟩⟩
        · exact nb h
  · exact nb h
/-! ### try -/
theorem RepO.ofXv {xv xv' : XV} {H Hf : Hp} {o : OD} {v : V} {as : List Addr} (n : noXv o = true) (h : RepO w xv H Hf o v as) : RepO w xv' H Hf o v as := by
  cases o with
  | xv c p => cases n
  | _ => exact h
theorem J.toXv {xv : XV} {H0 Hf0 Hb : Hp} {Γ : List OD} {σ : L2.St} {H Hf : Hp} (j : J w xv0 H0 Hf0 Hb Γ σ H Hf) : J w xv H0 Hf0 Hb Γ σ H Hf := by
  obtain ⟨A, h1, h2, h3⟩ := j.own
  refine ⟨j.gr, j.hb, j.len, A, fun i o e => ?_, h2, h3⟩
  rcases h1 i o e with h | ⟨v, e1, r, n⟩
  · exact .inl h
  · exact .inr ⟨v, e1, r.toXv, n⟩
theorem J.ofXv {xv xv' : XV} {H0 Hf0 Hb : Hp} {Γ : List OD} {σ : L2.St} {H Hf : Hp} (n : Γ.all noXv = true) (j : J w xv H0 Hf0 Hb Γ σ H Hf) : J w xv' H0 Hf0 Hb Γ σ H Hf := by
  obtain ⟨A, h1, h2, h3⟩ := j.own
  refine ⟨j.gr, j.hb, j.len, A, fun i o e => ?_, h2, h3⟩
  have no : noXv o = true := List.all_eq_true.mp n o (List.mem_of_getElem? e)
  rcases h1 i o e with h | ⟨v, e1, r, n⟩
  · exact .inl h
  · exact .inr ⟨v, e1, r.ofXv no, n⟩
/-- the ends of an except suite -/
def clrS (x : Option Nat) (σ : L2.St) : L2.St := match x with
  | some i => σ.set i none
  | none => σ
theorem J.clrAt {xv : XV} {H0 Hf0 Hb : Hp} {Γ : List OD} {σ : L2.St} {H Hf : Hp} (x : Option Nat) (j : J w xv H0 Hf0 Hb Γ σ H Hf) : J w xv H0 Hf0 Hb (MP.clrAt x Γ) (clrS x σ) H Hf := by
  cases x with
  | none => exact j
  | some i => exact j.clr i none
theorem wpX.suite {xv : XV} {H0 Hf0 Hb : Hp} {D : Ends} {x : Option Nat} {r : XR} (h : wpX w xv0 W H0 Hf0 Hb D (noXvR x r)) :
    wpX w xv (fun _ _ _ _ => False) H0 Hf0 Hb { nx := fun σ' H' => D.nx (clrS x σ') H', rt := D.rt, bk := fun σ' H' => D.bk (clrS x σ') H', ct := fun σ' H' => D.ct (clrS x σ') H' } r := by
  cases r with
  | ok f Γ =>
    have h : wpX w xv0 W H0 Hf0 Hb D (if (MP.clrAt x Γ).all noXv && flNoXv f then .ok f (MP.clrAt x Γ) else .bad) := h
    cases q : ((MP.clrAt x Γ).all noXv && flNoXv f) with
    | true =>
      rw [q] at h
      obtain ⟨q1, q2⟩ := an q
      cases f with
      | nx => exact fun σ H Hf j => h _ H Hf ((j.clrAt x).ofXv q1)
      | bk => exact fun σ H Hf j => h _ H Hf ((j.clrAt x).ofXv q1)
      | ct => exact fun σ H Hf j => h _ H Hf ((j.clrAt x).ofXv q1)
      | rt o => exact fun v σ H Hf j r => h v _ H Hf ((j.clrAt x).ofXv q1) (by obtain ⟨as, r1, r2⟩ := r; exact ⟨as, r1.ofXv q2, r2⟩)
    | false => rw [q] at h; exact h.elim
  | ex c p Γ => exact h.elim
  | bad => exact h.elim
theorem wp_try {H0 Hf0 Hb : Hp} {D : Ends} {W W' : WX} {r : XR} {f : Nat → Option MP.D → List OD → XR} (h : wpX w xv0 W H0 Hf0 Hb D (match r with
    | .ex k p Γ => f k p Γ
    | r => r)) (i : ∀ k p Γ, wpX w xv0 W H0 Hf0 Hb D (f k p Γ) → wpX w xv0 W' H0 Hf0 Hb D (.ex k p Γ)) : wpX w xv0 W' H0 Hf0 Hb D r := by
  cases r with
  | ok g Γ => cases g <;> exact h
  | ex k p Γ => exact i k p Γ h
  | bad => exact h
theorem ss_tryy {b h : List S} {k : Nat} {x : Option Nat} (hb : SL w c b) (hh : SL w c h) : SS w c (.tryy b k x h) := fun xv X sc G W cn st hk => by
  unfold kS kTry at hk
  split at hk
  · rename_i ys y py v z zs p1 p2
    obtain ⟨h1, hk⟩ := an hk
    obtain ⟨h2, hk⟩ := an hk
    obtain ⟨h3, h4⟩ := an hk
    cases hcm : G.calm with
    | false =>
      exact ⟨fun pins s σ H D I ⟨H0, Hf0, Hb, Hf, Γ, j, q⟩ => by
        unfold exec at q
        simp only [hcm, if_true] at q
        exact q.elim⟩
    | true =>
      obtain ⟨F, rfl, hp⟩ := cn.fc hcm
      have hty := kTy_ok h2
      unfold kTy at h2
      obtain ⟨g1, g2⟩ := an h2
      obtain ⟨g3, g4⟩ := an g2
      have ey := of_decide_eq_true g4
      rw [show tyName c.nm (.exc k) = c.nm k from rfl] at ey
      subst ey
      have hnm : Names X (c.nm k) (.ref (w.cad k)) := ⟨F.gl _ g1, glb_of g1, .inl (by rw [cn.nm]; exact F.ty _ hty)⟩
      have body : ∀ (W : WX) (pn : List (Addr × Obj)) (xe : Value → Shared → Prop), Takes (X.tr pn xe) W → PassesOwn (model X.prog X.w) X.A X.env xe → PSs (X.tr pn xe) ys (tX w xv0 W (execs b G)) := fun W pn xe tk hp =>
        hb xv0 (X.tr pn xe) sc G W (CnS.of_fc (F.tr pn xe) tk hp) ys h1
      have suit : ∀ (a : Addr) (oe : Obj) (cls : Value) (d : Option Addr) (pn : List (Addr × Obj)), Zc cls d oe → (∃ vs, oe.data = .fields vs) → PSs (X.suite a ((a, oe) :: pn)) (z :: zs) (tX w (xvA w a cls d) (fun _ _ _ _ => False) (execs h { G with toFx := G.hot })) := fun a oe cls d pn hz hf =>
        hh _ _ sc _ _ (CnS.suite F pn hz hf) _ h4
      have exm : ∀ {Hf : Hp} {k' : Nat} {p : Option MP.D} {cls : Value} {d : Option Addr}, ExR w Hf k' p cls d → PySem.W.exmOne X.K cls (.ref (w.cad k)) = some (G.sub k' (.exc k)) := fun e => by
        obtain ⟨q, e1, rfl, _⟩ := e
        rw [F.hK, F.hsub.1]
        exact ((F.isE _ q e1).2.2.2.1 k hty).2
      cases x with
      | none =>
        have hv : v = none := by
          cases v with
          | none => rfl
          | some v => exact nb h3
        subst hv
        refine PS.imp (ps_try_only (tb := fun W => tX w xv0 W (execs b G)) (ts := fun a cls d => tX w (xvA w a cls d) (fun _ _ _ _ => False) (execs h { G with toFx := G.hot })) F.stk F.frm hnm cn.tk body suit) fun D σ H ⟨H0, Hf0, Hb, Hf, Γ, j, q⟩ => ?_
        refine ⟨H0, Hf0, Hb, Hf, Γ, j, ?_⟩
        unfold exec at q
        simp only [hcm, Bool.true_eq_false, if_false] at q
        refine wp_try q fun k' p Γ' q cls d σ' H' Hf' j' e => ?_
        refine ⟨_, exm e, fun hs a ha => ?_, fun hs => ?_⟩
        · rw [hs] at q
          exact ⟨H0, Hf0, Hb, Hf', Γ', j'.toXv, wpX.suite (x := none) q⟩
        · rw [hs] at q
          exact q cls d σ' H' Hf' j' e
      | some i =>
        cases v with
        | none => exact nb h3
        | some v =>
          obtain ⟨h5, h6⟩ := an h3
          have h5 := of_decide_eq_true h5
          have h6 := of_decide_eq_true h6
          refine PS.imp (ps_try_as (tb := fun W => tX w xv0 W (execs b G)) (ts := fun a cls d => tX w (xvA w a cls d) (fun _ _ _ _ => False) (execs h { G with toFx := G.hot })) F.stk F.frm F.nd (by rw [F.hN]; exact h5) ((F.kin _).trans h6) hnm cn.tk body suit) fun D σ H ⟨H0, Hf0, Hb, Hf, Γ, j, q⟩ => ?_
          refine ⟨H0, Hf0, Hb, Hf, Γ, j, ?_⟩
          unfold exec at q
          simp only [hcm, Bool.true_eq_false, if_false] at q
          refine wp_try q fun k' p Γ' q cls d σ' H' Hf' j' e => ?_
          refine ⟨_, exm e, fun hs a ha => ?_, fun hs => ?_⟩
          · rw [hs] at q
            simp only [if_true] at q
            split at q
            · rename_i hi
              refine ⟨H0, Hf0, Hb, Hf', _, (j'.toXv (xv := xvA w a cls d)).set xvA_ok (Gr.refl j'.gr.lf) hi (o := .xv k' p) ⟨[], ⟨rfl, rfl, e⟩, List.nodup_nil, fun _ a m => (nomatch m)⟩, wpX.suite (x := some i) q⟩
            · exact q.elim
          · rw [hs] at q
            exact q cls d σ' H' Hf' j' e
  · exact nb hk
/-! ### several except clauses -/
/-- a clause's data -/
def hda (w : Wd) (G : Gx) (s : S) : HdA := match s with
  | .hdl k x h => ⟨.ref (w.cad k), x, fun a cls d => tX w (xvA w a cls d) (fun _ _ _ _ => False) (execs h { G with toFx := G.hot })⟩
  | _ => ⟨.none, none, fun _ _ _ => fun _ _ _ => False⟩
theorem hds_ok (F : Fc w c X sc G) : ∀ {hs : List S} {ys : List ExceptHandler}, (∀ s ∈ hs, ∀ k x h, s = .hdl k x h → SL w c h) → kHs c sc hs ys = true → HdsA X ys (hs.map (hda w G)) ∧ ∀ s ∈ hs, ∃ k x h, s = .hdl k x h ∧ c.ty (.exc k) = true
  | [], ys, _, h => by
    unfold kHs at h
    rw [List.isEmpty_iff.mp h]
    exact ⟨.nil, fun s m => nomatch m⟩
  | s :: hs, ys, hh, h => by
    unfold kHs kHdl at h
    split at h
    · rename_i y yp v z zs pp rest
      obtain ⟨h1, h2⟩ := an h
      obtain ⟨h2, h3⟩ := an h2
      cases s with
      | hdl k x hd =>
        simp only [hdlOf] at h1
        obtain ⟨h4, h5⟩ := an h1
        have hty := kTy_ok h4
        unfold kTy at h4
        obtain ⟨g1, g2⟩ := an h4
        obtain ⟨g3, g4⟩ := an g2
        have ey := of_decide_eq_true g4
        rw [show tyName c.nm (.exc k) = c.nm k from rfl] at ey
        subst ey
        obtain ⟨r1, r2⟩ := hds_ok F (fun s m => hh s (List.mem_cons_of_mem _ m)) h3
        have h2 : kSs c sc hd (z :: zs) = true := by unfold kSuite at h2; exact h2
        refine ⟨?_, fun s m => ?_⟩
        · rw [List.map_cons]
          refine .cons ⟨F.gl _ g1, glb_of g1, .inl (by rw [F.nm]; exact F.ty _ hty)⟩ ?_ (fun a oe cls d pn hz hf => hh _ List.mem_cons_self _ _ _ rfl _ _ sc _ _ (CnS.suite F pn hz hf) _ h2) r1
          cases x with
          | none =>
            cases v with
            | none => exact .inl ⟨rfl, rfl⟩
            | some v => exact nb h5
          | some i =>
            cases v with
            | none => exact nb h5
            | some v =>
              obtain ⟨h6, h7⟩ := an h5
              exact .inr ⟨i, v, rfl, rfl, by rw [F.hN]; exact of_decide_eq_true h6, (F.kin _).trans (of_decide_eq_true h7)⟩
        · rcases List.mem_cons.mp m with rfl | m
          · exact ⟨k, x, hd, rfl, hty⟩
          · exact r2 s m
      | _ => exact nb h1
    · exact nb h
theorem tries_ok (F : Fc w c X sc G) {H0 Hf0 Hb : Hp} {D : Ends} {k' : Nat} {p : Option MP.D} {Γ' : List OD} {cls : Value} {d : Option Addr} {σ' : L2.St} {H' Hf' : Hp} (j' : J w xv0 H0 Hf0 Hb Γ' σ' H' Hf') (e : ExR w Hf' k' p cls d) :
    ∀ {hs : List S}, (∀ s ∈ hs, ∃ k x h, s = .hdl k x h ∧ c.ty (.exc k) = true) → wpX w xv0 W H0 Hf0 Hb D (execH hs G k' p Γ') → wTries X.K W D (hs.map (hda w G)) cls d σ' H'
  | [], _, q => by
    unfold execH at q
    exact q cls d σ' H' Hf' j' e
  | s :: hs, hh, q => by
    obtain ⟨k, x, h, rfl, hty⟩ := hh s List.mem_cons_self
    have exm : PySem.W.exmOne X.K cls (.ref (w.cad k)) = some (G.sub k' (.exc k)) := by
      obtain ⟨q, e1, rfl, _⟩ := e
      rw [F.hK, F.hsub.1]
      exact ((F.isE _ q e1).2.2.2.1 k hty).2
    unfold execH at q
    simp only [hdlOf] at q
    rw [List.map_cons]
    refine ⟨_, exm, fun hs a ha => ?_, fun hs => ?_⟩
    · rw [hs] at q
      simp only [if_true] at q
      cases x with
      | none =>
        simp only [exec] at q
        exact ⟨H0, Hf0, Hb, Hf', Γ', j'.toXv, wpX.suite (x := none) q⟩
      | some i =>
        simp only at q
        split at q
        · rename_i hi
          simp only [exec] at q
          exact ⟨H0, Hf0, Hb, Hf', _, (j'.toXv (xv := xvA w a cls d)).set xvA_ok (Gr.refl j'.gr.lf) hi (o := .xv k' p) ⟨[], ⟨rfl, rfl, e⟩, List.nodup_nil, fun _ a m => (nomatch m)⟩, wpX.suite (x := some i) q⟩
        · exact q.elim
    · rw [hs] at q
      simp only [Bool.false_eq_true, if_false] at q
      exact tries_ok F j' e (fun s m => hh s (List.mem_cons_of_mem _ m)) q
theorem ss_trym {b hs : List S} (hb : SL w c b) (hh : ∀ s ∈ hs, ∀ k x h, s = .hdl k x h → SL w c h) : SS w c (.trym b hs) := fun xv X sc G W cn st hk => by
  unfold kS kTrys at hk
  split at hk
  · rename_i ys z zs pos
    obtain ⟨h1, h2⟩ := an hk
    cases hcm : G.calm with
    | false =>
      exact ⟨fun pins s σ H D I ⟨H0, Hf0, Hb, Hf, Γ, j, q⟩ => by
        unfold exec at q
        simp only [hcm, if_true] at q
        exact q.elim⟩
    | true =>
      obtain ⟨F, rfl, hp⟩ := cn.fc hcm
      obtain ⟨k1, k2⟩ := hds_ok F hh h2
      have body : ∀ (W : WX) (pn : List (Addr × Obj)) (xe : Value → Shared → Prop), Takes (X.tr pn xe) W → PassesOwn (model X.prog X.w) X.A X.env xe → PSs (X.tr pn xe) ys (tX w xv0 W (execs b G)) := fun W pn xe tk hp =>
        hb xv0 (X.tr pn xe) sc G W (CnS.of_fc (F.tr pn xe) tk hp) ys h1
      refine PS.imp (ps_tries (tb := fun W => tX w xv0 W (execs b G)) F.stk F.frm F.nd cn.tk body k1) fun D σ H ⟨H0, Hf0, Hb, Hf, Γ, j, q⟩ => ?_
      refine ⟨H0, Hf0, Hb, Hf, Γ, j, ?_⟩
      unfold exec at q
      simp only [hcm, Bool.true_eq_false, if_false] at q
      exact wp_try q fun k' p Γ' q cls d σ' H' Hf' j' e => tries_ok F j' e k2 q
  · exact nb hk
/-! ### for -/
theorem fold_no {x : Expr} {env : Env} (h : noSet x = true) : ∀ v, foldedSetIterable x env v = pure v := fun v => by
  cases x <;> first | rfl | cases h
theorem wpX.weak {H0 Hf0 Hb Hb2 : Hp} {D : Ends} {r : XR} (l : Le Hb Hb2) (h : wpX w xv W H0 Hf0 Hb D r) : wpX w xv W H0 Hf0 Hb2 D r := by
  cases r with
  | ok f Γ => cases f with
    | nx => exact fun σ H Hf j => h σ H Hf (j.weak l)
    | bk => exact fun σ H Hf j => h σ H Hf (j.weak l)
    | ct => exact fun σ H Hf j => h σ H Hf (j.weak l)
    | rt o => exact fun v σ H Hf j r => h v σ H Hf (j.weak l) r
  | ex c p Γ => exact fun cls d σ H Hf j e => h cls d σ H Hf (j.weak l) e
  | bad => exact h
/-- what holds ahead of the i-th turn -/
def LP (w : Wd) (xv : XV) (W : WX) (H0 Hf0 Hb : Hp) (D : Ends) (body : List OD → XR) (t : T) (ds : List MP.D) (i : Nat) (σ : L2.St) (H : Hp) : Prop :=
  ∃ Hf Γ, J w xv H0 Hf0 Hb Γ σ H Hf ∧ wpX w xv W H0 Hf0 Hb D (forL body t (ds.drop i) Γ)
theorem LP.step {H0 Hf0 Hb Hf : Hp} {D : Ends} {body : List OD → XR} {t : T} {ds : List MP.D} {i : Nat} {σ : L2.St} {H H1 Hf1 : Hp} {Γ : List OD} {d : MP.D} {v : V} (hx : XvOk xv) (e : ds[i]? = some d) (j : J w xv H0 Hf0 Hb Γ σ H Hf) (q : wpX w xv W H0 Hf0 Hb D (forL body t (ds.drop i) Γ)) (g : Gr H Hf H1 Hf1) (r : Rep w Hf1 d v) :
    gX w xv t v σ H1 fun σ2 H2 => tX w xv W body { D with nx := LP w xv W H0 Hf0 Hb D body t ds (i + 1), ct := LP w xv W H0 Hf0 Hb D body t ds (i + 1), bk := D.nx } σ2 H2 := by
  have hi := (List.getElem?_eq_some_iff.mp e).1
  have ed : ds.drop i = d :: ds.drop (i + 1) := by
    rw [List.drop_eq_getElem_cons hi]
    congr 1
    exact (List.getElem?_eq_some_iff.mp e).2
  rw [ed] at q
  unfold forL at q
  obtain ⟨Γ', e1, q⟩ := q.liftO
  refine ⟨H0, Hf0, Hb, Hf1, Γ, d, Γ', j.mono hx g, r, e1, fun σ' j' => ⟨H0, Hf0, Hb, Hf1, Γ', j', ?_⟩⟩
  cases q2 : body Γ' with
  | ok f Γ2 =>
    rw [q2] at q
    cases f with
    | nx => exact fun σ H Hf j => ⟨Hf, Γ2, j, q⟩
    | ct => exact fun σ H Hf j => ⟨Hf, Γ2, j, q⟩
    | bk => exact q
    | rt o => exact q
  | ex c p Γ2 => rw [q2] at q; exact q
  | bad => rw [q2] at q; exact q.elim
theorem LP.done {H0 Hf0 Hb : Hp} {D : Ends} {body : List OD → XR} {t : T} {ds : List MP.D} {i : Nat} {σ : L2.St} {H : Hp} (e : ds.length ≤ i) (p : LP w xv W H0 Hf0 Hb D body t ds i σ H) : D.nx σ H := by
  obtain ⟨Hf, Γ, j, q⟩ := p
  rw [List.drop_eq_nil_of_le e] at q
  unfold forL at q
  exact q σ H Hf j
theorem LP.start {H0 Hf0 Hb Hf : Hp} {D : Ends} {body : List OD → XR} {t : T} {ds : List MP.D} {Γ : List OD} {σ : L2.St} {H : Hp} (j : J w xv H0 Hf0 Hb Γ σ H Hf) (q : wpX w xv W H0 Hf0 Hb D (forL body t ds Γ)) : LP w xv W H0 Hf0 Hf D body t ds 0 σ H :=
  ⟨Hf, Γ, ⟨j.gr, Le.refl _, j.len, j.own⟩, q.weak j.hb⟩
theorem for_no {x : Expr} {env : Env} (h : noSet x = true) : ∀ v, foldedSetIterable x env v = pure v := set_no h
theorem ss_forr {t : T} {it : E} {b : List S} (hb : SL w c b) : SS w c (.forr t it b) := fun xv X sc G W cn st h => by
  unfold kS kFor at h
  split at h
  · rename_i tg x ys p
    obtain ⟨h0, h⟩ := an h
    obtain ⟨h1, h⟩ := an h
    obtain ⟨h2, h3⟩ := an h
    cases hcm : G.calm with
    | false =>
      exact ⟨fun pins s σ H D I ⟨H0, Hf0, Hb, Hf, Γ, j, q⟩ => by
        unfold exec at q
        simp only [hcm, if_true] at q
        exact q.elim⟩
    | true =>
      obtain ⟨F, rfl, hp⟩ := cn.fc hcm
      refine PS.imp (ps_for hp F.cm (IF.all it xv0 X sc G.toFx W cn.toCnE hcm tg x h2) (pg_D cn F.cm h1) (hb xv0 X sc G W cn ys h3) (set_no h0)) fun D σ H ⟨H0, Hf0, Hb, Hf, Γ, j, q⟩ => ?_
      unfold exec at q
      simp only [hcm, Bool.true_eq_false, if_false] at q
      refine ⟨Hf, Γ, j.at, (q.liftR cn.xvo j).imp fun ds _ q It H' Hf' g wk => ?_⟩
      have l0 : LP w xv0 W H0 Hf0 Hf' D (fun Γ => execs b G Γ) t ds 0 σ H' := LP.start (j.mono cn.xvo g) q
      refine ⟨fun i m σ H => m = ds.length - i ∧ i ≤ ds.length ∧ LP w xv0 W H0 Hf0 Hf' D (fun Γ => execs b G Γ) t ds i σ H, ⟨ds.length, by simp, Nat.zero_le _, l0⟩, fun i m σ H ⟨em, hi, p⟩ => ?_⟩
      subst em
      obtain ⟨Hf2, Γ2, j2, q2⟩ := id p
      have wa := wk H Hf2 j2.hb j2.gr.lf i
      by_cases hlt : i < ds.length
      · have ed : ds[i]? = some ds[i] := List.getElem?_eq_getElem hlt
        obtain ⟨hgo, hy⟩ := wa.1 _ ed
        refine .inr ⟨hgo, LP w xv0 W H0 Hf0 Hf' D (fun Γ => execs b G Γ) t ds (i + 1), fun σ' H' p => ⟨ds.length - (i + 1), by omega, rfl, hlt, p⟩, fun x1 H1 y => ?_⟩
        obtain ⟨Hf3, g3, r3⟩ := hy x1 H1 y
        exact LP.step cn.xvo ed j2 q2 g3 r3
      · exact .inl ⟨wa.2 (by omega), p.done (by omega)⟩
  · exact nb h
/-! ### all of them -/
theorem ss_false {s : S} (h : ∀ sc x, kS c sc s x = false) : SS w c s := fun xv X sc G W cn x k => by
  rw [h] at k
  exact nb k
theorem sl_nil : SL w c [] := fun xv X sc G W cn sts h => by
  unfold kSs kNil at h
  split at h
  · exact PSs.imp pss_nil fun D σ H ⟨H0, Hf0, Hb, Hf, Γ, j, q⟩ => by unfold execs at q; exact q σ H Hf j
  · exact nb h
theorem wp_seq {H0 Hf0 Hb : Hp} {D : Ends} {r : XR} {f : List OD → XR} (h : wpX w xv W H0 Hf0 Hb D (r.seq f)) : wpX w xv W H0 Hf0 Hb { D with nx := tX w xv W f D } r := by
  cases r with
  | ok g Γ => cases g with
    | nx => exact fun σ H Hf j => ⟨H0, Hf0, Hb, Hf, Γ, j, h⟩
    | _ => exact h
  | ex c p Γ => exact h
  | bad => exact h
theorem sl_cons {s : S} {ss : List S} (h1 : SS w c s) (h2 : SL w c ss) : SL w c (s :: ss) := fun xv X sc G W cn sts h => by
  by_cases hf2 : ∃ x, s = .frz2 x
  · obtain ⟨x, rfl⟩ := hf2
    unfold kSs at h
    refine PSs.imp (h2 xv X sc G W cn sts h) fun D σ H ⟨H0, Hf0, Hb, Hf, Γ, j, q⟩ => ?_
    unfold execs exec at q
    cases e : frz2At Γ x with
    | none => rw [e] at q; exact q.elim
    | some Γ' =>
      rw [e] at q
      obtain ⟨Hf', j'⟩ := J.frz2 cn.xvo j e
      exact ⟨H0, Hf0, Hb, Hf', Γ', j', q⟩
  by_cases hf : ∃ xs, s = .frz xs
  · obtain ⟨xs, rfl⟩ := hf
    unfold kSs at h
    refine PSs.imp (h2 xv X sc G W cn sts h) fun D σ H ⟨H0, Hf0, Hb, Hf, Γ, j, q⟩ => ?_
    unfold execs exec at q
    cases e : frzAll xs Γ with
    | none => rw [e] at q; exact q.elim
    | some Γ' =>
      rw [e] at q
      obtain ⟨Hf', j'⟩ := J.frz cn.xvo j e
      exact ⟨H0, Hf0, Hb, Hf', Γ', j', q⟩
  · have h : kCons' (kS c sc s) (kSs c sc ss) sts = true := by
      unfold kSs at h
      cases s <;> first | exact absurd ⟨_, rfl⟩ hf | exact absurd ⟨_, rfl⟩ hf2 | exact h
    unfold kCons' at h
    split at h
    · obtain ⟨k1, k2⟩ := an h
      refine PSs.imp (pss_cons (h1 xv X sc G W cn _ k1) (h2 xv X sc G W cn _ k2)) fun D σ H ⟨H0, Hf0, Hb, Hf, Γ, j, q⟩ => ?_
      unfold execs at q
      exact ⟨H0, Hf0, Hb, Hf, Γ, j, wp_seq q⟩
    · exact nb h
theorem sl_all : ∀ (n : Nat), (∀ s : S, sizeOf s < n → SS w c s) ∧ ∀ ss : List S, sizeOf ss < n → SL w c ss := by
  intro n
  induction n with
  | zero => exact ⟨fun s h => absurd h (Nat.not_lt_zero _), fun s h => absurd h (Nat.not_lt_zero _)⟩
  | succ n ih =>
    obtain ⟨i1, i2⟩ := ih
    refine ⟨fun s h => ?_, fun ss h => ?_⟩
    · cases s with
      | pass => exact ss_pass
      | ex e => exact ss_ex
      | asg t e => exact ss_asg
      | app i e => exact ss_app
      | fld f e => exact ss_fld
      | set i ie e => exact ss_set
      | set2 i ie je e => exact ss_set2
      | mcall t f i es => exact ss_mcall
      | ret e => exact ss_ret
      | iff t a b =>
        rw [S.iff.sizeOf_spec] at h
        exact ss_iff (i2 a (by omega)) (i2 b (by omega))
      | forr t it b =>
        rw [S.forr.sizeOf_spec] at h
        exact ss_forr (i2 b (by omega))
      | rais k es => exact ss_rais
      | whl t b =>
        rw [S.whl.sizeOf_spec] at h
        exact ss_whl (i2 b (by omega))
      | tryy b k x hd =>
        rw [S.tryy.sizeOf_spec] at h
        exact ss_tryy (i2 b (by omega)) (i2 hd (by omega))
      | trym b hs =>
        rw [S.trym.sizeOf_spec] at h
        refine ss_trym (i2 b (by omega)) fun s m k x hd e => ?_
        subst e
        have l1 := List.sizeOf_lt_of_mem m
        rw [S.hdl.sizeOf_spec] at l1
        exact i2 hd (by omega)
      | _ => exact ss_false fun sc x => by unfold kS; rfl
    · cases ss with
      | nil => exact sl_nil
      | cons s ss =>
        rw [List.cons.sizeOf_spec] at h
        exact sl_cons (i1 s (by omega)) (i2 ss (by omega))
theorem SL.all (ss : List S) : SL w c ss := (sl_all _).2 ss (Nat.lt_succ_self _)
end
end MP

end

section
set_option Elab.async false
set_option linter.all false
set_option maxRecDepth 100000
/-! defs that are called while an error is handled, and let none out -/
namespace MP
open PySem PySem.Spec PyProof.Rows L2
structure RoomQ (k : Nat) (A : Around) : Prop where
  dp : A.depth + 3 * k + 5 < recursionLimit
  un : A.units + 16 * k + 200 < cLine
theorem RoomQ.mono {j k : Nat} {A : Around} (r : RoomQ k A) (h : j ≤ k) : RoomQ j A := ⟨by have := r.dp; omega, by have := r.un; omega⟩
theorem RoomQ.deeper {k : Nat} {A : Around} (r : RoomQ (k + 1) A) (env : Env) : RoomQ k (A.deeper env) := by
  obtain ⟨d, u⟩ := r
  refine ⟨?_, ?_⟩
  · show A.depth + 1 + 3 * k + 5 < recursionLimit
    omega
  · show A.units + 3 + 16 * k + 200 < cLine
    omega
theorem RoomQ.of {k : Nat} {A : Around} (r : Room k A) : RoomQ k A := ⟨r.dp, r.un⟩
/-- the same place, nothing handled -/
def cool (A : Around) : Around := { A with handled := none }
theorem RoomQ.cool {k : Nat} {A : Around} (r : RoomQ k A) : Room k (MP.cool A) := ⟨rfl, r.dp, r.un⟩
/-- what such a def promises -/
structure FnQ (P : Program) (wd : World) (K : PySem.W.Frag) (mg : Str → Option Value) (base : Heap) (k : Nat) (f : Addr) (fd : FuncData) (ps : List Str) (sp : List V → Hp → VK → Prop) : Prop where
  len : ∀ vs H Q, sp vs H Q → vs.length = ps.length
  run : ∀ (A : Around) (outer : List Env) (s : Shared) (H : Hp) (args : Args) (us : List Value) (vs : List V) (Q : VK), RoomQ k A → Env0 P wd K mg base A outer s H → BindsTo s fd args (ps.zip us) → Vals vs us → sp vs H Q →
    codeAny (model P wd) A (.call (.ref f) args) (fun r s' => match r with
      | .ok (.ret u) => CE outer P wd H s Q u s'
      | _ => False) s
/-- its body's context -/
def cxQ (P : Program) (wd : World) (K : PySem.W.Frag) (mg : Str → Option Value) (base : Heap) (N : List Str) (qual : Str) (scope : Scope) (f : Addr) (cd : Value) (A : Around) (outer : List Env) (s : Shared) (H : Hp) : Cx :=
  { cxOf (L2.CX P wd) P wd K mg base N qual scope f cd A outer s H (fun _ _ _ => False) with calm := false, xe := fun _ _ => False }
abbrev cx0 (P : Program) (wd : World) (K : PySem.W.Frag) (mg : Str → Option Value) (base : Heap) (N : List Str) (qual : Str) (scope : Scope) (f : Addr) (cd : Value) (A : Around) (outer : List Env) (s : Shared) (H : Hp) : Cx :=
  cxOf (L2.CX P wd) P wd K mg base N qual scope f cd (cool A) outer s H (fun _ _ _ => False)
section
variable {P : Program} {wd : World} {K : PySem.W.Frag} {mg : Str → Option Value} {base : Heap} {N ps : List Str} {qual : Str} {scope : Scope} {f : Addr} {cd : Value} {A : Around} {outer : List Env} {s s1 : Shared} {H H1 : Hp} {σ : L2.St}
theorem inv_q (I : L2.Inv (cx0 P wd K mg base N qual scope f cd A outer s H) [] σ H1 s1) : L2.Inv (cxQ P wd K mg base N qual scope f cd A outer s H) [] σ H1 s1 := by
  have o := I.ok
  refine ⟨⟨o.mod, o.kind, o.glob, o.blt, o.above, o.inj, o.has, o.cab, fun z => ?_, o.frames, o.stk, o.exf, o.bs, o.bsz, o.noex, o.exfs, o.funs, o.frf⟩, I.os, I.bare, I.base, I.loc, I.cell, I.free, I.freeC, I.pin, I.hok, I.len⟩
  exact Bool.noConfusion (show false = true from z)
theorem env0_cool (e : Env0 P wd K mg base A outer s H) : Env0 P wd K mg base (cool A) outer s H := ⟨e.frames, e.mod, e.bs, e.bsz, e.funs, e.frf, e.hok, e.bare⟩
theorem FnQ.of {k : Nat} {fd : FuncData} {x : Str} {params : Arguments} {body : List Stmt} {dvs : List V} {kws : List (Str × V)} {sp : List V → Hp → VK → Prop} (F : FunD K x qual params body scope dvs kws f fd) (S : FnScope N ps scope) (len : ∀ vs H Q, sp vs H Q → vs.length = ps.length)
    (walk : ∀ (cd : Value) (A : Around) (outer : List Env) (s : Shared) (H : Hp) (vs : List V) (Q : VK), RoomQ k (A.deeper (envOfC qual scope s.heap.objs.size f cd)) → sp vs H Q →
      ∃ t, PSs (cxQ P wd K mg base N qual scope f cd A outer s H) body t ∧ t { nx := fun _ H' => Q .non H', rt := Q } (L2.start N vs) H) : FnQ P wd K mg base (k + 1) f fd ps sp := by
  obtain ⟨oc, od, dV, kV, doc, pm, an, cdv, ct, osl, rfl, lk, hcd, _, _⟩ := F.ex
  refine ⟨len, fun A outer s H args us vs Q hr e0 hb r hsp => ?_⟩
  have room : A.depth < recursionLimit := by have := hr.dp; omega
  have same : ∀ b o, base.get? b = some o → s.heap.get? b = some o := fun b o e => (e0.bs b o e).1
  have KX : K.In s.heap := e0.mod.kin.keeps same
  have par : ∀ y ∈ ps.zip us, scope.names.lookup y.1 = some .local ∨ (scope.names.lookup y.1 = some .cell ∧ ((cellsFrom (s.heap.objs.size + 1) scope.names []).lookup y.1).isSome = true) := fun y hy => by
    rcases S.par y.1 (List.of_mem_zip (b := y.2) hy).1 with q | q
    · exact .inl q
    · exact .inr ⟨q, PySem.W.cellsFrom_some _ _ _ (.inl q)⟩
  refine codeAny_call_function room (KX _ _ lk) rfl S.co S.gen rfl (PySem.W.codeRec_of KX hcd) (hb _ _ _ _ (wpAny_newFunctionEnv_cells S.kind par fun env he s1 x => ?_))
  subst he
  refine ⟨(e0.mod.nolimit.keeps same).keeps x.toInCall.keep, codeAny_func ?_⟩
  obtain ⟨t, ht, hq⟩ := walk cdv A outer s H vs Q (hr.deeper _) hsp
  have I := inv_q (inv_start (CX := L2.CX P wd) (E := fun _ _ _ => False) (A := cool A) S rfl (env0_cool e0) (len _ _ _ hsp) r x)
  refine wpAny_mono (ht.run [] s1 (L2.start N vs) H _ I hq) (fun fl s' h => ?_) fun e s' h => h.elim
  match fl, h with
  | .ret u, ⟨v, σ', H', J, rv, q⟩ => exact ⟨v, H', J.os, J.bare, J.base, J.hok, rv, q⟩
  | .next, ⟨σ', H', J, q⟩ => exact ⟨.non, H', J.os, J.bare, J.base, J.hok, rfl, q⟩
  | .brk, ⟨_, _, _, q⟩ => exact q.elim
  | .cont, ⟨_, _, _, q⟩ => exact q.elim
end
theorem run_q {X : Cx} {k : Nat} {f : Addr} {fd : FuncData} {ps : List Str} {sp : List V → Hp → VK → Prop} {pins : List (Addr × Obj)} {σ : L2.St} {H : Hp} {s : Shared} {Q : VK} {us ds : List Value} {vs dvs : List V} (F : FnQ X.prog X.w X.K X.mg X.base k f fd ps sp) (hr : RoomQ k X.A)
    (hb : BindsTo s fd ⟨us, []⟩ (ps.zip (us ++ ds))) (hd : Vals dvs ds) (I : L2.Inv X pins σ H s) (r : Vals vs us) (h : sp (vs ++ dvs) H Q) : wpAny (model X.prog X.w) X.A (call (.ref f) us) (EP X pins σ Q) X.xe s := by
  refine wpAny_call (codeAny_mono (F.run X.A X.stack s H ⟨us, []⟩ (us ++ ds) (vs ++ dvs) Q hr I.env0 hb (r.append hd) h) fun r s' q => ?_)
  match r, q with
  | .ok (.ret u), q => exact I.after q
  | .error _, q => exact q.elim
  | .ok .next, q => exact q.elim
  | .ok .brk, q => exact q.elim
  | .ok .cont, q => exact q.elim
end MP

end

section
set_option Elab.async false
set_option linter.all false
set_option maxRecDepth 100000
namespace MP
open PySem PySem.Spec PyProof.Rows L2
/-! ### defs -/
/-- a def's text -/
structure Tx where
  x : Str
  qual : Str
  as : List PySem.Arg
  kd : List (Option Expr)
  d : List Expr
  body : List Stmt
  sc : Scope
  N : List Str
def Tx.ps (t : Tx) : List Str := t.as.map (·.arg)
/-- what is asked of all names -/
structure Cg where
  bl : Blt → Bool
  ty : Ty → Bool
  ex : Nat → Bool
  exf : Nat → Bool
  fn : Nat → Bool
  mkc : Nat → Bool
  me : Nat → Bool
def Cg.ck (g : Cg) (nm : Nat → Str) (N : List Str) : Ck := ⟨N, nm, g.bl, g.ty, g.ex, g.exf, g.fn, g.mkc, g.me⟩
def okSc (N ps : List Str) (sc : Scope) : Bool :=
  decide (sc.kind = .function) && (!sc.isCoroutine && (!sc.isGenerator && (decide N.Nodup && (decide (N.take ps.length = ps) && (ps.all (fun x => loc sc x) && sc.names.all fun y => decide (y.2 ≠ .free))))))
theorem okSc_ok {N ps : List Str} {sc : Scope} (h : okSc N ps sc = true) : FnScope N ps sc := by
  unfold okSc at h
  obtain ⟨h1, h⟩ := an h
  obtain ⟨h2, h⟩ := an h
  obtain ⟨h3, h⟩ := an h
  obtain ⟨h4, h⟩ := an h
  obtain ⟨h5, h⟩ := an h
  obtain ⟨h6, h7⟩ := an h
  refine ⟨of_decide_eq_true h1, by simpa using h2, by simpa using h3, of_decide_eq_true h4, of_decide_eq_true h5, fun x m => ?_, fun y m => of_decide_eq_true (List.all_eq_true.mp h7 y m)⟩
  have := List.all_eq_true.mp h6 x m
  unfold loc at this
  split at this
  · exact .inl (by assumption)
  · exact .inr (by assumption)
  · cases this
def okFn (g : Cg) (nm : Nat → Str) (F : Fn) (t : Tx) : Bool :=
  decide (F.np = t.as.length) && (F.kwo.isEmpty && (decide (F.nn = t.N.length) && (decide (F.dfl.length ≤ F.np) && (okSc t.N t.ps t.sc && kSs (g.ck nm t.N) t.sc F.body t.body))))
/-- the program in the written part -/
structure Sys (w : Wd) (g : Cg) (mg : Str → Option Value) (Pr : Program) : Prop where
  fn : ∀ f F, w.P.fn f = some F → ∃ (t : Tx) (fd : FuncData) (dvs : List V) (kws : List (Str × V)), FunD w.K t.x t.qual ⟨[], t.as, none, [], t.kd, none, t.d⟩ t.body t.sc dvs kws (w.fad f) fd ∧ (∀ H, Reps w H F.dfl dvs) ∧ okFn g w.nm F t = true
  fns : ∀ f, g.fn f = true → w.P.fn f ≠ none ∧ mg (w.nm f) = some (.ref (w.fad f))
  gv : ∀ x d, w.P.gv x = some d → ∃ v u, mg (w.nm x) = some u ∧ RelV v u ∧ ∀ H, Rep w H d v
  bl : ∀ f, g.bl f = true → f ≠ .gcd → mg (bname f) = none
  gcd : g.bl .gcd = true → mg "gcd" = some (.builtin "math.gcd")
  rng : mg "range" = none
  enm : mg "enumerate" = none
  zip : mg "zip" = none
  isi : mg "isinstance" = none
  ty : ∀ t, g.ty t = true → (match t with
    | .cls k => mg (w.nm k) = some (.ref (w.cad k))
    | .exc k => mg (w.nm k) = some (.ref (w.cad k))
    | .tnone => False
    | t => mg (tyName w.nm t) = none)
  isB : ∀ (a : String), a ∈ ["NoneType", "bool", "int", "str", "list", "tuple"] → ∀ k, (g.ty (.cls k) = true ∨ g.ty (.exc k) = true) → PySem.W.kitOne w.K (.type a) (.ref (w.cad k)) = some false
  isO : ∀ k q, w.P.cl k = some q → (PySem.W.findIn w.K (.ref (w.cad k)) "__class__" = some (some (.builtin "object.__class__")) ∧ PySem.W.specialIn w.K (.builtin "object.__class__") "__get__" = some (some (.builtin "getset_descriptor.__get__")) ∧
    PySem.W.takesIn w.K (.builtin "object.__class__") = some true ∧ PySem.W.mroIn w.K (w.cad k) (.type "object") = some true) ∧ Cls w.K (w.cad k) ∧ ∀ t, g.ty t = true → PySem.W.kitOne w.K (.ref (w.cad k)) (tyVal w t) = some (match t with
      | .cls j => k == j
      | _ => false)
  isE : ∀ k q, w.P.xc k = some q → ExcC w.K (w.cad k) ∧ XfC w.K (w.cad k) ∧ (∀ f, q.fld = some f → PySem.W.findIn w.K (.ref (w.cad k)) (w.nm f) = some none) ∧ (∀ j, g.ty (.exc j) = true → PySem.W.kitOne w.K (.ref (w.cad k)) (.ref (w.cad j)) = some (w.P.sub k (.exc j)) ∧
    PySem.W.exmOne w.K (.ref (w.cad k)) (.ref (w.cad j)) = some (w.P.sub k (.exc j))) ∧ PySem.W.kitOne w.K (.ref (w.cad k)) (.type "ValueError") = some true
  fld : ∀ k f i, w.P.fld k f = some i → Cls w.K (w.cad k) ∧ NoAttr w.K (w.cad k) (w.nm f) ∧ (w.flds k).Nodup ∧ (w.flds k)[i]? = some (w.nm f)
  mkc : ∀ k, g.mkc k = true → ∃ q F, w.P.cl k = some q ∧ w.P.fn q.init = some F ∧ 0 < F.np ∧ Mk w.K (w.cad k) (w.fad q.init) ∧ mg (w.nm k) = some (.ref (w.cad k))
  me : ∀ m, g.me m = false
  rai : ∀ k, g.ex k = true → w.P.xc k ≠ none ∧ w.P.xf k = none ∧ PySem.W.excIn w.K (w.cad k) He.veBase "ValueError.__new__" = true ∧ mg (w.nm k) = some (.ref (w.cad k)) ∧ PySem.W.keepIn w.K (.ref (w.cad k)) = true ∧ PySem.W.subIn w.K (.ref (w.cad k)) (.type "BaseException") = some true ∧
    PySem.W.typeIn w.K (.ref (w.cad k)) = some (.type "type")
  raf : ∀ k, g.exf k = true → ∃ q f fI, w.P.xc k = some q ∧ q.fld = some f ∧ PySem.ErrX.ErrTxt Pr w.K mg (w.cad k) fI (w.nm f) ∧ mg (w.nm k) = some (.ref (w.cad k))
/-- what a call at depth n comes to -/
def runB (P : MP.Prog) (n : Nat) (F : Fn) (as : List MP.D) : R OD := outR (execs F.body (P.gx n) (MP.start F (as.map .fz)))
def spF (w : Wd) (n : Nat) (F : Fn) : Sp := fun vs H Q E => ∃ Hf as, Le Hf H ∧ Reps w Hf as vs ∧ as.length = F.np ∧ (match runB w.P n F as with
  | .ok o => Out w xv0 H Hf o Q
  | .ex c p => ∀ cls d H' Hf', Gr H Hf H' Hf' → ExR w Hf' c p cls d → E cls d H'
  | .bad => False)
def spP (w : Wd) (n : Nat) (F : Fn) : Sp := match n with
  | 0 => fun _ _ _ _ => False
  | n + 1 => spF w n F
theorem gx_calm {P : MP.Prog} : ∀ n, (P.gx n).calm = true ∧ (P.gx n).hot.calm = false ∧ (P.gx n).gv = P.gv ∧ (P.gx n).hot.gv = P.gv ∧ (P.gx n).sub = P.sub ∧ (P.gx n).hot.sub = P.sub ∧ (P.gx n).xf = P.xf ∧ (P.gx n).hot.xf = P.xf ∧ (P.gx n).fld = P.fld ∧ (P.gx n).hot.fld = P.fld
  | 0 => ⟨rfl, rfl, rfl, rfl, rfl, rfl, rfl, rfl, rfl, rfl⟩
  | n + 1 => ⟨rfl, rfl, rfl, rfl, rfl, rfl, rfl, rfl, rfl, rfl⟩
section
variable {w : Wd} {g : Cg} {mg : Str → Option Value} {Pr : Program} {wd : World} {base : Heap}
/-- all defs keep their promises at level n -/
def FnAll (w : Wd) (g : Cg) (mg : Str → Option Value) (Pr : Program) (wd : World) (base : Heap) (n : Nat) : Prop := ∀ f F, w.P.fn f = some F → ∀ (t : Tx) (fd : FuncData) (dvs : List V) (kws : List (Str × V)),
  FunD w.K t.x t.qual ⟨[], t.as, none, [], t.kd, none, t.d⟩ t.body t.sc dvs kws (w.fad f) fd → (∀ H, Reps w H F.dfl dvs) → okFn g w.nm F t = true → FnOk Pr wd w.K mg base (L2.CX Pr wd) (2 * n) (w.fad f) fd t.ps (spP w n F)
/-- .. an __init__ -/
def spI (w : Wd) (n k : Nat) (F : Fn) : Sp := fun vs H Q E => ∃ x dx H0 Hf as us, vs = .ref x :: us ∧ H = upd (upd H0 dx (.own x)) x (.ins (w.cad k) dx []) ∧ H0 x = none ∧ H0 dx = none ∧ dx ≠ x ∧ Le Hf H0 ∧ Reps w Hf as us ∧ as.length + 1 = F.np ∧
  (match outI w.P k (execs F.body (w.P.gx n) (MP.start F (.oi k [] :: as.map .fz))) with
  | .ok o => ∀ H' Hf', Gr H0 Hf H' Hf' → (∀ d, o = .fz d → Rep w Hf' d (.ref x)) → Q .non H'
  | .ex c p => ∀ cls d H' Hf', Gr H0 Hf H' Hf' → ExR w Hf' c p cls d → E cls d H'
  | .bad => False)
def spIP (w : Wd) (n k : Nat) (F : Fn) : Sp := match n with
  | 0 => fun _ _ _ _ => False
  | n + 1 => spI w n k F
def FnIni (w : Wd) (g : Cg) (mg : Str → Option Value) (Pr : Program) (wd : World) (base : Heap) (n : Nat) : Prop := ∀ k q F, w.P.cl k = some q → w.P.fn q.init = some F → ∀ (t : Tx) (fd : FuncData) (dvs : List V) (kws : List (Str × V)),
  FunD w.K t.x t.qual ⟨[], t.as, none, [], t.kd, none, t.d⟩ t.body t.sc dvs kws (w.fad q.init) fd → okFn g w.nm F t = true → FnOk Pr wd w.K mg base (L2.CX Pr wd) (2 * n) (w.fad q.init) fd t.ps (spIP w n k F)
/-- .. that changes its first argument -/
def spM (w : Wd) (n : Nat) (F : Fn) : Sp := fun vs H Q _ => ∃ Hf x us as rs A, vs = .ref x :: us ∧ Le Hf H ∧ RepO (w.at x) xv0 H Hf (.own2 true rs) (.ref x) A ∧ A.Nodup ∧ Reps w Hf as us ∧ as.length + 1 = F.np ∧
  MvOut w H Hf A x (outM (execs F.body (w.P.gx n) (MP.start F (.own2 true rs :: as.map .fz)))) Q
def spMP (w : Wd) (n : Nat) (F : Fn) : Sp := match n with
  | 0 => fun _ _ _ _ => False
  | n + 1 => spM w n F
def FnMAll (w : Wd) (g : Cg) (mg : Str → Option Value) (Pr : Program) (wd : World) (base : Heap) (n : Nat) : Prop := ∀ f F, w.P.fn f = some F → ∀ (t : Tx) (fd : FuncData) (dvs : List V) (kws : List (Str × V)),
  FunD w.K t.x t.qual ⟨[], t.as, none, [], t.kd, none, t.d⟩ t.body t.sc dvs kws (w.fad f) fd → okFn g w.nm F t = true → FnOk Pr wd w.K mg base (L2.CX Pr wd) (2 * n) (w.fad f) fd t.ps (spMP w n F)
/-- .. where an error is handled -/
def spQ (w : Wd) (n : Nat) (F : Fn) : List V → Hp → VK → Prop := fun vs H Q => ∃ Hf as, Le Hf H ∧ Reps w Hf as vs ∧ as.length = F.np ∧ (match outR (execs F.body { w.P.gx n with toFx := (w.P.gx n).hot } (MP.start F (as.map .fz))) with
  | .ok o => Out w xv0 H Hf o Q
  | _ => False)
def spQP (w : Wd) (n : Nat) (F : Fn) : List V → Hp → VK → Prop := match n with
  | 0 => fun _ _ _ => False
  | n + 1 => spQ w n F
def FnQAll (w : Wd) (g : Cg) (mg : Str → Option Value) (Pr : Program) (wd : World) (base : Heap) (n : Nat) : Prop := ∀ f F, w.P.fn f = some F → ∀ (t : Tx) (fd : FuncData) (dvs : List V) (kws : List (Str × V)),
  FunD w.K t.x t.qual ⟨[], t.as, none, [], t.kd, none, t.d⟩ t.body t.sc dvs kws (w.fad f) fd → okFn g w.nm F t = true → FnQ Pr wd w.K mg base (2 * n) (w.fad f) fd t.ps (spQP w n F)
theorem run_makeD {X : Cx} {k : Nat} {f C : Addr} {fd : FuncData} {ps : List Str} {sp : Sp} {E : XK} {pins : List (Addr × Obj)} {σ : L2.St} {H : Hp} {s : Shared} {Q : VK} {us ds : List Value} {vs dvs : List V} (M : Mk X.K C f) (F : FnOk X.prog X.w X.K X.mg X.base (L2.CX X.prog X.w) k f fd ps sp) (hr : Room (k + 1) X.A)
    (hb : ∀ (s : Shared) (u : Value), X.K.In s.heap → BindsTo s fd ⟨u :: us, []⟩ (ps.zip (u :: (us ++ ds)))) (hd : Vals dvs ds) (hx : PassesAt (L2.CX X.prog X.w) X σ E) (I : L2.Inv X pins σ H s) (r : Vals vs us)
    (h : ∀ x dx, H x = none → H dx = none → dx ≠ x → sp (.ref x :: (vs ++ dvs)) (upd (upd H dx (.own x)) x (.ins C dx [])) (fun v H2 => v = .non ∧ Q (.ref x) H2) E) :
    wpAny (model X.prog X.w) X.A (call (.ref C) us) (EP X pins σ Q) X.xe s := by
  have hq := h (s.heap.objs.size + 1) s.heap.objs.size (I.hok.fresh (Nat.le_succ _)) (I.hok.fresh (Nat.le_refl _)) (Nat.ne_of_lt (Nat.lt_succ_self _))
  have I2 := Inv.made (C := C) I
  have r2 : Vals (V.ref (s.heap.objs.size + 1) :: (vs ++ dvs)) (Value.ref (s.heap.objs.size + 1) :: (us ++ ds)) := .cons rfl (r.append hd)
  refine wpAny_call (make_map (f := f) I.kIn M.makes M.init (beq_iff_eq.mp M.fn) (codeAny_mono (F.run _ X.stack _ _ ⟨Value.ref (s.heap.objs.size + 1) :: us, []⟩ (Value.ref (s.heap.objs.size + 1) :: (us ++ ds)) _ _ E (hr.make C us [])
    (I2.env0.make C us []) (hb _ (Value.ref (s.heap.objs.size + 1)) I2.kIn) r2 hq) fun r s' hq' => ?_))
  cases r with
  | error e => exact hx pins _ _ e s' I2 hq'
  | ok fl =>
    cases fl with
    | ret u =>
      obtain ⟨v, H', I3, rv, ev, q3⟩ := I2.after hq'
      subst ev
      exact ⟨rv, ⟨V.ref (s.heap.objs.size + 1), H', I3, rfl, q3⟩⟩
    | next => exact False.elim hq'
    | brk => exact False.elim hq'
    | cont => exact False.elim hq'
/-- the callee runs, with what the caller's slots are known -/
theorem run_fnD {X : Cx} {k : Nat} {f : Addr} {fd : FuncData} {ps : List Str} {sp : Sp} {E : XK} {pins : List (Addr × Obj)} {σ : L2.St} {H : Hp} {s : Shared} {Q : VK} {us ds : List Value} {vs dvs : List V} (F : FnOk X.prog X.w X.K X.mg X.base (L2.CX X.prog X.w) k f fd ps sp) (hr : Room k X.A)
    (hb : BindsTo s fd ⟨us, []⟩ (ps.zip (us ++ ds))) (hd : Vals dvs ds) (hx : PassesAt (L2.CX X.prog X.w) X σ E) (I : L2.Inv X pins σ H s) (r : Vals vs us) (h : sp (vs ++ dvs) H Q E) : wpAny (model X.prog X.w) X.A (call (.ref f) us) (EP X pins σ Q) X.xe s := by
  refine wpAny_call (codeAny_mono (F.run X.A X.stack s H ⟨us, []⟩ (us ++ ds) (vs ++ dvs) Q E hr I.env0 hb (r.append hd) h) fun r s' hq => ?_)
  cases r with
  | error e => exact hx pins H s e s' I hq
  | ok fl =>
    cases fl with
    | ret u => exact I.after hq
    | next => exact False.elim hq
    | brk => exact False.elim hq
    | cont => exact False.elim hq
theorem glb_lk {sc : Scope} {x : Str} (h : MP.glb sc x = true) : sc.names.lookup x = some .globalImplicit := by
  unfold MP.glb at h
  exact of_decide_eq_true (an h).1
theorem bindA_ok {F : Fn} {as vs : List MP.D} (hk : F.kwo = []) (h : bindA F as [] [] = some vs) : as.length ≤ F.np ∧ F.np ≤ as.length + F.dfl.length ∧ vs = as ++ F.dfl.drop (F.dfl.length - (F.np - as.length)) := by
  unfold bindA at h
  rw [hk] at h
  simp only [List.length_nil, Nat.sub_zero, List.all_nil, Bool.not_true, Bool.false_eq_true, if_false, List.map_nil, List.append_nil] at h
  split at h
  · cases h
  · split at h
    · cases h
    · cases h
      exact ⟨by omega, by omega, rfl⟩
theorem outI_fz {P : MP.Prog} {k : Nat} {r : XR} {o : OD} (h : outI P k r = .ok o) : ∃ d, o = .fz d := by
  unfold outI at h
  split at h
  · split at h
    · split at h
      · cases h; exact ⟨_, rfl⟩
      · cases h
    · cases h
  · cases h
  · cases h
theorem fc_of (S : Sys w g mg Pr) {n : Nat} (ih : FnAll w g mg Pr wd base n) (ihI : FnIni w g mg Pr wd base n) (ihQ : FnQAll w g mg Pr wd base n) (ihM : FnMAll w g mg Pr wd base n) {f : Nat} {F : Fn} {t : Tx} (ok : okFn g w.nm F t = true) {cdv : Value} {fa : Addr} {A : Around} {outer : List Env} {s : Shared} {H : Hp} {E : XK} (hr : Room (2 * n + 1) (A.deeper (envOfC t.qual t.sc s.heap.objs.size fa cdv))) :
    Fc w (g.ck w.nm t.N) (cxOf (L2.CX Pr wd) Pr wd w.K mg base t.N t.qual t.sc fa cdv A outer s H E) t.sc (w.P.gx n) := by
  obtain ⟨g1, g2, g3, g4, g5, g6, g7, g8, g9, g10⟩ := gx_calm (P := w.P) n
  unfold okFn at ok
  obtain ⟨o1, ok⟩ := an ok
  obtain ⟨o2, ok⟩ := an ok
  obtain ⟨o3, ok⟩ := an ok
  obtain ⟨o4, ok⟩ := an ok
  obtain ⟨o5, o6⟩ := an ok
  have sc := okSc_ok o5
  refine { hK := rfl, hN := rfl, nm := rfl, nd := sc.nd, vi := ?vi, gl := ?gl, lo := ?lo, kin := fun x => rfl, knd := sc.kind, rm := ?rm, hu := ?hu, cm := rfl, gcm := g1, hcm := g2, gv := ?gv, hgv := by rw [g3, g4], bl := S.bl, gcd := S.gcd, rng := S.rng, enm := S.enm, zip := S.zip, isi := S.isi, ty := ?ty, hsub := ⟨g5, g6⟩, hxf := ⟨g7, g8⟩, isB := S.isB, isO := S.isO, isE := S.isE, fld := S.fld, hfld := ⟨g9, g10⟩, stk := rfl, frm := rfl, cal := ?cal, mak := ?mak, met := ?met, mcl := ?mcl, rai := ?rai, cah := ?cah, raf := fun k h _ => S.raf k h }
  case vi =>
    intro x h
    unfold MP.vis at h
    obtain ⟨h1, _⟩ := an h
    split at h1
    · exact .inl (by assumption)
    · exact .inr (.inl (by assumption))
    · exact .inr (.inr (by assumption))
    · cases h1
  case gl =>
    intro x h
    exact glb_lk h
  case lo =>
    intro x h
    unfold MP.loc at h
    refine ⟨?_, .inl rfl⟩
    split at h
    · exact .inl (by assumption)
    · exact .inr (by assumption)
    · cases h
  case hu =>
    have := hr.un
    show (A.deeper (envOfC t.qual t.sc s.heap.objs.size fa cdv)).units + 65 < cLine
    omega
  case rm =>
    have := hr.dp
    show (A.deeper (envOfC t.qual t.sc s.heap.objs.size fa cdv)).depth + 1 < recursionLimit
    omega
  case gv => intro x d e; rw [g3] at e; exact S.gv x d e
  case ty =>
    intro u h
    have := S.ty u h
    cases u <;> exact this
  case mak =>
    intro s0 H0 env outer2 stack ex fn pn xe W tk k p pos y xs ta hk hgl hdb hp ha
    obtain ⟨q, F', hC, hF, np0, M, hmg⟩ := S.mkc k hk
    obtain ⟨t', fd, dvs, kws, D1, D2, D3⟩ := S.fn q.init F' hF
    have okk := D3
    unfold okFn at okk
    obtain ⟨k1, okk⟩ := an okk
    obtain ⟨k2, okk⟩ := an okk
    obtain ⟨k3, okk⟩ := an okk
    obtain ⟨k4, okk⟩ := an okk
    obtain ⟨k5, k6⟩ := an okk
    have sc' := okSc_ok k5
    have hkwo : F'.kwo = [] := List.isEmpty_iff.mp k2
    have np := of_decide_eq_true k1
    have dl := of_decide_eq_true k4
    have fo := ihI k q F' hC hF t' fd dvs kws D1 D3
    have ndp : (t'.as.map (·.arg)).Nodup := by
      rw [← show t'.N.take t'.ps.length = t'.as.map (·.arg) from sc'.pre]
      exact sc'.nd.sublist (List.take_sublist _ _)
    refine ⟨fun pins s1 σ H1 Q I h => ?_⟩
    refine wpAny_Call_Name_kw (ld_glob I hgl hmg ?_ hdb)
    refine PySem.W.callWith_K (h₀ := base) I.ok.mod.kin M.kp (thn (ha.run pos pins s1 σ H1 _ I h) fun us s2 ⟨vs, H2, I2, r, qq⟩ => ⟨I2.kIn, ?_⟩) (star_of (hp y List.mem_cons_self)) (star_no fun x m => hp x (List.mem_cons_of_mem _ m))
    obtain ⟨Hf, as, l, rr, qq⟩ := qq
    cases n with
    | zero => exact qq.elim
    | succ m =>
      have e1 : (w.P.gx (m + 1)).make k as = (match bindA F' (.non :: as) [] [] with
        | some vs => outI w.P k (execs F'.body (w.P.gx m) (MP.start F' (.oi k [] :: vs.tail.map .fz)))
        | none => .bad) := by
        show (match w.P.cl k with
          | some C => (match w.P.fn C.init with
            | some F => (match bindA F (.non :: as) [] [] with
              | some vs => outI w.P k (execs F.body (w.P.gx m) (MP.start F (.oi k [] :: vs.tail.map .fz)))
              | none => .bad)
            | none => .bad)
          | none => .bad) = _
        rw [hC]
        simp only
        rw [hF]
      rw [e1] at qq
      cases eb : bindA F' (.non :: as) [] [] with
      | none => rw [eb] at qq; exact qq.elim
      | some vs' =>
        rw [eb] at qq
        obtain ⟨b1, b2, b3⟩ := bindA_ok hkwo eb
        rw [List.length_cons] at b1 b2 b3
        have ld := (D2 H2).length
        obtain ⟨ds, rd, bd⟩ := bindsD D1 ndp (as.length + 1) (by omega) (by omega) (by omega)
        refine run_makeD (E := fun cls d H => W cls d σ H) M fo hr (fun s u X => bd s (u :: us) X (by rw [List.length_cons, ← r.length, rr.length])) rd (passAt tk σ) I2 r fun x dx hx hdx ne => ?_
        have tl : vs'.tail = as ++ F'.dfl.drop (F'.dfl.length - (F'.np - (as.length + 1))) := by rw [b3]; rfl
        refine ⟨x, dx, H2, Hf, vs'.tail, _, rfl, rfl, hx, hdx, ne, l, ?_, ?_, ?_⟩
        · rw [tl]
          refine rr.append ?_
          have e2 : F'.dfl.length - (F'.np - (as.length + 1)) = as.length + 1 - (t'.as.length - dvs.length) := by omega
          rw [e2]
          exact (D2 Hf).drop _
        · rw [tl, List.length_append, List.length_drop]
          omega
        · have qq : wpR w W σ H2 Hf (outI w.P k (execs F'.body (w.P.gx m) (MP.start F' (.oi k [] :: vs'.tail.map .fz)))) fun o => Out w xv0 H2 Hf o Q := qq
          cases er : outI w.P k (execs F'.body (w.P.gx m) (MP.start F' (.oi k [] :: vs'.tail.map .fz))) with
          | ok o =>
            rw [er] at qq
            obtain ⟨d, rfl⟩ := outI_fz er
            exact fun H' Hf' g rd => ⟨rfl, qq _ H' Hf' g (res_fz (rd d rfl))⟩
          | ex c p => rw [er] at qq; exact qq
          | bad => rw [er] at qq; exact qq
  case met => intro s0 H0 env outer stack ex fn pn xe W tk m o apos pos xs to ta h; rw [show (g.ck w.nm t.N).me m = g.me m from rfl, S.me] at h; cases h
  case mcl =>
    intro s0 H0 env outer2 stack ex fn pn xe W tk f p pos y xs ta hfn hgl hdb hp ha
    cases hF : w.P.fn f with
    | none => exact absurd hF (S.fns f hfn).1
    | some F' =>
      obtain ⟨t', fd, dvs, kws, D1, D2, D3⟩ := S.fn f F' hF
      have D4 := (S.fns f hfn).2
      have okk := D3
      unfold okFn at okk
      obtain ⟨k1, okk⟩ := an okk
      obtain ⟨k2, okk⟩ := an okk
      obtain ⟨k3, okk⟩ := an okk
      obtain ⟨k4, okk⟩ := an okk
      obtain ⟨k5, k6⟩ := an okk
      have sc' := okSc_ok k5
      have hkwo : F'.kwo = [] := List.isEmpty_iff.mp k2
      have np := of_decide_eq_true k1
      have dl := of_decide_eq_true k4
      have fo := ihM f F' hF t' fd dvs kws D1 D3
      have ndp : (t'.as.map (·.arg)).Nodup := by
        rw [← show t'.N.take t'.ps.length = t'.as.map (·.arg) from sc'.pre]
        exact sc'.nd.sublist (List.take_sublist _ _)
      refine ⟨fun pins s1 σ H1 Q I h => ?_⟩
      refine wpAny_Call_Name_kw (ld_glob I hgl D4 ?_ hdb)
      refine PySem.W.callWith_K (h₀ := base) I.ok.mod.kin D1.kp (thn (ha.run pos pins s1 σ H1 _ I h) fun us s2 ⟨vs, H2, I2, r, q⟩ => ⟨I2.kIn, ?_⟩) (star_of (hp y List.mem_cons_self)) (star_no fun x m => hp x (List.mem_cons_of_mem _ m))
      obtain ⟨Hf, x, vs', as, rs, A, rfl, l, ro, nd, rr, q⟩ := q
      cases n with
      | zero => exact q.elim
      | succ m =>
        have e1 : (w.P.gx (m + 1)).mcall f rs as = (match bindA F' (.non :: as) [] [] with
          | some vs => outM (execs F'.body (w.P.gx m) (MP.start F' (.own2 true rs :: vs.tail.map .fz)))
          | none => .bad) := by
          show (match w.P.fn f with
            | some F => (match bindA F (.non :: as) [] [] with
              | some vs => outM (execs F.body (w.P.gx m) (MP.start F (.own2 true rs :: vs.tail.map .fz)))
              | none => .bad)
            | none => .bad) = _
          rw [hF]
        rw [e1] at q
        cases eb : bindA F' (.non :: as) [] [] with
        | none => rw [eb] at q; exact q.elim
        | some vs2 =>
          rw [eb] at q
          obtain ⟨b1, b2, b3⟩ := bindA_ok hkwo eb
          rw [List.length_cons] at b1 b2 b3
          have ld := (D2 H2).length
          obtain ⟨ds, rd, bd⟩ := bindsD D1 ndp (as.length + 1) (by omega) (by omega) (by omega)
          have tl : vs2.tail = as ++ F'.dfl.drop (F'.dfl.length - (F'.np - (as.length + 1))) := by rw [b3]; rfl
          refine run_fnD (E := fun cls d H => W cls d σ H) fo (hr.mono (by omega)) (bd s2 us I2.kIn (by rw [← r.length, List.length_cons, rr.length])) rd (passAt tk σ) I2 r ?_
          refine ⟨Hf, x, _, vs2.tail, rs, A, rfl, l, ro, nd, ?_, ?_, q⟩
          · rw [tl]
            refine rr.append ?_
            have e2 : F'.dfl.length - (F'.np - (as.length + 1)) = as.length + 1 - (t'.as.length - dvs.length) := by omega
            rw [e2]
            exact (D2 Hf).drop _
          · rw [tl, List.length_append, List.length_drop]
            omega
  case rai =>
    intro k h hg
    obtain ⟨r1, r2, r3, r4, r5, r6, r7⟩ := S.rai k h
    refine ⟨r1, r2, fun pn xe m p p2 pos j => ?_⟩
    exact pmk_own PySem.F.excBase_ValueError r3 r4 r5 (raises_own r6 r7) (glb_lk hg) (glb_of hg)
  case cah =>
    intro Y hY W f p pos y xs ta hfn hgl hdb hp ha
    obtain ⟨y1, y2, y3, y4, y5, y6, y7⟩ := hY
    have y1 : Y.prog = Pr := y1
    have y2 : Y.w = wd := y2
    have y3 : Y.K = w.K := y3
    have y4 : Y.mg = mg := y4
    have y5 : Y.base = base := y5
    cases hF : w.P.fn f with
    | none => exact absurd hF (S.fns f hfn).1
    | some F' =>
      obtain ⟨t', fd, dvs, kws, D1, D2, D3⟩ := S.fn f F' hF
      have D4 := (S.fns f hfn).2
      have okk := D3
      unfold okFn at okk
      obtain ⟨k1, okk⟩ := an okk
      obtain ⟨k2, okk⟩ := an okk
      obtain ⟨k3, okk⟩ := an okk
      obtain ⟨k4, okk⟩ := an okk
      obtain ⟨k5, k6⟩ := an okk
      have sc' := okSc_ok k5
      have hkwo : F'.kwo = [] := List.isEmpty_iff.mp k2
      have np := of_decide_eq_true k1
      have dl := of_decide_eq_true k4
      have fo : FnQ Y.prog Y.w Y.K Y.mg Y.base (2 * n) (w.fad f) fd t'.ps (spQP w n F') := by
        rw [y1, y2, y3, y4, y5]
        exact ihQ f F' hF t' fd dvs kws D1 D3
      have ndp : (t'.as.map (·.arg)).Nodup := by
        rw [← show t'.N.take t'.ps.length = t'.as.map (·.arg) from sc'.pre]
        exact sc'.nd.sublist (List.take_sublist _ _)
      have rq : RoomQ (2 * n) Y.A := by
        have d := hr.dp
        have u := hr.un
        have y6 : Y.A.depth ≤ (A.deeper (envOfC t.qual t.sc s.heap.objs.size fa cdv)).depth := y6
        have y7 : Y.A.units ≤ (A.deeper (envOfC t.qual t.sc s.heap.objs.size fa cdv)).units := y7
        exact ⟨by omega, by omega⟩
      refine ⟨fun pins s1 σ H1 Q I h => ?_⟩
      refine wpAny_Call_Name_kw (ld_glob I hgl (by rw [y4]; exact D4) ?_ hdb)
      refine PySem.W.callWith_K (h₀ := Y.base) I.ok.mod.kin (by rw [y3]; exact D1.kp) (thn (ha.run pos pins s1 σ H1 _ I h) fun us s2 ⟨vs, H2, I2, r, q⟩ => ⟨I2.kIn, ?_⟩) (star_of (hp y List.mem_cons_self)) (star_no fun x m => hp x (List.mem_cons_of_mem _ m))
      obtain ⟨Hf, as, l, rr, q⟩ := q
      cases n with
      | zero => exact q.elim
      | succ m =>
        have e1 : (w.P.gx (m + 1)).hot.call f as [] [] = (match bindA F' as [] [] with
          | some vs => okR (outR (execs F'.body { w.P.gx m with toFx := (w.P.gx m).hot } (MP.start F' (vs.map .fz))))
          | none => .bad) := by
          show (match w.P.fn f with
            | some F => (match bindA F as [] [] with
              | some vs => okR (outR (execs F.body { w.P.gx m with toFx := (w.P.gx m).hot } (MP.start F (vs.map .fz))))
              | none => .bad)
            | none => .bad) = _
          rw [hF]
        rw [e1] at q
        cases eb : bindA F' as [] [] with
        | none => rw [eb] at q; exact q.elim
        | some vs' =>
          rw [eb] at q
          obtain ⟨b1, b2, b3⟩ := bindA_ok hkwo eb
          have ld := (D2 H2).length
          obtain ⟨ds, rd, bd⟩ := bindsD D1 ndp as.length (by omega) (by omega) (by omega)
          refine run_q fo rq (bd s2 us (by have := I2.kIn; rw [y3] at this; exact this) (by rw [← r.length, rr.length])) rd I2 r ?_
          refine ⟨Hf, vs', l, ?_, ?_, ?_⟩
          · rw [b3]
            refine rr.append ?_
            have e2 : F'.dfl.length - (F'.np - as.length) = as.length - (t'.as.length - dvs.length) := by omega
            rw [e2]
            exact (D2 Hf).drop _
          · rw [b3, List.length_append, List.length_drop]
            omega
          · have q : wpR w W σ H2 Hf (okR (outR (execs F'.body { w.P.gx m with toFx := (w.P.gx m).hot } (MP.start F' (vs'.map .fz))))) fun o => Out w xv0 H2 Hf o Q := q
            cases er : outR (execs F'.body { w.P.gx m with toFx := (w.P.gx m).hot } (MP.start F' (vs'.map .fz))) with
            | ok o => rw [er] at q; exact q
            | ex c p => rw [er] at q; exact q.elim
            | bad => rw [er] at q; exact q.elim
  case cal =>
    intro s0 H0 env outer2 stack ex fn pn xe W tk f p pos y xs ta hfn hgl hdb hp ha
    cases hF : w.P.fn f with
    | none => exact absurd hF (S.fns f hfn).1
    | some F' =>
      obtain ⟨t', fd, dvs, kws, D1, D2, D3⟩ := S.fn f F' hF
      have D4 := (S.fns f hfn).2
      have okk := D3
      unfold okFn at okk
      obtain ⟨k1, okk⟩ := an okk
      obtain ⟨k2, okk⟩ := an okk
      obtain ⟨k3, okk⟩ := an okk
      obtain ⟨k4, okk⟩ := an okk
      obtain ⟨k5, k6⟩ := an okk
      have sc' := okSc_ok k5
      have hkwo : F'.kwo = [] := List.isEmpty_iff.mp k2
      have np := of_decide_eq_true k1
      have dl := of_decide_eq_true k4
      have fo := ih f F' hF t' fd dvs kws D1 D2 D3
      have ndp : (t'.as.map (·.arg)).Nodup := by
        rw [← show t'.N.take t'.ps.length = t'.as.map (·.arg) from sc'.pre]
        exact sc'.nd.sublist (List.take_sublist _ _)
      refine ⟨fun pins s1 σ H1 Q I h => ?_⟩
      refine wpAny_Call_Name_kw (ld_glob I hgl D4 ?_ hdb)
      refine PySem.W.callWith_K (h₀ := base) I.ok.mod.kin D1.kp (thn (ha.run pos pins s1 σ H1 _ I h) fun us s2 ⟨vs, H2, I2, r, q⟩ => ⟨I2.kIn, ?_⟩) (star_of (hp y List.mem_cons_self)) (star_no fun x m => hp x (List.mem_cons_of_mem _ m))
      obtain ⟨Hf, as, l, rr, q⟩ := q
      cases n with
      | zero => exact q.elim
      | succ m =>
        have e1 : (w.P.gx (m + 1)).call f as [] [] = (match bindA F' as [] [] with
          | some vs => runB w.P m F' vs
          | none => .bad) := by
          show (match w.P.fn f with
            | some F => (match bindA F as [] [] with
              | some vs => outR (execs F.body (w.P.gx m) (MP.start F (vs.map .fz)))
              | none => .bad)
            | none => .bad) = _
          rw [hF]
          rfl
        rw [e1] at q
        cases eb : bindA F' as [] [] with
        | none => rw [eb] at q; exact q.elim
        | some vs' =>
          rw [eb] at q
          obtain ⟨b1, b2, b3⟩ := bindA_ok hkwo eb
          have ld := (D2 H2).length
          obtain ⟨ds, rd, bd⟩ := bindsD D1 ndp as.length (by omega) (by omega) (by omega)
          refine run_fnD (E := fun cls d H => W cls d σ H) fo (hr.mono (by omega)) (bd s2 us I2.kIn (by rw [← r.length, rr.length])) rd (passAt tk σ) I2 r ?_
          refine ⟨Hf, vs', l, ?_, ?_, ?_⟩
          · rw [b3]
            refine rr.append ?_
            have e2 : F'.dfl.length - (F'.np - as.length) = as.length - (t'.as.length - dvs.length) := by omega
            rw [e2]
            exact (D2 Hf).drop _
          · rw [b3, List.length_append, List.length_drop]
            omega
          · have q : wpR w W σ H2 Hf (runB w.P m F' vs') fun o => Out w xv0 H2 Hf o Q := q
            cases er : runB w.P m F' vs' with
            | ok o => rw [er] at q; exact q
            | ex c p => rw [er] at q; exact q
            | bad => rw [er] at q; exact q
end
end MP

end

section
set_option Elab.async false
set_option linter.all false
set_option maxRecDepth 100000
namespace MP
open PySem PySem.Spec PyProof.Rows L2
section
variable {w : Wd} {g : Cg} {mg : Str → Option Value} {Pr : Program} {wd : World} {base : Heap}
theorem start_get {as : List MP.D} {nn : Nat} {i : Nat} {o : OD} (e : (as.map OD.fz ++ List.replicate (nn - (as.map OD.fz).length) .un)[i]? = some o) : (∃ d, as[i]? = some d ∧ o = .fz d) ∨ o = .un := by
  by_cases h : i < (as.map OD.fz).length
  · rw [List.getElem?_append_left h, List.getElem?_map] at e
    obtain ⟨d, e1, e2⟩ := Option.map_eq_some_iff.mp e
    exact .inl ⟨d, e1, e2.symm⟩
  · rw [List.getElem?_append_right (by omega), List.getElem?_replicate] at e
    split at e
    · cases e; exact .inr rfl
    · cases e
theorem ExR_at (w : Wd) (x : Addr) : ExR (w.at x) = ExR w := by
  funext Hf c p cls d
  unfold ExR
  rw [Rep_at]
  rfl
theorem spI_at (w : Wd) (x : Addr) (n k : Nat) (F : Fn) : spI (w.at x) n k F = spI w n k F := by
  unfold spI
  rw [Rep_at, Reps_at, ExR_at]
  rfl
theorem spIP_at (w : Wd) (x : Addr) (n k : Nat) (F : Fn) : spIP (w.at x) n k F = spIP w n k F := by
  cases n with
  | zero => rfl
  | succ n => exact spI_at w x n k F
theorem FnIni.at (h : FnIni w g mg Pr wd base n) (x : Addr) : FnIni (w.at x) g mg Pr wd base n := fun k q F e1 e2 t fd dvs kws D1 D3 => by
  rw [spIP_at]
  exact h k q F e1 e2 t fd dvs kws D1 D3
theorem MvOut_at (w : Wd) (y : Addr) : MvOut (w.at y) = MvOut w := by
  funext H Hf A x r Q
  unfold MvOut
  rw [Rep_at]
  rfl
theorem spMP_at (w : Wd) (x : Addr) (n : Nat) (F : Fn) : spMP (w.at x) n F = spMP w n F := by
  cases n with
  | zero => rfl
  | succ n =>
    show spM (w.at x) n F = spM w n F
    unfold spM
    rw [Reps_at, MvOut_at]
    rfl
theorem FnMAll.at (h : FnMAll w g mg Pr wd base n) (x : Addr) : FnMAll (w.at x) g mg Pr wd base n := fun f F e1 t fd dvs kws D1 D3 => by
  rw [spMP_at]
  exact h f F e1 t fd dvs kws D1 D3
theorem sys_self (S : Sys w g mg Pr) (x : Addr) : Sys (w.at x) g mg Pr where
  fn := fun f F e => by
    obtain ⟨t, fd, dvs, kws, h1, h2, h3⟩ := S.fn f F e
    exact ⟨t, fd, dvs, kws, h1, fun H => by rw [Reps_at]; exact h2 H, h3⟩
  fns := S.fns
  gv := fun y d e => by
    obtain ⟨v, u, h1, h2, h3⟩ := S.gv y d e
    exact ⟨v, u, h1, h2, fun H => by rw [Rep_at]; exact h3 H⟩
  bl := S.bl
  gcd := S.gcd
  rng := S.rng
  enm := S.enm
  zip := S.zip
  isi := S.isi
  ty := S.ty
  isB := S.isB
  isO := S.isO
  isE := S.isE
  fld := S.fld
  mkc := S.mkc
  me := S.me
  rai := S.rai
  raf := S.raf
theorem fn_all1 (S : Sys w g mg Pr) {n : Nat} (ih : FnAll w g mg Pr wd base n) (ihI : FnIni w g mg Pr wd base n) (ihQ : FnQAll w g mg Pr wd base n) (ihM : FnMAll w g mg Pr wd base n) : FnAll w g mg Pr wd base (n + 1) := fun f F hF t fd dvs kws D1 D2 D3 => by
    have ok := D3
    unfold okFn at ok
    obtain ⟨o1, ok⟩ := an ok
    obtain ⟨o2, ok⟩ := an ok
    obtain ⟨o3, ok⟩ := an ok
    obtain ⟨o4, ok⟩ := an ok
    obtain ⟨o5, o6⟩ := an ok
    have np := of_decide_eq_true o1
    have nn := of_decide_eq_true o3
    have sc := okSc_ok o5
    have len : ∀ vs H Q E, spF w n F vs H Q E → vs.length = t.ps.length := fun vs H Q E h => by
      obtain ⟨Hf, as, _, r, l, _⟩ := h
      rw [r.length, l, np]
      exact (List.length_map ..).symm
    refine FunD.ok (CX := L2.CX Pr wd) (k := 2 * n + 1) (sp := spF w n F) D1 sc len fun cdv A outer s H vs Q E hr h => ?_
    have fc := fc_of (f := f) (Pr := Pr) (wd := wd) (base := base) (cdv := cdv) (fa := w.fad f) (A := A) (outer := outer) (s := s) (H := H) (E := E) S ih ihI ihQ ihM D3 hr
    refine ⟨tX w xv0 (fun cls d _ H => E cls d H) (execs F.body (w.P.gx n)), ?_, ?_⟩
    · exact SL.all F.body xv0 _ t.sc (w.P.gx n) _ (CnS.of_fc fc (takes_of rfl rfl rfl rfl) (passes_of rfl)) t.body o6
    · obtain ⟨Hf, as, l, rr, la, q⟩ := h
      refine ⟨H, Hf, Hf, Hf, MP.start F (as.map .fz), ⟨Gr.refl l, Le.refl _, ?_, fun _ => [], fun i o e => ?_, fun i e => rfl, fun i j ne a m => nomatch m⟩, ?_⟩
      · unfold MP.start L2.start
        rw [List.length_append, List.length_append, List.length_replicate, List.length_replicate, List.length_map, List.length_map, rr.length, nn]
      · rcases start_get e with ⟨d, e1, rfl⟩ | rfl
        · obtain ⟨v, e2, r⟩ := rr.get e1
          refine .inr ⟨v, ?_, ⟨rfl, r⟩, List.nodup_nil, fun a m => nomatch m⟩
          unfold L2.start
          have hi := (List.getElem?_eq_some_iff.mp e2).1
          rw [List.getElem?_append_left (by rw [List.length_map]; exact hi), List.getElem?_map, e2]
          rfl
        · exact .inl ⟨rfl, rfl⟩
      · unfold runB at q
        cases er : execs F.body (w.P.gx n) (MP.start F (as.map .fz)) with
        | bad => rw [er] at q; exact q.elim
        | ex c p Γ => rw [er] at q; exact fun cls d σ H' Hf' j e => q cls d H' Hf' j.gr e
        | ok fl Γ =>
          rw [er] at q
          cases fl with
          | nx => exact fun σ H' Hf' j => q _ H' Hf' j.gr (res_fz (Rep.non_iff.mpr rfl))
          | rt o => exact fun v σ H' Hf' j r => q v H' Hf' j.gr r
          | bk => exact q.elim
          | ct => exact q.elim
/-- an instance with all its fields is data -/
theorem repFs_obj {Hf : Hp} {q : Cl} : ∀ {fs : List (Nat × MP.D)} {fvs : List (Str × V)} {ns : List Str}, RepFs w Hf fs fvs → ns = fs.map (fun x => w.nm x.1) → ∃ vs, fvs = ns.zip vs ∧ ns.length = vs.length ∧ Reps w Hf (fs.map (·.2)) vs
  | [], fvs, ns, h, e => by
    rw [show fvs = [] from h, e]
    exact ⟨[], rfl, rfl, Reps.nil_iff.mpr rfl⟩
  | (f, d) :: fs, fvs, ns, h, e => by
    obtain ⟨v, r, rfl, h1, h2⟩ := h
    obtain ⟨vs, e1, e2, e3⟩ := repFs_obj (q := q) h2 rfl
    subst e
    refine ⟨v :: vs, ?_, ?_, Reps.cons_iff.mpr ⟨v, vs, rfl, h1, e3⟩⟩
    · rw [List.map_cons, List.zip_cons_cons, ← e1]
    · rw [List.map_cons, List.length_cons, List.length_cons, e2]
theorem fn_ini1 (S : Sys w g mg Pr) {n : Nat} (ih : ∀ x, FnAll (w.at x) g mg Pr wd base n) (ihI : FnIni w g mg Pr wd base n) (ihQ : ∀ x, FnQAll (w.at x) g mg Pr wd base n) (ihM : FnMAll w g mg Pr wd base n) : FnIni w g mg Pr wd base (n + 1) := fun k qc F hC hF t fd dvs kws D1 D3 => by
    have ok := D3
    unfold okFn at ok
    obtain ⟨o1, ok⟩ := an ok
    obtain ⟨o2, ok⟩ := an ok
    obtain ⟨o3, ok⟩ := an ok
    obtain ⟨o4, ok⟩ := an ok
    obtain ⟨o5, o6⟩ := an ok
    have np := of_decide_eq_true o1
    have nn := of_decide_eq_true o3
    have sc := okSc_ok o5
    have len : ∀ vs H Q E, spI w n k F vs H Q E → vs.length = t.ps.length := fun vs H Q E h => by
      obtain ⟨x, dx, H0, Hf, as, us, rfl, _, _, _, _, _, r, l, _⟩ := h
      rw [List.length_cons, r.length, l, np]
      exact (List.length_map ..).symm
    refine FunD.ok (CX := L2.CX Pr wd) (k := 2 * n + 1) (sp := spI w n k F) D1 sc len fun cdv A outer s H vs Q E hr h => ?_
    obtain ⟨x, dx, H0, Hf, as, us, rfl, rfl, hx, hdx, ne, l, rr, la, q⟩ := h
    have fc := fc_of (w := w.at x) (f := qc.init) (Pr := Pr) (wd := wd) (base := base) (cdv := cdv) (fa := w.fad qc.init) (A := A) (outer := outer) (s := s) (H := upd (upd H0 dx (.own x)) x (.ins (w.cad k) dx [])) (E := E) (sys_self S x) (ih x) (ihI.at x) (ihQ x) (ihM.at x) D3 hr
    refine ⟨tX (w.at x) xv0 (fun cls d _ H => E cls d H) (execs F.body (w.P.gx n)), ?_, ?_⟩
    · exact SL.all F.body xv0 _ t.sc (w.P.gx n) _ (CnS.of_fc fc (takes_of rfl rfl rfl rfl) (passes_of rfl)) t.body o6
    · have le1 : Le H0 (upd (upd H0 dx (.own x)) x (.ins (w.cad k) dx [])) := fun a o e => by
        have n1 : a ≠ x := fun z => by rw [z, hx] at e; cases e
        have n2 : a ≠ dx := fun z => by rw [z, hdx] at e; cases e
        rw [upd_ne n1, upd_ne n2]
        exact e
      have fx : Hf x = none := by
        cases z : Hf x with
        | none => rfl
        | some o => have := l _ _ z; rw [hx] at this; cases this
      refine ⟨H0, Hf, Hf, Hf, MP.start F (.oi k [] :: as.map .fz), ⟨⟨le1, ⟨Le.refl _, fun _ _ => rfl⟩, l.trans le1⟩, Le.refl _, ?_, fun i => if i = 0 then [x] else [], fun i o e => ?_, fun i e => ?_, fun i j ij a m => ?_⟩, ?_⟩
      · unfold MP.start L2.start
        rw [List.length_append, List.length_append, List.length_replicate, List.length_replicate, List.length_map, List.length_cons, List.length_cons, List.length_map, rr.length, nn]
      · cases i with
        | zero =>
          cases e
          refine .inr ⟨.ref x, rfl, ⟨x, dx, [], rfl, rfl, upd_same, fx, rfl, rfl, qc, hC, List.nil_prefix⟩, by simp, fun a m => ?_⟩
          rw [List.mem_singleton.mp m]
          exact hx
        | succ i =>
          have e' : (as.map OD.fz ++ List.replicate (F.nn - 1 - (as.map OD.fz).length) .un)[i]? = some o := by
            have : MP.start F (.oi k [] :: as.map .fz) = .oi k [] :: (as.map OD.fz ++ List.replicate (F.nn - 1 - (as.map OD.fz).length) .un) := by
              unfold MP.start
              rw [List.cons_append, List.length_cons, Nat.sub_add_eq, Nat.sub_right_comm]
            rw [this] at e
            exact e
          rcases start_get (nn := F.nn - 1) e' with ⟨d, e1, rfl⟩ | rfl
          · obtain ⟨v, e2, r⟩ := rr.get e1
            refine .inr ⟨v, ?_, ⟨rfl, by rw [Rep_at]; exact r⟩, List.nodup_nil, fun a m => nomatch m⟩
            unfold L2.start
            have hi := (List.getElem?_eq_some_iff.mp e2).1
            rw [List.map_cons, List.cons_append, List.getElem?_cons_succ, List.getElem?_append_left (by rw [List.length_map]; exact hi), List.getElem?_map, e2]
            rfl
          · exact .inl ⟨rfl, rfl⟩
      · cases i with
        | zero => cases e
        | succ i => rfl
      · cases i with
        | zero =>
          cases j with
          | zero => exact absurd rfl ij
          | succ j => exact fun m => nomatch m
        | succ i => cases m
      · have q : match outI w.P k (execs F.body (w.P.gx n) (MP.start F (.oi k [] :: as.map .fz))) with
          | .ok o => ∀ H' Hf', Gr H0 Hf H' Hf' → (∀ d, o = .fz d → Rep w Hf' d (.ref x)) → Q .non H'
          | .ex c p => ∀ cls d H' Hf', Gr H0 Hf H' Hf' → ExR w Hf' c p cls d → E cls d H'
          | .bad => False := q
        cases er : execs F.body (w.P.gx n) (MP.start F (.oi k [] :: as.map .fz)) with
        | bad => rw [er] at q; exact q.elim
        | ex c p Γ =>
          rw [er] at q
          exact fun cls d σ H' Hf' j e => q cls d H' Hf' j.gr (by rw [ExR_at] at e; exact e)
        | ok fl Γ =>
          rw [er] at q
          cases fl with
          | nx =>
            intro σ H' Hf' j
            unfold outI at q
            cases Γ with
            | nil => exact q.elim
            | cons o0 Γ1 =>
              cases o0 with
              | oi k' fs =>
                simp only [hC] at q
                by_cases hc : k' = k ∧ fs.map (·.1) = qc.flds
                · rw [if_pos hc] at q
                  obtain ⟨rfl, hfs⟩ := hc
                  obtain ⟨A', h1, h2, h3⟩ := j.own
                  rcases h1 0 _ rfl with ⟨z, _⟩ | ⟨v, e1, r, nd, f0⟩
                  · cases z
                  obtain ⟨a, dx', fvs, rfl, eA, k1, k2, k3, k4, _⟩ := r
                  have k4 : a = x := k4
                  subst k4
                  have hn : ∀ b ∈ [a], Hf' b = none := fun b m => by rw [List.mem_singleton.mp m]; exact k2
                  refine q H' (frzH H' Hf' [a]) (frzH_gr j.gr hn fun b m => by rw [List.mem_singleton.mp m]; exact hx) fun d ed => ?_
                  cases ed
                  have hfl : w.flds k' = fs.map fun x => w.nm x.1 := by
                    unfold Wd.flds
                    rw [hC]
                    simp only
                    rw [← hfs, List.map_map]
                    rfl
                  obtain ⟨vs, v1, v2, v3⟩ := repFs_obj (w := w.at a) (q := qc) k3 hfl
                  refine Rep.obj_iff.mpr ⟨a, dx', vs, rfl, ?_, v2, ?_⟩
                  · rw [frzH_in (by simp), k1, v1]
                    rfl
                  · rw [Reps_at] at v3
                    exact Reps.mono w (frzH_le hn) _ _ v3
                · rw [if_neg hc] at q
                  exact q.elim
              | _ => exact q.elim
          | rt o =>
            unfold outI at q
            exact q.elim
          | bk => unfold outI at q; exact q.elim
          | ct => unfold outI at q; exact q.elim
/-- expressions of a def that is called while an error is handled -/
theorem cnq {c : Ck} {sc : Scope} {G : Gx} {K : PySem.W.Frag} {N : List Str} {qual : Str} {scope : Scope} {fa : Addr} {cd : Value} {A : Around} {outer : List Env} {s : Shared} {H : Hp} (F : Fc w c (cx0 Pr wd K mg base N qual scope fa cd A outer s H) sc G) : CnE w c xv0 (cxQ Pr wd K mg base N qual scope fa cd A outer s H) sc G.hot (fun _ _ _ _ => False) where
  hK := F.hK
  hN := F.hN
  nm := F.nm
  nd := F.nd
  vi := F.vi
  gl := F.gl
  cf := fun x h => by
    have e : (cxQ Pr wd K mg base N qual scope fa cd A outer s H).env.scope.names.lookup x = sc.names.lookup x := F.kin x
    rw [e]
    exact h
  hu := F.hu
  calm := fun z => by rw [F.hcm] at z; cases z
  xvo := xv0_ok
  gv := fun g d e => F.gv g d (by rw [← F.hgv]; exact e)
  bl := F.bl
  gcd := F.gcd
  rng := F.rng
  enm := F.enm
  zip := F.zip
  isi := F.isi
  ty := F.ty
  is1 := fun pins s1 σ H1 vs us Q I r ⟨Hf, o, x, as, t, b, h1, h2, h3, h4, h5, h6⟩ => by
    subst h1
    rw [F.hsub.2] at h5
    obtain ⟨tv, h7, h8⟩ := is_od F h3 (fun k p z => by subst z; exact h4.2.elim) (is_cl h5) ⟨t, b, h5⟩ h4
    exact call_isi (X := cxQ Pr wd K mg base N qual scope fa cd A outer s H) pins s1 σ H1 _ us Q I r ⟨x, tyV w t, tv, tyVal w t, b, rfl, clsV t, h7, h8 t b h2 h5, h6⟩
  isT := fun pins s1 σ H1 vs us Q I r ⟨Hf, o, x, as, ts, tp, b, h1, h2, h3, h4, h5, h6, h7, h8⟩ => by
    subst h1
    rw [F.hsub.2] at h7
    have hn : ∃ t b, isTy o t w.P.sub = some b := by
      cases ts with
      | nil => exact absurd rfl h3
      | cons t ts =>
        unfold anyTy at h7
        cases q : isTy o t w.P.sub with
        | none => rw [q] at h7; cases h7
        | some b => exact ⟨t, b, q⟩
    obtain ⟨tv, h9, h10⟩ := is_od F h5 (fun k p z => by subst z; exact h6.2.elim) (any_cl h3 h7) hn h6
    exact call_isiT (X := cxQ Pr wd K mg base N qual scope fa cd A outer s H) pins s1 σ H1 _ us Q I r ⟨x, tp, _, tv, _, b, rfl, h2, clsVs ts, h9, kitAny_of h10 h4 h7, h8⟩
  fld := fun k f i e => F.fld k f i (by rw [F.hfld.2] at e; exact e)
  xat := fun f pins s1 σ H1 x u Q I rx ⟨Hf, c, p, l, h, _⟩ => h.elim
  tk := fun u s' ⟨a, B, sI, pins, σ, H, cls, d, e, I, nb, up, sky, na, os, ag, w⟩ => w.elim
  cah := fun _ f p pos y xs ta h1 h2 h3 h4 => F.cah (cxQ Pr wd K mg base N qual scope fa cd A outer s H) ⟨rfl, rfl, rfl, rfl, rfl, Nat.le_refl _, Nat.le_refl _⟩ _ f p pos y xs ta h1 (F.gl _ h2) (glb_of0 h2) h3 h4
  ww := fun z => by rw [F.hcm] at z; cases z
theorem fn_q1 (S : Sys w g mg Pr) {n : Nat} (ih : FnAll w g mg Pr wd base n) (ihI : FnIni w g mg Pr wd base n) (ihQ : FnQAll w g mg Pr wd base n) (ihM : FnMAll w g mg Pr wd base n) : FnQAll w g mg Pr wd base (n + 1) := fun f F hF t fd dvs kws D1 D3 => by
    have ok := D3
    unfold okFn at ok
    obtain ⟨o1, ok⟩ := an ok
    obtain ⟨o2, ok⟩ := an ok
    obtain ⟨o3, ok⟩ := an ok
    obtain ⟨o4, ok⟩ := an ok
    obtain ⟨o5, o6⟩ := an ok
    have np := of_decide_eq_true o1
    have nn := of_decide_eq_true o3
    have sc := okSc_ok o5
    have len : ∀ vs H Q, spQ w n F vs H Q → vs.length = t.ps.length := fun vs H Q h => by
      obtain ⟨Hf, as, _, r, l, _⟩ := h
      rw [r.length, l, np]
      exact (List.length_map ..).symm
    refine FnQ.of (k := 2 * n + 1) (sp := spQ w n F) D1 sc len fun cdv A outer s H vs Q hr h => ?_
    have fc : Fc w (g.ck w.nm t.N) (cx0 Pr wd w.K mg base t.N t.qual t.sc (w.fad f) cdv A outer s H) t.sc (w.P.gx n) :=
      fc_of (f := f) (Pr := Pr) (wd := wd) (base := base) (cdv := cdv) (fa := w.fad f) (A := cool A) (outer := outer) (s := s) (H := H) (E := fun _ _ _ => False) S ih ihI ihQ ihM D3 ⟨rfl, hr.dp, hr.un⟩
    have cn : CnS w (g.ck w.nm t.N) xv0 (cxQ Pr wd w.K mg base t.N t.qual t.sc (w.fad f) cdv A outer s H) t.sc { w.P.gx n with toFx := (w.P.gx n).hot } (fun _ _ _ _ => False) :=
      { cnq fc with lo := fc.lo, fc := fun z => by rw [show ({ w.P.gx n with toFx := (w.P.gx n).hot } : Gx).calm = (w.P.gx n).hot.calm from rfl, fc.hcm] at z; cases z }
    refine ⟨tX w xv0 (fun _ _ _ _ => False) (execs F.body { w.P.gx n with toFx := (w.P.gx n).hot }), SL.all F.body xv0 _ t.sc _ _ cn t.body o6, ?_⟩
    obtain ⟨Hf, as, l, rr, la, q⟩ := h
    refine ⟨H, Hf, Hf, Hf, MP.start F (as.map .fz), ⟨Gr.refl l, Le.refl _, ?_, fun _ => [], fun i o e => ?_, fun i e => rfl, fun i j ne a m => nomatch m⟩, ?_⟩
    · unfold MP.start L2.start
      rw [List.length_append, List.length_append, List.length_replicate, List.length_replicate, List.length_map, List.length_map, rr.length, nn]
    · rcases start_get e with ⟨d, e1, rfl⟩ | rfl
      · obtain ⟨v, e2, r⟩ := rr.get e1
        refine .inr ⟨v, ?_, ⟨rfl, r⟩, List.nodup_nil, fun a m => nomatch m⟩
        unfold L2.start
        have hi := (List.getElem?_eq_some_iff.mp e2).1
        rw [List.getElem?_append_left (by rw [List.length_map]; exact hi), List.getElem?_map, e2]
        rfl
      · exact .inl ⟨rfl, rfl⟩
    · cases er : execs F.body { w.P.gx n with toFx := (w.P.gx n).hot } (MP.start F (as.map .fz)) with
      | bad => rw [er] at q; exact q.elim
      | ex c p Γ => rw [er] at q; exact q.elim
      | ok fl Γ =>
        rw [er] at q
        cases fl with
        | nx => exact fun σ H' Hf' j => q _ H' Hf' j.gr (res_fz (Rep.non_iff.mpr rfl))
        | rt o => exact fun v σ H' Hf' j r => q v H' Hf' j.gr r
        | bk => exact q.elim
        | ct => exact q.elim
theorem fn_m1 (S : Sys w g mg Pr) {n : Nat} (ih : ∀ x, FnAll (w.at x) g mg Pr wd base n) (ihI : FnIni w g mg Pr wd base n) (ihQ : ∀ x, FnQAll (w.at x) g mg Pr wd base n) (ihM : FnMAll w g mg Pr wd base n) : FnMAll w g mg Pr wd base (n + 1) := fun f F hF t fd dvs kws D1 D3 => by
    have ok := D3
    unfold okFn at ok
    obtain ⟨o1, ok⟩ := an ok
    obtain ⟨o2, ok⟩ := an ok
    obtain ⟨o3, ok⟩ := an ok
    obtain ⟨o4, ok⟩ := an ok
    obtain ⟨o5, o6⟩ := an ok
    have np := of_decide_eq_true o1
    have nn := of_decide_eq_true o3
    have sc := okSc_ok o5
    have len : ∀ vs H Q E, spM w n F vs H Q E → vs.length = t.ps.length := fun vs H Q E h => by
      obtain ⟨Hf, x, us, as, rs, A, rfl, _, _, _, r, l, _⟩ := h
      rw [List.length_cons, r.length, l, np]
      exact (List.length_map ..).symm
    refine FunD.ok (CX := L2.CX Pr wd) (k := 2 * n + 1) (sp := spM w n F) D1 sc len fun cdv A outer s H vs Q E hr h => ?_
    obtain ⟨Hf, x, us, as, rs, A1, rfl, l, ro, nd, rr, la, q⟩ := h
    have fc := fc_of (w := w.at x) (f := f) (Pr := Pr) (wd := wd) (base := base) (cdv := cdv) (fa := w.fad f) (A := A) (outer := outer) (s := s) (H := H) (E := E) (sys_self S x) (ih x) (ihI.at x) (ihQ x) (ihM.at x) D3 hr
    refine ⟨tX (w.at x) xv0 (fun cls d _ H => E cls d H) (execs F.body (w.P.gx n)), ?_, ?_⟩
    · exact SL.all F.body xv0 _ t.sc (w.P.gx n) _ (CnS.of_fc fc (takes_of rfl rfl rfl rfl) (passes_of rfl)) t.body o6
    · have nn1 := ro.none
      refine ⟨lessH H A1, Hf, Hf, Hf, MP.start F (.own2 true rs :: as.map .fz), ⟨⟨less_le, ⟨Le.refl _, fun _ _ => rfl⟩, l⟩, Le.refl _, ?_, fun i => if i = 0 then A1 else [], fun i o e => ?_, fun i e => ?_, fun i j ij a m => ?_⟩, ?_⟩
      · unfold MP.start L2.start
        rw [List.length_append, List.length_append, List.length_replicate, List.length_replicate, List.length_map, List.length_cons, List.length_cons, List.length_map, rr.length, nn]
      · cases i with
        | zero =>
          cases e
          exact .inr ⟨.ref x, rfl, ro, nd, fun a m => lessH_in m⟩
        | succ i =>
          have e' : (as.map OD.fz ++ List.replicate (F.nn - 1 - (as.map OD.fz).length) .un)[i]? = some o := by
            have : MP.start F (.own2 true rs :: as.map .fz) = .own2 true rs :: (as.map OD.fz ++ List.replicate (F.nn - 1 - (as.map OD.fz).length) .un) := by
              unfold MP.start
              rw [List.cons_append, List.length_cons, Nat.sub_add_eq, Nat.sub_right_comm]
            rw [this] at e
            exact e
          rcases start_get (nn := F.nn - 1) e' with ⟨d, e1, rfl⟩ | rfl
          · obtain ⟨v, e2, r⟩ := rr.get e1
            refine .inr ⟨v, ?_, ⟨rfl, by rw [Rep_at]; exact r⟩, List.nodup_nil, fun a m => nomatch m⟩
            unfold L2.start
            have hi := (List.getElem?_eq_some_iff.mp e2).1
            rw [List.map_cons, List.cons_append, List.getElem?_cons_succ, List.getElem?_append_left (by rw [List.length_map]; exact hi), List.getElem?_map, e2]
            rfl
          · exact .inl ⟨rfl, rfl⟩
      · cases i with
        | zero => cases e
        | succ i => rfl
      · cases i with
        | zero =>
          cases j with
          | zero => exact absurd rfl ij
          | succ j => exact fun m => nomatch m
        | succ i => cases m
      · cases er : execs F.body (w.P.gx n) (MP.start F (.own2 true rs :: as.map .fz)) with
        | bad => rw [er] at q; exact q.elim
        | ex c p Γ => rw [er] at q; exact q.elim
        | ok fl Γ =>
          rw [er] at q
          cases fl with
          | nx => exact q.elim
          | bk => exact q.elim
          | ct => exact q.elim
          | rt o =>
            cases o with
            | fz d =>
              cases Γ with
              | nil => exact q.elim
              | cons o0 Γ1 =>
                cases o0 with
                | own2 p rs' =>
                  cases p with
                  | false => exact q.elim
                  | true =>
                    intro v σ H' Hf' j r
                    obtain ⟨A', h1, h2, h3⟩ := j.own
                    rcases h1 0 _ rfl with ⟨z, _⟩ | ⟨v0, e1, r0, nd0, f0⟩
                    · cases z
                    obtain ⟨a, us2, as2, rfl, eA, w1, w2, w3, w4⟩ := r0
                    have ea : a = x := w4 rfl
                    subst ea
                    obtain ⟨bs, rb, _, _⟩ := r
                    refine q v H' Hf' (A' 0) j.gr ⟨a, us2, as2, rfl, eA, w1, w2, w3, fun _ => rfl⟩ nd0 (fun b m => ?_) (by have := rb.2; rwa [Rep_at] at this)
                    have := f0 b m
                    by_cases hb : b ∈ A1
                    · exact .inl hb
                    · rw [lessH_out hb] at this
                      exact .inr this
                | _ => exact q.elim
            | _ => exact q.elim
theorem fn_all (S : Sys w g mg Pr) : ∀ n, (∀ x, FnAll (w.at x) g mg Pr wd base n) ∧ FnIni w g mg Pr wd base n ∧ (∀ x, FnQAll (w.at x) g mg Pr wd base n) ∧ FnMAll w g mg Pr wd base n
  | 0 => ⟨fun x f F hF t fd dvs kws D1 D2 D3 => ⟨fun _ _ _ _ h => h.elim, fun _ _ _ _ _ _ _ _ _ _ _ _ _ h => h.elim⟩, fun k q F hC hF t fd dvs kws D1 D3 => ⟨fun _ _ _ _ h => h.elim, fun _ _ _ _ _ _ _ _ _ _ _ _ _ h => h.elim⟩, fun x f F hF t fd dvs kws D1 D3 => ⟨fun _ _ _ h => h.elim, fun _ _ _ _ _ _ _ _ _ _ _ _ h => h.elim⟩,
      fun f F hF t fd dvs kws D1 D3 => ⟨fun _ _ _ _ h => h.elim, fun _ _ _ _ _ _ _ _ _ _ _ _ _ h => h.elim⟩⟩
  | n + 1 => by
    obtain ⟨i1, i2, i3, i4⟩ := fn_all S n
    exact ⟨fun x => fn_all1 (sys_self S x) (i1 x) (i2.at x) (i3 x) (i4.at x), fn_ini1 S i1 i2 i3 i4, fun x => fn_q1 (sys_self S x) (i1 x) (i2.at x) (i3 x) (i4.at x), fn_m1 S i1 i2 i3 i4⟩
/-- THE LAW, by its run on data -/
theorem law_fn (S : Sys w g mg Pr) {n f : Nat} {F : Fn} (hF : w.P.fn f = some F) (h1 : F.np = 1) (h2 : F.dfl = []) (hrun : ∀ ns : List Int, ns.length ≤ 63 → runB w.P n F [.scr ns] = .ok (.fz (.bl true))) :
    ∃ fd : FuncData, ∃ x : Str, (∀ (s : Shared) (u : Value), BindsTo s fd ⟨[u], []⟩ [(x, u)]) ∧
      (∀ (H : Hp) (a : Addr) (ns : List Int), ns.length ≤ 63 → SqL w.K H a (ns.map V.int) → spF w n F [.ref a] H (fun v _ => v = .bl true) fun _ _ _ => False) ∧
      ∀ base : Heap, FnOk Pr wd w.K mg base (L2.CX Pr wd) (2 * (n + 1)) (w.fad f) fd [x] (spF w n F) := by
  obtain ⟨t, fd, dvs, kws, D1, D2, D3⟩ := S.fn f F hF
  have ok := D3
  unfold okFn at ok
  obtain ⟨o1, ok⟩ := an ok
  obtain ⟨o2, ok⟩ := an ok
  obtain ⟨o3, ok⟩ := an ok
  obtain ⟨o4, ok⟩ := an ok
  obtain ⟨o5, o6⟩ := an ok
  have np := of_decide_eq_true o1
  have sc := okSc_ok o5
  have ld : dvs.length = 0 := by
    have := (D2 fun _ => none).length
    rw [h2] at this
    exact this
  obtain ⟨x, hx⟩ : ∃ x, t.as = [x] := by
    rw [h1] at np
    exact List.length_eq_one_iff.mp np.symm
  have ndp : (t.as.map (·.arg)).Nodup := by rw [hx]; simp
  have e0 : dvs = [] := List.length_eq_zero_iff.mp ld
  subst e0
  refine ⟨fd, x.arg, fun s u => ?_, fun H a ns hl hS => ?_, fun base => ?_⟩
  · have := bindsN0 D1 ndp s [u] (by rw [hx]; rfl)
    rw [hx] at this
    exact this
  · refine ⟨H, [.scr ns], Le.refl _, Reps.cons_iff.mpr ⟨_, [], rfl, Rep.scr_iff.mpr ⟨a, rfl, hS⟩, Reps.nil_iff.mpr rfl⟩, h1.symm, ?_⟩
    rw [hrun ns hl]
    exact fun v H' Hf' g r => by
      obtain ⟨as, r, _⟩ := r
      exact Rep.bl_iff.mp r.2
  · have := (fn_all (Pr := Pr) (wd := wd) (base := base) S (n + 1)).1 w.self f F hF t fd [] kws D1 D2 D3
    have e : t.ps = [x.arg] := by unfold Tx.ps; rw [hx]; rfl
    rw [e] at this
    exact this
end
end MP

end

section
set_option Elab.async false
set_option linter.all false
set_option maxRecDepth 100000
namespace MP
open PySem PySem.Spec PyProof.Rows L2
/-! ### a program as a table -/
structure PD where
  nms : List (Nat × Str)
  fns : List (Nat × Fn)
  xcs : List (Nat × Xc)
  cls : List (Nat × Cl)
  gvs : List (Nat × MP.D)
  wide : Nat
  bl : List Blt
  ty : List Ty
  ex : List Nat
  /-- errors with a field that are raised -/
  exf : List Nat
  file : Str
  /-- defs that stand in a class: the class's number, the name there -/
  mts : List (Nat × (Nat × Str)) := []
def PD.nm (p : PD) (i : Nat) : Str := (p.nms.lookup i).getD ""
def PD.P (p : PD) : MP.Prog := { fn := fun f => p.fns.lookup f, cl := fun k => p.cls.lookup k, xc := fun k => p.xcs.lookup k, gv := fun k => p.gvs.lookup k, wide := p.wide }
def PD.loc (p : PD) (f : Nat) : Str × Option Str := match p.mts.lookup f with
  | some (c, m) => (p.nm c, some m)
  | none => (p.nm f, none)
def PD.w (p : PD) (K : PySem.W.Frag) : Wd := ⟨K, p.nm, p.P, 0, p.loc⟩
def PD.g (p : PD) : Cg := ⟨fun b => decide (b ∈ p.bl), fun t => decide (t ∈ p.ty), fun k => decide (k ∈ p.ex), fun k => decide (k ∈ p.exf), fun f => (p.fns.lookup f).isSome && (p.mts.lookup f).isNone, fun k => (p.cls.lookup k).isSome, fun _ => false⟩
/-! ### facts -/
mutual
def repB (K : PySem.W.Frag) : MP.D → Value → Bool
  | .non, .none => true
  | .bl a, .bool b => a == b
  | .int a, .int b _ => decide (a = b)
  | .str a, .str b _ => decide (strOf a = b)
  | .tup ds, .ref a => (match K.lookup a with
    | some ⟨.type c, _, .seq its _, _⟩ => decide (c = "tuple") && (decide (its.size ≤ sizeLine) && repBs K ds its.toList)
    | _ => false)
  | _, _ => false
def repBs (K : PySem.W.Frag) : List MP.D → List Value → Bool
  | [], [] => true
  | d :: ds, u :: us => repB K d u && repBs K ds us
  | _, _ => false
end
def glB (K : PySem.W.Frag) (x : Str) : Bool := He.eqO (PySem.W.nsIn K mainGlobals x) (some (some (.ref (He.ga K x))))
def frB (K : PySem.W.Frag) (x : Str) : Bool := He.eqO (PySem.W.nsIn K mainGlobals x) (some none)
def gvB (K : PySem.W.Frag) (x : Str) (d : MP.D) : Bool := match PySem.W.nsIn K mainGlobals x with
  | some (some u) => repB K d u
  | _ => false
def tyB (p : PD) (K : PySem.W.Frag) : Ty → Bool
  | .cls k => glB K (p.nm k)
  | .exc k => glB K (p.nm k)
  | .tnone => false
  | t => frB K (tyName p.nm t)
def clsOf : Ty → Option Nat
  | .cls k => some k
  | .exc k => some k
  | _ => none
def isBB (p : PD) (K : PySem.W.Frag) : Bool := ["NoneType", "bool", "int", "str", "list", "tuple"].all fun a => p.ty.all fun t => match clsOf t with
  | some k => decide (PySem.W.kitOne K (.type a) (.ref (He.ga K (p.nm k))) = some false)
  | none => true
def excCB (K : PySem.W.Frag) (D : Addr) : Bool :=
  He.eqO (PySem.W.findIn K (.ref D) "__getattribute__") (some (some (.builtin "BaseException.__getattribute__"))) && (He.eqO (PySem.W.findIn K (.ref D) "__getattr__") (some none) &&
  (decide (PySem.W.subIn K (.ref D) (.type "BaseException") = some true) && (PySem.W.hasDictIn K D && (He.eqO (PySem.W.findIn K (.ref D) "__class__") (some (some (.builtin "object.__class__"))) &&
  (He.eqO (PySem.W.specialIn K (.builtin "object.__class__") "__get__") (some (some (.builtin "getset_descriptor.__get__"))) && (decide (PySem.W.takesIn K (.builtin "object.__class__") = some true) && decide (PySem.W.mroIn K D (.type "object") = some true)))))))
theorem excCB_ok {K : PySem.W.Frag} {D : Addr} (h : excCB K D = true) : ExcC K D := by
  unfold excCB at h
  obtain ⟨h1, h⟩ := an h
  obtain ⟨h2, h⟩ := an h
  obtain ⟨h3, h⟩ := an h
  obtain ⟨h4, h⟩ := an h
  obtain ⟨h5, h⟩ := an h
  obtain ⟨h6, h⟩ := an h
  obtain ⟨h7, h8⟩ := an h
  exact ⟨He.eqO_ok h1, He.eqO_ok h2, of_decide_eq_true h3, h4, He.eqO_ok h5, He.eqO_ok h6, of_decide_eq_true h7, of_decide_eq_true h8⟩
def isEB (p : PD) (K : PySem.W.Frag) : Bool := p.xcs.all fun (k, q) => excCB K (He.ga K (p.nm k)) && (xfB K (He.ga K (p.nm k)) && ((match q.fld with
    | some f => He.eqO (PySem.W.findIn K (.ref (He.ga K (p.nm k))) (p.nm f)) (some none)
    | none => true) && ((p.ty.all fun t => match t with
      | .exc j => decide (PySem.W.kitOne K (.ref (He.ga K (p.nm k))) (.ref (He.ga K (p.nm j))) = some (p.P.sub k (.exc j))) && decide (PySem.W.exmOne K (.ref (He.ga K (p.nm k))) (.ref (He.ga K (p.nm j))) = some (p.P.sub k (.exc j)))
      | _ => true) && decide (PySem.W.kitOne K (.ref (He.ga K (p.nm k))) (.type "ValueError") = some true))))
def raiB (p : PD) (K : PySem.W.Frag) (k : Nat) : Bool := (match p.xcs.lookup k with
    | some q => q.fld.isNone
    | none => false) && (PySem.W.excIn K (He.ga K (p.nm k)) He.veBase "ValueError.__new__" && (glB K (p.nm k) && (PySem.W.keepIn K (.ref (He.ga K (p.nm k))) && (decide (PySem.W.subIn K (.ref (He.ga K (p.nm k))) (.type "BaseException") = some true) &&
    decide (PySem.W.typeIn K (.ref (He.ga K (p.nm k))) = some (.type "type"))))))
def clsB (K : PySem.W.Frag) (C : Addr) : Bool := PySem.W.plainGet K C Str.empty && (PySem.W.hasDictIn K C && (PySem.W.plainOver K C && He.eqO (PySem.W.findIn K (.ref C) "__setattr__") (some (some (.builtin "object.__setattr__")))))
theorem clsB_ok {K : PySem.W.Frag} {C : Addr} (h : clsB K C = true) : Cls K C := by
  unfold clsB at h
  obtain ⟨h1, h⟩ := an h
  obtain ⟨h2, h⟩ := an h
  obtain ⟨h3, h4⟩ := an h
  exact ⟨h1, h2, h3, He.eqO_ok h4⟩
def mkB (K : PySem.W.Frag) (C f : Addr) : Bool := PySem.W.makesIn K C && (He.eqO (PySem.W.findIn K (.ref C) "__init__") (some (some (.ref f))) && (PySem.W.isFn K (.ref f) && PySem.W.keepIn K (.ref C)))
theorem mkB_ok {K : PySem.W.Frag} {C f : Addr} (h : mkB K C f = true) : Mk K C f := by
  unfold mkB at h
  obtain ⟨h1, h⟩ := an h
  obtain ⟨h2, h⟩ := an h
  obtain ⟨h3, h4⟩ := an h
  exact ⟨h1, He.eqO_ok h2, h3, h4⟩
def isO1 (p : PD) (K : PySem.W.Frag) (k : Nat) (q : Cl) : Bool :=
  (He.eqO (PySem.W.findIn K (.ref (He.ga K (p.nm k))) "__class__") (some (some (.builtin "object.__class__"))) && (He.eqO (PySem.W.specialIn K (.builtin "object.__class__") "__get__") (some (some (.builtin "getset_descriptor.__get__"))) && (decide (PySem.W.takesIn K (.builtin "object.__class__") = some true) && decide (PySem.W.mroIn K (He.ga K (p.nm k)) (.type "object") = some true)))) &&
  (clsB K (He.ga K (p.nm k)) && ((p.ty.all fun t => decide (PySem.W.kitOne K (.ref (He.ga K (p.nm k))) (tyVal (p.w K) t) = some (match t with
      | .cls j => k == j
      | _ => false))) && ((q.flds.all fun f => He.eqO (PySem.W.findIn K (.ref (He.ga K (p.nm k))) (p.nm f)) (some none)) && (decide (q.flds.map p.nm).Nodup && ((match p.fns.lookup q.init with
      | some F => decide (0 < F.np)
      | none => false) && (mkB K (He.ga K (p.nm k)) (He.fAd K (p.loc q.init)) && glB K (p.nm k)))))))
def isOB (p : PD) (K : PySem.W.Frag) : Bool := p.cls.all fun q => isO1 p K q.1 q.2
def sysB (p : PD) (K : PySem.W.Frag) : Bool :=
  (p.fns.all fun q => (p.mts.lookup q.1).isSome || glB K (p.nm q.1)) && ((p.gvs.all fun q => gvB K (p.nm q.1) q.2) && ((p.bl.all fun b => match b with
    | .gcd => He.eqO (PySem.W.nsIn K mainGlobals "gcd") (some (some (.builtin "math.gcd")))
    | b => frB K (bname b)) && ((frB K "super" && (frB K "range" && (frB K "enumerate" && (frB K "zip" && frB K "isinstance")))) && ((p.ty.all (tyB p K)) && (isBB p K && (isEB p K && (p.ex.all (raiB p K) && isOB p K)))))))
mutual
theorem repB_ok {w : Wd} : ∀ (d : MP.D) (u : Value), repB w.K d u = true → ∃ v, RelV v u ∧ ∀ H, Rep w H d v
  | .non, u, h => by
    cases u <;> first | exact ⟨.non, rfl, fun H => Rep.non_iff.mpr rfl⟩ | exact nb h
  | .bl a, u, h => by
    cases u <;> first | (unfold repB at h; exact nb h) | skip
    rename_i b
    have e : a = b := by unfold repB at h; exact beq_iff_eq.mp h
    subst e
    exact ⟨.bl a, rfl, fun H => Rep.bl_iff.mpr rfl⟩
  | .int a, u, h => by
    cases u <;> first | (unfold repB at h; exact nb h) | skip
    rename_i b t
    have e : a = b := by unfold repB at h; exact of_decide_eq_true h
    subst e
    exact ⟨.int a, ⟨t, rfl⟩, fun H => Rep.int_iff.mpr rfl⟩
  | .str a, u, h => by
    cases u <;> first | (unfold repB at h; exact nb h) | skip
    rename_i b t
    have e : strOf a = b := by unfold repB at h; exact of_decide_eq_true h
    subst e
    exact ⟨.str (strOf a), ⟨t, rfl⟩, fun H => Rep.str_iff.mpr rfl⟩
  | .tup ds, u, h => by
    cases u <;> first | (unfold repB at h; exact nb h) | skip
    rename_i a
    unfold repB at h
    split at h
    · rename_i c _ its n _ lk
      obtain ⟨h1, h⟩ := an h
      obtain ⟨h2, h3⟩ := an h
      obtain ⟨vs, r, rr⟩ := repBs_ok ds _ h3
      exact ⟨.ref a, rfl, fun H => Rep.tup_iff.mpr ⟨a, vs, rfl, .inr ⟨_, its, n, lk, congrArg Value.type (of_decide_eq_true h1), rfl, of_decide_eq_true h2, r⟩, rr H⟩⟩
    · exact nb h
  | .lst ds, u, h => by cases u <;> (unfold repB at h; exact nb h)
  | .obj c ds, u, h => by cases u <;> (unfold repB at h; exact nb h)
  | .scr ds, u, h => by cases u <;> (unfold repB at h; exact nb h)
theorem repBs_ok {w : Wd} : ∀ (ds : List MP.D) (us : List Value), repBs w.K ds us = true → ∃ vs, Vals vs us ∧ ∀ H, Reps w H ds vs
  | [], [], h => ⟨[], .nil, fun H => Reps.nil_iff.mpr rfl⟩
  | [], _ :: _, h => by unfold repBs at h; exact nb h
  | _ :: _, [], h => by unfold repBs at h; exact nb h
  | d :: ds, u :: us, h => by
    unfold repBs at h
    obtain ⟨h1, h2⟩ := an h
    obtain ⟨v, r, q⟩ := repB_ok d u h1
    obtain ⟨vs, rs, qs⟩ := repBs_ok ds us h2
    exact ⟨v :: vs, .cons r rs, fun H => Reps.cons_iff.mpr ⟨v, vs, rfl, q H, qs H⟩⟩
end
/-! ### errors with a field -/
/-- where an error's __init__ stands in the text: the class's number, its field's -/
structure Ed where
  k : Nat
  f : Nat
  st : Stmt
abbrev FnE : Type := Option (Str × Str × Arguments × FuncBody × Scope × Addr × List Str × Addr)
def fnE (K : PySem.W.Frag) (p : Str × Option Str) : FnE := match K.lookup (He.fAd K p) with
  | some ⟨_, _, .func fd, _⟩ => some (fd.name, fd.qualname, fd.params, fd.body, fd.scope, fd.globals, fd.closure.map (·.1), fd.builtins)
  | _ => none
def Ed.at_ (p : PD) (e : Ed) : Str × Option Str := (p.nm e.k, some "__init__")
def Ed.qual (p : PD) (e : Ed) : Str := p.nm e.k ++ ".__init__"
def Ed.val (p : PD) (e : Ed) : FnE := some ("__init__", e.qual p, defArgs e.st, .stmts (defBody e.st), defScope e.st, mainGlobals, ["__class__"], builtinsNs)
def clsEB (K : PySem.W.Frag) (C : Addr) : Bool := match K.lookup C with
  | some ⟨c, _, .cls cd, sl⟩ => decide (c = .type "type") && (match cd.mro, sl.toList with
    | .ref C' :: bm, [_, _, _, _, some (.builtin n), _] => decide (C' = C) && (decide (n = "ValueError.__new__") && (cd.hasDict && (!cd.hasDel && PySem.HandSPX.refsVE bm)))
    | _, _ => false)
  | _ => false
theorem clsEB_ok {K : PySem.W.Frag} {C : Addr} (h : clsEB K C = true) : ∃ nm q N bs bm sn sub ab col dd k0 k1 k2 k3 k5, K.lookup C = some (excClassObj nm q C N bs bm true sn sub ab col dd k0 k1 k2 k3 k5 "ValueError.__new__") ∧ PySem.HandSPX.refsVE bm = true := by
  unfold clsEB at h
  split at h
  · rename_i c od cd sl lk
    obtain ⟨nm, bs, mro, ns, qn, hd, sn, sb, ab, col, del⟩ := cd
    have hh := an h
    clear h
    obtain ⟨h1, h⟩ := hh
    have h1 := of_decide_eq_true h1
    subst h1
    split at h
    · rename_i _ _ C' bm x0 x1 x2 x3 n x5 em esl
      obtain ⟨h2, h⟩ := an h
      obtain ⟨h3, h⟩ := an h
      obtain ⟨h4, h⟩ := an h
      obtain ⟨h5, h6⟩ := an h
      have h2 := of_decide_eq_true h2
      have h3 := of_decide_eq_true h3
      subst h2 h3
      have g5 : (!del) = true := h5
      have f5 : del = false := by simpa using g5
      have f4 : hd = true := h4
      have fm : mro = .ref C' :: bm := em
      clear h4 h5 g5 em
      subst f4
      subst f5
      subst fm
      have esl2 : sl = #[x0, x1, x2, x3, some (.builtin "ValueError.__new__"), x5] := by
        rw [← esl]
      refine ⟨nm, qn, ns, bs, bm, sn, sb, ab, col, od, x0, x1, x2, x3, x5, ?_, h6⟩
      rw [lk, esl2]
    · exact nb h
  · exact nb h
def initB (p : PD) (K : PySem.W.Frag) (e : Ed) : Bool := match K.lookup (He.fAd K (e.at_ p)) with
  | some ⟨_, _, .func fd, _⟩ => (match fd.defaults with
      | .none => true
      | _ => false) && ((match fd.closure with
      | [(_, cc)] => (match K.lookup cc with
        | some ⟨_, _, .cell (some (.ref C)), _⟩ => decide (C = He.ga K (p.nm e.k))
        | _ => false)
      | _ => false) && (match fd.code with
      | .ref cda => PySem.W.codeIn K (.ref cda) (e.qual p) && (match K.lookup cda with
        | some ⟨_, _, .fields vs, _⟩ => (match (vs[2]? : Option Value) with
          | some (Value.str file _) => (p.file == file)
          | _ => false)
        | _ => false)
      | _ => false))
  | _ => false
def errB (p : PD) (K : PySem.W.Frag) (e : Ed) : Bool :=
  let C := He.ga K (p.nm e.k)
  clsEB K C && (He.eqO (PySem.W.findIn K (.ref C) "__setattr__") (some (some (.builtin "object.__setattr__"))) && (He.eqO (PySem.W.findIn K (.ref C) (p.nm e.f)) (some none) &&
    (He.eqO (PySem.W.findIn K (.ref C) "__init__") (some (some (.ref (He.fAd K (e.at_ p))))) && (decide (PySem.W.typeIn K (.ref (He.fAd K (e.at_ p))) = some (.type "function")) && (PySem.W.keepIn K (.ref C) &&
    (decide (PySem.W.subIn K (.ref C) (.type "BaseException") = some true) && (decide (PySem.W.subIn K (.ref C) (.type "ValueError") = some true) && (decide (PySem.W.typeIn K (.ref C) = some (.type "type")) && (decide (PySem.W.mroIn K C (.ref C) = some true) &&
    (He.eqO (PySem.W.ks_superIn K C C "__init__") (some (some (.builtin "ValueError.__init__"))) && (He.eqO (PySem.W.nsIn K cStatics "thirdparty.any") (some none) && (glB K (p.nm e.k) && (initB p K e && (match p.xcs.lookup e.k with
      | some q => decide (q.fld = some e.f)
      | none => false))))))))))))))
def errTx (p : PD) (e : Ed) : Bool := (PySem.ErrX.initTx (p.nm e.f) (defArgs e.st) (defBody e.st) (defScope e.st)).isSome
theorem err_ok {p : PD} {K : PySem.W.Frag} {mg : Str → Option Value} {Pr : Program} {e : Ed} (hS : mg "super" = none) (hfile : (Pr.main.file == p.file) = true) (htop : (Pr.main.scope.names.lookup ("super" : Str)).isSome = false) (gl : ∀ {x : Str}, glB K x = true → mg x = some (.ref (He.ga K x)))
    (hv : fnE K (e.at_ p) = e.val p) (ht : errTx p e = true) (h : errB p K e = true) :
    ∃ q, p.xcs.lookup e.k = some q ∧ q.fld = some e.f ∧ PySem.ErrX.ErrTxt Pr K mg (He.ga K (p.nm e.k)) (He.fAd K (e.at_ p)) (p.nm e.f) ∧ mg (p.nm e.k) = some (.ref (He.ga K (p.nm e.k))) := by
  unfold errB at h
  simp only at h
  obtain ⟨h1, h⟩ := an h
  obtain ⟨h2, h⟩ := an h
  obtain ⟨h3, h⟩ := an h
  obtain ⟨h4, h⟩ := an h
  obtain ⟨h5, h⟩ := an h
  obtain ⟨h6, h⟩ := an h
  obtain ⟨h7, h⟩ := an h
  obtain ⟨h8, h⟩ := an h
  obtain ⟨h9, h⟩ := an h
  obtain ⟨h10, h⟩ := an h
  obtain ⟨h11, h⟩ := an h
  obtain ⟨h12, h⟩ := an h
  obtain ⟨h13, h⟩ := an h
  obtain ⟨h14, h15⟩ := an h
  obtain ⟨q, hq, hf⟩ : ∃ q, p.xcs.lookup e.k = some q ∧ q.fld = some e.f := by
    cases z : p.xcs.lookup e.k with
    | none => rw [z] at h15; exact nb h15
    | some q => rw [z] at h15; exact ⟨q, rfl, of_decide_eq_true h15⟩
  refine ⟨q, hq, hf, ?_, gl h13⟩
  refine { cls := clsEB_ok h1, sa := He.eqO_ok h2, noN := He.eqO_ok h3, iC := He.eqO_ok h4, tC := of_decide_eq_true h5, kC := h6, exC := of_decide_eq_true h7, veC := of_decide_eq_true h8, tyC := of_decide_eq_true h9, mro := of_decide_eq_true h10, sup := He.eqO_ok h11, opq := He.eqO_ok h12, fn := ?_, noS := hS, htop := htop }
  unfold initB at h14
  unfold fnE at hv
  split at h14
  · rename_i oc od fd osl lk
    rw [lk] at hv
    obtain ⟨n1, n2, n3, n4, n5, n6, n7, n8, n9, n10, n11, n12, n13, n14, n15⟩ := fd
    simp only at h14 hv
    unfold Ed.val at hv
    simp only [Option.some.injEq, Prod.mk.injEq] at hv
    obtain ⟨v1, v2, v3, v4, v5, v6, v7, v8⟩ := hv
    subst v1 v2 v3 v4 v5 v6 v8
    obtain ⟨k1, k⟩ := an h14
    obtain ⟨k2, k3⟩ := an k
    split at k1
    · split at k2
      · rename_i cn cc
        split at k2
        · rename_i cl cld C csl lc
          have eC := of_decide_eq_true k2
          subst eC
          have ecn : cn = ("__class__" : Str) := by simpa using v7
          subst ecn
          split at k3
          · rename_i cda
            obtain ⟨k4, k5⟩ := an k3
            split at k5
            · rename_i ccl cdd vs ccs lcd
              split at k5
              · rename_i file tf hvs
                unfold errTx at ht
                obtain ⟨sx, hsx⟩ := Option.isSome_iff_exists.mp ht
                obtain ⟨s1, x1⟩ := sx
                have e1 := beq_iff_eq.mp hfile
                refine ⟨oc, od, _, _, _, _, _, _, _, _, _, _, cda, cc, osl, s1, x1, ccl, cdd, vs, ccs, file, tf, cl, cld, csl, lk, k4, hsx, lcd, hvs, ?_, lc⟩
                rw [e1]
                exact k5
              · exact nb k5
            · exact nb k5
          · exact nb k3
        · exact nb k2
      · exact nb k2
    · exact nb k1
  · exact nb h14
/-- a def's place in the text -/
structure Dd where
  f : Nat
  st : Stmt
  N : List Str
def argsOf (st : Stmt) : Arguments := defArgs st
def dvOf : MP.D → He.Dv
  | .int i => .int i
  | .bl b => .bl b
  | .str x => .str (strOf x)
  | _ => .non
def flatB (d : MP.D) : Bool := match d with
  | .int _ => true
  | .bl _ => true
  | .non => true
  | .str _ => true
  | _ => false
def PD.short (p : PD) (f : Nat) : Str := match p.mts.lookup f with
  | some (_, m) => m
  | none => p.nm f
def PD.qual (p : PD) (f : Nat) : Str := match p.mts.lookup f with
  | some (c, m) => p.nm c ++ "." ++ m
  | none => p.nm f
def Dd.def_ (p : PD) (F : Fn) (d : Dd) : He.DefD := ⟨p.loc d.f, p.short d.f, p.qual d.f, defArgs d.st, defBody d.st, defScope d.st, F.dfl.map dvOf, []⟩
def Dd.tx (p : PD) (d : Dd) : Tx := ⟨p.short d.f, p.qual d.f, (defArgs d.st).args, (defArgs d.st).kw_defaults, (defArgs d.st).defaults, defBody d.st, defScope d.st, d.N⟩
def simpP (a : Arguments) : Bool := match a with
  | ⟨[], _, none, [], _, none, _⟩ => true
  | _ => false
/-- the text is what the table says -/
def okText (p : PD) (ds : List Dd) (es : List Ed) : Bool := ((p.fns.length == ds.length) && (p.fns.zip ds).all fun ((f, F), d) => decide (d.f = f) && (simpP (defArgs d.st) && (F.dfl.all flatB && okFn p.g p.nm F (d.tx p)))) &&
  ((es.all fun e => errTx p e) && p.exf.all fun k => es.any fun e => e.k == k)
def defsOf (p : PD) (ds : List Dd) : List He.DefD := (p.fns.zip ds).map fun ((_, F), d) => d.def_ p F
abbrev AlM : Type := Bool × List He.FnW × List FnE
def obsM (p : PD) (fn : List He.DefD) (es : List Ed) (K : PySem.W.Frag) : AlM := (sysB p K && ((fn.all fun d => d.ok K) && es.all fun e => errB p K e), fn.map fun d => He.fnW K d.at_, es.map fun e => fnE K (e.at_ p))
def valM (p : PD) (fn : List He.DefD) (es : List Ed) : AlM := (true, fn.map He.DefD.val, es.map fun e => e.val p)
def frM (n : Nat) (g : Addr → Option Obj) : PySem.W.Frag := He.frG g (cStatics :: He.asD g n)
def obsMG (n : Nat) (p : PD) (fn : List He.DefD) (es : List Ed) (g : Addr → Option Obj) : AlM := obsM p fn es (frM n g)
def hookM (n : Nat) (p : PD) (fn : List He.DefD) (es : List Ed) : PySem.W.Hook where
  α := AlM
  obs := fun s => obsMG n p fn es s.heap.get?
  val := fun _ => valM p fn es
  says := fun _ h => ∃ K : PySem.W.Frag, K.In h ∧ obsM p fn es K = valM p fn es
  of := fun _ _ e => ⟨_, He.frG_in, e⟩
  keeps := fun _ _ _ ⟨K, hK, c⟩ k => ⟨K, PySem.W.Frag.In.keeps hK k, c⟩
theorem obsMG_eq {n : Nat} {p : PD} {fn : List He.DefD} {es : List Ed} {g : Addr → Option Obj} {s : Shared} (h : ∀ a, g a = s.heap.get? a) : obsMG n p fn es g = (hookM n p fn es).obs s := by
  have e : g = s.heap.get? := funext h
  rw [e] <;> rfl
theorem dvOf_reps {w : Wd} : ∀ {ds : List MP.D}, ds.all flatB = true → ∀ H, Reps w H ds (ds.map fun d => (dvOf d).v w.K)
  | [], _, H => Reps.nil_iff.mpr rfl
  | d :: ds, h, H => by
    rw [List.all_cons] at h
    obtain ⟨h1, h2⟩ := an h
    refine Reps.cons_iff.mpr ⟨_, _, rfl, ?_, dvOf_reps h2 H⟩
    cases d <;> first | exact nb h1 | skip
    · exact Rep.non_iff.mpr rfl
    · exact Rep.bl_iff.mpr rfl
    · exact Rep.int_iff.mpr rfl
    · exact Rep.str_iff.mpr rfl
theorem look_mem {α : Type} : ∀ {l : List (Nat × α)} {k : Nat} {a : α}, l.lookup k = some a → ∃ i : Nat, l[i]? = some (k, a)
  | [], _, _, h => by cases h
  | (j, b) :: l, k, a, h => by
    rw [List.lookup_cons] at h
    cases e : (k == j) with
    | true =>
      rw [e] at h
      cases h
      rw [beq_iff_eq.mp e]
      exact ⟨0, rfl⟩
    | false =>
      rw [e] at h
      obtain ⟨i, hi⟩ := look_mem h
      exact ⟨i + 1, hi⟩
theorem sys_of (p : PD) (ds : List Dd) (es : List Ed) (ht : okText p ds es = true) {K : PySem.W.Frag} {h : Heap} {mg : Str → Option Value} {Pr : Program} (hfile : (Pr.main.file == p.file) = true) (htop : (Pr.main.scope.names.lookup ("super" : Str)).isSome = false) (X : K.In h) (G : h.Ns mainGlobals mg) (c : obsM p (defsOf p ds) es K = valM p (defsOf p ds) es) : Sys (p.w K) p.g mg Pr := by
  have c0 : (sysB p K && (((defsOf p ds).all fun d => d.ok K) && es.all fun e => errB p K e)) = true := congrArg (fun z : AlM => z.1) c
  have c1 : (defsOf p ds).map (fun d => He.fnW K d.at_) = (defsOf p ds).map He.DefD.val := congrArg (fun z : AlM => z.2.1) c
  have c2 : es.map (fun e => fnE K (e.at_ p)) = es.map fun e => e.val p := congrArg (fun z : AlM => z.2.2) c
  obtain ⟨cs, cd⟩ := an c0
  obtain ⟨cd, ce⟩ := an cd
  unfold sysB at cs
  obtain ⟨s1, cs⟩ := an cs
  obtain ⟨s2, cs⟩ := an cs
  obtain ⟨s3, cs⟩ := an cs
  obtain ⟨s4, cs⟩ := an cs
  obtain ⟨s5, cs⟩ := an cs
  obtain ⟨s6, cs⟩ := an cs
  obtain ⟨s7, cs⟩ := an cs
  obtain ⟨s8, s9⟩ := an cs
  obtain ⟨rS, s4⟩ := an s4
  obtain ⟨r1, s4⟩ := an s4
  obtain ⟨r2, s4⟩ := an s4
  obtain ⟨r3, r4⟩ := an s4
  have fr : ∀ {x : Str}, frB K x = true → mg x = none := fun e => PySem.W.mg_none_of X G (He.eqO_ok e)
  have gl : ∀ {x : Str}, glB K x = true → mg x = some (.ref (He.ga K x)) := fun e => PySem.W.mg_of X G (He.eqO_ok e)
  have cls_ : ∀ k q, (p.w K).P.cl k = some q → isO1 p K k q = true := fun k q e => by
    obtain ⟨i, hi⟩ := look_mem (show p.cls.lookup k = some q from e)
    exact List.all_eq_true.mp s9 _ (List.mem_of_getElem? hi)
  unfold okText at ht
  obtain ⟨ht, htE⟩ := an ht
  obtain ⟨tE1, tE2⟩ := an htE
  obtain ⟨t1, t2⟩ := an ht
  have t1 := beq_iff_eq.mp t1
  have tym : ∀ {t : Ty}, p.g.ty t = true → t ∈ p.ty := fun e => of_decide_eq_true e
  refine { fn := ?fn, fns := ?fns, gv := ?gv, bl := ?bl, gcd := ?gcd, rng := fr r1, enm := fr r2, zip := fr r3, isi := fr r4, ty := ?ty, isB := ?isB, isO := ?isO, isE := ?isE, fld := ?fld, mkc := ?mkc, me := fun _ => rfl, rai := ?rai, raf := ?raf }
  case fn =>
    intro f F e
    obtain ⟨i, hi⟩ := look_mem (show p.fns.lookup f = some F from e)
    have hi1 := (List.getElem?_eq_some_iff.mp hi).1
    have hd : ds[i]? = some (ds[i]'(by omega)) := List.getElem?_eq_getElem _
    generalize ds[i]'(by omega) = d at hd
    have hz : (p.fns.zip ds)[i]? = some ((f, F), d) := List.getElem?_zip_eq_some.mpr ⟨hi, hd⟩
    have hm := List.all_eq_true.mp t2 _ (List.mem_of_getElem? hz)
    obtain ⟨u1, u2⟩ := an hm
    obtain ⟨u2, u3⟩ := an u2
    obtain ⟨u3, u4⟩ := an u3
    have u1 := of_decide_eq_true u1
    subst u1
    have hdd : (defsOf p ds)[i]? = some (d.def_ p F) := by
      unfold defsOf
      rw [List.getElem?_map, hz]
      rfl
    have e2 : ((defsOf p ds).map fun d => He.fnW K d.at_)[i]? = ((defsOf p ds).map He.DefD.val)[i]? := by rw [c1]
    rw [List.getElem?_map, List.getElem?_map, hdd] at e2
    obtain ⟨fd, FD⟩ := He.DefD.funD (Option.some.inj e2) (List.all_eq_true.mp cd _ (List.mem_of_getElem? hdd))
    refine ⟨d.tx p, fd, (d.def_ p F).dvs K, (d.def_ p F).kws K, ?_, ?_, u4⟩
    · have ep : (d.def_ p F).params = ⟨[], (defArgs d.st).args, none, [], (defArgs d.st).kw_defaults, none, (defArgs d.st).defaults⟩ := by
        show defArgs d.st = _
        have u2 : simpP (defArgs d.st) = true := u2
        generalize defArgs d.st = a at u2 ⊢
        unfold simpP at u2
        split at u2
        · rfl
        · exact nb u2
      rw [ep] at FD
      exact FD
    · intro H
      have := dvOf_reps (w := p.w K) u3 H
      show Reps (p.w K) H F.dfl ((F.dfl.map dvOf).map (He.Dv.v K))
      rw [List.map_map]
      exact this
  case fns =>
    intro f e
    obtain ⟨e, e2⟩ := an (show ((p.fns.lookup f).isSome && (p.mts.lookup f).isNone) = true from e)
    obtain ⟨F, eF⟩ := Option.isSome_iff_exists.mp e
    have e2 := Option.isNone_iff_eq_none.mp e2
    obtain ⟨i, hi⟩ := look_mem eF
    have := List.all_eq_true.mp s1 _ (List.mem_of_getElem? hi)
    simp only [e2, Option.isSome_none, Bool.false_or] at this
    refine ⟨fun z => ?_, ?_⟩
    · rw [show p.fns.lookup f = none from z] at eF
      cases eF
    · have e3 : p.loc f = (p.nm f, none) := by unfold PD.loc; rw [e2]
      show mg (p.nm f) = some (.ref (He.fAd K (p.loc f)))
      rw [e3]
      exact gl this
  case isO =>
    intro k q e
    obtain ⟨u1, u2⟩ := an (cls_ k q e)
    obtain ⟨u3, u4⟩ := an u1
    obtain ⟨u4, u5⟩ := an u4
    obtain ⟨u5, u6⟩ := an u5
    obtain ⟨v1, v2⟩ := an u2
    obtain ⟨v2, v3⟩ := an v2
    exact ⟨⟨He.eqO_ok u3, He.eqO_ok u4, of_decide_eq_true u5, of_decide_eq_true u6⟩, clsB_ok v1, fun t et => of_decide_eq_true (List.all_eq_true.mp v2 t (tym et))⟩
  case mkc =>
    intro k e
    obtain ⟨q, eq⟩ := Option.isSome_iff_exists.mp (show (p.cls.lookup k).isSome = true from e)
    obtain ⟨u1, u2⟩ := an (cls_ k q eq)
    obtain ⟨v1, v2⟩ := an u2
    obtain ⟨v2, v3⟩ := an v2
    obtain ⟨v3, v4⟩ := an v3
    obtain ⟨v4, v5⟩ := an v4
    obtain ⟨v5, v6⟩ := an v5
    obtain ⟨v6, v7⟩ := an v6
    cases hF : p.fns.lookup q.init with
    | none => rw [hF] at v5; exact nb v5
    | some F =>
      rw [hF] at v5
      exact ⟨q, F, eq, hF, of_decide_eq_true v5, mkB_ok v6, gl v7⟩
  case gv =>
    intro x d e
    obtain ⟨i, hi⟩ := look_mem (show p.gvs.lookup x = some d from e)
    have := List.all_eq_true.mp s2 _ (List.mem_of_getElem? hi)
    unfold gvB at this
    split at this
    · rename_i u hu
      obtain ⟨v, r, q⟩ := repB_ok (w := p.w K) d u this
      exact ⟨v, u, PySem.W.mg_of X G hu, r, q⟩
    · exact nb this
  case bl =>
    intro b e ne
    have := List.all_eq_true.mp s3 b (of_decide_eq_true e)
    cases b <;> first | exact absurd rfl ne | exact fr this
  case gcd =>
    intro e
    have := List.all_eq_true.mp s3 .gcd (of_decide_eq_true e)
    exact PySem.W.mg_of X G (He.eqO_ok this)
  case ty =>
    intro t e
    have := List.all_eq_true.mp s5 t (tym e)
    cases t <;> first | exact gl this | exact fr this | exact nb this
  case isB =>
    intro a ha k hk
    have h1 := List.all_eq_true.mp s6 a ha
    have : ∃ t, t ∈ p.ty ∧ clsOf t = some k := by
      rcases hk with hk | hk
      · exact ⟨_, tym hk, rfl⟩
      · exact ⟨_, tym hk, rfl⟩
    obtain ⟨t, h2, h3⟩ := this
    have := List.all_eq_true.mp h1 t h2
    rw [h3] at this
    exact of_decide_eq_true this
  case isE =>
    intro k q e
    obtain ⟨i, hi⟩ := look_mem (show p.xcs.lookup k = some q from e)
    have := List.all_eq_true.mp s7 _ (List.mem_of_getElem? hi)
    obtain ⟨u1, u2⟩ := an this
    obtain ⟨u2, u3⟩ := an u2
    obtain ⟨u3, u4⟩ := an u3
    obtain ⟨u4, u5⟩ := an u4
    refine ⟨excCB_ok u1, xfB_ok u2, fun f ef => ?_, fun j ej => ?_, of_decide_eq_true u5⟩
    · simp only [ef] at u3
      exact He.eqO_ok u3
    · have := List.all_eq_true.mp u4 _ (tym ej)
      obtain ⟨v1, v2⟩ := an this
      exact ⟨of_decide_eq_true v1, of_decide_eq_true v2⟩
  case fld =>
    intro k f i e
    have e0 := e
    unfold Prog.fld at e
    obtain ⟨q, e1, _⟩ := Option.bind_eq_some_iff.mp e
    have fa := fld_at (P := (p.w K).P) e1 e0
    obtain ⟨u1, u2⟩ := an (cls_ k q e1)
    obtain ⟨v1, v2⟩ := an u2
    obtain ⟨v2, v3⟩ := an v2
    obtain ⟨v3, v4⟩ := an v3
    obtain ⟨v4, v5⟩ := an v4
    have ef : (p.w K).flds k = q.flds.map p.nm := by unfold Wd.flds; rw [e1]; rfl
    refine ⟨clsB_ok v1, He.eqO_ok (List.all_eq_true.mp v3 f (List.mem_of_getElem? fa)), ?_, ?_⟩
    · rw [ef]; exact of_decide_eq_true v4
    · rw [ef, List.getElem?_map, fa]; rfl
  case rai =>
    intro k e
    have := List.all_eq_true.mp s8 k (of_decide_eq_true e)
    unfold raiB at this
    obtain ⟨u1, u2⟩ := an this
    obtain ⟨u2, u3⟩ := an u2
    obtain ⟨u3, u4⟩ := an u3
    obtain ⟨u4, u5⟩ := an u4
    obtain ⟨u5, u6⟩ := an u5
    have hx : ∃ q, p.xcs.lookup k = some q ∧ q.fld = none := by
      cases q : p.xcs.lookup k with
      | none => rw [q] at u1; exact nb u1
      | some q' => rw [q] at u1; exact ⟨q', rfl, Option.isNone_iff_eq_none.mp u1⟩
    obtain ⟨q, hq, hf⟩ := hx
    refine ⟨fun z => ?_, ?_, u2, gl u3, u4, of_decide_eq_true u5, of_decide_eq_true u6⟩
    · rw [show (p.w K).P.xc k = some q from hq] at z; cases z
    · show (p.P.xc k).bind (·.fld) = none
      rw [show p.P.xc k = some q from hq]
      exact hf
  case raf =>
    intro k e
    have e : k ∈ p.exf := of_decide_eq_true e
    obtain ⟨ed, hm, hk⟩ := List.any_eq_true.mp (List.all_eq_true.mp tE2 k e)
    have hk := beq_iff_eq.mp hk
    subst hk
    obtain ⟨i, hi⟩ := List.getElem?_of_mem hm
    have e3 : (es.map fun e => fnE K (e.at_ p))[i]? = (es.map fun e => e.val p)[i]? := by rw [c2]
    rw [List.getElem?_map, List.getElem?_map, hi] at e3
    obtain ⟨q, h1, h2, h3, h4⟩ := err_ok (Pr := Pr) (fr rS) hfile htop gl (Option.some.inj e3) (List.all_eq_true.mp tE1 _ hm) (List.all_eq_true.mp ce _ hm)
    exact ⟨q, ed.f, _, h1, h2, h3, h4⟩
end MP

end

section
set_option Elab.async false
set_option linter.all false
set_option maxRecDepth 100000
namespace MP
open PySem PySem.Spec PyProof.Rows L2
/-- the law's walk, from its run on data -/
theorem walk_mp {l : PySem.W.OpenLaw} {q : Program} {loose : List Str} {XP : (Str → Option Value) → Heap → Prop} {d : DefRec} {p : PD} {ds : List Dd} {es : List Ed} {f n m : Nat} {F : Fn}
    (hn : l.most = some 63) (hF : p.fns.lookup f = some F) (hdf : d.params.defaults = []) (hnm : d.name = p.nm f) (hml : p.mts.lookup f = none) (ht : okText p ds es = true) (hfile : (l.prog.main.file == p.file) = true) (htop : (l.prog.main.scope.names.lookup ("super" : Str)).isSome = false) (h1 : F.np = 1) (h2 : F.dfl = []) (h3 : True) (hr : Room (2 * (n + 1)) callerA)
    (hrun : ∀ ns : List Int, ns.length ≤ 63 → runB p.P n F [.scr ns] = .ok (.fz (.bl true))) :
    PySem.W.WalkO q loose XP (hookM m p (defsOf p ds) es).says l.row.toRowW d [] (fun f vs => PySem.call f vs) := by
  refine Att.attach_call hn hdf fun w s₀ s₁ mg mb fa o pm cd doc a vs ns G Y ho hd hcd hmg hobj hints hlen hg => ?_
  obtain ⟨K, KX, c⟩ := Y
  have S := sys_of (Pr := l.prog) p ds es ht hfile htop KX G.T.g c
  obtain ⟨fd, x, hb, hsp, hF'⟩ := law_fn (Pr := l.prog) (wd := w) S (f := f) (F := F) hF h1 h2 hrun
  have e : fa = (p.w K).fad f := by
    have hg : p.g.fn f = true := by
      show ((p.fns.lookup f).isSome && (p.mts.lookup f).isNone) = true
      rw [hF, hml]
      rfl
    have e := (S.fns f hg).2
    rw [hnm] at hmg
    have := hmg.symm.trans e
    cases this
    rfl
  subst e
  exact law_call KX G.T.g G.T.b G.T.builtins G.T.nolimit hg hobj hints (Nat.le_trans hlen (by rw [sizeLine_eq]; decide)) hr (fun base _ _ => hF' base) hb (fun H hO hS => hsp H _ ns hlen hS) fun H e s' h => by
    obtain ⟨_, _, _, _, _, _, _, _, _, _, _, _, h⟩ := h
    exact h
end MP

end

section
set_option linter.all false
set_option maxRecDepth 100000
/-! Running the small evaluator by simp. -/
namespace MP
variable {P : MP.Prog} {n : Nat}
@[simp] theorem gx_cm : (P.gx n).calm = true := by cases n <;> rfl
@[simp] theorem gx_hcm : (P.gx n).hot.calm = false := by cases n <;> rfl
@[simp] theorem gx_gv : (P.gx n).gv = P.gv := by cases n <;> rfl
@[simp] theorem gx_hgv : (P.gx n).hot.gv = P.gv := by cases n <;> rfl
@[simp] theorem gx_sub : (P.gx n).sub = P.sub := by cases n <;> rfl
@[simp] theorem gx_hsub : (P.gx n).hot.sub = P.sub := by cases n <;> rfl
@[simp] theorem gx_xf : (P.gx n).xf = P.xf := by cases n <;> rfl
@[simp] theorem gx_hxf : (P.gx n).hot.xf = P.xf := by cases n <;> rfl
@[simp] theorem varD_fz (d : D) (pk : Bool) : varD (some (.fz d)) pk = .ok (.fz d) := nr rfl
@[simp] theorem varD_own (ds : List D) : varD (some (.own ds)) true = .ok (.own ds) := nr rfl
@[simp] theorem varD_xv (c : Nat) (p : Option D) : varD (some (.xv c p)) true = .ok (.xv c p) := nr rfl
@[simp] theorem oper_fz (p : Bool) (d : D) : oper p (.ok (.fz d)) = .ok d := nr rfl
@[simp] theorem oper_own (p : Bool) (ds : List D) : oper p (.ok (.own ds)) = .ok (.lst ds) := nr rfl
@[simp] theorem oper_ex (p : Bool) (c : Nat) (q : Option D) : oper p (.ex c q) = .ex c q := nr rfl
@[simp] theorem argm_fz (p : Bool) (d : D) : argm p (.ok (.fz d)) = .ok (d, p && false) := nr rfl
@[simp] theorem argm_own (p : Bool) (ds : List D) : argm p (.ok (.own ds)) = .ok (.lst ds, p && true) := nr rfl
@[simp] theorem argm_ex (p : Bool) (c : Nat) (q : Option D) : argm p (.ex c q) = .ex c q := nr rfl
@[simp] theorem asB_bl (b : Bool) : asB (.ok (.fz (.bl b))) = .ok b := nr rfl
@[simp] theorem asB_ex (c : Nat) (q : Option D) : asB (.ex c q) = .ex c q := nr rfl
@[simp] theorem tru_bl' (b : Bool) : tru (.ok (.fz (.bl b))) = .ok b := nr rfl
@[simp] theorem tru_int (i : Int) : tru (.ok (.fz (.int i))) = .ok (decide (i ≠ 0)) := nr rfl
@[simp] theorem tru_ex (c : Nat) (q : Option D) : tru (.ex c q) = .ex c q := nr rfl
@[simp] theorem frz_fz (d : D) : frz (.ok (.fz d)) = .ok d := nr rfl
@[simp] theorem frz_own (ds : List D) : frz (.ok (.own ds)) = .ok (.lst ds) := nr rfl
@[simp] theorem frz_ex (c : Nat) (q : Option D) : frz (.ex c q) = .ex c q := nr rfl
@[simp] theorem asI_int (i : Int) : asI (.ok (.int i)) = .ok i := nr rfl
@[simp] theorem asI_ex (c : Nat) (q : Option D) : asI (.ex c q) = .ex c q := nr rfl
@[simp] theorem cmp_eq_int (i j : Int) : cmpD .eq (.int i) (.int j) = .ok (.fz (.bl (decide (i = j)))) := by
  simp only [cmpD, D.plain, D.eqv, Bool.and_self, if_true]
  rfl
@[simp] theorem cmp_ne_int (i j : Int) : cmpD .ne (.int i) (.int j) = .ok (.fz (.bl (!decide (i = j)))) := by
  simp only [cmpD, D.plain, D.eqv, Bool.and_self, if_true]
  rfl
@[simp] theorem cmp_lt_int (i j : Int) : cmpD .lt (.int i) (.int j) = .ok (.fz (.bl (decide (i < j)))) := nr rfl
@[simp] theorem cmp_le_int (i j : Int) : cmpD .le (.int i) (.int j) = .ok (.fz (.bl (decide (i ≤ j)))) := nr rfl
@[simp] theorem cmp_gt_int (i j : Int) : cmpD .gt (.int i) (.int j) = .ok (.fz (.bl (decide (j < i)))) := nr rfl
@[simp] theorem cmp_ge_int (i j : Int) : cmpD .ge (.int i) (.int j) = .ok (.fz (.bl (decide (j ≤ i)))) := nr rfl
@[simp] theorem bin_add (i j : Int) : binD .add (.int i) (.int j) = .ok (.fz (.int (i + j))) := nr rfl
@[simp] theorem bin_sub (i j : Int) : binD .sub (.int i) (.int j) = .ok (.fz (.int (i - j))) := nr rfl
theorem bin_mul {i j : Int} (h : mulOk i j = true) : binD .mul (.int i) (.int j) = .ok (.fz (.int (i * j))) := by simp only [binD, h, if_true]
theorem bin_fdiv {i j : Int} (h : divOk j = true) : binD .fdiv (.int i) (.int j) = .ok (.fz (.int (i.fdiv j))) := by simp only [binD, h, if_true]
theorem bin_mod {i j : Int} (h : j ≠ 0) : binD .mod (.int i) (.int j) = .ok (.fz (.int (i.fmod j))) := by simp only [binD, if_neg h]
theorem bin_pow {i j : Int} (h : powOk i j = true) : binD .pow (.int i) (.int j) = .ok (.fz (.int (i ^ j.toNat))) := by
  have : powB i j = true := by unfold powB; rw [h]; rfl
  simp only [binD, this, if_true]
theorem bin_powB {i j : Int} (h : powB i j = true) : binD .pow (.int i) (.int j) = .ok (.fz (.int (i ^ j.toNat))) := by simp only [binD, h, if_true]
@[simp] theorem sub_tup (pk p : Bool) (ds : List D) (j : Int) : subD pk p (.fz (.tup ds)) j = R.ofO ((atI ds j).map .fz) := nr rfl
@[simp] theorem sub_own (pk p : Bool) (ds : List D) (j : Int) : subD pk p (.own ds) j = R.ofO ((atI ds j).map .fz) := nr rfl
@[simp] theorem sub_scr (pk p : Bool) (ns : List Int) (j : Int) : subD pk p (.fz (.scr ns)) j = R.ofO ((atI ns j).map fun i => .fz (.int i)) := nr rfl
@[simp] theorem at_0 {α : Type} (a : α) (xs : List α) : atI (a :: xs) 0 = some a := by
  simp only [atI, ixN, List.length_cons, Option.bind]
  have h : ((0 : Int) < ((xs.length + 1 : Nat) : Int)) := by omega
  rw [if_pos (by decide), if_pos h]
  rfl
@[simp] theorem at_1 {α : Type} (a b : α) (xs : List α) : atI (a :: b :: xs) 1 = some b := by
  simp only [atI, ixN, List.length_cons, Option.bind]
  have h : ((1 : Int) < ((xs.length + 1 + 1 : Nat) : Int)) := by omega
  rw [if_pos (by decide), if_pos h]
  rfl
@[simp] theorem lent_no {bs : List (D × Bool)} {r : R OD} (h : bs.any (·.2) = false) : lent bs r = r := by
  unfold lent
  rw [h]
  rfl
@[simp] theorem liftO_set (i : Nat) (o : OD) (Γ : List OD) (f : List OD → XR) (h : i < Γ.length) : liftO (setT (.n i) o Γ) f = f (Γ.set i o) := by
  unfold setT
  rw [if_pos h]
  rfl
theorem call_succ {f : Nat} {as : List D} {F : Fn} (h : P.fn f = some F) : (P.gx (n + 1)).call f as [] [] = (match bindA F as [] [] with
    | some vs => outR (execs F.body (P.gx n) (MP.start F (vs.map .fz)))
    | none => .bad) := by
  show (match P.fn f with
    | some F => (match bindA F as [] [] with
      | some vs => outR (execs F.body (P.gx n) (MP.start F (vs.map .fz)))
      | none => .bad)
    | none => .bad) = _
  rw [h]
@[simp] theorem outR_rt (o : OD) (Γ : List OD) : outR (.ok (.rt o) Γ) = .ok o := nr rfl
@[simp] theorem outR_ex (c : Nat) (p : Option D) (Γ : List OD) : outR (.ex c p Γ) = .ex c p := nr rfl
@[simp] theorem outR_nx (Γ : List OD) : outR (.ok .nx Γ) = .ok (.fz .non) := nr rfl
@[simp] theorem seq_ite (c : Prop) [Decidable c] (a b : XR) (f : List OD → XR) : (if c then a else b).seq f = if c then a.seq f else b.seq f := by split <;> rfl
@[simp] theorem outR_ite (c : Prop) [Decidable c] (a b : XR) : outR (if c then a else b) = if c then outR a else outR b := by split <;> rfl
@[simp] theorem retE_var (X : Fx) (i : Nat) (Γ : List OD) : retE X (.var i) Γ = varD Γ[i]? true := nr rfl
end MP
namespace MP
theorem forL_nil (body : List OD → XR) (t : T) (Γ : List OD) : forL body t [] Γ = .ok .nx Γ := by unfold forL; rfl
theorem forL_cons (body : List OD → XR) (i : Nat) (d : D) (ds : List D) (Γ : List OD) (h : i < Γ.length) : forL body (.n i) (d :: ds) Γ = (match body (Γ.set i (.fz d)) with
    | .ok .nx Γ2 => forL body (.n i) ds Γ2
    | .ok .ct Γ2 => forL body (.n i) ds Γ2
    | .ok .bk Γ2 => .ok .nx Γ2
    | r => r) := by
  rw [forL]
  unfold setT
  rw [if_pos h]
  rfl
@[simp] theorem bm_bits (i : Int) : bmD .bitlen (.int i) [] = .ok (.fz (.int (bitLen i))) := nr rfl
end MP
namespace MP
@[simp] theorem blt_abs' (i : Int) : bltD .abs [.int i] = .ok (.fz (.int (i.natAbs : Int))) := by
  show (R.ok (OD.fz (D.int (if i < 0 then -i else i))) : R OD) = _
  congr 3
  split <;> omega
@[simp] theorem blt_int' (i : Int) : bltD .int [.int i] = .ok (.fz (.int i)) := nr rfl
@[simp] theorem blt_intb (b : Bool) : bltD .int [.bl b] = .ok (.fz (.int (b2i b))) := nr rfl
@[simp] theorem blt_gcd' (i j : Int) : bltD .gcd [.int i, .int j] = .ok (.fz (.int (Nat.gcd i.natAbs j.natAbs : Nat))) := nr rfl
@[simp] theorem blt_len_t (ds : List D) : bltD .len [.tup ds] = .ok (.fz (.int ds.length)) := nr rfl
@[simp] theorem blt_len_l (ds : List D) : bltD .len [.lst ds] = .ok (.fz (.int ds.length)) := nr rfl
@[simp] theorem blt_len_s (ns : List Int) : bltD .len [.scr ns] = .ok (.fz (.int ns.length)) := nr rfl
@[simp] theorem blt_list_l (ds : List D) : bltD .list [.lst ds] = .ok (.own ds) := nr rfl
@[simp] theorem blt_list_t (ds : List D) : bltD .list [.tup ds] = .ok (.own ds) := nr rfl
@[simp] theorem blt_tuple_l (ds : List D) : bltD .tuple [.lst ds] = .ok (.fz (.tup ds)) := nr rfl
@[simp] theorem blt_tuple_t (ds : List D) : bltD .tuple [.tup ds] = .ok (.fz (.tup ds)) := nr rfl
@[simp] theorem itemsR_l (ds : List D) : itemsR (.ok (.lst ds)) = .ok ds := nr rfl
@[simp] theorem itemsR_t (ds : List D) : itemsR (.ok (.tup ds)) = .ok ds := nr rfl
@[simp] theorem any_1 : Blt.anyhow .len = true := nr rfl
@[simp] theorem any_2 : Blt.anyhow .abs = true := nr rfl
@[simp] theorem any_3 : Blt.anyhow .int = true := nr rfl
@[simp] theorem any_4 : Blt.anyhow .list = true := nr rfl
@[simp] theorem any_5 : Blt.anyhow .tuple = true := nr rfl
theorem rng1 {n : Int} (h : smallI n = true) : rngD [.int n] = .ok (.fz (.lst (rangeI 0 n))) := by simp only [rngD, h, if_true]
theorem rng2 {m n : Int} (h : smallI m = true) (h2 : smallI n = true) : rngD [.int m, .int n] = .ok (.fz (.lst (rangeI m n))) := by simp only [rngD, h, h2, Bool.and_self, if_true]
theorem exec_forr (X : Gx) (hc : X.calm = true) (t : T) (it : E) (b : List S) (Γ : List OD) : exec (.forr t it b) X Γ = liftR (itemsR (frz (ev X.toFx it Γ false))) Γ fun ds => forL (fun Γ => execs b X Γ) t ds Γ := by
  unfold exec
  simp only [hc, Bool.true_eq_false, if_false]
theorem execs_cons (s : S) (ss : List S) (X : Gx) (Γ : List OD) : execs (s :: ss) X Γ = (exec s X Γ).seq fun Γ' => execs ss X Γ' := by rw [execs]
theorem execs_nil (X : Gx) (Γ : List OD) : execs [] X Γ = .ok .nx Γ := by rw [execs]
end MP
namespace MP
theorem for_rng1 {X : Gx} (hc : X.calm = true) {t : T} {e : E} {b : List S} {Γ : List OD} {m : Int} {r : XR} (he : (evOs X.toFx [e] Γ) = .ok [.int m]) (sm : smallI m = true) (h : forL (fun Γ => execs b X Γ) t (rangeI 0 m) Γ = r) : exec (.forr t (.rng [e]) b) X Γ = r := by
  rw [exec_forr _ hc]
  have : ev X.toFx (.rng [e]) Γ false = .ok (.fz (.lst (rangeI 0 m))) := by
    rw [ev, he, R.bind_ok, rng1 sm, hc]
    rfl
  rw [this]
  exact h
theorem for_seq {X : Gx} (hc : X.calm = true) {t : T} {e : E} {b : List S} {Γ : List OD} {d : D} {ds : List D} {r : XR} (he : frz (ev X.toFx e Γ false) = .ok d) (hd : d.items = some ds) (h : forL (fun Γ => execs b X Γ) t ds Γ = r) : exec (.forr t e b) X Γ = r := by
  rw [exec_forr _ hc, he]
  unfold itemsR
  rw [R.bind_ok, hd]
  exact h
end MP
namespace MP
@[simp] theorem isT_n (i : Nat) : (T.n i).isT = false := nr rfl
@[simp] theorem isT_t (ts : List T) : (T.t ts).isT = true := nr rfl
@[simp] theorem noXvR_ok (x : Option Nat) (f : Fl) (Γ : List OD) : noXvR x (.ok f Γ) = if (clrAt x Γ).all noXv && flNoXv f then .ok f (clrAt x Γ) else .bad := nr rfl
@[simp] theorem clrAt_s (i : Nat) (Γ : List OD) : clrAt (some i) Γ = Γ.set i .un := nr rfl
@[simp] theorem clrAt_n (Γ : List OD) : clrAt none Γ = Γ := nr rfl
@[simp] theorem noXv_fz (d : D) : noXv (.fz d) = true := nr rfl
@[simp] theorem noXv_own (d : List D) : noXv (.own d) = true := nr rfl
@[simp] theorem noXv_own2 (p : Bool) (d : List (Bool × List D)) : noXv (.own2 p d) = true := nr rfl
@[simp] theorem noXv_un : noXv .un = true := nr rfl
@[simp] theorem fl_nx : flNoXv .nx = true := nr rfl
@[simp] theorem fl_rt (o : OD) : flNoXv (.rt o) = noXv o := nr rfl
end MP

end

section
set_option linter.all false
set_option maxRecDepth 100000
/-! Equations that are not taken for definitional ones (a proof by simp stays cheap for the kernel). -/
namespace MP
section
variable (X : Fx) (Γ : List OD) (pk : Bool)
theorem q_int (i : Int) : ev X (.int i) Γ pk = .ok (.fz (.int i)) := by rw [ev]
theorem q_bl (i : Bool) : ev X (.bl i) Γ pk = .ok (.fz (.bl i)) := by rw [ev]
theorem q_non : ev X .non Γ pk = .ok (.fz .non) := by rw [ev]
theorem q_str (i : List Nat) : ev X (.str i) Γ pk = .ok (.fz (.str i)) := by rw [ev]
theorem q_var (i : Nat) : ev X (.var i) Γ pk = varD Γ[i]? pk := by rw [ev]
theorem q_glob (g : Nat) : ev X (.glob g) Γ pk = R.ofO ((X.gv g).map .fz) := by rw [ev]
theorem q_bin (op : Bop) (a b : E) : ev X (.bin op a b) Γ pk = (oper (isPath a) (ev X a Γ true)).bind fun x => (oper (isPath b) (ev X b Γ true)).bind fun y => binD op x y := by rw [ev]
theorem q_neg (a : E) : ev X (.neg a) Γ pk = (asI (oper (isPath a) (ev X a Γ true))).bind fun i => .ok (.fz (.int (-i))) := by rw [ev]
theorem q_not (a : E) : ev X (.notE a) Γ pk = (tru (ev X a Γ true)).bind fun b => .ok (.fz (.bl (!b))) := by rw [ev]
theorem q_cmp (op : Cop) (a b : E) : ev X (.cmp op a b) Γ pk = (argm (isPath a) (ev X a Γ true)).bind fun x => (argm (isPath b) (ev X b Γ true)).bind fun y => cmpD op x.1 y.1 := by rw [ev]
theorem q_isB (a : E) (b yes : Bool) : ev X (.isB a b yes) Γ pk = (argm (isPath a) (ev X a Γ true)).bind fun x => .ok (.fz (.bl (x.1.isBl b == yes))) := by rw [ev]
theorem q_isN (a : E) (yes : Bool) : ev X (.isN a yes) Γ pk = (argm (isPath a) (ev X a Γ true)).bind fun x => .ok (.fz (.bl (x.1.isNon == yes))) := by rw [ev]
theorem q_and (a b : E) : ev X (.andE a b) Γ pk = (asB (ev X a Γ true)).bind fun c => if c then (asB (ev X b Γ true)).bind fun d => .ok (.fz (.bl d)) else .ok (.fz (.bl false)) := by rw [ev]
theorem q_or (a b : E) : ev X (.orE a b) Γ pk = (asB (ev X a Γ true)).bind fun c => if c then .ok (.fz (.bl true)) else (asB (ev X b Γ true)).bind fun d => .ok (.fz (.bl d)) := by rw [ev]
theorem q_one (a : E) : ev X (.one a) Γ pk = (asB (ev X a Γ true)).bind fun b => .ok (.fz (.bl b)) := by rw [ev]
theorem q_tup (es : List E) : ev X (.tup es) Γ pk = (evF X es Γ).bind fun ds => .ok (.fz (.tup ds)) := by rw [ev]
theorem q_sub (a i : E) : ev X (.sub a i) Γ pk = (ev X a Γ true).bind fun o => (asI (oper (isPath i) (ev X i Γ true))).bind fun j => subD pk (isPath a) o j := by rw [ev]
theorem q_call (hc : X.calm = true) (f : Nat) (es : List E) : ev X (.call f es [] []) Γ pk = (evAs X es Γ).bind fun as => lent as (X.call f (as.map (·.1)) [] []) := by
  rw [ev]
  simp only [evAs, R.bind_ok, List.append_nil, List.map_nil]
theorem q_os0 : evOs X [] Γ = .ok [] := by rw [evOs]
theorem q_os1 (e : E) (es : List E) : evOs X (e :: es) Γ = (oper (isPath e) (ev X e Γ true)).bind fun d => (evOs X es Γ).bind fun ds => .ok (d :: ds) := by rw [evOs]
theorem q_as0 : evAs X [] Γ = .ok [] := by rw [evAs]
theorem q_as1 (e : E) (es : List E) : evAs X (e :: es) Γ = (argm (isPath e) (ev X e Γ true)).bind fun d => (evAs X es Γ).bind fun ds => .ok (d :: ds) := by rw [evAs]
theorem q_f0 : evF X [] Γ = .ok [] := by rw [evF]
theorem q_f1 (e : E) (es : List E) : evF X (e :: es) Γ = (frz (ev X e Γ false)).bind fun d => (evF X es Γ).bind fun ds => .ok (d :: ds) := by rw [evF]
end
section
variable (X : Gx) (Γ : List OD)
theorem w_asg (i : Nat) (e : E) (h : X.calm = true) : exec (.asg (.n i) e) X Γ = liftR (ev X.toFx e Γ false) Γ fun o => liftO (setT (.n i) o Γ) fun Γ' => .ok .nx Γ' := by
  rw [exec]
  simp
theorem w_asgT (ts : List T) (e : E) (h : X.calm = true) : exec (.asg (.t ts) e) X Γ = liftR (ev X.toFx e Γ false) Γ fun o => liftO (setT (.t ts) o Γ) fun Γ' => .ok .nx Γ' := by
  rw [exec]
  simp [h]
theorem w_retV (i : Nat) : exec (.ret (.var i)) X Γ = liftR (varD Γ[i]? true) Γ fun o => .ok (.rt o) Γ := by
  rw [exec]
  rfl
theorem w_ret (e : E) (h : ∀ i, e ≠ .var i) : exec (.ret e) X Γ = liftR (ev X.toFx e Γ false) Γ fun o => .ok (.rt o) Γ := by
  rw [exec]
  unfold retE
  cases e <;> first | rfl | exact absurd rfl (h _)
theorem w_iff (c : E) (a b : List S) : exec (.iff c a b) X Γ = liftR (tru (ev X.toFx c Γ true)) Γ fun t => if t then execs a X Γ else execs b X Γ := by rw [exec]
end
/-- two statements, one after another -/
theorem seq_step {X : Gx} {Γ Γ' : List OD} {s : S} {ss : List S} {r : XR} (h : exec s X Γ = .ok .nx Γ') (h2 : execs ss X Γ' = r) : execs (s :: ss) X Γ = r := by
  rw [execs_cons, h, seq_nx, h2]
end MP

end

section
set_option linter.all false
namespace Fb
open MP
def b_ratio : List S := [(.iff (.cmp .eq (.var 1) (.int 0)) [(.rais 2 [(.str [116, 104, 101, 32, 98, 111, 116, 116, 111, 109, 32, 105, 115, 32, 122, 101, 114, 111])])] []), (.asg (.n 2) (.blt .gcd [(.var 0), (.var 1)])), (.iff (.cmp .lt (.var 1) (.int 0)) [(.asg (.n 2) (.neg (.var 2)))] []), (.ret (.tup [(.bin .fdiv (.var 0) (.var 2)), (.bin .fdiv (.var 1) (.var 2))]))]
def f_ratio : Fn := ⟨2, 3, [(.int 1)], [], b_ratio⟩
abbrev n_ratio : Nat := 5
def b_is_ratio : List S := [(.ret (.andE (.cmp .gt (.sub (.var 0) (.int 1)) (.int 0)) (.one (.cmp .eq (.blt .gcd [(.sub (.var 0) (.int 0)), (.sub (.var 0) (.int 1))]) (.int 1)))))]
def f_is_ratio : Fn := ⟨1, 1, [], [], b_is_ratio⟩
abbrev n_is_ratio : Nat := 6
def b_plus : List S := [(.iff (.cmp .eq (.sub (.var 0) (.int 1)) (.sub (.var 1) (.int 1))) [(.ret (.call 5 [(.bin .add (.sub (.var 0) (.int 0)) (.sub (.var 1) (.int 0))), (.sub (.var 0) (.int 1))] [] []))] []), (.ret (.call 5 [(.bin .add (.bin .mul (.sub (.var 0) (.int 0)) (.sub (.var 1) (.int 1))) (.bin .mul (.sub (.var 1) (.int 0)) (.sub (.var 0) (.int 1)))), (.bin .mul (.sub (.var 0) (.int 1)) (.sub (.var 1) (.int 1)))] [] []))]
def f_plus : Fn := ⟨2, 2, [], [], b_plus⟩
abbrev n_plus : Nat := 7
def b_minus : List S := [(.ret (.call 7 [(.var 0), (.tup [(.neg (.sub (.var 1) (.int 0))), (.sub (.var 1) (.int 1))])] [] []))]
def f_minus : Fn := ⟨2, 2, [], [], b_minus⟩
abbrev n_minus : Nat := 8
def b_times : List S := [(.ret (.call 5 [(.bin .mul (.sub (.var 0) (.int 0)) (.sub (.var 1) (.int 0))), (.bin .mul (.sub (.var 0) (.int 1)) (.sub (.var 1) (.int 1)))] [] []))]
def f_times : Fn := ⟨2, 2, [], [], b_times⟩
abbrev n_times : Nat := 9
def b_over : List S := [(.iff (.cmp .eq (.sub (.var 1) (.int 0)) (.int 0)) [(.rais 2 [(.str [100, 105, 118, 105, 115, 105, 111, 110, 32, 98, 121, 32, 122, 101, 114, 111])])] []), (.ret (.call 5 [(.bin .mul (.sub (.var 0) (.int 0)) (.sub (.var 1) (.int 1))), (.bin .mul (.sub (.var 0) (.int 1)) (.sub (.var 1) (.int 0)))] [] []))]
def f_over : Fn := ⟨2, 2, [], [], b_over⟩
abbrev n_over : Nat := 10
def b_compare : List S := [(.asg (.n 2) (.bin .sub (.bin .mul (.sub (.var 0) (.int 0)) (.sub (.var 1) (.int 1))) (.bin .mul (.sub (.var 1) (.int 0)) (.sub (.var 0) (.int 1))))), (.iff (.cmp .lt (.var 2) (.int 0)) [(.ret (.neg (.int 1)))] []), (.ret (.blt .int [(.cmp .gt (.var 2) (.int 0))]))]
def f_compare : Fn := ⟨2, 3, [], [], b_compare⟩
abbrev n_compare : Nat := 11
def b_total_1 : List S := [(.asg (.n 1) (.call 7 [(.var 1), (.var 2)] [] []))]
def b_total : List S := [(.asg (.n 1) (.glob 3)), (.forr (.n 2) (.var 0) b_total_1), (.ret (.var 1))]
def f_total : Fn := ⟨1, 3, [], [], b_total⟩
abbrev n_total : Nat := 12
def b_greatest_at_1 : List S := [(.asg (.n 7) (.call 7 [(.call 9 [(.var 5), (.var 1)] [] []), (.var 6)] [] [])), (.asg (.n 8) (.int 1)), (.iff (.isN (.var 2) false) [(.asg (.n 8) (.call 11 [(.var 7), (.var 2)] [] [])), (.iff (.cmp .eq (.var 8) (.int 0)) [(.asg (.n 8) (.call 11 [(.var 5), (.sub (.sub (.var 0) (.var 3)) (.int 0))] [] []))] [])] []), (.iff (.cmp .gt (.var 8) (.int 0)) [(.asg (.t [(.n 2), (.n 3)]) (.tup [(.var 7), (.var 4)]))] [])]
def b_greatest_at : List S := [(.ex (.call 167 [(.var 0)] [] [])), (.asg (.t [(.n 2), (.n 3)]) (.tup [.non, (.int 0)])), (.forr (.t [(.n 4), (.t [(.n 5), (.n 6)])]) (.enm (.var 0)) b_greatest_at_1), (.ret (.tup [(.var 2), (.var 3)]))]
def f_greatest_at : Fn := ⟨2, 9, [], [], b_greatest_at⟩
abbrev n_greatest_at : Nat := 168
def b_next_piece_1 : List S := [(.iff (.cmp .gt (.call 11 [(.var 7), (.var 2)] [] []) (.int 0)) [(.asg (.n 9) (.call 10 [(.call 8 [(.var 3), (.var 8)] [] []), (.call 8 [(.var 7), (.var 2)] [] [])] [] [])), (.asg (.n 10) (.neg (.int 1))), (.iff (.isN (.var 4) false) [(.asg (.n 10) (.call 11 [(.var 9), (.var 4)] [] [])), (.iff (.cmp .eq (.var 10) (.int 0)) [(.asg (.n 10) (.call 11 [(.sub (.sub (.var 0) (.var 5)) (.int 0)), (.var 7)] [] []))] [])] []), (.iff (.cmp .lt (.var 10) (.int 0)) [(.asg (.t [(.n 4), (.n 5)]) (.tup [(.var 9), (.var 6)]))] [])] [])]
def b_next_piece : List S := [(.asg (.t [(.n 2), (.n 3)]) (.sub (.var 0) (.var 1))), (.asg (.t [(.n 4), (.n 5)]) (.tup [.non, (.int 0)])), (.forr (.t [(.n 6), (.t [(.n 7), (.n 8)])]) (.enm (.var 0)) b_next_piece_1), (.iff (.isN (.var 4) true) [(.ret .non)] []), (.ret (.tup [(.var 4), (.var 5)]))]
def f_next_piece : Fn := ⟨2, 11, [], [], b_next_piece⟩
abbrev n_next_piece : Nat := 169
def b_bend_1 : List S := [(.app 1 (.var 2)), (.asg (.n 2) (.call 169 [(.var 0), (.sub (.var 2) (.int 1))] [] []))]
def b_bend : List S := [(.asg (.n 1) (.lst [(.tup [(.glob 3), (.sub (.call 168 [(.var 0), (.glob 3)] [] []) (.int 1))])])), (.asg (.n 2) (.call 169 [(.var 0), (.sub (.sub (.var 1) (.int 0)) (.int 1))] [] [])), (.whl (.isN (.var 2) false) b_bend_1), (.ret (.blt .tuple [(.var 1)]))]
def f_bend : Fn := ⟨1, 3, [], [], b_bend⟩
abbrev n_bend : Nat := 170
def b__law_shared_1 : List S := [(.iff (.cmp .eq (.var 1) (.int 0)) [(.ret (.var 0))] []), (.asg (.n 3) (.bin .mod (.blt .int [(.var 0)]) (.var 1))), (.asg (.n 0) (.var 1)), (.asg (.n 1) (.var 3))]
def b__law_shared : List S := [(.asg (.n 0) (.blt .abs [(.var 0)])), (.forr (.n 2) (.rng [(.bin .add (.bin .mul (.int 2) (.bm .bitlen (.blt .abs [(.var 1)]) [])) (.int 4))]) b__law_shared_1), (.ret (.int 0))]
def f__law_shared : Fn := ⟨2, 4, [], [], b__law_shared⟩
abbrev n__law_shared : Nat := 14
def b__law_low : List S := [(.asg (.n 2) (.call 14 [(.var 0), (.var 1)] [] [])), (.ret (.tup [(.bin .fdiv (.var 0) (.var 2)), (.bin .fdiv (.var 1) (.var 2))]))]
def f__law_low : Fn := ⟨2, 3, [], [], b__law_low⟩
abbrev n__law_low : Nat := 116
def b__law_is_whole : List S := [(.ret (.andE (.inst (.var 0) [.tint]) (.one (.notE (.inst (.var 0) [.tbool])))))]
def f__law_is_whole : Fn := ⟨1, 1, [], [], b__law_is_whole⟩
abbrev n__law_is_whole : Nat := 15
def b__law_is_ratio : List S := [(.iff (.orE (.notE (.inst (.var 0) [.ttuple])) (.one (.cmp .ne (.blt .len [(.var 0)]) (.int 2)))) [(.ret (.bl false))] []), (.iff (.orE (.notE (.call 15 [(.sub (.var 0) (.int 0))] [] [])) (.orE (.notE (.call 15 [(.sub (.var 0) (.int 1))] [] [])) (.one (.cmp .lt (.sub (.var 0) (.int 1)) (.int 1))))) [(.ret (.bl false))] []), (.ret (.cmp .eq (.call 14 [(.sub (.var 0) (.int 0)), (.sub (.var 0) (.int 1))] [] []) (.int 1)))]
def f__law_is_ratio : Fn := ⟨1, 1, [], [], b__law_is_ratio⟩
abbrev n__law_is_ratio : Nat := 44
def b__law_alike_1 : List S := [(.iff (.notE (.call 77 [(.sub (.var 0) (.var 2)), (.sub (.var 1) (.var 2))] [] [])) [(.ret (.bl false))] [])]
def b__law_alike : List S := [(.iff (.isN (.var 1) true) [(.ret (.isN (.var 0) true))] []), (.iff (.isB (.var 1) true true) [(.ret (.isB (.var 0) true true))] []), (.iff (.isB (.var 1) false true) [(.ret (.isB (.var 0) false true))] []), (.iff (.inst (.var 1) [.tint]) [(.ret (.andE (.call 15 [(.var 0)] [] []) (.one (.cmp .eq (.var 0) (.var 1)))))] []), (.iff (.inst (.var 1) [.tstr]) [(.ret (.andE (.inst (.var 0) [.tstr]) (.one (.cmp .eq (.var 0) (.var 1)))))] []), (.iff (.orE (.notE (.inst (.var 0) [.ttuple])) (.one (.cmp .ne (.blt .len [(.var 0)]) (.blt .len [(.var 1)])))) [(.ret (.bl false))] []), (.forr (.n 2) (.rng [(.blt .len [(.var 1)])]) b__law_alike_1), (.ret (.bl true))]
def f__law_alike : Fn := ⟨2, 3, [], [], b__law_alike⟩
abbrev n__law_alike : Nat := 77
def b__law_draws_1 : List S := [(.iff (.andE (.var 5) (.one (.cmp .gt (.var 4) (.int 0)))) [(.app 3 (.bin .mod (.blt .int [(.var 4)]) (.var 2))), (.asg (.n 4) (.bin .fdiv (.var 4) (.var 2)))] [(.asg (.n 7) (.bin .mod (.blt .int [(.bin .add (.bin .mul (.var 0) (.int 48271)) (.bin .mul (.bin .add (.var 6) (.int 1)) (.int 69621)))]) (.int 2147483647))), (.asg (.n 8) (.bin .mod (.blt .int [(.bin .add (.bin .mul (.var 0) (.int 16807)) (.bin .mul (.bin .add (.var 6) (.int 1)) (.int 40692)))]) (.int 2147483399))), (.app 3 (.bin .mod (.blt .int [(.bin .fdiv (.bin .mul (.var 7) (.var 8)) (.int 1009))]) (.var 2)))])]
def b__law_draws : List S := [(.asg (.n 3) (.lst [])), (.asg (.n 4) (.blt .abs [(.var 0)])), (.asg (.n 5) (.cmp .ge (.var 4) (.bin .pow (.int 10) (.int 18)))), (.forr (.n 6) (.rng [(.var 1)]) b__law_draws_1), (.ret (.var 3))]
def f__law_draws : Fn := ⟨3, 9, [], [], b__law_draws⟩
abbrev n__law_draws : Nat := 74
def b__law_less : List S := [(.ret (.cmp .lt (.bin .mul (.sub (.var 0) (.int 0)) (.sub (.var 1) (.int 1))) (.bin .mul (.sub (.var 1) (.int 0)) (.sub (.var 0) (.int 1)))))]
def f__law_less : Fn := ⟨2, 2, [], [], b__law_less⟩
abbrev n__law_less : Nat := 117
def b__law_same : List S := [(.ret (.cmp .eq (.bin .mul (.sub (.var 0) (.int 0)) (.sub (.var 1) (.int 1))) (.bin .mul (.sub (.var 1) (.int 0)) (.sub (.var 0) (.int 1)))))]
def f__law_same : Fn := ⟨2, 2, [], [], b__law_same⟩
abbrev n__law_same : Nat := 46
def b_check_lines : List S := [(.iff (.cmp .gt (.blt .len [(.var 0)]) (.glob 166)) [(.rais 24 [(.glob 166)])] []), (.iff (.cmp .eq (.blt .len [(.var 0)]) (.int 0)) [(.rais 62 [(.neg (.int 1))])] [])]
def f_check_lines : Fn := ⟨1, 1, [], [], b_check_lines⟩
abbrev n_check_lines : Nat := 167
end Fb

end

section
set_option linter.all false
set_option maxRecDepth 100000
/-! The ratios of the program, as rationals. -/
namespace Lr
open MP
theorem divOk_of {j : Int} (h : j ≠ 0) (h2 : j.natAbs < 2 ^ 8500) : divOk j = true := by
  unfold divOk
  rw [decide_eq_true h, Bool.true_and]
  refine decide_eq_true ?_
  have : j.natAbs.log2 < 8500 := (Nat.log2_lt (by omega)).mpr h2
  omega
theorem mulOk_of {i j : Int} {a b : Nat} (hi : i.natAbs < 2 ^ a) (hj : j.natAbs < 2 ^ b) (h : a + b < 1000000) : mulOk i j = true := by
  unfold mulOk
  have l : ∀ {k : Int} {c : Nat}, k.natAbs < 2 ^ c → k.natAbs.log2 ≤ c := by
    intro k c h
    by_cases z : k.natAbs = 0
    · rw [z]; simp
    · exact Nat.le_of_lt ((Nat.log2_lt z).mpr h)
  have h1 := l hi
  have h2 := l hj
  rw [Bool.or_eq_true]
  exact .inr (decide_eq_true (by omega))
theorem gcd_lt {t b : Int} (h : b ≠ 0) : t.natAbs.gcd b.natAbs ≤ b.natAbs := Nat.le_of_dvd (by omega) (Nat.gcd_dvd_right ..)
theorem lt_mul {i j : Int} {a b : Nat} (hi : i.natAbs < 2 ^ a) (hj : j.natAbs < 2 ^ b) : (i * j).natAbs < 2 ^ (a + b) := by
  rw [Int.natAbs_mul, Nat.pow_add]
  exact Nat.mul_lt_mul'' hi hj
theorem lt_add {i j : Int} {a : Nat} (hi : i.natAbs < 2 ^ a) (hj : j.natAbs < 2 ^ a) : (i + j).natAbs < 2 ^ (a + 1) := by
  rw [Nat.pow_succ]; omega
theorem lt_mono {i : Nat} {a b : Nat} (hi : i < 2 ^ a) (h : a ≤ b) : i < 2 ^ b := Nat.lt_of_lt_of_le hi (Nat.pow_le_pow_right (by decide) h)
/-- what ratio tells -/
structure IsR (p q t b : Int) : Prop where
  pos : 0 < q
  co : p.natAbs.gcd q.natAbs = 1
  eq : p * b = t * q
  lp : p.natAbs ≤ t.natAbs
  lq : q.natAbs ≤ b.natAbs
theorem isr_of {t b : Int} (hb : b ≠ 0) {s : Int} (hs : s = if b < 0 then -((t.natAbs.gcd b.natAbs : Nat) : Int) else ((t.natAbs.gcd b.natAbs : Nat) : Int)) : IsR (t.fdiv s) (b.fdiv s) t b := by
  have g0 : 0 < t.natAbs.gcd b.natAbs := Nat.gcd_pos_of_pos_right _ (by omega)
  obtain ⟨p, hp⟩ : (s ∣ t) := by
    have : ((t.natAbs.gcd b.natAbs : Nat) : Int) ∣ t := Int.ofNat_dvd_left.mpr (Nat.gcd_dvd_left ..)
    rw [hs]; split
    · exact Int.neg_dvd.mpr this
    · exact this
  obtain ⟨q, hq⟩ : (s ∣ b) := by
    have : ((t.natAbs.gcd b.natAbs : Nat) : Int) ∣ b := Int.ofNat_dvd_left.mpr (Nat.gcd_dvd_right ..)
    rw [hs]; split
    · exact Int.neg_dvd.mpr this
    · exact this
  have s0 : s ≠ 0 := by rw [hs]; split <;> omega
  have sa : s.natAbs = t.natAbs.gcd b.natAbs := by rw [hs]; split <;> simp
  have e1 : t.fdiv s = p := by rw [hp, Int.mul_comm]; exact Int.mul_fdiv_cancel _ s0
  have e2 : b.fdiv s = q := by rw [hq, Int.mul_comm]; exact Int.mul_fdiv_cancel _ s0
  rw [e1, e2]
  have tp : t.natAbs = s.natAbs * p.natAbs := by rw [hp, Int.natAbs_mul]
  have bq : b.natAbs = s.natAbs * q.natAbs := by rw [hq, Int.natAbs_mul]
  have s1 : 1 ≤ s.natAbs := by omega
  refine ⟨?_, ?_, ?_, ?_, ?_⟩
  · by_cases n : b < 0
    · rw [if_pos n] at hs
      have sn : s < 0 := by omega
      by_cases c : 0 < q
      · exact c
      · have : 0 ≤ s * q := Int.mul_nonneg_of_nonpos_of_nonpos (Int.le_of_lt sn) (by omega)
        omega
    · rw [if_neg n] at hs
      have sp : 0 < s := by omega
      by_cases c : 0 < q
      · exact c
      · have : s * q ≤ 0 := Int.mul_nonpos_of_nonneg_of_nonpos (Int.le_of_lt sp) (by omega)
        omega
  · have : t.natAbs.gcd b.natAbs = s.natAbs * (p.natAbs.gcd q.natAbs) := by rw [tp, bq, Nat.gcd_mul_left]
    rw [← sa] at this
    have h := Nat.eq_of_mul_eq_mul_left (by omega : 0 < s.natAbs) (show s.natAbs * (p.natAbs.gcd q.natAbs) = s.natAbs * 1 by omega)
    exact h
  · rw [hp, hq]
    rw [Int.mul_comm s q, ← Int.mul_assoc, Int.mul_comm (p * q) s, Int.mul_assoc s p q]
  · rw [tp]; exact Nat.le_mul_of_pos_left _ (by omega)
  · rw [bq]; exact Nat.le_mul_of_pos_left _ (by omega)
/-- a ratio as data -/
def rr (x : Rat) : D := .tup [.int x.num, .int (x.den : Int)]
theorem IsR.rat {p q t b : Int} (h : IsR p q t b) (hb : b ≠ 0) : p = (Rat.divInt t b).num ∧ q = ((Rat.divInt t b).den : Int) := by
  have hq := h.pos
  have nz : q.toNat ≠ 0 := by omega
  have cop : p.natAbs.Coprime q.toNat := by
    have := h.co
    rwa [show q.natAbs = q.toNat by omega] at this
  have e : (⟨p, q.toNat, nz, cop⟩ : Rat) = Rat.divInt t b := by
    rw [Rat.mk_eq_divInt, Rat.divInt_eq_divInt_iff (by omega) hb, Int.toNat_of_nonneg (by omega)]
    exact h.eq
  rw [← e]
  exact ⟨rfl, by show q = ((q.toNat : Nat) : Int); omega⟩
theorem IsR.rr {p q t b : Int} (h : IsR p q t b) (hb : b ≠ 0) : (.tup [.int p, .int q] : D) = rr (Rat.divInt t b) := by
  obtain ⟨h1, h2⟩ := h.rat hb
  unfold Lr.rr
  rw [← h1, ← h2]
/-- no more than k binary digits above and below -/
def Bd (k : Nat) (x : Rat) : Prop := x.num.natAbs < 2 ^ k ∧ x.den < 2 ^ k
theorem Bd.mono {a b : Nat} {x : Rat} (h : Bd a x) (l : a ≤ b) : Bd b x := ⟨lt_mono h.1 l, lt_mono h.2 l⟩
theorem bd_div {t b : Int} {k : Nat} (hb : b ≠ 0) (h1 : t.natAbs < 2 ^ k) (h2 : b.natAbs < 2 ^ k) : Bd k (Rat.divInt t b) := by
  have h := isr_of (t := t) hb rfl
  obtain ⟨e1, e2⟩ := h.rat hb
  refine ⟨?_, ?_⟩
  · rw [← e1]; exact Nat.lt_of_le_of_lt h.lp h1
  · have : (Rat.divInt t b).den = (b.fdiv (if b < 0 then -((t.natAbs.gcd b.natAbs : Nat) : Int) else ((t.natAbs.gcd b.natAbs : Nat) : Int))).natAbs := by omega
    rw [this]
    exact Nat.lt_of_le_of_lt h.lq h2
theorem den_pos (x : Rat) : 0 < (x.den : Int) := by have := x.den_pos; omega
theorem add_eq (x y : Rat) : x + y = Rat.divInt (x.num * y.den + y.num * x.den) (x.den * y.den) := by
  rw [Rat.add_def', ← Rat.divInt_ofNat, Int.natCast_mul]
theorem mul_eq (x y : Rat) : x * y = Rat.divInt (x.num * y.num) (x.den * y.den) := by
  rw [Rat.mul_def', ← Rat.divInt_ofNat, Int.natCast_mul]
theorem sub_eq (x y : Rat) : x - y = Rat.divInt (x.num * y.den - y.num * x.den) (x.den * y.den) := by
  rw [Rat.sub_def', ← Rat.divInt_ofNat, Int.natCast_mul]
theorem Bd.add {a b : Nat} {x y : Rat} (h1 : Bd a x) (h2 : Bd b y) : Bd (a + b + 1) (x + y) := by
  rw [add_eq]
  refine bd_div (Int.mul_ne_zero (by have := den_pos x; omega) (by have := den_pos y; omega)) ?_ ?_
  · refine lt_add (lt_mul h1.1 (by exact h2.2)) ?_
    rw [Nat.add_comm a b]
    exact lt_mul h2.1 (by exact h1.2)
  · refine lt_mono (a := a + b) ?_ (by omega)
    exact lt_mul (by exact h1.2) (by exact h2.2)
theorem Bd.neg {a : Nat} {x : Rat} (h : Bd a x) : Bd a (-x) := ⟨by rw [Rat.neg_num, Int.natAbs_neg]; exact h.1, by rw [Rat.neg_den]; exact h.2⟩
theorem Bd.sub {a b : Nat} {x y : Rat} (h1 : Bd a x) (h2 : Bd b y) : Bd (a + b + 1) (x - y) := by
  rw [Rat.sub_eq_add_neg]
  exact h1.add h2.neg
theorem Bd.mul {a b : Nat} {x y : Rat} (h1 : Bd a x) (h2 : Bd b y) : Bd (a + b) (x * y) := by
  rw [mul_eq]
  exact bd_div (Int.mul_ne_zero (by have := den_pos x; omega) (by have := den_pos y; omega)) (lt_mul h1.1 h2.1) (lt_mul (by exact h1.2) (by exact h2.2))
theorem div_eq (x y : Rat) (h : y ≠ 0) : x / y = Rat.divInt (x.num * y.den) (x.den * y.num) := by
  rw [Rat.div_def, Rat.inv_def]
  conv => lhs; rw [← Rat.num_divInt_den x]
  rw [Rat.divInt_mul_divInt]
theorem Bd.div {a b : Nat} {x y : Rat} (h1 : Bd a x) (h2 : Bd b y) (h : y ≠ 0) : Bd (a + b) (x / y) := by
  rw [div_eq x y h]
  have : y.num ≠ 0 := fun z => h (Rat.num_eq_zero.mp z)
  exact bd_div (Int.mul_ne_zero (by have := den_pos x; omega) this) (lt_mul h1.1 (by exact h2.2)) (lt_mul (by exact h1.2) h2.1)
/-- the ratios' defs are there -/
structure HasR (P : MP.Prog) : Prop where
  ratio : P.fn 5 = some Fb.f_ratio
  plus : P.fn 7 = some Fb.f_plus
  times : P.fn 9 = some Fb.f_times
  compare : P.fn 11 = some Fb.f_compare
  bad : P.xf 2 = none
section
abbrev K (P : MP.Prog) (n f : Nat) (as : List D) : MP.R OD := (P.gx n).call f as [] []
variable {P : MP.Prog} (hR : HasR P)
include hR
theorem ratio_ok (n : Nat) {t b : Int} (hb : b ≠ 0) (h2 : b.natAbs < 2 ^ 8500) : K P (n + 1) 5 [.int t, .int b] = .ok (.fz (rr (Rat.divInt t b))) := by
  have g1 := gcd_lt (t := t) hb
  have g0 : 0 < t.natAbs.gcd b.natAbs := Nat.gcd_pos_of_pos_right _ (by omega)
  rw [← (isr_of (t := t) hb rfl).rr hb]
  unfold K
  rw [call_succ hR.ratio]
  have d1 : divOk ((t.natAbs.gcd b.natAbs : Nat) : Int) = true := divOk_of (by omega) (by omega)
  have d2 : divOk (-((t.natAbs.gcd b.natAbs : Nat) : Int)) = true := divOk_of (by omega) (by rw [Int.natAbs_neg]; omega)
  by_cases hn : b < 0
  · simp [bindA, Fb.f_ratio, MP.start, Fb.b_ratio, execs, exec, ev, evOs, evF, evAs, retE, isPath, bltD, gcdD, hb, hn, bin_fdiv d1, bin_fdiv d2]
  · simp [bindA, Fb.f_ratio, MP.start, Fb.b_ratio, execs, exec, ev, evOs, evF, evAs, retE, isPath, bltD, gcdD, hb, hn, bin_fdiv d1, bin_fdiv d2]
theorem ratio_bad (n : Nat) (t : Int) : K P (n + 1) 5 [.int t, .int 0] = .ex 2 none := by
  unfold K
  rw [call_succ hR.ratio]
  simp [bindA, Fb.f_ratio, MP.start, Fb.b_ratio, execs, exec, ev, evOs, evF, evAs, retE, isPath, bltD, gcdD, hR.bad]
theorem plus_ok (n : Nat) {x y : Rat} (h1 : Bd 4000 x) (h2 : Bd 4000 y) : K P (n + 2) 7 [rr x, rr y] = .ok (.fz (rr (x + y))) := by
  have b1 := h1.1; have b2 : (x.den : Int).natAbs < 2 ^ 4000 := h1.2; have b3 := h2.1; have b4 : (y.den : Int).natAbs < 2 ^ 4000 := h2.2
  have p1 := den_pos x; have p2 := den_pos y
  have m1 : mulOk x.num y.den = true := mulOk_of b1 b4 (by omega)
  have m2 : mulOk y.num x.den = true := mulOk_of b3 b2 (by omega)
  have m3 : mulOk x.den y.den = true := mulOk_of b2 b4 (by omega)
  have q0 : (x.den : Int) * y.den ≠ 0 := Int.mul_ne_zero (by omega) (by omega)
  by_cases e : x.den = y.den
  · have hr := ratio_ok hR n (t := x.num + y.num) (b := x.den) (by omega) (lt_mono b2 (by omega))
    have e2 : x + y = Rat.divInt (x.num + y.num) x.den := by
      rw [add_eq, ← e, ← Int.add_mul]
      exact Rat.divInt_mul_right (by omega)
    rw [e2]
    unfold K rr at *
    rw [call_succ hR.plus]
    simp [bindA, Fb.f_plus, MP.start, Fb.b_plus, execs, exec, ev, evOs, evF, evAs, retE, isPath, hr, ← e]
  · have hr := ratio_ok hR n (t := x.num * y.den + y.num * x.den) (b := x.den * y.den) q0 (lt_mono (lt_mul b2 b4) (by omega))
    rw [add_eq]
    have e' : ¬ ((x.den : Int) = (y.den : Int)) := by omega
    unfold K rr at *
    rw [call_succ hR.plus]
    simp [bindA, Fb.f_plus, MP.start, Fb.b_plus, execs, exec, ev, evOs, evF, evAs, retE, isPath, hr, e', bin_mul m1, bin_mul m2, bin_mul m3]
theorem minus_ok (h8 : P.fn 8 = some Fb.f_minus) (n : Nat) {x y : Rat} (h1 : Bd 4000 x) (h2 : Bd 4000 y) : K P (n + 3) 8 [rr x, rr y] = .ok (.fz (rr (x - y))) := by
  have hr := plus_ok hR n h1 h2.neg
  rw [Rat.sub_eq_add_neg]
  unfold K rr at *
  rw [call_succ h8]
  rw [Rat.neg_num, Rat.neg_den] at hr
  simp [bindA, Fb.f_minus, MP.start, Fb.b_minus, execs, exec, ev, evOs, evF, evAs, retE, isPath, hr]
theorem times_ok (n : Nat) {x y : Rat} (h1 : Bd 4000 x) (h2 : Bd 4000 y) : K P (n + 2) 9 [rr x, rr y] = .ok (.fz (rr (x * y))) := by
  have b1 := h1.1; have b2 : (x.den : Int).natAbs < 2 ^ 4000 := h1.2; have b3 := h2.1; have b4 : (y.den : Int).natAbs < 2 ^ 4000 := h2.2
  have p1 := den_pos x; have p2 := den_pos y
  have q0 : (x.den : Int) * y.den ≠ 0 := Int.mul_ne_zero (by omega) (by omega)
  have m1 : mulOk x.num y.num = true := mulOk_of b1 b3 (by omega)
  have m3 : mulOk x.den y.den = true := mulOk_of b2 b4 (by omega)
  have hr := ratio_ok hR n (t := x.num * y.num) (b := x.den * y.den) q0 (lt_mono (lt_mul b2 b4) (by omega))
  rw [mul_eq]
  unfold K rr at *
  rw [call_succ hR.times]
  simp [bindA, Fb.f_times, MP.start, Fb.b_times, execs, exec, ev, evOs, evF, evAs, retE, isPath, hr, bin_mul m1, bin_mul m3]
theorem over_ok (h10 : P.fn 10 = some Fb.f_over) (n : Nat) {x y : Rat} (h1 : Bd 4000 x) (h2 : Bd 4000 y) (h : y ≠ 0) : K P (n + 2) 10 [rr x, rr y] = .ok (.fz (rr (x / y))) := by
  have b1 := h1.1; have b2 : (x.den : Int).natAbs < 2 ^ 4000 := h1.2; have b3 := h2.1; have b4 : (y.den : Int).natAbs < 2 ^ 4000 := h2.2
  have p1 := den_pos x; have p2 := den_pos y
  have n0 : y.num ≠ 0 := fun z => h (Rat.num_eq_zero.mp z)
  have q0 : (x.den : Int) * y.num ≠ 0 := Int.mul_ne_zero (by omega) n0
  have m1 : mulOk x.num y.den = true := mulOk_of b1 b4 (by omega)
  have m3 : mulOk x.den y.num = true := mulOk_of b2 b3 (by omega)
  have hr := ratio_ok hR n (t := x.num * y.den) (b := x.den * y.num) q0 (lt_mono (lt_mul b2 b3) (by omega))
  rw [div_eq x y h]
  unfold K rr at *
  rw [call_succ h10]
  simp [bindA, Fb.f_over, MP.start, Fb.b_over, execs, exec, ev, evOs, evF, evAs, retE, isPath, hr, n0, bin_mul m1, bin_mul m3]
theorem over_bad (h10 : P.fn 10 = some Fb.f_over) (n : Nat) {x : Rat} : K P (n + 1) 10 [rr x, rr 0] = .ex 2 none := by
  unfold K rr
  rw [call_succ h10]
  simp [bindA, Fb.f_over, MP.start, Fb.b_over, execs, exec, ev, evOs, evF, evAs, retE, isPath, hR.bad]
/-- -1, 0, 1 -/
def cmpv (x y : Rat) : Int := if x < y then -1 else if y < x then 1 else 0
theorem compare_ok (n : Nat) {x y : Rat} (h1 : Bd 4000 x) (h2 : Bd 4000 y) : K P (n + 1) 11 [rr x, rr y] = .ok (.fz (.int (cmpv x y))) := by
  have b1 := h1.1; have b2 : (x.den : Int).natAbs < 2 ^ 4000 := h1.2; have b3 := h2.1; have b4 : (y.den : Int).natAbs < 2 ^ 4000 := h2.2
  have m1 : mulOk x.num y.den = true := mulOk_of b1 b4 (by omega)
  have m2 : mulOk y.num x.den = true := mulOk_of b3 b2 (by omega)
  have l1 : x < y ↔ x.num * y.den - y.num * x.den < 0 := by rw [Rat.lt_iff]; omega
  have l2 : y < x ↔ 0 < x.num * y.den - y.num * x.den := by rw [Rat.lt_iff]; omega
  unfold K rr cmpv
  rw [call_succ hR.compare]
  by_cases h : x.num * y.den - y.num * x.den < 0
  · rw [if_pos (l1.mpr h)]
    simp [bindA, Fb.f_compare, MP.start, Fb.b_compare, execs, exec, ev, evOs, evF, evAs, retE, isPath, bin_mul m1, bin_mul m2, h, bltD, intD, b2i]
  · rw [if_neg (fun z => h (l1.mp z))]
    simp only [l2]
    simp [bindA, Fb.f_compare, MP.start, Fb.b_compare, execs, exec, ev, evOs, evF, evAs, retE, isPath, bin_mul m1, bin_mul m2, h, bltD, intD, b2i]
end
end Lr

end

section
set_option linter.all false
set_option maxRecDepth 100000
/-! Helpers that the laws share. -/
namespace Lr
open MP
theorem atI_nat {α : Type} {xs : List α} {k : Nat} : atI xs (k : Int) = xs[k]? := by
  unfold atI ixN
  rw [if_pos (by omega)]
  by_cases h : k < xs.length
  · rw [if_pos (by omega)]; rfl
  · rw [if_neg (by omega)]
    simp only [Option.bind]
    rw [List.getElem?_eq_none (by omega)]
theorem at_last {α : Type} (xs : List α) (x : α) : atI (xs ++ [x]) (-1) = some x := by
  unfold atI ixN
  rw [if_neg (by decide), List.length_append, List.length_singleton, if_pos (by omega)]
  simp only [Option.bind]
  have : (-1 + ((xs.length + 1 : Nat) : Int)).toNat = xs.length := by omega
  rw [this]
  simp
theorem app_own (Γ : List OD) (i : Nat) (ds : List D) (d : D) (h : Γ[i]? = some (.own ds)) (hl : ds.length < line) : appAt Γ i (.fz d) = some (Γ.set i (.own (ds ++ [d]))) := by
  unfold appAt
  rw [h]
  simp only [if_pos hl]
  rfl
theorem fmod_bd (x : Int) {m : Int} (h : 0 < m) : 0 ≤ x.fmod m ∧ x.fmod m < m := by
  rw [Int.fmod_eq_emod_of_nonneg _ (by omega)]
  exact ⟨Int.emod_nonneg _ (by omega), Int.emod_lt_of_pos _ h⟩
theorem rangeI_nat (m : Nat) : rangeI 0 (m : Int) = (List.range m).map fun (k : Nat) => D.int (k : Int) := by
  unfold rangeI
  rw [show ((m : Int) - 0).toNat = m by omega]
  congr 1
  funext k
  rw [Int.zero_add]
theorem smallI_nat {m : Nat} (h : m ≤ 1000000) : smallI (m : Int) = true := by
  unfold smallI
  simp
  omega
theorem for_rngN {X : Gx} (hc : X.calm = true) {t : T} {e : E} {b : List S} {Γ : List OD} {m : Nat} {r : XR} (he : (evOs X.toFx [e] Γ) = .ok [.int (m : Int)]) (hm : m ≤ 1000000) (h : forL (fun Γ => execs b X Γ) t ((List.range m).map fun (k : Nat) => D.int (k : Int)) Γ = r) : exec (.forr t (.rng [e]) b) X Γ = r := by
  rw [← rangeI_nat] at h
  exact for_rng1 hc he (smallI_nat hm) h
section
variable {P : MP.Prog}
theorem whole_int (h : P.fn 15 = some Fb.f__law_is_whole) (n : Nat) (i : Int) : K P (n + 1) 15 [.int i] = .ok (.fz (.bl true)) := by
  unfold K
  rw [call_succ h]
  simp [bindA, Fb.f__law_is_whole, MP.start, Fb.b__law_is_whole, execs, exec, ev, evOs, evF, evAs, retE, isPath, anyTy, isTy]
/-- one turn of Euclid's -/
theorem shared_turn (n : Nat) (a b : Int) (d : D) (y : OD) : execs Fb.b__law_shared_1 (P.gx n) [.fz (.int a), .fz (.int b), .fz d, y] = if b = 0 then .ok (.rt (.fz (.int a))) [.fz (.int a), .fz (.int b), .fz d, y] else
    .ok .nx [.fz (.int b), .fz (.int (a.fmod b)), .fz d, .fz (.int (a.fmod b))] := by
  by_cases h : b = 0
  · simp [Fb.b__law_shared_1, execs, exec, ev, evOs, isPath, h]
  · simp [Fb.b__law_shared_1, execs, exec, ev, evOs, isPath, h, bltD, intD, bin_mod h, Blt.anyhow]
theorem two_turns {b r L : Nat} (hr : 0 < r) (hb : r < b) (h : b < 2 ^ (L + 1)) : b % r < 2 ^ L := by
  have h1 := Nat.mod_lt b hr
  have h2 := Nat.mod_add_div b r
  have h3 : 1 ≤ b / r := Nat.div_pos (Nat.le_of_lt hb) hr
  have h4 : r * 1 ≤ r * (b / r) := Nat.mul_le_mul_left r h3
  rw [Nat.pow_succ] at h
  omega
theorem shared_loop (n : Nat) : ∀ (L : Nat) (l : List D) (a b : Nat) (x y : OD), b < 2 ^ L → 2 * L + 1 ≤ l.length →
    ∃ Γ, forL (fun Γ => execs Fb.b__law_shared_1 (P.gx n) Γ) (.n 2) l [.fz (.int a), .fz (.int b), x, y] = .ok (.rt (.fz (.int (a.gcd b : Nat)))) Γ
  | 0, [], a, b, x, y, h, hl => by simp at hl
  | 0, d :: l, a, b, x, y, h, hl => by
    have : b = 0 := by simpa using h
    subst this
    rw [forL_cons _ _ _ _ _ (by simp)]
    simp [shared_turn]
  | L + 1, [], a, b, x, y, h, hl => by simp at hl
  | L + 1, [_], a, b, x, y, h, hl => by simp at hl
  | L + 1, d :: d2 :: l, a, b, x, y, h, hl => by
    rw [forL_cons _ _ _ _ _ (by simp)]
    by_cases hb : b = 0
    · subst hb
      simp [shared_turn]
    · have hb' : ¬ ((b : Int) = 0) := by omega
      have e1 : ((a : Int).fmod (b : Int)) = ((a % b : Nat) : Int) := by rw [Int.fmod_eq_emod_of_nonneg _ (by omega)]; rfl
      simp only [List.set, shared_turn, hb', if_false, e1]
      rw [forL_cons _ _ _ _ _ (by simp)]
      by_cases hr : a % b = 0
      · have hr' : ((a % b : Nat) : Int) = 0 := by omega
        simp only [List.set, shared_turn, hr', if_true]
        have : a.gcd b = b := by rw [Nat.gcd_comm, Nat.gcd_rec, hr, Nat.gcd_zero_left]
        rw [this]
        exact ⟨_, rfl⟩
      · have hr' : ¬ (((a % b : Nat) : Int) = 0) := by omega
        have e2 : ((b : Int).fmod ((a % b : Nat) : Int)) = ((b % (a % b) : Nat) : Int) := by rw [Int.fmod_eq_emod_of_nonneg _ (by omega)]; rfl
        simp only [List.set, shared_turn, hr', if_false, e2]
        have lt := Nat.mod_lt a (by omega : 0 < b)
        obtain ⟨Γ, hΓ⟩ := shared_loop n L l (a % b) (b % (a % b)) (.fz d2) (.fz (.int (b % (a % b) : Nat))) (two_turns (by omega) lt h) (by simp at hl; omega)
        refine ⟨Γ, ?_⟩
        rw [hΓ]
        have g : a.gcd b = (a % b).gcd (b % (a % b)) := by
          rw [Nat.gcd_comm a b, Nat.gcd_rec b a, Nat.gcd_rec (a % b) b, Nat.gcd_comm]
        rw [g]
variable (hs : P.fn 14 = some Fb.f__law_shared)
include hs
theorem s5 (n : Nat) (a b L : Nat) (hL : bitLen (b : Int) = L) (m : mulOk 2 (L : Int) = true) (sm : smallI (2 * (L : Int) + 4) = true) (G : List OD) (hG : forL (fun Γ => execs Fb.b__law_shared_1 (P.gx n) Γ) (T.n 2) (rangeI 0 (2 * (L : Int) + 4)) [.fz (.int a), .fz (.int b), .un, .un] = .ok (.rt (.fz (.int (a.gcd b : Nat)))) G) {a' : Int} (ea : a'.natAbs = a) : K P (n + 1) 14 [.int a', .int (b : Int)] = .ok (.fz (.int (a.gcd b : Nat))) := by
  have e1 : evOs (P.gx n).toFx [(.bin .add (.bin .mul (.int 2) (.bm .bitlen (.blt .abs [(.var 1)]) [])) (.int 4))] [.fz (.int a), .fz (.int b), .un, .un] = .ok [.int (2 * (L : Int) + 4)] := by
    simp [ev, evOs, isPath, hL, bin_mul m]
  have e2 := for_rng1 (X := P.gx n) gx_cm e1 sm hG
  unfold K
  rw [call_succ hs]
  simp [bindA, Fb.f__law_shared, MP.start, Fb.b__law_shared, execs_cons, exec.eq_2, ev, evOs, isPath, ea, e2]
theorem shared_ok (n : Nat) {a : Int} {b : Nat} (k : Nat) (hk : k ≤ 9000) (hb : b < 2 ^ k) : K P (n + 1) 14 [.int a, .int (b : Int)] = .ok (.fz (.int (a.natAbs.gcd b : Nat))) := by
  have hl1 : bitLen (b : Int) ≤ 9001 ∧ b < 2 ^ bitLen (b : Int) := by
    unfold bitLen
    split
    · rename_i z
      have : b = 0 := by omega
      subst this
      exact ⟨by omega, by decide⟩
    · rename_i z
      rw [Int.natAbs_natCast]
      have := (Nat.log2_lt (n := b) (k := k) (by omega)).mpr hb
      exact ⟨by omega, Nat.lt_log2_self⟩
  obtain ⟨l1, l2⟩ := hl1
  generalize hL : bitLen (b : Int) = L at l1 l2
  have m : mulOk 2 (L : Int) = true := mulOk_of (a := 64) (b := 64) (by decide) (by omega) (by omega)
  have sm : smallI (2 * (L : Int) + 4) = true := by unfold smallI; simp; omega
  have len : (rangeI 0 (2 * (L : Int) + 4)).length = 2 * L + 4 := by
    unfold rangeI; rw [List.length_map, List.length_range]; omega
  obtain ⟨Γ, hΓ⟩ := shared_loop (P := P) n L (rangeI 0 (2 * (L : Int) + 4)) a.natAbs b .un .un l2 (by rw [len]; omega)
  exact s5 hs n a.natAbs b L hL m sm Γ hΓ rfl
/-- _law_low -/
theorem low_ok (hl : P.fn 116 = some Fb.f__law_low) (n : Nat) {t b : Int} {k : Nat} (hk : k ≤ 8000) (hb : 0 < b) (h2 : b.natAbs < 2 ^ k) : K P (n + 2) 116 [.int t, .int b] = .ok (.fz (rr (Rat.divInt t b))) := by
  obtain ⟨c, rfl⟩ : ∃ c : Nat, b = c := ⟨b.toNat, by omega⟩
  have sh := shared_ok hs n (a := t) (b := c) k (by omega) h2
  have g1 := gcd_lt (t := t) (b := (c : Int)) (by omega)
  have g0 : 0 < t.natAbs.gcd c := Nat.gcd_pos_of_pos_right _ (by omega)
  have i := isr_of (t := t) (b := (c : Int)) (by omega) rfl
  rw [if_neg (by omega)] at i
  rw [← i.rr (by omega)]
  have d1 : divOk ((t.natAbs.gcd c : Nat) : Int) = true := divOk_of (by omega) (by
    have : (2 : Nat) ^ k ≤ 2 ^ 8500 := Nat.pow_le_pow_right (by decide) (by omega)
    rw [Int.natAbs_natCast] at g1 h2 ⊢
    omega)
  unfold K at *
  rw [call_succ hl]
  simp [bindA, Fb.f__law_low, MP.start, Fb.b__law_low, execs, exec, ev, evOs, evF, evAs, retE, isPath, sh, bin_fdiv d1]
/-- _law_is_ratio -/
theorem is_ratio_ok (hw : P.fn 15 = some Fb.f__law_is_whole) (hl : P.fn 44 = some Fb.f__law_is_ratio) (n : Nat) {x : Rat} {k : Nat} (hk : k ≤ 8000) (h : Bd k x) : K P (n + 2) 44 [rr x] = .ok (.fz (.bl true)) := by
  have w1 := whole_int hw n x.num
  have w2 := whole_int hw n (x.den : Int)
  have sh := shared_ok hs n (a := x.num) (b := x.den) k (by omega) h.2
  have hg : x.num.natAbs.gcd x.den = 1 := x.reduced
  rw [hg] at sh
  have hq : ¬ ((x.den : Int) < 1) := by have := den_pos x; omega
  unfold K rr at *
  rw [call_succ hl]
  simp [bindA, Fb.f__law_is_ratio, MP.start, Fb.b__law_is_ratio, execs, exec, ev, evOs, evF, evAs, retE, isPath, anyTy, isTy, w1, w2, sh, hq]
end
end Lr

end

section
set_option linter.all false
set_option maxRecDepth 100000
namespace Lr
open MP
section
variable {P : MP.Prog}
/-! ### _law_draws -/
theorem draws_turn (n : Nat) (cell many size left : Int) (ds : List Int) (w : Bool) (k : Nat) (y7 y8 : OD) (hs : 0 < size) (h2 : size.natAbs < 2 ^ 8000) (hk : k < 1000000) (hl : ds.length < line) :
    ∃ (x left' : Int) (z7 z8 : OD), 0 ≤ x ∧ x < size ∧ execs Fb.b__law_draws_1 (P.gx n) [.fz (.int cell), .fz (.int many), .fz (.int size), .own (ds.map .int), .fz (.int left), .fz (.bl w), .fz (.int k), y7, y8] =
      .ok .nx [.fz (.int cell), .fz (.int many), .fz (.int size), .own ((ds ++ [x]).map .int), .fz (.int left'), .fz (.bl w), .fz (.int k), z7, z8] := by
  have z0 : size ≠ 0 := by omega
  have d0 : divOk size = true := divOk_of z0 (lt_mono h2 (by omega))
  have hl' : (ds.map D.int).length < line := by rw [List.length_map]; exact hl
  by_cases h : (w && decide (0 < left)) = true
  · refine ⟨left.fmod size, left.fdiv size, y7, y8, (fmod_bd left hs).1, (fmod_bd left hs).2, ?_⟩
    have hw : w = true := by cases w <;> simp at h ⊢
    subst hw
    have hg : 0 < left := by simpa using h
    simp [Fb.b__law_draws_1, execs, exec, ev, evOs, isPath, hg, bin_mod z0, bin_fdiv d0, ownAt, app_own, hl]
  · have m1 : mulOk cell 48271 = true := by unfold mulOk; simp
    have m2 : mulOk cell 16807 = true := by unfold mulOk; simp
    have m3 : mulOk ((k : Int) + 1) 69621 = true := by unfold mulOk; simp
    have m4 : mulOk ((k : Int) + 1) 40692 = true := by unfold mulOk; simp
    have c1 : (2147483647 : Int) ≠ 0 := by decide
    have c2 : (2147483399 : Int) ≠ 0 := by decide
    have d9 : divOk 1009 = true := by decide
    have b1 := fmod_bd (cell * 48271 + ((k : Int) + 1) * 69621) (m := 2147483647) (by decide)
    have b2 := fmod_bd (cell * 16807 + ((k : Int) + 1) * 40692) (m := 2147483399) (by decide)
    generalize e1 : (cell * 48271 + ((k : Int) + 1) * 69621).fmod 2147483647 = one at b1
    generalize e2 : (cell * 16807 + ((k : Int) + 1) * 40692).fmod 2147483399 = two at b2
    have m5 : mulOk one two = true := by
      unfold mulOk
      have : one.natAbs < 2 ^ 64 := by omega
      simp [this]
    refine ⟨((one * two).fdiv 1009).fmod size, left, .fz (.int one), .fz (.int two), (fmod_bd _ hs).1, (fmod_bd _ hs).2, ?_⟩
    have h' : ¬ (w = true ∧ 0 < left) := by simpa using h
    have tst : tru (ev (P.gx n).toFx (.andE (.var 5) (.one (.cmp .gt (.var 4) (.int 0)))) [.fz (.int cell), .fz (.int many), .fz (.int size), .own (ds.map .int), .fz (.int left), .fz (.bl w), .fz (.int k), y7, y8] true) = .ok false := by
      cases w with
      | false => simp [ev]
      | true =>
        have : ¬ 0 < left := by simpa using h
        simp [ev, isPath, this]
    unfold Fb.b__law_draws_1
    rw [execs_cons, exec.eq_12, tst]
    simp [execs, exec, ev, evOs, isPath, bin_mul m1, bin_mul m2, bin_mul m3, bin_mul m4, bin_mod c1, bin_mod c2, e1, e2, bin_mul m5, bin_fdiv d9, bin_mod z0, ownAt, app_own, hl]
theorem draws_loop (n : Nat) (cell many size : Int) (w : Bool) (hs : 0 < size) (h2 : size.natAbs < 2 ^ 8000) : ∀ (ks : List Nat) (ds : List Int) (left : Int) (y6 y7 y8 : OD), (∀ k ∈ ks, k < 1000000) → ds.length + ks.length ≤ 1000 → (∀ x ∈ ds, 0 ≤ x ∧ x < size) →
    ∃ (l : List Int) (left' : Int) (z6 z7 z8 : OD), l.length = ds.length + ks.length ∧ (∀ x ∈ l, 0 ≤ x ∧ x < size) ∧ forL (fun Γ => execs Fb.b__law_draws_1 (P.gx n) Γ) (.n 6) (ks.map fun (k : Nat) => D.int (k : Int)) [.fz (.int cell), .fz (.int many), .fz (.int size), .own (ds.map .int), .fz (.int left), .fz (.bl w), y6, y7, y8] =
      .ok .nx [.fz (.int cell), .fz (.int many), .fz (.int size), .own (l.map .int), .fz (.int left'), .fz (.bl w), z6, z7, z8]
  | [], ds, left, y6, y7, y8, _, _, hd => ⟨ds, left, y6, y7, y8, rfl, hd, by simp [forL_nil]⟩
  | k :: ks, ds, left, y6, y7, y8, hk, hl, hd => by
    rw [List.length_cons] at hl
    obtain ⟨x, left1, z7, z8, x1, x2, e⟩ := draws_turn (P := P) n cell many size left ds w k y7 y8 hs h2 (hk k List.mem_cons_self) (by unfold line; omega)
    obtain ⟨l, left2, w6, w7, w8, l1, l2, e2⟩ := draws_loop n cell many size w hs h2 ks (ds ++ [x]) left1 (.fz (.int k)) z7 z8 (fun j m => hk j (List.mem_cons_of_mem _ m)) (by rw [List.length_append, List.length_singleton]; omega) (fun y m => by
      rcases List.mem_append.mp m with m | m
      · exact hd y m
      · rw [List.mem_singleton.mp m]; exact ⟨x1, x2⟩)
    refine ⟨l, left2, w6, w7, w8, by rw [l1, List.length_append, List.length_singleton, List.length_cons]; omega, l2, ?_⟩
    rw [List.map_cons, forL_cons _ _ _ _ _ (by simp)]
    simp only [List.set]
    rw [e]
    exact e2
theorem draws_ok (hd : P.fn 74 = some Fb.f__law_draws) (n : Nat) (cell : Int) {many : Nat} {size : Int} (hm : many ≤ 1000) (hs : 0 < size) (h2 : size.natAbs < 2 ^ 8000) :
    ∃ l : List Int, l.length = many ∧ (∀ x ∈ l, 0 ≤ x ∧ x < size) ∧ K P (n + 1) 74 [.int cell, .int many, .int size] = .ok (.own (l.map .int)) := by
  have hw : ∃ w : Bool, decide ((1000000000000000000 : Int) ≤ ((cell.natAbs : Nat) : Int)) = w := ⟨_, rfl⟩
  obtain ⟨w, hw⟩ := hw
  obtain ⟨l, left, z6, z7, z8, l1, l2, e⟩ := draws_loop (P := P) n cell many size w hs h2 (List.range many) [] (cell.natAbs : Nat) .un .un .un (fun k m => by have := List.mem_range.mp m; omega) (by simp; omega) (fun x m => nomatch m)
  refine ⟨l, by simpa using l1, l2, ?_⟩
  have pw : powOk 10 18 = true := by decide
  have e2 := for_rngN (X := P.gx n) gx_cm (t := .n 6) (e := .var 1) (b := Fb.b__law_draws_1) (Γ := [.fz (.int cell), .fz (.int many), .fz (.int size), .own [], .fz (.int (cell.natAbs : Nat)), .fz (.bl w), .un, .un, .un]) (m := many) (by simp [ev, evOs, isPath]) (by omega) e
  unfold K
  rw [call_succ hd]
  simp [bindA, Fb.f__law_draws, MP.start, Fb.b__law_draws, execs_cons, execs_nil, exec.eq_2, exec.eq_11, retE, ev, evV, evOs, mkOwn, allO, isPath, bin_pow pw, hw, e2]
/-! ### _law_less, _law_same -/
theorem less_ok (h : P.fn 117 = some Fb.f__law_less) (n : Nat) {a b c d : Int} {k : Nat} (hk : k ≤ 100000) (h1 : a.natAbs < 2 ^ k) (h2 : b.natAbs < 2 ^ k) (h3 : c.natAbs < 2 ^ k) (h4 : d.natAbs < 2 ^ k) : K P (n + 1) 117 [.tup [.int a, .int b], .tup [.int c, .int d]] = .ok (.fz (.bl (decide (a * d < c * b)))) := by
  have m1 : mulOk a d = true := mulOk_of h1 h4 (by omega)
  have m2 : mulOk c b = true := mulOk_of h3 h2 (by omega)
  unfold K
  rw [call_succ h]
  simp [bindA, Fb.f__law_less, MP.start, Fb.b__law_less, execs, exec, ev, evOs, evAs, retE, isPath, bin_mul m1, bin_mul m2]
theorem same_ok (h : P.fn 46 = some Fb.f__law_same) (n : Nat) {a b c d : Int} {k : Nat} (hk : k ≤ 100000) (h1 : a.natAbs < 2 ^ k) (h2 : b.natAbs < 2 ^ k) (h3 : c.natAbs < 2 ^ k) (h4 : d.natAbs < 2 ^ k) : K P (n + 1) 46 [.tup [.int a, .int b], .tup [.int c, .int d]] = .ok (.fz (.bl (decide (a * d = c * b)))) := by
  have m1 : mulOk a d = true := mulOk_of h1 h4 (by omega)
  have m2 : mulOk c b = true := mulOk_of h3 h2 (by omega)
  unfold K
  rw [call_succ h]
  simp [bindA, Fb.f__law_same, MP.start, Fb.b__law_same, execs, exec, ev, evOs, evAs, retE, isPath, bin_mul m1, bin_mul m2]
/-! ### _law_alike -/
mutual
def simD : Nat → D → Bool
  | _, .non => true
  | _, .bl _ => true
  | _, .int _ => true
  | _, .str x => x.all fun c => decide (c < 1114112)
  | n + 1, .tup ds => decide (ds.length ≤ 1000) && simDs n ds
  | _, _ => false
def simDs : Nat → List D → Bool
  | _, [] => true
  | n, d :: ds => simD n d && simDs n ds
end
theorem simDs_get : ∀ {n : Nat} {ds : List D} {k : Nat} {d : D}, simDs n ds = true → ds[k]? = some d → simD n d = true
  | n, [], k, d, _, h => by simp at h
  | n, x :: ds, 0, d, h, e => by
    unfold simDs at h
    simp at e
    subst e
    exact (Bool.and_eq_true_iff.mp h).1
  | n, x :: ds, k + 1, d, h, e => by
    unfold simDs at h
    exact simDs_get (Bool.and_eq_true_iff.mp h).2 (by simpa using e)
theorem alike_loop (n : Nat) (ds : List D) (X : Gx) (hX : X = P.gx n) (h : ∀ (k : Nat) (d : D), ds[k]? = some d → (P.gx n).call 77 [d, d] [] [] = .ok (.fz (.bl true))) : ∀ (ks : List Nat) (y : OD), (∀ k ∈ ks, k < ds.length) →
    ∃ z, forL (fun Γ => execs Fb.b__law_alike_1 (P.gx n) Γ) (.n 2) (ks.map fun (k : Nat) => D.int (k : Int)) [.fz (.tup ds), .fz (.tup ds), y] = .ok .nx [.fz (.tup ds), .fz (.tup ds), z]
  | [], y, _ => ⟨y, by simp [forL_nil]⟩
  | k :: ks, y, hk => by
    obtain ⟨z, e⟩ := alike_loop n ds X hX h ks (.fz (.int k)) (fun j m => hk j (List.mem_cons_of_mem _ m))
    refine ⟨z, ?_⟩
    have hlt := hk k List.mem_cons_self
    have hd := h k ds[k] (List.getElem?_eq_getElem hlt)
    rw [List.map_cons, forL_cons _ _ _ _ _ (by simp)]
    simp only [List.set]
    have t : execs Fb.b__law_alike_1 (P.gx n) [.fz (.tup ds), .fz (.tup ds), .fz (.int k)] = .ok .nx [.fz (.tup ds), .fz (.tup ds), .fz (.int k)] := by
      simp [Fb.b__law_alike_1, execs, exec, ev, evAs, isPath, atI_nat, hlt, hd]
    rw [t]
    exact e
theorem alike_ok (hw : P.fn 15 = some Fb.f__law_is_whole) (ha : P.fn 77 = some Fb.f__law_alike) : ∀ (m n : Nat) (d : D), simD m d = true → K P (n + m + 2) 77 [d, d] = .ok (.fz (.bl true)) := by
  intro m
  induction m with
  | zero =>
    intro n d h
    unfold K
    rw [call_succ ha]
    cases d with
    | non => simp [bindA, Fb.f__law_alike, MP.start, Fb.b__law_alike, execs, exec, ev, retE, isPath, D.isNon]
    | bl b => cases b <;> simp [bindA, Fb.f__law_alike, MP.start, Fb.b__law_alike, execs, exec, ev, retE, isPath, D.isNon, D.isBl]
    | int i =>
      have w1 := whole_int hw n i
      unfold K at w1
      simp [bindA, Fb.f__law_alike, MP.start, Fb.b__law_alike, execs, exec, ev, evAs, retE, isPath, D.isNon, D.isBl, anyTy, isTy, w1]
    | str x =>
      have c : cmpD .eq (.str x) (.str x) = .ok (.fz (.bl true)) := by
        unfold simD at h
        simp only [cmpD, D.plain, h, D.eqv, Bool.and_self, if_true, beq_self_eq_true]
      simp [bindA, Fb.f__law_alike, MP.start, Fb.b__law_alike, execs, exec, ev, evAs, retE, isPath, D.isNon, D.isBl, anyTy, isTy, c]
    | _ => cases h
  | succ m ih =>
    intro n d h
    unfold K
    rw [show n + (m + 1) + 2 = (n + m + 2) + 1 by omega, call_succ ha]
    cases d with
    | non => simp [bindA, Fb.f__law_alike, MP.start, Fb.b__law_alike, execs, exec, ev, retE, isPath, D.isNon]
    | bl b => cases b <;> simp [bindA, Fb.f__law_alike, MP.start, Fb.b__law_alike, execs, exec, ev, retE, isPath, D.isNon, D.isBl]
    | int i =>
      have w1 := whole_int hw (n + m + 1) i
      unfold K at w1
      simp [bindA, Fb.f__law_alike, MP.start, Fb.b__law_alike, execs, exec, ev, evAs, retE, isPath, D.isNon, D.isBl, anyTy, isTy, w1]
    | str x =>
      have c : cmpD .eq (.str x) (.str x) = .ok (.fz (.bl true)) := by
        unfold simD at h
        simp only [cmpD, D.plain, h, D.eqv, Bool.and_self, if_true, beq_self_eq_true]
      simp [bindA, Fb.f__law_alike, MP.start, Fb.b__law_alike, execs, exec, ev, evAs, retE, isPath, D.isNon, D.isBl, anyTy, isTy, c]
    | tup ds =>
      unfold simD at h
      obtain ⟨h1, h2⟩ := Bool.and_eq_true_iff.mp h
      have h1 := of_decide_eq_true h1
      obtain ⟨z, e⟩ := alike_loop (P := P) (n + m + 2) ds _ rfl (fun k d hd => ih n d (simDs_get h2 hd)) (List.range ds.length) .un (fun k m => List.mem_range.mp m)
      have e2 := for_rngN (X := P.gx (n + m + 2)) gx_cm (t := .n 2) (e := .blt .len [(.var 1)]) (b := Fb.b__law_alike_1) (Γ := [.fz (.tup ds), .fz (.tup ds), .un]) (m := ds.length) (by simp [ev, evOs, isPath]) (by omega) e
      simp [bindA, Fb.f__law_alike, MP.start, Fb.b__law_alike, execs_cons, execs_nil, exec.eq_12, exec.eq_11, ev, evOs, retE, isPath, D.isNon, D.isBl, anyTy, isTy, e2]
    | _ => cases h
end
end Lr

end

section
set_option linter.all false
set_option maxRecDepth 100000
namespace Lr
open MP
/-! ### pairs that are not in lowest terms -/
theorem dv_lt {a b c d : Int} (hb : 0 < b) (hd : 0 < d) : Rat.divInt a b < Rat.divInt c d ↔ a * d < c * b := by
  have b1 : (0 : Rat) < (b : Rat) := by exact_mod_cast hb
  have d1 : (0 : Rat) < (d : Rat) := by exact_mod_cast hd
  rw [Rat.divInt_eq_div, Rat.divInt_eq_div, Rat.div_lt_iff b1, Rat.div_def, Rat.mul_assoc, Rat.mul_comm _ (b : Rat), ← Rat.mul_assoc, ← Rat.div_def, Rat.lt_div_iff d1, ← Rat.intCast_mul, ← Rat.intCast_mul, Rat.intCast_lt_intCast]
theorem dv_eq {a b c d : Int} (hb : 0 < b) (hd : 0 < d) : Rat.divInt a b = Rat.divInt c d ↔ a * d = c * b :=
  Rat.divInt_eq_divInt_iff (by omega) (by omega)
theorem rr_dv (x : Rat) : Rat.divInt x.num x.den = x := Rat.num_divInt_den x
theorem rr_lt {x y : Rat} : x < y ↔ x.num * y.den < y.num * x.den := Rat.lt_iff x y
theorem rr_eq {x y : Rat} : x = y ↔ x.num * y.den = y.num * x.den := by
  conv => lhs; rw [← rr_dv x, ← rr_dv y]
  exact dv_eq (den_pos x) (den_pos y)
theorem allO_fz (ds : List D) : allO fzO (ds.map .fz) = some ds := by
  induction ds with
  | nil => rfl
  | cons d ds ih => simp [allO, fzO, ih]
theorem mkOwn_fz (ds : List D) : mkOwn (ds.map .fz) = some (.own ds) := by
  unfold mkOwn
  rw [allO_fz]
end Lr
namespace MP
theorem q_comp {X : Fx} (hc : X.calm = true) (e : E) (tg : T) (it : E) (cs : List E) (Γ : List OD) (pk : Bool) {ds : List D} (h : itemsR (oper (isPath it) (ev X it Γ true)) = .ok ds) (hl : ds.length ≤ line) : ev X (.comp e tg it cs) Γ pk = (compL (fun Γ' => ev X e Γ' false) (fun Γ' => evC X cs Γ') tg Γ ds).bind fun os => R.ofO (mkOwn os) := by
  rw [ev, hc, h]
  simp only [Bool.true_eq_false, if_false, R.bind_ok]
  rw [if_neg (by omega)]
theorem compL_none {X : Fx} {g : List OD → R OD} {f : List OD → R Bool} {tg : T} {Γ : List OD} : ∀ {ds : List D}, (∀ d ∈ ds, ∃ Γ', setT tg (.fz d) Γ = some Γ' ∧ f Γ' = .ok false) → compL g f tg Γ ds = .ok []
  | [], _ => rfl
  | d :: ds, h => by
    obtain ⟨Γ', h1, h2⟩ := h d List.mem_cons_self
    rw [compL, h1]
    simp only
    rw [h2]
    exact compL_none (X := X) fun e m => h e (List.mem_cons_of_mem _ m)
/-- a comprehension with no tests -/
theorem compL_map {X : Fx} {g : List OD → R OD} {f : List OD → R Bool} {tg : T} {Γ : List OD} (F : D → OD) : ∀ {ds : List D}, (∀ d ∈ ds, ∃ Γ', setT tg (.fz d) Γ = some Γ' ∧ f Γ' = .ok true ∧ g Γ' = .ok (F d)) → compL g f tg Γ ds = .ok (ds.map F)
  | [], _ => rfl
  | d :: ds, h => by
    obtain ⟨Γ', h1, h2, h3⟩ := h d List.mem_cons_self
    rw [compL, h1]
    simp only
    rw [h2]
    simp only
    rw [h3]
    simp only
    rw [compL_map (X := X) F fun e m => h e (List.mem_cons_of_mem _ m), R.bind_ok, List.map_cons]
end MP
namespace MP
theorem mulOk_l {i j : Int} (h : i.natAbs < 2 ^ 64) : mulOk i j = true := by
  unfold mulOk
  rw [decide_eq_true h]
  rfl
theorem mulOk_r {i j : Int} (h : j.natAbs < 2 ^ 64) : mulOk i j = true := by
  unfold mulOk
  rw [decide_eq_true h, Bool.or_true]
  rfl
end MP
namespace Lr
open MP
section
variable {α : Type} {a b c d e f g h : α} {l : List α}
theorem at_0 : atI (a :: l) 0 = some a := atI_nat (xs := a :: l) (k := 0)
theorem at_1 : atI (a :: b :: l) 1 = some b := atI_nat (xs := a :: b :: l) (k := 1)
theorem at_2 : atI (a :: b :: c :: l) 2 = some c := atI_nat (xs := a :: b :: c :: l) (k := 2)
theorem at_3 : atI (a :: b :: c :: d :: l) 3 = some d := atI_nat (xs := a :: b :: c :: d :: l) (k := 3)
theorem at_4 : atI (a :: b :: c :: d :: e :: l) 4 = some e := atI_nat (xs := a :: b :: c :: d :: e :: l) (k := 4)
theorem at_5 : atI (a :: b :: c :: d :: e :: f :: l) 5 = some f := atI_nat (xs := a :: b :: c :: d :: e :: f :: l) (k := 5)
theorem at_6 : atI (a :: b :: c :: d :: e :: f :: g :: l) 6 = some g := atI_nat (xs := a :: b :: c :: d :: e :: f :: g :: l) (k := 6)
theorem at_7 : atI (a :: b :: c :: d :: e :: f :: g :: h :: l) 7 = some h := atI_nat (xs := a :: b :: c :: d :: e :: f :: g :: h :: l) (k := 7)
end
theorem at_in {xs : List Int} {j : Nat} (h : j < xs.length) : atI (xs.map D.int) (j : Int) = some (.int xs[j]) := by
  rw [atI_nat]
  simp [h]
end Lr
@[simp] theorem MP.sub_lst (pk p : Bool) (ds : List MP.D) (j : Int) : MP.subD pk p (.fz (.lst ds)) j = MP.R.ofO ((MP.atI ds j).map .fz) := nr rfl
namespace MP
theorem lent_ok {bs : List (D × Bool)} {o : OD} (h : o.noFL = true) : lent bs (.ok o) = .ok o := by
  unfold lent
  split
  · simp only [h, if_true]
  · rfl
theorem noLs_of : ∀ {ds : List D}, (∀ d ∈ ds, d.noL = true) → D.noLs ds = true
  | [], _ => rfl
  | d :: ds, h => by
    rw [D.noLs, h d List.mem_cons_self, noLs_of fun e m => h e (List.mem_cons_of_mem _ m)]
    rfl
theorem cutL_take {α : Type} (xs : List α) (n : Nat) : cutL xs none (some (n : Int)) = xs.take n := by
  have e : sIx xs.length xs.length (some (n : Int)) = min n xs.length := by
    show (if (n : Int) < 0 then ((n : Int) + (xs.length : Int)).toNat else min (n : Int).toNat xs.length) = _
    rw [if_neg (by omega), Int.toNat_natCast]
  unfold cutL
  rw [e]
  show (xs.drop 0).take (min n xs.length - 0) = _
  rw [List.drop_zero, Nat.sub_zero]
  by_cases h : n ≤ xs.length
  · rw [Nat.min_eq_left h]
  · rw [Nat.min_eq_right (by omega), List.take_of_length_le (by omega), List.take_of_length_le (by omega)]
mutual
theorem eqv_self : ∀ (n : Nat) (d : D), d.plain n = true → D.eqv d d = true
  | _, .non, _ => rfl
  | _, .bl b, _ => by simp [D.eqv]
  | _, .int i, _ => by simp [D.eqv]
  | _, .str s, _ => by simp [D.eqv]
  | n + 1, .tup ds, h => by
    rw [D.eqv]
    exact eqvs_self n ds (by simpa [D.plain] using h)
  | n + 1, .lst ds, h => by
    rw [D.eqv]
    exact eqvs_self n ds (by simpa [D.plain] using h)
  | 0, .tup _, h => by cases h
  | 0, .lst _, h => by cases h
  | n, .obj _ _, h => by cases n <;> cases h
  | n, .scr _, h => by cases n <;> cases h
theorem eqvs_self : ∀ (n : Nat) (ds : List D), D.plains n ds = true → D.eqvs ds ds = true
  | _, [], _ => by simp [D.eqvs]
  | n, d :: ds, h => by
    rw [D.plains, Bool.and_eq_true] at h
    rw [D.eqvs, eqv_self n d h.1, eqvs_self n ds h.2]
    rfl
end
theorem plains_of {n : Nat} : ∀ {ds : List D}, (∀ d ∈ ds, d.plain n = true) → D.plains n ds = true
  | [], _ => by simp [D.plains]
  | d :: ds, h => by
    rw [D.plains, h d List.mem_cons_self, plains_of fun e m => h e (List.mem_cons_of_mem _ m)]
    rfl
theorem ne_self {x : D} (h : x.plain 20 = true) : cmpD .ne x x = .ok (.fz (.bl false)) := by
  unfold cmpD
  simp only [h, Bool.and_self, if_true, eqv_self 20 x h, Bool.not_true]
end MP
namespace MP
@[simp] theorem gx_fld (P : MP.Prog) (n : Nat) : (P.gx n).fld = P.fld := by cases n <;> rfl
@[simp] theorem gx_hfld (P : MP.Prog) (n : Nat) : (P.gx n).hot.fld = P.fld := by cases n <;> rfl
@[simp] theorem gx_cl' (P : MP.Prog) (n : Nat) : (P.gx n).meth = P.meth := by cases n <;> rfl
theorem bin_shl {i : Int} {k : Nat} (h : powOk i (k : Int) = true) : binD .shl (.int i) (.int (k : Int)) = .ok (.fz (.int (i * 2 ^ k))) := by simp only [binD, h, if_true, Int.toNat_natCast]
theorem bin_shr {i : Int} {k : Nat} : binD .shr (.int i) (.int (k : Int)) = .ok (.fz (.int (i / 2 ^ k))) := by
  simp only [binD, Int.toNat_natCast]
  rw [if_pos (by omega)]
theorem bin_band1 {i : Nat} : binD .band (.int (i : Int)) (.int 1) = .ok (.fz (.int ((i % 2 : Nat) : Int))) := by
  have : pyBit Nat.land (i : Int) 1 = some ((i % 2 : Nat) : Int) := by
    unfold pyBit
    rw [if_pos ⟨by omega, by omega⟩]
    have : (i : Int).toNat.land (1 : Int).toNat = i % 2 := by
      show i &&& 1 = i % 2
      exact Nat.and_one_is_mod i
    rw [this]
  simp only [binD, this, R.ofO, R.map]
theorem powOk_small {i : Int} {k : Nat} (h : i.natAbs < 2 ^ 64) (hk : k ≤ 1000000) : powOk i (k : Int) = true := by
  unfold powOk
  rw [decide_eq_true h, decide_eq_true (show (0 : Int) ≤ (k : Int) by omega), decide_eq_true (show (k : Int) ≤ 1000000 by omega)]
  rfl
/-- a raising call ends the block -/
theorem execs_ex {X : Gx} {Γ : List OD} {s : S} {ss : List S} {c : Nat} {p : Option D} {Γ' : List OD} (h : exec s X Γ = .ex c p Γ') : execs (s :: ss) X Γ = .ex c p Γ' := by
  rw [execs_cons, h]
  rfl
theorem execs_rt {X : Gx} {Γ : List OD} {s : S} {ss : List S} {o : OD} {Γ' : List OD} (h : exec s X Γ = .ok (.rt o) Γ') : execs (s :: ss) X Γ = .ok (.rt o) Γ' := by
  rw [execs_cons, h]
  rfl
end MP
namespace MP
theorem call_run {P : MP.Prog} {n f : Nat} {F : Fn} {as : List D} {r : R OD} (h : P.fn f = some F) (hb : bindA F as [] [] = some as) (he : outR (execs F.body (P.gx n) (MP.start F (as.map .fz))) = r) : (P.gx (n + 1)).call f as [] [] = r := by
  rw [call_succ h, hb]
  exact he
theorem forL_consT {body : List OD → XR} {t : T} {d : D} {ds : List D} {Γ Γ' : List OD} (h : setT t (.fz d) Γ = some Γ') : forL body t (d :: ds) Γ = (match body Γ' with
    | .ok .nx Γ2 => forL body t ds Γ2
    | .ok .ct Γ2 => forL body t ds Γ2
    | .ok .bk Γ2 => .ok .nx Γ2
    | r => r) := by
  rw [forL, h]
  rfl
theorem for_enm {X : Gx} (hc : X.calm = true) {t : T} {e : E} {b : List S} {Γ : List OD} {d : D} {ds : List D} {r : XR} (he : frz (ev X.toFx e Γ false) = .ok d) (hd : d.items = some ds) (h : forL (fun Γ => execs b X Γ) t (enmD 0 ds) Γ = r) : exec (.forr t (.enm e) b) X Γ = r := by
  rw [exec_forr _ hc, ev, he]
  unfold itemsR
  rw [R.bind_ok, hd]
  exact h
theorem iff_no {X : Gx} {c : E} {a : List S} {Γ : List OD} (h : tru (ev X.toFx c Γ true) = .ok false) : exec (.iff c a []) X Γ = .ok .nx Γ := by
  rw [w_iff, h]
  simp only [liftR, Bool.false_eq_true, if_false, execs_nil]
theorem iff_yes {X : Gx} {c : E} {a b : List S} {Γ : List OD} {r : XR} (h : tru (ev X.toFx c Γ true) = .ok true) (h2 : execs a X Γ = r) : exec (.iff c a b) X Γ = r := by
  rw [w_iff, h]
  simp only [liftR, if_true]
  exact h2
theorem lent_bl (bs : List (D × Bool)) (b : Bool) : lent bs (.ok (.fz (.bl b))) = .ok (.fz (.bl b)) := lent_ok rfl
theorem dropGet {α : Type} {ls r : List α} {i : Nat} {l : α} (hr : ls.drop i = l :: r) : ls[i]? = some l ∧ ls.drop (i + 1) = r := by
  constructor
  · have : (ls.drop i)[0]? = some l := by rw [hr]; rfl
    rw [List.getElem?_drop] at this
    simpa using this
  · rw [← List.drop_drop, hr]
    rfl
/-- a list or a tuple -/
def sq (b : Bool) (ds : List D) : D := if b then .tup ds else .lst ds
@[simp] theorem sq_items (b : Bool) (ds : List D) : (sq b ds).items = some ds := by cases b <;> rfl
@[simp] theorem sq_len (b : Bool) (ds : List D) : bltD .len [sq b ds] = .ok (.fz (.int ds.length)) := by cases b <;> rfl
@[simp] theorem sq_sub (pk p b : Bool) (ds : List D) (j : Int) : subD pk p (.fz (sq b ds)) j = R.ofO ((atI ds j).map .fz) := by cases b <;> rfl
@[simp] theorem sq_its (b : Bool) (ds : List D) : itemsR (.ok (sq b ds)) = .ok ds := by cases b <;> rfl
end MP
namespace MP
theorem q_rngN {X : Fx} (hc : X.calm = true) {e : E} {Γ : List OD} {m : Nat} (he : evOs X [e] Γ = .ok [.int (m : Int)]) (hm : m ≤ 1000000) : itemsR (oper (isPath (.rng [e])) (ev X (.rng [e]) Γ true)) = .ok ((List.range m).map fun (k : Nat) => D.int (k : Int)) := by
  rw [ev, he, hc]
  simp only [R.bind_ok, rngD, Lr.smallI_nat hm, if_true, Lr.rangeI_nat, Bool.true_eq_false, if_false]
  rfl
theorem compL_mapN {X : Fx} {g : List OD → R OD} {f : List OD → R Bool} {tg : T} {Γ : List OD} (F : Nat → OD) : ∀ {ks : List Nat}, (∀ k ∈ ks, ∃ Γ', setT tg (.fz (.int (k : Int))) Γ = some Γ' ∧ f Γ' = .ok true ∧ g Γ' = .ok (F k)) → compL g f tg Γ (ks.map fun (k : Nat) => D.int (k : Int)) = .ok (ks.map F)
  | [], _ => rfl
  | k :: ks, h => by
    obtain ⟨Γ', h1, h2, h3⟩ := h k List.mem_cons_self
    rw [List.map_cons, compL, h1]
    simp only
    rw [h2]
    simp only
    rw [h3]
    simp only
    rw [compL_mapN (X := X) F fun e m => h e (List.mem_cons_of_mem _ m), R.bind_ok, List.map_cons]
theorem compL_filterN {X : Fx} {g : List OD → R OD} {f : List OD → R Bool} {tg : T} {Γ : List OD} (p : Nat → Bool) (F : Nat → OD) : ∀ {ks : List Nat}, (∀ k ∈ ks, ∃ Γ', setT tg (.fz (.int (k : Int))) Γ = some Γ' ∧ f Γ' = .ok (p k) ∧ (p k = true → g Γ' = .ok (F k))) → compL g f tg Γ (ks.map fun (k : Nat) => D.int (k : Int)) = .ok ((ks.filter p).map F)
  | [], _ => rfl
  | k :: ks, h => by
    obtain ⟨Γ', h1, h2, h3⟩ := h k List.mem_cons_self
    have ih := compL_filterN (X := X) (g := g) (f := f) (tg := tg) (Γ := Γ) p F (ks := ks) fun e m => h e (List.mem_cons_of_mem _ m)
    rw [List.map_cons, compL, h1]
    simp only
    rw [h2]
    cases hp : p k with
    | true =>
      simp only
      rw [h3 hp]
      simp only
      rw [ih, R.bind_ok, List.filter_cons_of_pos hp, List.map_cons]
    | false =>
      simp only
      rw [ih, List.filter_cons_of_neg (by rw [hp]; exact Bool.false_ne_true)]
theorem bls_map : ∀ bs : List Bool, D.bls (bs.map D.bl) = some bs
  | [] => rfl
  | b :: bs => by rw [List.map_cons, D.bls, bls_map bs]; rfl
theorem ints_map : ∀ bs : List Int, D.ints (bs.map D.int) = some bs
  | [] => rfl
  | b :: bs => by rw [List.map_cons, D.ints, ints_map bs]; rfl
theorem mkOwn_map {α : Type} (F : α → D) (xs : List α) : mkOwn (xs.map fun x => .fz (F x)) = some (.own (xs.map F)) := by
  have := Lr.mkOwn_fz (xs.map F)
  rw [List.map_map] at this
  exact this
theorem blt_all_bl (bs : List Bool) : bltD .all [.lst (bs.map D.bl)] = .ok (.fz (.bl (bs.all id))) := by
  simp only [bltD, allD, bls_map, R.ofO, R.map]
end MP
namespace MP
theorem foldMin : ∀ (xs : List Int) (m : Int), (xs.foldl (fun m y => if y < m then y else m) m = m ∨ xs.foldl (fun m y => if y < m then y else m) m ∈ xs) ∧ xs.foldl (fun m y => if y < m then y else m) m ≤ m ∧ ∀ x ∈ xs, xs.foldl (fun m y => if y < m then y else m) m ≤ x
  | [], m => ⟨.inl rfl, Int.le_refl _, fun x h => nomatch h⟩
  | y :: xs, m => by
    rw [List.foldl_cons]
    obtain ⟨h1, h2, h3⟩ := foldMin xs (if y < m then y else m)
    by_cases c : y < m
    · rw [if_pos c] at h1 h2 h3 ⊢
      refine ⟨.inr ?_, by omega, fun x hx => ?_⟩
      · rcases h1 with h1 | h1
        · rw [h1]; exact List.mem_cons_self
        · exact List.mem_cons_of_mem _ h1
      · rcases List.mem_cons.mp hx with rfl | hx
        · exact h2
        · exact h3 x hx
    · rw [if_neg c] at h1 h2 h3 ⊢
      refine ⟨?_, h2, fun x hx => ?_⟩
      · rcases h1 with h1 | h1
        · exact .inl h1
        · exact .inr (List.mem_cons_of_mem _ h1)
      · rcases List.mem_cons.mp hx with rfl | hx
        · omega
        · exact h3 x hx
theorem foldMax : ∀ (xs : List Int) (m : Int), (xs.foldl (fun m y => if y > m then y else m) m = m ∨ xs.foldl (fun m y => if y > m then y else m) m ∈ xs) ∧ m ≤ xs.foldl (fun m y => if y > m then y else m) m ∧ ∀ x ∈ xs, x ≤ xs.foldl (fun m y => if y > m then y else m) m
  | [], m => ⟨.inl rfl, Int.le_refl _, fun x h => nomatch h⟩
  | y :: xs, m => by
    rw [List.foldl_cons]
    obtain ⟨h1, h2, h3⟩ := foldMax xs (if y > m then y else m)
    by_cases c : y > m
    · rw [if_pos c] at h1 h2 h3 ⊢
      refine ⟨.inr ?_, by omega, fun x hx => ?_⟩
      · rcases h1 with h1 | h1
        · rw [h1]; exact List.mem_cons_self
        · exact List.mem_cons_of_mem _ h1
      · rcases List.mem_cons.mp hx with rfl | hx
        · exact h2
        · exact h3 x hx
    · rw [if_neg c] at h1 h2 h3 ⊢
      refine ⟨?_, h2, fun x hx => ?_⟩
      · rcases h1 with h1 | h1
        · exact .inl h1
        · exact .inr (List.mem_cons_of_mem _ h1)
      · rcases List.mem_cons.mp hx with rfl | hx
        · omega
        · exact h3 x hx
theorem blt_minS {b : Bool} {xs : List Int} (h : xs ≠ []) : ∃ m ∈ xs, (∀ x ∈ xs, m ≤ x) ∧ bltD .min [sq b (xs.map D.int)] = .ok (.fz (.int m)) := by
  cases xs with
  | nil => exact absurd rfl h
  | cons y xs =>
    obtain ⟨h1, h2, h3⟩ := foldMin xs y
    refine ⟨xs.foldl (fun m y => if y < m then y else m) y, ?_, fun x hx => ?_, ?_⟩
    · rcases h1 with h1 | h1
      · rw [h1]; exact List.mem_cons_self
      · exact List.mem_cons_of_mem _ h1
    · rcases List.mem_cons.mp hx with rfl | hx
      · exact h2
      · exact h3 x hx
    · have e : minD [sq b ((y :: xs).map D.int)] = .ok (.fz (.int (xs.foldl (fun m y => if y < m then y else m) y))) := by
        have e1 : seqInts (sq b ((y :: xs).map D.int)) = some (y :: xs) := by
          unfold seqInts
          rw [sq_items, Option.bind_some, ints_map]
        cases b <;> (simp only [sq, minD, Bool.false_eq_true, if_false, if_true] at *; rw [e1]; rfl)
      exact e
theorem blt_maxS {b : Bool} {xs : List Int} (h : xs ≠ []) : ∃ m ∈ xs, (∀ x ∈ xs, x ≤ m) ∧ bltD .max [sq b (xs.map D.int)] = .ok (.fz (.int m)) := by
  cases xs with
  | nil => exact absurd rfl h
  | cons y xs =>
    obtain ⟨h1, h2, h3⟩ := foldMax xs y
    refine ⟨xs.foldl (fun m y => if y > m then y else m) y, ?_, fun x hx => ?_, ?_⟩
    · rcases h1 with h1 | h1
      · rw [h1]; exact List.mem_cons_self
      · exact List.mem_cons_of_mem _ h1
    · rcases List.mem_cons.mp hx with rfl | hx
      · exact h2
      · exact h3 x hx
    · have e : maxD [sq b ((y :: xs).map D.int)] = .ok (.fz (.int (xs.foldl (fun m y => if y > m then y else m) y))) := by
        have e1 : seqInts (sq b ((y :: xs).map D.int)) = some (y :: xs) := by
          unfold seqInts
          rw [sq_items, Option.bind_some, ints_map]
        cases b <;> (simp only [sq, maxD, Bool.false_eq_true, if_false, if_true] at *; rw [e1]; rfl)
      exact e
end MP
namespace MP
theorem hot_run {P : MP.Prog} {n f : Nat} {F : Fn} {as : List D} {o : OD} (h : P.fn f = some F) (hb : bindA F as [] [] = some as) (he : outR (execs F.body { P.gx n with toFx := (P.gx n).hot } (MP.start F (as.map .fz))) = .ok o) : (P.gx (n + 1)).hot.call f as [] [] = .ok o := by
  show (match P.fn f with
    | some F => (match bindA F as [] [] with
      | some vs => okR (outR (execs F.body { P.gx n with toFx := (P.gx n).hot } (MP.start F (vs.map .fz))))
      | none => .bad)
    | none => .bad) = _
  rw [h]
  simp only
  rw [hb]
  simp only
  rw [he]
  rfl
theorem q_callA {X : Fx} (f : Nat) (es : List E) (Γ : List OD) (pk : Bool) : ev X (.call f es [] []) Γ pk = (evAs X es Γ).bind fun as => lent as (X.call f (as.map (·.1)) [] []) := by
  rw [ev]
  simp only [evAs, R.bind_ok, List.append_nil, List.map_nil]
end MP
namespace MP
theorem forL_const {body : List OD → XR} {i : Nat} {Γ : List OD} (hi : i < Γ.length) : ∀ (ds : List D) (y : OD), (∀ d ∈ ds, body (Γ.set i (.fz d)) = .ok .nx (Γ.set i (.fz d))) → ∃ z, forL body (.n i) ds (Γ.set i y) = .ok .nx (Γ.set i z)
  | [], y, _ => ⟨y, by rw [forL_nil]⟩
  | d :: ds, y, h => by
    obtain ⟨z, e⟩ := forL_const hi ds (.fz d) fun e m => h e (List.mem_cons_of_mem _ m)
    refine ⟨z, ?_⟩
    rw [forL_cons _ _ _ _ _ (by rw [List.length_set]; exact hi), List.set_set, h d List.mem_cons_self]
    exact e
theorem setAt_own {Γ : List OD} {x : Nat} {j : Int} {k : Nat} {ds : List D} {d : D} (h : Γ[x]? = some (.own ds)) (hk : ixN ds.length j = some k) : setAt Γ x j (.fz d) = some (Γ.set x (.own (ds.set k d))) := by
  unfold setAt
  rw [h]
  simp only
  rw [hk]
  rfl
theorem ixN_nat {n k : Nat} (h : k < n) : ixN n (k : Int) = some k := by
  unfold ixN
  rw [if_pos (by omega), if_pos (by omega)]
  rfl
theorem ixN_last {n : Nat} (h : 0 < n) : ixN n (-1) = some (n - 1) := by
  unfold ixN
  rw [if_neg (by omega), if_pos (by omega)]
  congr 1
  omega
theorem cutL_init {α : Type} (xs : List α) : cutL xs none (some (-1)) = xs.take (xs.length - 1) := by
  have e : sIx xs.length xs.length (some (-1)) = xs.length - 1 := by
    show (if (-1 : Int) < 0 then ((-1 : Int) + (xs.length : Int)).toNat else min (-1 : Int).toNat xs.length) = _
    rw [if_pos (by decide)]
    omega
  unfold cutL
  rw [e]
  show (xs.drop 0).take (xs.length - 1 - 0) = _
  rw [List.drop_zero, Nat.sub_zero]
end MP

end

section
set_option linter.all false
namespace Fb
open MP
def b_first_table_1 : List S := [(.app 3 (.bin .add (.lst [(.int 0)]) (.comp (.blt .int [(.cmp .eq (.var 4) (.var 7))]) (.n 7) (.rng [(.var 2)]) [])))]
def b_first_table_2 : List S := [(.app 3 (.bin .add (.lst [(.neg (.var 6))]) (.blt .list [(.var 5)])))]
def b_first_table : List S := [(.asg (.n 2) (.blt .len [(.var 0)])), (.asg (.n 3) (.lst [(.bin .add (.lst [(.int 0)]) (.blt .list [(.var 0)]))])), (.forr (.n 4) (.rng [(.var 2)]) b_first_table_1), (.forr (.t [(.n 5), (.n 6)]) (.var 1) b_first_table_2), (.ret (.var 3))]
def f_first_table : Fn := ⟨2, 8, [], [], b_first_table⟩
abbrev n_first_table : Nat := 27
def b_negative_row_1 : List S := [(.iff (.cmp .lt (.sub (.sub (.var 0) (.var 1)) (.int 0)) (.int 0)) [(.ret (.var 1))] [])]
def b_negative_row : List S := [(.forr (.n 1) (.rng [(.int 1), (.blt .len [(.var 0)])]) b_negative_row_1), (.ret (.int 0))]
def f_negative_row : Fn := ⟨1, 2, [], [], b_negative_row⟩
abbrev n_negative_row : Nat := 28
def b_comes_before_1 : List S := [(.asg (.n 5) (.bin .mul (.sub (.var 4) (.var 2)) (.sub (.sub (.var 0) (.var 1)) (.var 3)))), (.asg (.n 6) (.bin .mul (.sub (.var 4) (.var 3)) (.sub (.sub (.var 0) (.var 1)) (.var 2)))), (.iff (.cmp .ne (.var 5) (.var 6)) [(.ret (.cmp .lt (.var 5) (.var 6)))] [])]
def b_comes_before : List S := [(.forr (.n 4) (.var 0) b_comes_before_1), (.ret (.bl false))]
def f_comes_before : Fn := ⟨4, 7, [], [], b_comes_before⟩
abbrev n_comes_before : Nat := 29
def b_entering_column_1 : List S := [(.iff (.andE (.cmp .gt (.sub (.sub (.var 0) (.var 1)) (.var 3)) (.int 0)) (.one (.orE (.cmp .eq (.var 2) (.int 0)) (.one (.call 29 [(.var 0), (.var 1), (.var 3), (.var 2)] [] []))))) [(.asg (.n 2) (.var 3))] [])]
def b_entering_column : List S := [(.asg (.n 2) (.int 0)), (.forr (.n 3) (.rng [(.int 1), (.blt .len [(.sub (.var 0) (.int 0))])]) b_entering_column_1), (.ret (.var 2))]
def f_entering_column : Fn := ⟨2, 4, [], [], b_entering_column⟩
abbrev n_entering_column : Nat := 30
def b_exchange_1 : List S := [(.frz2 0), (.asg (.n 7) (.sub (.var 0) (.var 6))), (.asg (.n 8) (.sub (.var 7) (.var 3))), (.set 0 (.var 6) (.comp (.bin .fdiv (.bin .sub (.bin .mul (.sub (.var 7) (.var 9)) (.var 5)) (.bin .mul (.var 8) (.sub (.var 4) (.var 9)))) (.var 1)) (.n 9) (.rng [(.blt .len [(.var 7)])]) [])), (.set2 0 (.var 6) (.var 3) (.var 8))]
def b_exchange : List S := [(.frz2 0), (.asg (.n 4) (.sub (.var 0) (.var 2))), (.asg (.n 5) (.sub (.var 4) (.var 3))), (.frz2 0), (.forr (.n 6) (.rng [(.blt .len [(.var 0)])]) b_exchange_1), (.ret (.var 5))]
def f_exchange : Fn := ⟨4, 10, [], [], b_exchange⟩
abbrev n_exchange : Nat := 31
def b_at_slacks_1 : List S := [(.iff (.cmp .gt (.var 6) (.var 2)) [(.set 4 (.bin .sub (.bin .sub (.var 6) (.var 2)) (.int 1)) (.sub (.var 0) (.bin .add (.var 5) (.int 1))))] [])]
def b_at_slacks : List S := [(.asg (.n 4) (.bin .mul (.lst [(.int 0)]) (.var 3))), (.forr (.t [(.n 5), (.n 6)]) (.enm (.var 1)) b_at_slacks_1), (.ret (.var 4))]
def f_at_slacks : Fn := ⟨4, 7, [], [], b_at_slacks⟩
abbrev n_at_slacks : Nat := 32
def b_solve_1 : List S := [(.asg (.n 8) (.call 30 [(.var 4), (.var 7)] [] [])), (.iff (.cmp .eq (.var 8) (.int 0)) [(.asg (.n 9) (.call 32 [(.comp (.neg (.var 12)) (.n 12) (.sub (.var 4) (.var 7)) []), (.var 5), (.var 2), (.var 3)] [] [])), (.iff (.cmp .gt (.var 7) (.var 2)) [(.set 9 (.bin .sub (.bin .sub (.var 7) (.var 2)) (.int 1)) (.var 6))] []), (.frz [6, 9]), (.ret (.tup [(.bl false), (.var 9), (.var 6)]))] []), (.mcall 6 31 4 [(.var 6), (.var 7), (.var 8)]), (.set 5 (.bin .sub (.var 8) (.int 1)) (.var 7)), (.asg (.n 7) (.call 28 [(.var 4)] [] []))]
def b_solve : List S := [(.asg (.t [(.n 2), (.n 3)]) (.tup [(.blt .len [(.var 0)]), (.blt .len [(.var 1)])])), (.asg (.n 4) (.call 27 [(.var 0), (.var 1)] [] [])), (.asg (.n 5) (.blt .list [(.rng [(.int 1), (.bin .add (.var 2) (.int 1))])])), (.asg (.n 6) (.int 1)), (.asg (.n 7) (.call 28 [(.var 4)] [] [])), (.whl (.cmp .gt (.var 7) (.int 0)) b_solve_1), (.asg (.n 10) (.comp (.sub (.sub (.var 4) (.var 11)) (.int 0)) (.n 11) (.rng [(.int 1), (.bin .add (.var 2) (.int 1))]) [])), (.frz [6, 10]), (.ret (.tup [(.bl true), (.sub (.sub (.var 4) (.int 0)) (.int 0)), (.var 10), (.call 32 [(.sub (.var 4) (.int 0)), (.var 5), (.var 2), (.var 3)] [] []), (.var 6)]))]
def f_solve : Fn := ⟨2, 13, [], [], b_solve⟩
abbrev n_solve : Nat := 33
def b_Wish___init__ : List S := [(.iff (.cmp .gt (.blt .len [(.var 1)]) (.glob 34)) [(.rais 24 [(.glob 34)])] []), (.iff (.cmp .gt (.blt .len [(.var 2)]) (.glob 35)) [(.rais 24 [(.glob 35)])] []), (.iff (.orE (.cmp .eq (.blt .len [(.var 1)]) (.int 0)) (.one (.cmp .lt (.blt .min [(.var 1)]) (.int 0)))) [(.rais 26 [(.str [103, 111, 97, 108])])] []), (.iff (.blt .any [(.comp (.cmp .ne (.blt .len [(.sub (.var 4) (.int 0))]) (.blt .len [(.var 1)])) (.n 4) (.var 2) [])]) [(.rais 26 [(.str [114, 111, 119, 115])])] []), (.iff (.cmp .lt (.var 3) (.int 1)) [(.rais 26 [(.str [117, 110, 105, 116])])] []), (.fld 55 (.blt .tuple [(.var 1)])), (.fld 52 (.blt .tuple [(.comp (.tup [(.blt .tuple [(.sub (.var 4) (.int 0))]), (.sub (.var 4) (.int 1))]) (.n 4) (.var 2) [])])), (.fld 56 (.var 3))]
def f_Wish___init__ : Fn := ⟨4, 5, [(.int 1)], [], b_Wish___init__⟩
abbrev n_Wish___init__ : Nat := 969
def b_Granted___init__ : List S := [(.fld 57 (.var 1)), (.fld 58 (.blt .tuple [(.var 2)])), (.fld 59 (.blt .tuple [(.var 3)]))]
def f_Granted___init__ : Fn := ⟨4, 4, [], [], b_Granted___init__⟩
abbrev n_Granted___init__ : Nat := 970
def b_Refused___init__ : List S := [(.fld 59 (.blt .tuple [(.var 1)]))]
def f_Refused___init__ : Fn := ⟨2, 2, [], [], b_Refused___init__⟩
abbrev n_Refused___init__ : Nat := 971
def b_ask : List S := [(.asg (.n 1) (.call 33 [(.attr (.var 0) 55), (.attr (.var 0) 52)] [] [])), (.asg (.n 2) (.sub (.var 1) (.neg (.int 1)))), (.asg (.n 3) (.comp (.call 5 [(.var 5), (.var 2)] [] []) (.n 5) (.sub (.var 1) (.neg (.int 2))) [])), (.iff (.notE (.sub (.var 1) (.int 0))) [(.ret (.mk 38 [(.var 3)]))] []), (.asg (.n 4) (.comp (.call 5 [(.var 6), (.var 2)] [] []) (.n 6) (.sub (.var 1) (.int 2)) [])), (.ret (.mk 37 [(.call 5 [(.sub (.var 1) (.int 1)), (.bin .mul (.var 2) (.attr (.var 0) 56))] [] []), (.var 4), (.var 3)]))]
def f_ask : Fn := ⟨1, 7, [], [], b_ask⟩
abbrev n_ask : Nat := 39
def b_product_sum : List S := [(.ret (.call 12 [(.comp (.call 9 [(.tup [(.sub (.var 0) (.var 2)), (.int 1)]), (.sub (.var 1) (.var 2))] [] []) (.n 2) (.rng [(.blt .len [(.var 0)])]) [])] [] []))]
def f_product_sum : Fn := ⟨2, 3, [], [], b_product_sum⟩
abbrev n_product_sum : Nat := 40
def b_are_shares : List S := [(.ret (.andE (.cmp .eq (.blt .len [(.var 0)]) (.var 1)) (.one (.blt .all [(.comp (.cmp .ge (.call 11 [(.var 2), (.glob 3)] [] []) (.int 0)) (.n 2) (.var 0) [])]))))]
def f_are_shares : Fn := ⟨2, 3, [], [], b_are_shares⟩
abbrev n_are_shares : Nat := 41
def b_shows_1 : List S := [(.iff (.cmp .lt (.call 11 [(.call 40 [(.var 5), (.attr (.var 1) 58)] [] []), (.tup [(.var 6), (.int 1)])] [] []) (.int 0)) [(.ret (.bl false))] [])]
def b_shows : List S := [(.iff (.notE (.call 41 [(.attr (.var 1) 59), (.blt .len [(.attr (.var 0) 52)])] [] [])) [(.ret (.bl false))] []), (.asg (.n 2) (.blt .len [(.attr (.var 0) 55)])), (.asg (.n 3) (.comp (.call 40 [(.comp (.sub (.sub (.var 9) (.int 0)) (.var 8)) (.n 9) (.attr (.var 0) 52) []), (.attr (.var 1) 59)] [] []) (.n 8) (.rng [(.var 2)]) [])), (.asg (.n 4) (.call 40 [(.comp (.sub (.var 9) (.int 1)) (.n 9) (.attr (.var 0) 52) []), (.attr (.var 1) 59)] [] [])), (.iff (.inst (.var 1) [(.cls 38)]) [(.ret (.andE (.cmp .gt (.call 11 [(.var 4), (.glob 3)] [] []) (.int 0)) (.one (.blt .all [(.comp (.cmp .le (.call 11 [(.var 10), (.glob 3)] [] []) (.int 0)) (.n 10) (.var 3) [])]))))] []), (.iff (.notE (.call 41 [(.attr (.var 1) 58), (.var 2)] [] [])) [(.ret (.bl false))] []), (.forr (.t [(.n 5), (.n 6)]) (.attr (.var 0) 52) b_shows_1), (.iff (.blt .any [(.comp (.cmp .gt (.call 11 [(.sub (.var 3) (.var 8)), (.tup [(.sub (.attr (.var 0) 55) (.var 8)), (.int 1)])] [] []) (.int 0)) (.n 8) (.rng [(.var 2)]) [])]) [(.ret (.bl false))] []), (.asg (.n 7) (.call 9 [(.attr (.var 1) 57), (.tup [(.attr (.var 0) 56), (.int 1)])] [] [])), (.ret (.andE (.cmp .eq (.var 4) (.var 7)) (.one (.cmp .eq (.call 40 [(.attr (.var 0) 55), (.attr (.var 1) 58)] [] []) (.var 7)))))]
def f_shows : Fn := ⟨2, 11, [], [], b_shows⟩
abbrev n_shows : Nat := 42
def b__law_are_ratios_1 : List S := [(.iff (.orE (.notE (.call 44 [(.var 2)] [] [])) (.one (.cmp .lt (.sub (.var 2) (.int 0)) (.int 0)))) [(.ret (.bl false))] [])]
def b__law_are_ratios : List S := [(.iff (.orE (.notE (.inst (.var 0) [.ttuple])) (.one (.cmp .ne (.blt .len [(.var 0)]) (.var 1)))) [(.ret (.bl false))] []), (.forr (.n 2) (.var 0) b__law_are_ratios_1), (.ret (.bl true))]
def f__law_are_ratios : Fn := ⟨2, 3, [], [], b__law_are_ratios⟩
abbrev n__law_are_ratios : Nat := 45
def b__law_sum_1 : List S := [(.asg (.n 2) (.bin .add (.bin .mul (.var 2) (.sub (.sub (.var 1) (.var 4)) (.int 1))) (.bin .mul (.bin .mul (.sub (.var 0) (.var 4)) (.sub (.sub (.var 1) (.var 4)) (.int 0))) (.var 3)))), (.asg (.n 3) (.bin .mul (.var 3) (.sub (.sub (.var 1) (.var 4)) (.int 1))))]
def b__law_sum : List S := [(.asg (.n 2) (.int 0)), (.asg (.n 3) (.int 1)), (.forr (.n 4) (.rng [(.blt .len [(.var 0)])]) b__law_sum_1), (.ret (.tup [(.var 2), (.var 3)]))]
def f__law_sum : Fn := ⟨2, 5, [], [], b__law_sum⟩
abbrev n__law_sum : Nat := 20
def b__law_above : List S := [(.ret (.blt .len [(.comp (.var 1) (.n 1) (.var 0) [(.cmp .gt (.sub (.var 1) (.int 0)) (.int 0))])]))]
def f__law_above : Fn := ⟨1, 2, [], [], b__law_above⟩
abbrev n__law_above : Nat := 47
def b__law_columns : List S := [(.ret (.comp (.call 20 [(.comp (.sub (.sub (.var 4) (.int 0)) (.var 3)) (.n 4) (.var 0) []), (.var 1)] [] []) (.n 3) (.rng [(.var 2)]) []))]
def f__law_columns : Fn := ⟨3, 5, [], [], b__law_columns⟩
abbrev n__law_columns : Nat := 48
end Fb

end

section
set_option linter.all false
set_option maxRecDepth 100000
/-! Running the evaluator by simp, from the outside in. -/
namespace MP
/-- what simp is not to look into -/
class Hold (α : Type) where
  v : α
def R.bz {α β : Type} (r : R α) [w : Hold (α → R β)] : R β := r.bind w.v
def R.mz {α β : Type} (r : R α) [w : Hold (α → β)] : R β := r.map w.v
def lz {α : Type} (r : R α) [g : Hold (List OD)] [w : Hold (α → XR)] : XR := liftR r g.v w.v
def lo {α : Type} (r : Option α) [w : Hold (α → XR)] : XR := liftO r w.v
def XR.sz (r : XR) [w : Hold (List OD → XR)] : XR := r.seq w.v
def evz (X : Fx) (e : E) [g : Hold (List OD)] (pk : Bool) : R OD := ev X e g.v pk
def forLz (b : List OD → XR) (t : T) [d : Hold (List D)] [g : Hold (List OD)] : XR := forL b t d.v g.v
def whlz (f : List OD → R Bool) (b : List OD → XR) (n : Nat) [g : Hold (List OD)] : XR := whlL f b n g.v
@[simp ↓ low] theorem bz_is {α β : Type} (r : R α) (f : α → R β) : r.bind f = @R.bz α β r ⟨f⟩ := nr rfl
@[simp ↓ low] theorem mz_is {α β : Type} (r : R α) (f : α → β) : r.map f = @R.mz α β r ⟨f⟩ := nr rfl
@[simp ↓ low] theorem lz_is {α : Type} (r : R α) (Γ : List OD) (f : α → XR) : liftR r Γ f = @lz α r ⟨Γ⟩ ⟨f⟩ := nr rfl
@[simp ↓ low] theorem lo_is {α : Type} (r : Option α) (f : α → XR) : liftO r f = @lo α r ⟨f⟩ := nr rfl
@[simp ↓ low] theorem sz_is (r : XR) (f : List OD → XR) : r.seq f = @XR.sz r ⟨f⟩ := nr rfl
@[simp ↓ low] theorem evz_is (X : Fx) (e : E) (Γ : List OD) (pk : Bool) : ev X e Γ pk = @evz X e ⟨Γ⟩ pk := nr rfl
@[simp ↓ low] theorem forLz_is (b : List OD → XR) (t : T) (ds : List D) (Γ : List OD) : forL b t ds Γ = @forLz b t ⟨ds⟩ ⟨Γ⟩ := nr rfl
@[simp ↓ low] theorem whlz_is (f : List OD → R Bool) (b : List OD → XR) (n : Nat) (Γ : List OD) : whlL f b n Γ = @whlz f b n ⟨Γ⟩ := nr rfl
section
variable {α β : Type}
@[simp ↓] theorem z_bind_ok (a : α) (f : α → R β) : @R.bz α β (.ok a) ⟨f⟩ = f a := nr rfl
@[simp ↓] theorem z_bind_ex (c : Nat) (p : Option D) (f : α → R β) : @R.bz α β (.ex c p) ⟨f⟩ = .ex c p := nr rfl
@[simp ↓] theorem z_bind_bad (f : α → R β) : @R.bz α β .bad ⟨f⟩ = .bad := nr rfl
@[simp ↓] theorem z_map_ok (a : α) (f : α → β) : @R.mz α β (.ok a) ⟨f⟩ = .ok (f a) := nr rfl
@[simp ↓] theorem z_map_ex (c : Nat) (p : Option D) (f : α → β) : @R.mz α β (.ex c p) ⟨f⟩ = .ex c p := nr rfl
@[simp] theorem z_map_ofO (o : Option α) (f : α → β) : @R.mz α β (R.ofO o) ⟨f⟩ = R.ofO (o.map f) := by cases o <;> rfl
@[simp ↓] theorem z_liftR_ok (a : α) (Γ : List OD) (f : α → XR) : @lz α (.ok a) ⟨Γ⟩ ⟨f⟩ = f a := nr rfl
@[simp ↓] theorem z_liftR_ex (c : Nat) (p : Option D) (Γ : List OD) (f : α → XR) : @lz α (.ex c p) ⟨Γ⟩ ⟨f⟩ = .ex c p Γ := nr rfl
@[simp ↓] theorem z_liftO (a : α) (f : α → XR) : @lo α (some a) ⟨f⟩ = f a := nr rfl
@[simp ↓] theorem z_seq_nx (Γ : List OD) (f : List OD → XR) : @XR.sz (.ok .nx Γ) ⟨f⟩ = f Γ := nr rfl
@[simp ↓] theorem z_seq_rt (o : OD) (Γ : List OD) (f : List OD → XR) : @XR.sz (.ok (.rt o) Γ) ⟨f⟩ = .ok (.rt o) Γ := nr rfl
@[simp ↓] theorem z_seq_bk (Γ : List OD) (f : List OD → XR) : @XR.sz (.ok .bk Γ) ⟨f⟩ = .ok .bk Γ := nr rfl
@[simp ↓] theorem z_seq_ct (Γ : List OD) (f : List OD → XR) : @XR.sz (.ok .ct Γ) ⟨f⟩ = .ok .ct Γ := nr rfl
@[simp ↓] theorem z_seq_ex (c : Nat) (p : Option D) (Γ : List OD) (f : List OD → XR) : @XR.sz (.ex c p Γ) ⟨f⟩ = .ex c p Γ := nr rfl
end
section
variable {α β : Type}
@[simp ↓] theorem d_bind_ok (a : α) (f : α → R β) : (R.ok a).bind f = f a := nr rfl
@[simp ↓] theorem d_bind_ex (c : Nat) (p : Option D) (f : α → R β) : (R.ex c p : R α).bind f = .ex c p := nr rfl
@[simp ↓] theorem d_bind_bad (f : α → R β) : (R.bad : R α).bind f = .bad := nr rfl
@[simp ↓] theorem d_map_ok (a : α) (f : α → β) : (R.ok a).map f = .ok (f a) := nr rfl
@[simp ↓] theorem d_map_ex (c : Nat) (p : Option D) (f : α → β) : (R.ex c p : R α).map f = .ex c p := nr rfl
@[simp ↓] theorem d_ofO (a : α) : R.ofO (some a) = .ok a := nr rfl
@[simp ↓] theorem d_liftR_ok (a : α) (Γ : List OD) (f : α → XR) : liftR (.ok a) Γ f = f a := nr rfl
@[simp ↓] theorem d_liftR_ex (c : Nat) (p : Option D) (Γ : List OD) (f : α → XR) : liftR (.ex c p) Γ f = .ex c p Γ := nr rfl
@[simp ↓] theorem d_liftO (a : α) (f : α → XR) : liftO (some a) f = f a := nr rfl
@[simp ↓] theorem d_seq_nx (Γ : List OD) (f : List OD → XR) : (XR.ok .nx Γ).seq f = f Γ := nr rfl
@[simp ↓] theorem d_seq_rt (o : OD) (Γ : List OD) (f : List OD → XR) : (XR.ok (.rt o) Γ).seq f = .ok (.rt o) Γ := nr rfl
@[simp ↓] theorem d_seq_bk (Γ : List OD) (f : List OD → XR) : (XR.ok .bk Γ).seq f = .ok .bk Γ := nr rfl
@[simp ↓] theorem d_seq_ct (Γ : List OD) (f : List OD → XR) : (XR.ok .ct Γ).seq f = .ok .ct Γ := nr rfl
@[simp ↓] theorem d_seq_ex (c : Nat) (p : Option D) (Γ : List OD) (f : List OD → XR) : (XR.ex c p Γ).seq f = .ex c p Γ := nr rfl
@[simp ↓] theorem d_obind (a : α) (f : α → Option β) : (some a).bind f = f a := nr rfl
@[simp ↓] theorem d_omap (a : α) (f : α → β) : (some a).map f = some (f a) := nr rfl
end
/-- what is at hand at depth n, not to be unfolded -/
@[irreducible] def gq (P : MP.Prog) (n : Nat) : Gx := P.gx n
theorem gq_eq {P : MP.Prog} {n : Nat} : gq P n = P.gx n := by unfold gq; rfl
section
variable {P : MP.Prog} {n : Nat}
@[simp] theorem gq_cm : (gq P n).calm = true := by rw [gq_eq, gx_cm]
@[simp] theorem gq_hcm : (gq P n).hot.calm = false := by rw [gq_eq, gx_hcm]
@[simp] theorem gq_gv : (gq P n).gv = P.gv := by rw [gq_eq, gx_gv]
@[simp] theorem gq_hgv : (gq P n).hot.gv = P.gv := by rw [gq_eq, gx_hgv]
@[simp] theorem gq_sub : (gq P n).sub = P.sub := by rw [gq_eq, gx_sub]
@[simp] theorem gq_hsub : (gq P n).hot.sub = P.sub := by rw [gq_eq, gx_hsub]
@[simp] theorem gq_xf : (gq P n).xf = P.xf := by rw [gq_eq, gx_xf]
@[simp] theorem gq_hxf : (gq P n).hot.xf = P.xf := by rw [gq_eq, gx_hxf]
@[simp] theorem gq_fld : (gq P n).fld = P.fld := by rw [gq_eq]; cases n <;> rfl
@[simp] theorem gq_hfld : (gq P n).hot.fld = P.fld := by rw [gq_eq]; cases n <;> rfl
@[simp] theorem gq_meth : (gq P n).meth = P.meth := by rw [gq_eq]; cases n <;> rfl
@[simp] theorem gq_wide : (gq P n).wide = P.wide := by rw [gq_eq]; cases n <;> rfl
end
abbrev K (P : MP.Prog) (n f : Nat) (as : List D) : R OD := (gq P n).call f as [] []
theorem K_eq {P : MP.Prog} {n f : Nat} {as : List D} : K P n f as = (P.gx n).call f as [] [] := by unfold K; rw [gq_eq]
theorem call_eq {P : MP.Prog} {n f : Nat} {F : Fn} {as vs : List D} {r : R OD} (h : P.fn f = some F) (hb : bindA F as [] [] = some vs) (he : outR (execs F.body (gq P n) (MP.start F (vs.map .fz))) = r) : K P (n + 1) f as = r := by
  rw [K_eq, call_succ h, hb, ← gq_eq]
  exact he
theorem mcall_run {P : MP.Prog} {n f : Nat} {F : Fn} {rs : List (Bool × List D)} {as vs : List D} {r : R (D × List (Bool × List D))} (h : P.fn f = some F) (hb : bindA F (.non :: as) [] [] = some vs) (he : outM (execs F.body (gq P n) (MP.start F (.own2 true rs :: vs.tail.map .fz))) = r) : (gq P (n + 1)).mcall f rs as = r := by
  rw [gq_eq] at he ⊢
  show (match P.fn f with
    | some F => (match bindA F (.non :: as) [] [] with
      | some vs => outM (execs F.body (P.gx n) (MP.start F (.own2 true rs :: vs.tail.map .fz)))
      | none => .bad)
    | none => .bad) = _
  rw [h]
  simp only
  rw [hb]
  exact he
theorem make_run {P : MP.Prog} {n c : Nat} {C : Cl} {F : Fn} {as vs : List D} {r : R OD} (hc : P.cl c = some C) (h : P.fn C.init = some F) (hb : bindA F (.non :: as) [] [] = some vs) (he : outI P c (execs F.body (gq P n) (MP.start F (.oi c [] :: vs.tail.map .fz))) = r) : (gq P (n + 1)).make c as = r := by
  rw [gq_eq] at he ⊢
  show (match P.cl c with
    | some C => (match P.fn C.init with
      | some F => (match bindA F (.non :: as) [] [] with
        | some vs => outI P c (execs F.body (P.gx n) (MP.start F (.oi c [] :: vs.tail.map .fz)))
        | none => .bad)
      | none => .bad)
    | none => .bad) = _
  rw [hc]
  simp only
  rw [h]
  simp only
  rw [hb]
  exact he
def lk : List OD → Nat → Option OD
  | [], _ => none
  | o :: _, 0 => some o
  | _ :: Γ, i + 1 => lk Γ i
theorem lk_is : ∀ {Γ : List OD} {i : Nat}, lk Γ i = Γ[i]?
  | [], _ => rfl
  | _ :: _, 0 => rfl
  | _ :: Γ, i + 1 => by rw [List.getElem?_cons_succ, ← lk_is (Γ := Γ)]; rfl
@[simp ↓] theorem lk_0 (o : OD) (Γ : List OD) : lk (o :: Γ) 0 = some o := nr rfl
@[simp ↓] theorem lk_1 (o : OD) (Γ : List OD) (i : Nat) : lk (o :: Γ) (i + 1) = lk Γ i := nr rfl
/-- a name's new value -/
def stq : List OD → Nat → OD → Option (List OD)
  | [], _, _ => none
  | _ :: Γ, 0, o => some (o :: Γ)
  | a :: Γ, i + 1, o => (stq Γ i o).map (a :: ·)
theorem stq_is : ∀ {Γ : List OD} {i : Nat} {o : OD}, stq Γ i o = if i < Γ.length then some (Γ.set i o) else none
  | [], i, o => by rw [if_neg (by simp)]; rfl
  | a :: Γ, 0, o => by rw [if_pos (by simp)]; rfl
  | a :: Γ, i + 1, o => by
    show (stq Γ i o).map (a :: ·) = _
    rw [stq_is]
    by_cases h : i < Γ.length
    · rw [if_pos h, if_pos (by simpa using h)]; rfl
    · rw [if_neg h, if_neg (by simpa using h)]; rfl
@[simp ↓] theorem stq_0 (a o : OD) (Γ : List OD) : stq (a :: Γ) 0 o = some (o :: Γ) := nr rfl
@[simp ↓] theorem stq_1 (a o : OD) (Γ : List OD) (i : Nat) : stq (a :: Γ) (i + 1) o = (stq Γ i o).map (a :: ·) := nr rfl
/-- .. in the other writings -/
def st : List OD → Nat → OD → List OD
  | [], _, _ => []
  | _ :: Γ, 0, o => o :: Γ
  | a :: Γ, i + 1, o => a :: st Γ i o
theorem st_is : ∀ {Γ : List OD} {i : Nat} {o : OD}, Γ.set i o = st Γ i o
  | [], i, o => rfl
  | a :: Γ, 0, o => rfl
  | a :: Γ, i + 1, o => by rw [List.set_cons_succ, st_is]; rfl
@[simp ↓] theorem st_0 (a o : OD) (Γ : List OD) : st (a :: Γ) 0 o = o :: Γ := nr rfl
@[simp ↓] theorem st_1 (a o : OD) (Γ : List OD) (i : Nat) : st (a :: Γ) (i + 1) o = a :: st Γ i o := nr rfl
section
variable {X : Fx} {Γ : List OD} {pk : Bool}
@[simp ↓] theorem x_int (i : Int) : ev X (.int i) Γ pk = .ok (.fz (.int i)) := by rw [ev]
@[simp ↓] theorem x_bl (i : Bool) : ev X (.bl i) Γ pk = .ok (.fz (.bl i)) := by rw [ev]
@[simp ↓] theorem x_non : ev X .non Γ pk = .ok (.fz .non) := by rw [ev]
@[simp ↓] theorem x_str (i : List Nat) : ev X (.str i) Γ pk = .ok (.fz (.str i)) := by rw [ev]
@[simp ↓] theorem x_var (i : Nat) : ev X (.var i) Γ pk = varD (lk Γ i) pk := by rw [ev, lk_is]
@[simp ↓] theorem x_glob (g : Nat) : ev X (.glob g) Γ pk = R.ofO ((X.gv g).map .fz) := by rw [ev]
@[simp ↓] theorem x_bin (op : Bop) (a b : E) : ev X (.bin op a b) Γ pk = (oper (isPath a) (ev X a Γ true)).bind fun x => (oper (isPath b) (ev X b Γ true)).bind fun y => binD op x y := by rw [ev]
@[simp ↓] theorem x_neg (a : E) : ev X (.neg a) Γ pk = (asI (oper (isPath a) (ev X a Γ true))).bind fun i => .ok (.fz (.int (-i))) := by rw [ev]
@[simp ↓] theorem x_not (a : E) : ev X (.notE a) Γ pk = (tru (ev X a Γ true)).bind fun b => .ok (.fz (.bl (!b))) := by rw [ev]
@[simp ↓] theorem x_cmp (op : Cop) (a b : E) : ev X (.cmp op a b) Γ pk = (argm (isPath a) (ev X a Γ true)).bind fun x => (argm (isPath b) (ev X b Γ true)).bind fun y => cmpD op x.1 y.1 := by rw [ev]
@[simp ↓] theorem x_chain (o1 o2 : Cop) (a b c : E) : ev X (.chain o1 o2 a b c) Γ pk = (oper (isPath a) (ev X a Γ true)).bind fun x => (oper (isPath b) (ev X b Γ true)).bind fun y => (asB (cmpD o1 x y)).bind fun r =>
      if r then (oper (isPath c) (ev X c Γ true)).bind fun z => cmpD o2 y z else .ok (.fz (.bl false)) := by rw [ev]
@[simp ↓] theorem x_isB (a : E) (b yes : Bool) : ev X (.isB a b yes) Γ pk = (argm (isPath a) (ev X a Γ true)).bind fun x => .ok (.fz (.bl (x.1.isBl b == yes))) := by rw [ev]
@[simp ↓] theorem x_isN (a : E) (yes : Bool) : ev X (.isN a yes) Γ pk = (argm (isPath a) (ev X a Γ true)).bind fun x => .ok (.fz (.bl (x.1.isNon == yes))) := by rw [ev]
@[simp ↓] theorem x_and (a b : E) : ev X (.andE a b) Γ pk = (asB (ev X a Γ true)).bind fun c => if c then (asB (ev X b Γ true)).bind fun d => .ok (.fz (.bl d)) else .ok (.fz (.bl false)) := by rw [ev]
@[simp ↓] theorem x_or (a b : E) : ev X (.orE a b) Γ pk = (asB (ev X a Γ true)).bind fun c => if c then .ok (.fz (.bl true)) else (asB (ev X b Γ true)).bind fun d => .ok (.fz (.bl d)) := by rw [ev]
@[simp ↓] theorem x_one (a : E) : ev X (.one a) Γ pk = (asB (ev X a Γ true)).bind fun b => .ok (.fz (.bl b)) := by rw [ev]
@[simp ↓] theorem x_ite (c a b : E) : ev X (.ite c a b) Γ pk = (tru (ev X c Γ true)).bind fun t => if t then ev X a Γ false else ev X b Γ false := by rw [ev]
@[simp ↓] theorem x_tup (es : List E) : ev X (.tup es) Γ pk = (evF X es Γ).bind fun ds => .ok (.fz (.tup ds)) := by rw [ev]
@[simp ↓] theorem x_lst (es : List E) : ev X (.lst es) Γ pk = (evV X es Γ).bind fun os => R.ofO (mkOwn os) := by rw [ev]
@[simp ↓] theorem x_sub (a i : E) : ev X (.sub a i) Γ pk = (ev X a Γ true).bind fun o => (asI (oper (isPath i) (ev X i Γ true))).bind fun j => subD pk (isPath a) o j := by rw [ev]
@[simp ↓] theorem x_slc (a lo hi : E) : ev X (.slc a lo hi) Γ pk = (oper (isPath a) (ev X a Γ true)).bind fun x => (part (isNon lo) (oper (isPath lo) (ev X lo Γ true))).bind fun l => (part (isNon hi) (oper (isPath hi) (ev X hi Γ true))).bind fun h => slcD x l h := by rw [ev]
@[simp ↓] theorem x_rev (a : E) : ev X (.rev a) Γ pk = (oper (isPath a) (ev X a Γ true)).bind revD := by rw [ev]
@[simp ↓] theorem x_attr (a : E) (f : Nat) : ev X (.attr a f) Γ pk = (ev X a Γ true).bind fun o => attrD X f o := by rw [ev]
@[simp ↓] theorem x_call (f : Nat) (es : List E) : ev X (.call f es [] []) Γ pk = (evAs X es Γ).bind fun as => lent as (X.call f (as.map (·.1)) [] []) := by
  rw [ev]
  simp only [evAs, R.bind_ok, List.append_nil, List.map_nil]
theorem x_mk (hc : X.calm = true) (c : Nat) (es : List E) : ev X (.mk c es) Γ pk = (evAs X es Γ).bind fun as => lent as (X.make c (as.map (·.1))) := by rw [ev, hc]; rfl
theorem x_meth (hc : X.calm = true) (a : E) (m : Nat) (es : List E) : ev X (.meth a m es) Γ pk = (oper (isPath a) (ev X a Γ true)).bind fun x => (match x with
    | .obj c ds => (match X.meth c m with
      | some f => (evAs X es Γ).bind fun as => lent as (X.call f (.obj c ds :: as.map (·.1)) [] [])
      | none => .bad)
    | _ => .bad) := by rw [ev, hc]; rfl
theorem x_blt (hc : X.calm = true) (f : Blt) (es : List E) : ev X (.blt f es) Γ pk = (evOs X es Γ).bind fun xs => bltD f xs := by rw [ev, hc]; rfl
@[simp ↓] theorem x_blth (hc : X.calm = false) (f : Blt) (es : List E) (h : f.anyhow = true) : ev X (.blt f es) Γ pk = (evOs X es Γ).bind fun xs => bltD f xs := by rw [ev, hc, h]; rfl
@[simp ↓] theorem x_bm (m : Bm) (a : E) (es : List E) : ev X (.bm m a es) Γ pk = (oper (isPath a) (ev X a Γ true)).bind fun x => (evOs X es Γ).bind fun xs => bmD m x xs := by rw [ev]
@[simp ↓] theorem x_inst (a : E) (ts : List Ty) : ev X (.inst a ts) Γ pk = (ev X a Γ true).bind fun o => R.ofO ((anyTy o X.sub ts).map fun b => .fz (.bl b)) := by rw [ev]
theorem x_comp (hc : X.calm = true) (e : E) (tg : T) (it : E) (cs : List E) : ev X (.comp e tg it cs) Γ pk = (itemsR (oper (isPath it) (ev X it Γ true))).bind fun ds => if line < ds.length then .bad else (compL (fun Γ' => ev X e Γ' false) (fun Γ' => evC X cs Γ') tg Γ ds).bind fun os => R.ofO (mkOwn os) := by
  rw [ev, hc]; rfl
theorem x_rng (hc : X.calm = true) (es : List E) : ev X (.rng es) Γ pk = (evOs X es Γ).bind rngD := by rw [ev, hc]; rfl
@[simp ↓] theorem x_enm (e : E) : ev X (.enm e) Γ pk = (itemsR (frz (ev X e Γ false))).bind fun ds => .ok (.fz (.lst (enmD 0 ds))) := by rw [ev]
@[simp ↓] theorem x_zip (a b : E) : ev X (.zip a b) Γ pk = (frz (ev X a Γ false)).bind fun x => (frz (ev X b Γ false)).bind fun y => (zipR x y).map .fz := by rw [ev]
@[simp ↓] theorem x_os0 : evOs X [] Γ = .ok [] := by rw [evOs]
@[simp ↓] theorem x_os1 (e : E) (es : List E) : evOs X (e :: es) Γ = (oper (isPath e) (ev X e Γ true)).bind fun d => (evOs X es Γ).bind fun ds => .ok (d :: ds) := by rw [evOs]
@[simp ↓] theorem x_as0 : evAs X [] Γ = .ok [] := by rw [evAs]
@[simp ↓] theorem x_as1 (e : E) (es : List E) : evAs X (e :: es) Γ = (argm (isPath e) (ev X e Γ true)).bind fun d => (evAs X es Γ).bind fun ds => .ok (d :: ds) := by rw [evAs]
@[simp ↓] theorem x_f0 : evF X [] Γ = .ok [] := by rw [evF]
@[simp ↓] theorem x_f1 (e : E) (es : List E) : evF X (e :: es) Γ = (frz (ev X e Γ false)).bind fun d => (evF X es Γ).bind fun ds => .ok (d :: ds) := by rw [evF]
@[simp ↓] theorem x_v0 : evV X [] Γ = .ok [] := by rw [evV]
@[simp ↓] theorem x_v1 (e : E) (es : List E) : evV X (e :: es) Γ = (ev X e Γ false).bind fun d => (evV X es Γ).bind fun ds => .ok (d :: ds) := by rw [evV]
@[simp ↓] theorem x_c0 : evC X [] Γ = .ok true := by rw [evC]
@[simp ↓] theorem x_c1 (e : E) (es : List E) : evC X (e :: es) Γ = (tru (ev X e Γ true)).bind fun b => if b then evC X es Γ else .ok false := by rw [evC]
end
section
variable {P : MP.Prog} {n : Nat} {Γ : List OD} {pk : Bool}
@[simp ↓] theorem z_mk (c : Nat) (es : List E) : ev (gq P n).toFx (.mk c es) Γ pk = (evAs (gq P n).toFx es Γ).bind fun as => lent as ((gq P n).make c (as.map (·.1))) := x_mk gq_cm c es
@[simp ↓] theorem z_meth (a : E) (m : Nat) (es : List E) : ev (gq P n).toFx (.meth a m es) Γ pk = (oper (isPath a) (ev (gq P n).toFx a Γ true)).bind fun x => (match x with
    | .obj c ds => (match (gq P n).meth c m with
      | some f => (evAs (gq P n).toFx es Γ).bind fun as => lent as ((gq P n).call f (.obj c ds :: as.map (·.1)) [] [])
      | none => .bad)
    | _ => .bad) := x_meth gq_cm a m es
@[simp ↓] theorem z_blt (f : Blt) (es : List E) : ev (gq P n).toFx (.blt f es) Γ pk = (evOs (gq P n).toFx es Γ).bind fun xs => bltD f xs := x_blt gq_cm f es
@[simp ↓] theorem z_rng (es : List E) : ev (gq P n).toFx (.rng es) Γ pk = (evOs (gq P n).toFx es Γ).bind rngD := x_rng gq_cm es
end
def isOwn : Option OD → Bool
  | some (.own _) => true
  | some (.own2 _ _) => true
  | _ => false
@[simp ↓] theorem isOwn_1 (ds : List D) : isOwn (some (.own ds)) = true := nr rfl
@[simp ↓] theorem isOwn_2 (p : Bool) (ds : List (Bool × List D)) : isOwn (some (.own2 p ds)) = true := nr rfl
theorem ownAt_is {Γ : List OD} {x : Nat} : ownAt Γ x = isOwn (lk Γ x) := by
  rw [lk_is]
  unfold ownAt
  cases Γ[x]? with
  | none => rfl
  | some o => cases o <;> first | rfl | (simp only [appO, setO, frz2O, frzO, st_is])
def appO (Γ : List OD) (x : Nat) (o : OD) : Option OD → Option (List OD)
  | some (.own ds) => if ds.length < line then o.toD.map fun d => st Γ x (.own (ds ++ [d])) else none
  | some (.own2 p rs) => if rs.length < line then (rowO o).map fun r => st Γ x (.own2 p (rs ++ [r])) else none
  | _ => none
@[simp ↓] theorem appAt_is {Γ : List OD} {x : Nat} {o : OD} : appAt Γ x o = appO Γ x o (lk Γ x) := by
  rw [lk_is]
  unfold appAt
  cases Γ[x]? with
  | none => rfl
  | some o => cases o <;> first | rfl | (simp only [appO, st_is])
@[simp ↓] theorem appO_1 {Γ : List OD} {x : Nat} {d : D} {ds : List D} (h : ds.length < 1000000) : appO Γ x (.fz d) (some (.own ds)) = some (st Γ x (.own (ds ++ [d]))) := by
  exact if_pos h
@[simp ↓] theorem appO_2 {Γ : List OD} {x : Nat} {d : List D} {ds : List D} (h : ds.length < 1000000) : appO Γ x (.own d) (some (.own ds)) = some (st Γ x (.own (ds ++ [.lst d]))) := by
  exact if_pos h
@[simp ↓] theorem appO_3 {Γ : List OD} {x : Nat} {p : Bool} {d : List D} {rs : List (Bool × List D)} (h : rs.length < 1000000) : appO Γ x (.own d) (some (.own2 p rs)) = some (st Γ x (.own2 p (rs ++ [(false, d)]))) := by
  exact if_pos h
def setO (Γ : List OD) (x : Nat) (j : Int) (o : OD) : Option OD → Option (List OD)
  | some (.own ds) => (ixN ds.length j).bind fun k => o.toD.map fun d => st Γ x (.own (ds.set k d))
  | some (.own2 p rs) => (ixN rs.length j).bind fun k => (rowO o).map fun r => st Γ x (.own2 p (rs.set k r))
  | _ => none
@[simp ↓] theorem setAt_is {Γ : List OD} {x : Nat} {j : Int} {o : OD} : setAt Γ x j o = setO Γ x j o (lk Γ x) := by
  rw [lk_is]
  unfold setAt
  cases Γ[x]? with
  | none => rfl
  | some o => cases o <;> first | rfl | (simp only [setO, st_is])
@[simp ↓] theorem setO_1 {Γ : List OD} {x : Nat} {j : Int} {d : D} {ds : List D} : setO Γ x j (.fz d) (some (.own ds)) = (ixN ds.length j).map fun k => st Γ x (.own (ds.set k d)) := by
  show (ixN ds.length j).bind _ = _
  cases ixN ds.length j <;> rfl
@[simp ↓] theorem setO_2 {Γ : List OD} {x : Nat} {j : Int} {d : List D} {ds : List D} : setO Γ x j (.own d) (some (.own ds)) = (ixN ds.length j).map fun k => st Γ x (.own (ds.set k (.lst d))) := by
  show (ixN ds.length j).bind _ = _
  cases ixN ds.length j <;> rfl
@[simp ↓] theorem setO_3 {Γ : List OD} {x : Nat} {j : Int} {p : Bool} {d : List D} {ds : List (Bool × List D)} : setO Γ x j (.own d) (some (.own2 p ds)) = (ixN ds.length j).map fun k => st Γ x (.own2 p (ds.set k (false, d))) := by
  show (ixN ds.length j).bind _ = _
  cases ixN ds.length j <;> rfl
def frz2O (Γ : List OD) (x : Nat) : Option OD → Option (List OD)
  | some (.own2 p rs) => some (st Γ x (.own2 p (rs.map fun r => (true, r.2))))
  | some _ => some Γ
  | none => none
@[simp ↓] theorem frz2At_is {Γ : List OD} {x : Nat} : frz2At Γ x = frz2O Γ x (lk Γ x) := by
  rw [lk_is]
  unfold frz2At
  cases Γ[x]? with
  | none => rfl
  | some o => cases o <;> first | rfl | (simp only [frz2O, st_is])
@[simp ↓] theorem frz2O_1 {Γ : List OD} {x : Nat} {p : Bool} {rs : List (Bool × List D)} : frz2O Γ x (some (.own2 p rs)) = some (st Γ x (.own2 p (rs.map fun r => (true, r.2)))) := nr rfl
def frzO (Γ : List OD) (x : Nat) : Option OD → Option (List OD)
  | some o => o.toD.map fun d => st Γ x (.fz d)
  | none => none
@[simp ↓] theorem frzAt_is {Γ : List OD} {x : Nat} : frzAt Γ x = frzO Γ x (lk Γ x) := by
  rw [lk_is]
  unfold frzAt
  cases Γ[x]? with
  | none => rfl
  | some o => cases o <;> first | rfl | (simp only [frzO, st_is])
@[simp ↓] theorem frzO_1 {Γ : List OD} {x : Nat} {d : D} : frzO Γ x (some (.fz d)) = some (st Γ x (.fz d)) := nr rfl
@[simp ↓] theorem frzO_2 {Γ : List OD} {x : Nat} {d : List D} : frzO Γ x (some (.own d)) = some (st Γ x (.fz (.lst d))) := nr rfl
def row2O (i : Int) : Option OD → Bool
  | some (.own2 _ rs) => (match ixN rs.length i with
    | some k => (match rs[k]? with
      | some (false, _) => true
      | _ => false)
    | none => false)
  | _ => false
@[simp ↓] theorem row2_is {Γ : List OD} {x : Nat} {i : Int} : row2 Γ x i = row2O i (lk Γ x) := by
  rw [lk_is]
  unfold row2
  cases Γ[x]? with
  | none => rfl
  | some o => cases o <;> rfl
def set2O (Γ : List OD) (x : Nat) (i j : Int) (o : OD) : Option OD → Option (List OD)
  | some (.own2 p rs) => (ixN rs.length i).bind fun k => (match rs[k]? with
    | some (false, ds) => (ixN ds.length j).bind fun l => o.toD.map fun d => st Γ x (.own2 p (rs.set k (false, ds.set l d)))
    | _ => none)
  | _ => none
@[simp ↓] theorem set2At_is {Γ : List OD} {x : Nat} {i j : Int} {o : OD} : set2At Γ x i j o = set2O Γ x i j o (lk Γ x) := by
  rw [lk_is]
  unfold set2At
  cases Γ[x]? with
  | none => rfl
  | some o => cases o <;> first | rfl | (simp only [set2O, st_is]; done) | (simp only [set2O, st_is]; rfl)
@[simp ↓] theorem frzAll_0 {Γ : List OD} : frzAll [] Γ = some Γ := nr rfl
@[simp ↓] theorem frzAll_1 {Γ : List OD} {x : Nat} {xs : List Nat} : frzAll (x :: xs) Γ = (frzAt Γ x).bind (frzAll xs) := nr rfl
section
variable {X : Gx} {Γ : List OD}
@[simp ↓] theorem y_nil : execs [] X Γ = .ok .nx Γ := by rw [execs]
@[simp ↓] theorem y_cons (s : S) (ss : List S) : execs (s :: ss) X Γ = (exec s X Γ).seq fun Γ' => execs ss X Γ' := by rw [execs]
@[simp ↓] theorem y_ex (e : E) : exec (.ex e) X Γ = liftR (ev X.toFx e Γ true) Γ fun _ => .ok .nx Γ := by rw [exec]
@[simp ↓] theorem y_asg (i : Nat) (e : E) : exec (.asg (.n i) e) X Γ = liftR (ev X.toFx e Γ false) Γ fun o => liftO (setT (.n i) o Γ) fun Γ' => .ok .nx Γ' := by
  rw [exec]
  simp
theorem y_asgT (h : X.calm = true) (ts : List T) (e : E) : exec (.asg (.t ts) e) X Γ = liftR (ev X.toFx e Γ false) Γ fun o => liftO (setT (.t ts) o Γ) fun Γ' => .ok .nx Γ' := by
  rw [exec]
  simp [h]
@[simp ↓] theorem y_retV (i : Nat) : exec (.ret (.var i)) X Γ = liftR (varD (lk Γ i) true) Γ fun o => .ok (.rt o) Γ := by
  rw [exec, lk_is]
  rfl
theorem y_ret (e : E) (h : ∀ i, e ≠ .var i) : exec (.ret e) X Γ = liftR (ev X.toFx e Γ false) Γ fun o => .ok (.rt o) Γ := by
  rw [exec]
  unfold retE
  cases e <;> first | rfl | exact absurd rfl (h _)
@[simp ↓] theorem y_ret1 (a : E) : exec (.ret (.neg a)) X Γ = liftR (ev X.toFx (.neg a) Γ false) Γ fun o => .ok (.rt o) Γ := y_ret _ fun _ h => nomatch h
@[simp ↓] theorem y_ret2 (i : Int) : exec (.ret (.int i)) X Γ = .ok (.rt (.fz (.int i))) Γ := (y_ret _ fun _ h => by cases h).trans (by rw [x_int]; rfl)
@[simp ↓] theorem y_ret3 (i : Bool) : exec (.ret (.bl i)) X Γ = .ok (.rt (.fz (.bl i))) Γ := (y_ret _ fun _ h => by cases h).trans (by rw [x_bl]; rfl)
@[simp ↓] theorem y_ret4 : exec (.ret .non) X Γ = .ok (.rt (.fz .non)) Γ := (y_ret _ fun _ h => by cases h).trans (by rw [x_non]; rfl)
@[simp ↓] theorem y_ret5 (i : List Nat) : exec (.ret (.str i)) X Γ = .ok (.rt (.fz (.str i))) Γ := (y_ret _ fun _ h => by cases h).trans (by rw [x_str]; rfl)
@[simp ↓] theorem y_ret6 (op : Bop) (a b : E) : exec (.ret (.bin op a b)) X Γ = liftR (ev X.toFx (.bin op a b) Γ false) Γ fun o => .ok (.rt o) Γ := y_ret _ fun _ h => nomatch h
@[simp ↓] theorem y_ret7 (op : Cop) (a b : E) : exec (.ret (.cmp op a b)) X Γ = liftR (ev X.toFx (.cmp op a b) Γ false) Γ fun o => .ok (.rt o) Γ := y_ret _ fun _ h => nomatch h
@[simp ↓] theorem y_ret8 (a : E) : exec (.ret (.notE a)) X Γ = liftR (ev X.toFx (.notE a) Γ false) Γ fun o => .ok (.rt o) Γ := y_ret _ fun _ h => nomatch h
@[simp ↓] theorem y_ret9 (a b : E) : exec (.ret (.andE a b)) X Γ = liftR (ev X.toFx (.andE a b) Γ false) Γ fun o => .ok (.rt o) Γ := y_ret _ fun _ h => nomatch h
@[simp ↓] theorem y_ret10 (a b : E) : exec (.ret (.orE a b)) X Γ = liftR (ev X.toFx (.orE a b) Γ false) Γ fun o => .ok (.rt o) Γ := y_ret _ fun _ h => nomatch h
@[simp ↓] theorem y_ret11 (es : List E) : exec (.ret (.tup es)) X Γ = liftR (ev X.toFx (.tup es) Γ false) Γ fun o => .ok (.rt o) Γ := y_ret _ fun _ h => nomatch h
@[simp ↓] theorem y_ret12 (es : List E) : exec (.ret (.lst es)) X Γ = liftR (ev X.toFx (.lst es) Γ false) Γ fun o => .ok (.rt o) Γ := y_ret _ fun _ h => nomatch h
@[simp ↓] theorem y_ret13 (a b : E) : exec (.ret (.sub a b)) X Γ = liftR (ev X.toFx (.sub a b) Γ false) Γ fun o => .ok (.rt o) Γ := y_ret _ fun _ h => nomatch h
@[simp ↓] theorem y_ret14 (f : Nat) (es : List E) (ks : List Nat) (kes : List E) : exec (.ret (.call f es ks kes)) X Γ = liftR (ev X.toFx (.call f es ks kes) Γ false) Γ fun o => .ok (.rt o) Γ := y_ret _ fun _ h => nomatch h
@[simp ↓] theorem y_ret15 (f : Nat) (es : List E) : exec (.ret (.mk f es)) X Γ = liftR (ev X.toFx (.mk f es) Γ false) Γ fun o => .ok (.rt o) Γ := y_ret _ fun _ h => nomatch h
@[simp ↓] theorem y_ret16 (f : Blt) (es : List E) : exec (.ret (.blt f es)) X Γ = liftR (ev X.toFx (.blt f es) Γ false) Γ fun o => .ok (.rt o) Γ := y_ret _ fun _ h => nomatch h
@[simp ↓] theorem y_ret17 (e : E) (tg : T) (it : E) (cs : List E) : exec (.ret (.comp e tg it cs)) X Γ = liftR (ev X.toFx (.comp e tg it cs) Γ false) Γ fun o => .ok (.rt o) Γ := y_ret _ fun _ h => nomatch h
@[simp ↓] theorem y_ret18 (a : E) (f : Nat) : exec (.ret (.attr a f)) X Γ = liftR (ev X.toFx (.attr a f) Γ false) Γ fun o => .ok (.rt o) Γ := y_ret _ fun _ h => nomatch h
@[simp ↓] theorem y_ret19 (a : E) (b : Bool) : exec (.ret (.isN a b)) X Γ = liftR (ev X.toFx (.isN a b) Γ false) Γ fun o => .ok (.rt o) Γ := y_ret _ fun _ h => nomatch h
@[simp ↓] theorem y_ret20 (a : E) (b : Bool) (c : Bool) : exec (.ret (.isB a b c)) X Γ = liftR (ev X.toFx (.isB a b c) Γ false) Γ fun o => .ok (.rt o) Γ := y_ret _ fun _ h => nomatch h
@[simp ↓] theorem y_ret21 (a : E) (m : Nat) (es : List E) : exec (.ret (.meth a m es)) X Γ = liftR (ev X.toFx (.meth a m es) Γ false) Γ fun o => .ok (.rt o) Γ := y_ret _ fun _ h => nomatch h
@[simp ↓] theorem y_ret22 (a : E) (ts : List Ty) : exec (.ret (.inst a ts)) X Γ = liftR (ev X.toFx (.inst a ts) Γ false) Γ fun o => .ok (.rt o) Γ := y_ret _ fun _ h => nomatch h
@[simp ↓] theorem y_ret23 (a b c : E) : exec (.ret (.ite a b c)) X Γ = liftR (ev X.toFx (.ite a b c) Γ false) Γ fun o => .ok (.rt o) Γ := y_ret _ fun _ h => nomatch h
@[simp ↓] theorem y_ret24 (a b c : E) : exec (.ret (.slc a b c)) X Γ = liftR (ev X.toFx (.slc a b c) Γ false) Γ fun o => .ok (.rt o) Γ := y_ret _ fun _ h => nomatch h
@[simp ↓] theorem y_iff (c : E) (a b : List S) : exec (.iff c a b) X Γ = liftR (tru (ev X.toFx c Γ true)) Γ fun t => if t then execs a X Γ else execs b X Γ := by rw [exec]
theorem y_for (h : X.calm = true) (t : T) (it : E) (b : List S) : exec (.forr t it b) X Γ = liftR (itemsR (frz (ev X.toFx it Γ false))) Γ fun ds => forL (fun Γ => execs b X Γ) t ds Γ := by rw [exec, h]; rfl
theorem y_whl (h : X.calm = true) (c : E) (b : List S) : exec (.whl c b) X Γ = whlL (fun Γ => tru (ev X.toFx c Γ true)) (fun Γ => execs b X Γ) X.wide Γ := by rw [exec, h]; rfl
@[simp ↓] theorem y_pass : exec .pass X Γ = .ok .nx Γ := by rw [exec]
@[simp ↓] theorem y_cont : exec .cont X Γ = .ok .ct Γ := by rw [exec]
@[simp ↓] theorem y_brk : exec .brk X Γ = .ok .bk Γ := by rw [exec]
@[simp ↓] theorem y_frz (xs : List Nat) : exec (.frz xs) X Γ = liftO (frzAll xs Γ) fun Γ' => .ok .nx Γ' := by rw [exec]
@[simp ↓] theorem y_frz2 (x : Nat) : exec (.frz2 x) X Γ = liftO (frz2At Γ x) fun Γ' => .ok .nx Γ' := by rw [exec]
@[simp ↓] theorem y_set (x : Nat) (i e : E) : exec (.set x i e) X Γ = if isOwn (lk Γ x) = true then liftR (ev X.toFx e Γ false) Γ fun o => liftR (asI (oper (isPath i) (ev X.toFx i Γ true))) Γ fun j => liftO (setAt Γ x j o) fun Γ' => .ok .nx Γ' else .bad := by
  rw [exec, ownAt_is]
  cases isOwn (lk Γ x) <;> rfl
@[simp ↓] theorem y_set2 (x : Nat) (i j e : E) : exec (.set2 x i j e) X Γ = if isOwn (lk Γ x) = true then liftR (ev X.toFx e Γ false) Γ fun o => liftR (asI (oper (isPath i) (ev X.toFx i Γ true))) Γ fun a => if row2 Γ x a = false then .bad else liftR (asI (oper (isPath j) (ev X.toFx j Γ true))) Γ fun b =>
      liftO (set2At Γ x a b o) fun Γ' => .ok .nx Γ' else .bad := by
  rw [exec, ownAt_is]
  cases isOwn (lk Γ x) <;> rfl
@[simp ↓] theorem y_app (x : Nat) (e : E) : exec (.app x e) X Γ = if isOwn (lk Γ x) = true then liftR (ev X.toFx e Γ false) Γ fun o => liftO (appAt Γ x o) fun Γ' => .ok .nx Γ' else .bad := by
  rw [exec, ownAt_is]
  cases isOwn (lk Γ x) <;> rfl
theorem y_fld (hc : X.calm = true) (f : Nat) (e : E) : exec (.fld f e) X Γ = liftR (ev X.toFx e Γ false) Γ fun o => liftO (fldAt X.fld Γ f o) fun Γ' => .ok .nx Γ' := by rw [exec, hc]; rfl
theorem y_rais (hc : X.calm = true) (c : Nat) (es : List E) : exec (.rais c es) X Γ = liftR (evF X.toFx es Γ) Γ fun ds => .ex c (if (X.xf c).isSome then (match ds with
      | [d] => some d
      | _ => none) else none) Γ := by rw [exec, hc]; rfl
theorem y_mcall (hc : X.calm = true) (t f x : Nat) (es : List E) : exec (.mcall t f x es) X Γ = (match lk Γ x with
    | some (.own2 p rs) => liftR (evAs X.toFx es (st Γ x .un)) (st Γ x .un) fun as => if as.any (·.2) then .bad else (match X.mcall f rs (as.map (·.1)) with
      | .ok (d, rs') => if t = x then .bad else liftO (setT (.n t) (.fz d) (st Γ x (.own2 p rs'))) fun Γ' => .ok .nx Γ'
      | _ => .bad)
    | _ => .bad) := by
  rw [exec, hc, lk_is]
  simp only [← st_is]
  rfl
end
@[simp] theorem varD_own2 (p : Bool) (rs : List (Bool × List D)) : varD (some (.own2 p rs)) true = .ok (.own2 p rs) := nr rfl
@[simp] theorem varD_oi (c : Nat) (fs : List (Nat × D)) : varD (some (.oi c fs)) true = .ok (.oi c fs) := nr rfl
section
variable {P : MP.Prog} {n : Nat} {Γ : List OD}
@[simp ↓] theorem z_asgT (ts : List T) (e : E) : exec (.asg (.t ts) e) (gq P n) Γ = liftR (ev (gq P n).toFx e Γ false) Γ fun o => liftO (setT (.t ts) o Γ) fun Γ' => .ok .nx Γ' := y_asgT gq_cm ts e
@[simp ↓] theorem z_for (t : T) (it : E) (b : List S) : exec (.forr t it b) (gq P n) Γ = liftR (itemsR (frz (ev (gq P n).toFx it Γ false))) Γ fun ds => forL (fun Γ => execs b (gq P n) Γ) t ds Γ := y_for gq_cm t it b
@[simp ↓] theorem z_whl (c : E) (b : List S) : exec (.whl c b) (gq P n) Γ = whlL (fun Γ => tru (ev (gq P n).toFx c Γ true)) (fun Γ => execs b (gq P n) Γ) P.wide Γ := by rw [y_whl gq_cm, gq_wide]
@[simp ↓] theorem z_fld (f : Nat) (e : E) : exec (.fld f e) (gq P n) Γ = liftR (ev (gq P n).toFx e Γ false) Γ fun o => liftO (fldAt (gq P n).fld Γ f o) fun Γ' => .ok .nx Γ' := y_fld gq_cm f e
@[simp ↓] theorem z_rais (c : Nat) (es : List E) : exec (.rais c es) (gq P n) Γ = liftR (evF (gq P n).toFx es Γ) Γ fun ds => .ex c (if ((gq P n).xf c).isSome then (match ds with
      | [d] => some d
      | _ => none) else none) Γ := y_rais gq_cm c es
@[simp ↓] theorem z_mcall (t f x : Nat) (es : List E) : exec (.mcall t f x es) (gq P n) Γ = (match lk Γ x with
    | some (.own2 p rs) => liftR (evAs (gq P n).toFx es (st Γ x .un)) (st Γ x .un) fun as => if as.any (·.2) then .bad else (match (gq P n).mcall f rs (as.map (·.1)) with
      | .ok (d, rs') => if t = x then .bad else liftO (setT (.n t) (.fz d) (st Γ x (.own2 p rs'))) fun Γ' => .ok .nx Γ'
      | _ => .bad)
    | _ => .bad) := y_mcall gq_cm t f x es
end
/-- a row of n things -/
def vec (n : Nat) (F : Nat → D) : List D := (List.range n).map F
@[simp] theorem vec_len (n : Nat) (F : Nat → D) : (vec n F).length = n := by unfold vec; rw [List.length_map, List.length_range]
@[simp] theorem vec_at {n k : Nat} {F : Nat → D} (h : k < n) : atI (vec n F) (k : Int) = some (F k) := by
  rw [Lr.atI_nat]
  unfold vec
  rw [List.getElem?_map, List.getElem?_range h]
  rfl
theorem vec_congr {n : Nat} {F G : Nat → D} (h : ∀ k, k < n → F k = G k) : vec n F = vec n G := by
  unfold vec
  exact List.map_congr_left fun k m => h k (List.mem_range.mp m)
theorem vec_cons (n : Nat) (F : Nat → D) : vec (n + 1) F = F 0 :: vec n fun k => F (k + 1) := by
  unfold vec
  rw [List.range_succ_eq_map, List.map_cons, List.map_map]
  rfl
theorem vec_snoc (n : Nat) (F : Nat → D) : vec (n + 1) F = vec n F ++ [F n] := by
  unfold vec
  rw [List.range_succ, List.map_append]
  rfl
theorem vec_set {n k : Nat} {F : Nat → D} {d : D} (h : k < n) : (vec n F).set k d = vec n fun j => if j = k then d else F j := by
  unfold vec
  apply List.ext_getElem?
  intro j
  rw [List.getElem?_set, List.getElem?_map, List.getElem?_map, List.length_map, List.length_range]
  by_cases e : k = j
  · subst e
    rw [if_pos rfl, if_pos h, List.getElem?_range h]
    simp
  · rw [if_neg e]
    by_cases hj : j < n
    · rw [List.getElem?_range hj]
      simp [Ne.symm e]
    · rw [List.getElem?_eq_none (by rw [List.length_range]; omega)]
      rfl
@[simp] theorem vec_at1 {n k : Nat} {F : Nat → D} (h : k + 1 < n) : atI (vec n F) ((k : Int) + 1) = some (F (k + 1)) := by
  have := vec_at (F := F) h
  exact_mod_cast this
@[simp] theorem vec_at_0 {n : Nat} {F : Nat → D} (h : 0 < n) : atI (vec n F) 0 = some (F 0) := vec_at (k := 0) h
@[simp] theorem vec_at_1 {n : Nat} {F : Nat → D} (h : 1 < n) : atI (vec n F) 1 = some (F 1) := vec_at (k := 1) h
@[simp] theorem vec_at_2 {n : Nat} {F : Nat → D} (h : 2 < n) : atI (vec n F) 2 = some (F 2) := vec_at (k := 2) h
@[simp] theorem vec_at_m {n : Nat} {F : Nat → D} (h : 0 < n) : atI (vec n F) (-1) = some (F (n - 1)) := by
  unfold atI
  rw [vec_len, ixN_last h]
  unfold vec
  rw [Option.bind_some, List.getElem?_map, List.getElem?_range (by omega)]
  rfl
@[simp] theorem ixN_k {n k : Nat} (h : k < n) : ixN n (k : Int) = some k := ixN_nat h
@[simp] theorem ixN_k1 {n k : Nat} (h : k + 1 < n) : ixN n ((k : Int) + 1) = some (k + 1) := by
  have := ixN_nat h
  exact_mod_cast this
@[simp] theorem R_ofO_map {α β : Type} (o : Option α) (f : α → β) : (R.ofO o).map f = R.ofO (o.map f) := by cases o <;> rfl
theorem line_def : line = 1000000 := rfl
@[simp] theorem toD_fz (d : D) : (OD.fz d).toD = some d := nr rfl
@[simp] theorem toD_own (d : List D) : (OD.own d).toD = some (.lst d) := nr rfl
@[simp] theorem items_t (d : List D) : (D.tup d).items = some d := nr rfl
@[simp] theorem items_l (d : List D) : (D.lst d).items = some d := nr rfl
@[simp ↓] theorem setT_n' (i : Nat) (o : OD) (Γ : List OD) : setT (.n i) o Γ = stq Γ i o := stq_is.symm
@[simp ↓] theorem setT_tt (ts : List T) (ds : List D) (Γ : List OD) : setT (.t ts) (.fz (.tup ds)) Γ = setTs ts ds Γ := nr rfl
@[simp ↓] theorem setT_tl (ts : List T) (ds : List D) (Γ : List OD) : setT (.t ts) (.fz (.lst ds)) Γ = setTs ts ds Γ := nr rfl
@[simp ↓] theorem setTs_0 (Γ : List OD) : setTs [] [] Γ = some Γ := nr rfl
@[simp ↓] theorem setTs_1 (t : T) (ts : List T) (d : D) (ds : List D) (Γ : List OD) : setTs (t :: ts) (d :: ds) Γ = (setT t (.fz d) Γ).bind (setTs ts ds) := nr rfl
@[simp] theorem isPath_v (i : Nat) : isPath (.var i) = true := nr rfl
@[simp] theorem isPath_s (a i : E) : isPath (.sub a i) = isPath a := nr rfl
@[simp] theorem outM_rt (d : D) (rs : List (Bool × List D)) (Γ : List OD) : outM (.ok (.rt (.fz d)) (.own2 true rs :: Γ)) = .ok (d, rs) := nr rfl
end MP

end

section
set_option linter.all false
set_option maxRecDepth 100000
/-! Loops by invariants. -/
namespace MP
/-- a loop that goes through -/
theorem forL_inv {body : List OD → XR} {t : T} {n : Nat} {F : Nat → D} {Γ0 : List OD} (I : Nat → List OD → Prop) (h0 : I 0 Γ0)
    (step : ∀ k Γ, k < n → I k Γ → ∃ Γ1 Γ2, setT t (.fz (F k)) Γ = some Γ1 ∧ (body Γ1 = .ok .nx Γ2 ∨ body Γ1 = .ok .ct Γ2) ∧ I (k + 1) Γ2) : ∃ Γ', @forLz body t ⟨vec n F⟩ ⟨Γ0⟩ = .ok .nx Γ' ∧ I n Γ' := by
  have key : ∀ m k Γ, k + m = n → I k Γ → ∃ Γ', forL body t ((List.range' k m).map F) Γ = .ok .nx Γ' ∧ I n Γ' := by
    intro m
    induction m with
    | zero =>
      intro k Γ e h
      refine ⟨Γ, by rw [List.range'_zero, List.map_nil, forL_nil], ?_⟩
      rw [← e]; exact h
    | succ m ih =>
      intro k Γ e h
      obtain ⟨Γ1, Γ2, e1, e2, h2⟩ := step k Γ (by omega) h
      obtain ⟨Γ', e3, h3⟩ := ih (k + 1) Γ2 (by omega) h2
      refine ⟨Γ', ?_, h3⟩
      rw [List.range'_succ, List.map_cons, forL, e1]
      rcases e2 with e2 | e2 <;> simp only [liftO_some, e2] <;> exact e3
  have := key n 0 Γ0 (by omega) h0
  rw [← List.range_eq_range'] at this
  exact this
/-- .. or stops -/
theorem forL_stop {body : List OD → XR} {t : T} {n : Nat} {F : Nat → D} {Γ0 : List OD} (I : Nat → List OD → Prop) (Fin : XR → Prop) (h0 : I 0 Γ0)
    (step : ∀ k Γ, k < n → I k Γ → ∃ Γ1, setT t (.fz (F k)) Γ = some Γ1 ∧ ((∃ Γ2, (body Γ1 = .ok .nx Γ2 ∨ body Γ1 = .ok .ct Γ2) ∧ I (k + 1) Γ2) ∨ ((∃ o Γ2, body Γ1 = .ok (.rt o) Γ2 ∧ Fin (.ok (.rt o) Γ2)) ∨ (∃ Γ2, body Γ1 = .ok .bk Γ2 ∧ Fin (.ok .nx Γ2)) ∨ ∃ c p Γ2, body Γ1 = .ex c p Γ2 ∧ Fin (.ex c p Γ2)))) :
    (∃ Γ', @forLz body t ⟨vec n F⟩ ⟨Γ0⟩ = .ok .nx Γ' ∧ I n Γ') ∨ Fin (@forLz body t ⟨vec n F⟩ ⟨Γ0⟩) := by
  have key : ∀ m k Γ, k + m = n → I k Γ → (∃ Γ', forL body t ((List.range' k m).map F) Γ = .ok .nx Γ' ∧ I n Γ') ∨ Fin (forL body t ((List.range' k m).map F) Γ) := by
    intro m
    induction m with
    | zero =>
      intro k Γ e h
      refine .inl ⟨Γ, by rw [List.range'_zero, List.map_nil, forL_nil], ?_⟩
      rw [← e]; exact h
    | succ m ih =>
      intro k Γ e h
      obtain ⟨Γ1, e1, e2⟩ := step k Γ (by omega) h
      rw [List.range'_succ, List.map_cons, forL, e1]
      rcases e2 with ⟨Γ2, e2, h2⟩ | ⟨o, Γ2, e2, h2⟩ | ⟨Γ2, e2, h2⟩ | ⟨c, p, Γ2, e2, h2⟩
      · have := ih (k + 1) Γ2 (by omega) h2
        rcases e2 with e2 | e2 <;> simp only [liftO_some, e2] <;> exact this
      · simp only [liftO_some, e2]; exact .inr h2
      · simp only [liftO_some, e2]; exact .inr h2
      · simp only [liftO_some, e2]; exact .inr h2
  have := key n 0 Γ0 (by omega) h0
  rw [← List.range_eq_range'] at this
  exact this
theorem rng_vec (m : Nat) : rangeI 0 (m : Int) = vec m fun k => .int (k : Int) := Lr.rangeI_nat m
theorem rng_vec1 (m : Nat) : rangeI 1 ((m : Int) + 1) = vec m fun k => .int ((k : Int) + 1) := by
  unfold rangeI vec
  rw [show ((m : Int) + 1 - 1).toNat = m by omega]
  congr 1
  funext k
  congr 1
  omega
@[simp] theorem rngD_1 (m : Nat) (h : m ≤ 1000000) : rngD [.int (m : Int)] = .ok (.fz (.lst (vec m fun k => .int (k : Int)))) := by
  rw [rng1 (Lr.smallI_nat h), rng_vec]
@[simp] theorem rngD_1s (m : Nat) (h : m + 1 ≤ 1000000) : rngD [.int ((m : Int) + 1)] = .ok (.fz (.lst (vec (m + 1) fun k => .int (k : Int)))) := by
  have := rngD_1 (m + 1) h
  exact_mod_cast this
@[simp] theorem rngD_2n (N : Nat) (h : 1 ≤ N) (h2 : N ≤ 1000000) : rngD [.int 1, .int (N : Int)] = .ok (.fz (.lst (vec (N - 1) fun k => .int ((k : Int) + 1)))) := by
  obtain ⟨m, rfl⟩ : ∃ m, N = m + 1 := ⟨N - 1, by omega⟩
  rw [rng2 (by decide) (Lr.smallI_nat h2), Int.natCast_succ, rng_vec1]
  rfl
@[simp] theorem rngD_2 (m : Nat) (h : m + 1 ≤ 1000000) : rngD [.int 1, .int ((m : Int) + 1)] = .ok (.fz (.lst (vec m fun k => .int ((k : Int) + 1)))) := by
  rw [rng2 (by decide) (by have := Lr.smallI_nat (m := m + 1) h; exact_mod_cast this), rng_vec1]
/-- a comprehension over n things -/
theorem compL_vec {g : List OD → R OD} {f : List OD → R Bool} {tg : T} {Γ : List OD} {n : Nat} {F : Nat → D} (G : Nat → OD) (h : ∀ k, k < n → ∃ Γ', setT tg (.fz (F k)) Γ = some Γ' ∧ f Γ' = .ok true ∧ g Γ' = .ok (G k)) : compL g f tg Γ (vec n F) = .ok ((List.range n).map G) := by
  have key : ∀ m k, k + m = n → compL g f tg Γ ((List.range' k m).map F) = .ok ((List.range' k m).map G) := by
    intro m
    induction m with
    | zero => intro k _; rfl
    | succ m ih =>
      intro k e
      obtain ⟨Γ', e1, e2, e3⟩ := h k (by omega)
      rw [List.range'_succ, List.map_cons, compL, e1]
      simp only
      rw [e2]
      simp only
      rw [e3]
      simp only
      rw [ih (k + 1) (by omega), R.bind_ok, List.map_cons]
  have := key n 0 (by omega)
  rw [← List.range_eq_range'] at this
  exact this
theorem mkOwn_vec (n : Nat) (G : Nat → D) : mkOwn ((List.range n).map fun k => .fz (G k)) = some (.own (vec n G)) := mkOwn_map G _
/-- .. whole -/
theorem ev_comp {X : Fx} (hc : X.calm = true) {e : E} {tg : T} {it : E} {cs : List E} {Γ : List OD} {pk : Bool} {n : Nat} {F : Nat → D} (G : Nat → D) (hi : itemsR (oper (isPath it) (ev X it Γ true)) = .ok (vec n F)) (hn : n ≤ 1000000)
    (h : ∀ k, k < n → ∃ Γ', setT tg (.fz (F k)) Γ = some Γ' ∧ evC X cs Γ' = .ok true ∧ ev X e Γ' false = .ok (.fz (G k))) : @evz X (.comp e tg it cs) ⟨Γ⟩ pk = .ok (.own (vec n G)) := by
  show ev X (.comp e tg it cs) Γ pk = _
  rw [x_comp hc, hi, R.bind_ok, if_neg (by rw [vec_len]; unfold line; omega), compL_vec (fun k => .fz (G k)) h, R.bind_ok, mkOwn_vec]
  rfl
@[simp] theorem bin_mulL (d : D) (m : Nat) (h : m < 1000000) : binD .mul (.lst [d]) (.int (m : Int)) = .ok (.own (vec m fun _ => d)) := by
  have e : (List.replicate m [d]).flatten = vec m fun _ => d := by
    have : ∀ m : Nat, (List.replicate m [d]).flatten = List.replicate m d := by
      intro m
      induction m with
      | zero => rfl
      | succ m ih => rw [List.replicate_succ, List.flatten_cons, ih]; rfl
    rw [this]
    unfold vec
    rw [List.map_const', List.length_range]
  simp only [binD, List.length_singleton, Nat.one_mul, Int.toNat_natCast, line_def]
  rw [if_pos ⟨by omega, by omega, by omega⟩, e]
/-- while, by a measure -/
theorem whlL_run {test : List OD → R Bool} {body : List OD → XR} (I : Nat → List OD → Prop) (Fin : XR → Prop)
    (step : ∀ k Γ, I k Γ → (test Γ = .ok false ∧ Fin (.ok .nx Γ)) ∨ (test Γ = .ok true ∧ ((∃ Γ2 j, body Γ = .ok .nx Γ2 ∧ j < k ∧ I j Γ2) ∨ (∃ o Γ2, body Γ = .ok (.rt o) Γ2 ∧ Fin (.ok (.rt o) Γ2))))) :
    ∀ (fuel k : Nat) (Γ : List OD), k < fuel → I k Γ → Fin (whlL test body fuel Γ)
  | 0, k, Γ, h, _ => absurd h (Nat.not_lt_zero _)
  | fuel + 1, k, Γ, h, hI => by
    rw [whlL]
    rcases step k Γ hI with ⟨e, f⟩ | ⟨e, ⟨Γ2, j, e2, hj, h2⟩ | ⟨o, Γ2, e2, f⟩⟩
    · rw [e]; exact f
    · simp only [e, liftR_ok, if_true, e2]
      exact whlL_run I Fin step fuel j Γ2 (by omega) h2
    · simp only [e, liftR_ok, if_true, e2]
      exact f
end MP

end

section
set_option linter.all false
set_option autoImplicit false
/-! Sums and determinants over the whole numbers (core Lean alone). -/
namespace Sv
/-- f 0 + .. + f (n - 1) -/
def sm : Nat → (Nat → Int) → Int
  | 0, _ => 0
  | n + 1, f => sm n f + f n
theorem sm_congr {n : Nat} {f g : Nat → Int} (h : ∀ i, i < n → f i = g i) : sm n f = sm n g := by
  induction n with
  | zero => rfl
  | succ n ih => rw [sm, sm, ih fun i hi => h i (by omega), h n (by omega)]
theorem sm_zero {n : Nat} {f : Nat → Int} (h : ∀ i, i < n → f i = 0) : sm n f = 0 := by
  induction n with
  | zero => rfl
  | succ n ih => rw [sm, ih fun i hi => h i (by omega), h n (by omega)]; rfl
theorem sm_add (n : Nat) (f g : Nat → Int) : sm n (fun i => f i + g i) = sm n f + sm n g := by
  induction n with
  | zero => rfl
  | succ n ih => rw [sm, sm, sm, ih]; omega
theorem sm_sub (n : Nat) (f g : Nat → Int) : sm n (fun i => f i - g i) = sm n f - sm n g := by
  induction n with
  | zero => rfl
  | succ n ih => rw [sm, sm, sm, ih]; omega
theorem sm_mul (n : Nat) (c : Int) (f : Nat → Int) : sm n (fun i => c * f i) = c * sm n f := by
  induction n with
  | zero => simp [sm]
  | succ n ih => rw [sm, sm, ih, Int.mul_add]
theorem sm_mulr (n : Nat) (c : Int) (f : Nat → Int) : sm n (fun i => f i * c) = sm n f * c := by
  induction n with
  | zero => simp [sm]
  | succ n ih => rw [sm, sm, ih, Int.add_mul]
theorem sm_neg (n : Nat) (f : Nat → Int) : sm n (fun i => - f i) = - sm n f := by
  induction n with
  | zero => rfl
  | succ n ih => rw [sm, sm, ih]; omega
theorem sm_one {n a : Nat} {f : Nat → Int} (ha : a < n) (h : ∀ i, i < n → i ≠ a → f i = 0) : sm n f = f a := by
  induction n with
  | zero => omega
  | succ n ih =>
    rw [sm]
    by_cases e : a = n
    · subst e
      rw [sm_zero fun i hi => h i (by omega) (by omega)]; omega
    · rw [ih (by omega) fun i hi hn => h i (by omega) hn, h n (by omega) (by omega)]; omega
theorem sm_two {n a b : Nat} {f : Nat → Int} (ha : a < n) (hb : b < n) (ab : a ≠ b) (h : ∀ i, i < n → i ≠ a → i ≠ b → f i = 0) : sm n f = f a + f b := by
  have e : sm n f = sm n (fun i => (if i = a then f a else 0) + (if i = b then f b else 0)) := sm_congr fun i hi => by
    by_cases e1 : i = a
    · subst e1; rw [if_pos rfl, if_neg ab]; omega
    · by_cases e2 : i = b
      · subst e2; rw [if_neg e1, if_pos rfl]; omega
      · rw [if_neg e1, if_neg e2, h i hi e1 e2]; rfl
  rw [e, sm_add, sm_one ha fun i hi hn => if_neg hn, sm_one hb fun i hi hn => if_neg hn, if_pos rfl, if_pos rfl]
theorem sm_le {n : Nat} {f g : Nat → Int} (h : ∀ i, i < n → f i ≤ g i) : sm n f ≤ sm n g := by
  induction n with
  | zero => exact Int.le_refl _
  | succ n ih =>
    rw [sm, sm]
    have := ih fun i hi => h i (by omega)
    have := h n (by omega)
    omega
theorem sm_nonneg {n : Nat} {f : Nat → Int} (h : ∀ i, i < n → 0 ≤ f i) : 0 ≤ sm n f := by
  have := sm_le (f := fun _ => 0) h
  rw [sm_zero fun _ _ => rfl] at this
  exact this
theorem sm_swap (n m : Nat) (f : Nat → Nat → Int) : sm n (fun i => sm m fun j => f i j) = sm m fun j => sm n fun i => f i j := by
  induction n with
  | zero => rw [sm, sm_zero]; intro i _; rfl
  | succ n ih => rw [sm, ih, ← sm_add]; rfl
theorem sm_abs {n : Nat} {f : Nat → Int} {g : Nat → Nat} (h : ∀ i, i < n → (f i).natAbs ≤ g i) : ((sm n f).natAbs : Int) ≤ sm n fun i => (g i : Int) := by
  induction n with
  | zero => simp [sm]
  | succ n ih =>
    rw [sm, sm]
    have := ih fun i hi => h i (by omega)
    have := h n (by omega)
    omega
/-- one row of a table is another one -/
def up {α : Type} (M : Nat → α) (j : Nat) (v : α) : Nat → α := fun a => if a = j then v else M a
theorem up_same {α : Type} (M : Nat → α) (j : Nat) (v : α) : up M j v j = v := if_pos rfl
theorem up_ne {α : Type} (M : Nat → α) {j a : Nat} (v : α) (h : a ≠ j) : up M j v a = M a := if_neg h
theorem up_up {α : Type} (M : Nat → α) (j : Nat) (u v : α) : up (up M j u) j v = up M j v := by
  funext a
  by_cases h : a = j
  · subst h; rw [up_same, up_same]
  · rw [up_ne _ _ h, up_ne _ _ h, up_ne _ _ h]
theorem up_comm {α : Type} (M : Nat → α) {j k : Nat} (u v : α) (h : j ≠ k) : up (up M j u) k v = up (up M k v) j u := by
  funext a
  by_cases h1 : a = k
  · subst h1; rw [up_same, up_ne _ _ (Ne.symm h), up_same]
  · rw [up_ne _ _ h1]
    by_cases h2 : a = j
    · subst h2; rw [up_same, up_same]
    · rw [up_ne _ _ h2, up_ne _ _ h2, up_ne _ _ h1]
theorem up_self {α : Type} (M : Nat → α) (j : Nat) : up M j (M j) = M := by
  funext a
  by_cases h : a = j
  · subst h; rw [up_same]
  · rw [up_ne _ _ h]
def sg (i : Nat) : Int := if i % 2 = 0 then 1 else -1
theorem sg_succ (i : Nat) : sg (i + 1) = - sg i := by
  unfold sg
  by_cases h : i % 2 = 0
  · rw [if_pos h, if_neg (by omega)]
  · rw [if_neg h, if_pos (by omega)]; rfl
def skip (i a : Nat) : Nat := if a < i then a else a + 1
/-- row i and the first column left out -/
def mn (i : Nat) (M : Nat → Nat → Int) : Nat → Nat → Int := fun a b => M (skip i a) (b + 1)
def det : Nat → (Nat → Nat → Int) → Int
  | 0, _ => 1
  | n + 1, M => sm (n + 1) fun i => sg i * M i 0 * det n (mn i M)
theorem skip_lt {i a n : Nat} (h : a < n) (hi : i < n + 1) : skip i a < n + 1 := by
  unfold skip; split <;> omega
theorem skip_ne (i a : Nat) : skip i a ≠ i := by unfold skip; split <;> omega
theorem det_congr : ∀ {n : Nat} {M N : Nat → Nat → Int}, (∀ i k, i < n → k < n → M i k = N i k) → det n M = det n N
  | 0, _, _, _ => rfl
  | n + 1, M, N, h => by
    rw [det, det]
    refine sm_congr fun i hi => ?_
    have : det n (mn i M) = det n (mn i N) := det_congr fun a b ha hb => h _ _ (skip_lt ha hi) (by omega)
    rw [h i 0 hi (by omega), this]
/-- where a row goes when row i is left out -/
def low (i j : Nat) : Nat := if j < i then j else j - 1
theorem low_lt {i j n : Nat} (hj : j < n + 1) (hi : i < n + 1) (h : i ≠ j) : low i j < n := by unfold low; split <;> omega
theorem skip_low {i j : Nat} (h : i ≠ j) : skip i (low i j) = j := by
  unfold skip low
  by_cases c : j < i
  · rw [if_pos c, if_pos c]
  · rw [if_neg c, if_neg (by omega)]; omega
theorem skip_eq {i j a : Nat} (h : i ≠ j) : skip i a = j ↔ a = low i j := by
  unfold skip low
  by_cases c : j < i
  · rw [if_pos c]; split <;> omega
  · rw [if_neg c]; split <;> omega
theorem mn_up_ne {M : Nat → Nat → Int} {i j : Nat} {v : Nat → Int} (h : i ≠ j) : mn i (up M j v) = up (mn i M) (low i j) (fun k => v (k + 1)) := by
  funext a b
  unfold mn
  by_cases e : skip i a = j
  · rw [e, up_same, (skip_eq h).mp e, up_same]
  · rw [up_ne _ _ e, up_ne _ _ fun z => e ((skip_eq h).mpr z)]
theorem mn_up_same {M : Nat → Nat → Int} {j : Nat} {v : Nat → Int} : mn j (up M j v) = mn j M := by
  funext a b
  unfold mn
  rw [up_ne _ _ (skip_ne j a)]
theorem det_lin : ∀ {n : Nat} {M : Nat → Nat → Int} {j : Nat} (x y : Int) (u v : Nat → Int), j < n → det n (up M j fun k => x * u k + y * v k) = x * det n (up M j u) + y * det n (up M j v)
  | 0, _, _, _, _, _, _, h => absurd h (Nat.not_lt_zero _)
  | n + 1, M, j, x, y, u, v, hj => by
    rw [det, det, det, ← sm_mul, ← sm_mul, ← sm_add]
    refine sm_congr fun i hi => ?_
    by_cases e : i = j
    · subst e
      rw [mn_up_same, mn_up_same, mn_up_same, up_same, up_same, up_same]
      grind
    · rw [mn_up_ne e, mn_up_ne e, mn_up_ne e, up_ne _ _ e, up_ne _ _ e, up_ne _ _ e, det_lin x y (fun k => u (k + 1)) (fun k => v (k + 1)) (low_lt hj hi e)]
      grind
theorem det_adj : ∀ {n : Nat} {M : Nat → Nat → Int} {a : Nat}, a + 1 < n → M a = M (a + 1) → det n M = 0
  | 0, _, _, h, _ => absurd h (Nat.not_lt_zero _)
  | n + 1, M, a, ha, e => by
    rw [det, sm_two (a := a) (b := a + 1) (by omega) ha (by omega) fun i hi h1 h2 => ?_]
    · have : mn a M = mn (a + 1) M := by
        funext x k
        unfold mn skip
        by_cases z : x = a
        · subst z
          rw [if_neg (by omega), if_pos (by omega), e]
        · by_cases z2 : x < a
          · rw [if_pos z2, if_pos (by omega)]
          · rw [if_neg z2, if_neg (by omega)]
      rw [← this, sg_succ, e]
      grind
    · have l : low i (a + 1) = low i a + 1 := by unfold low; split <;> split <;> omega
      have : det n (mn i M) = 0 := det_adj (a := low i a) (by rw [← l]; exact low_lt ha hi h2) (by
        funext k
        unfold mn
        rw [← l, skip_low h1, skip_low h2, e])
      rw [this, Int.mul_zero]
theorem det_add {n : Nat} {M : Nat → Nat → Int} {j : Nat} (u v : Nat → Int) (h : j < n) : det n (up M j fun k => u k + v k) = det n (up M j u) + det n (up M j v) := by
  have := det_lin (M := M) 1 1 u v h
  simp only [Int.one_mul] at this
  exact this
theorem det_smul {n : Nat} {M : Nat → Nat → Int} {j : Nat} (x : Int) (u : Nat → Int) (h : j < n) : det n (up M j fun k => x * u k) = x * det n (up M j u) := by
  have := det_lin (M := M) x 0 u u h
  simp only [Int.zero_mul, Int.add_zero] at this
  exact this
/-- neighbours change places -/
theorem det_swap1 {n : Nat} {M : Nat → Nat → Int} {a : Nat} (h : a + 1 < n) (u v : Nat → Int) : det n (up (up M a u) (a + 1) v) = - det n (up (up M a v) (a + 1) u) := by
  have ne : a ≠ a + 1 := by omega
  have z : ∀ w, det n (up (up M a w) (a + 1) w) = 0 := fun w => det_adj h (by rw [up_ne _ _ ne, up_same, up_same])
  have e := z fun k => u k + v k
  rw [det_add _ _ h, up_comm _ _ _ ne, det_add _ _ (by omega), up_comm _ (fun k => u k + v k) v ne, det_add _ _ (by omega), up_comm _ _ _ (Ne.symm ne), up_comm _ _ _ (Ne.symm ne), up_comm _ _ _ (Ne.symm ne), up_comm _ _ _ (Ne.symm ne), z u, z v] at e
  omega
theorem det_alt : ∀ {d n : Nat} {M : Nat → Nat → Int} {a b : Nat}, b = a + 1 + d → b < n → M a = M b → det n M = 0
  | 0, n, M, a, b, h, hb, e => det_adj (a := a) (by omega) (by rw [e, h])
  | d + 1, n, M, a, b, h, hb, e => by
    have e1 : b = (b - 1) + 1 := by omega
    have s := det_swap1 (n := n) (M := M) (a := b - 1) (by omega) (M (b - 1)) (M b)
    rw [← e1, up_self, up_self] at s
    rw [s]
    have : det n (up (up M (b - 1) (M b)) b (M (b - 1))) = 0 := det_alt (d := d) (a := a) (b := b - 1) (by omega) (by omega) (by
      rw [up_ne _ _ (by omega), up_ne _ _ (by omega), up_ne _ _ (by omega), up_same, e])
    rw [this]; rfl
theorem det_same {n : Nat} {M : Nat → Nat → Int} {a b : Nat} (ha : a < n) (hb : b < n) (ne : a ≠ b) (e : M a = M b) : det n M = 0 := by
  by_cases h : a < b
  · exact det_alt (d := b - a - 1) (by omega) hb e
  · exact det_alt (d := a - b - 1) (a := b) (b := a) (by omega) ha e.symm
/-- two rows change places -/
theorem det_swap {n : Nat} {M : Nat → Nat → Int} {a b : Nat} (ha : a < n) (hb : b < n) (ne : a ≠ b) (u v : Nat → Int) : det n (up (up M a u) b v) = - det n (up (up M a v) b u) := by
  have z : ∀ w, det n (up (up M a w) b w) = 0 := fun w => det_same ha hb ne (by rw [up_ne _ _ ne, up_same, up_same])
  have e := z fun k => u k + v k
  rw [det_add _ _ hb, up_comm _ _ _ ne, det_add _ _ ha, up_comm _ (fun k => u k + v k) v ne, det_add _ _ ha, up_comm _ _ _ (Ne.symm ne), up_comm _ _ _ (Ne.symm ne), up_comm _ _ _ (Ne.symm ne), up_comm _ _ _ (Ne.symm ne), z u, z v] at e
  omega
/-- a row that is a sum of others -/
theorem det_sum {n : Nat} {M : Nat → Nat → Int} {j : Nat} (h : j < n) (c : Nat → Int) (w : Nat → Nat → Int) : ∀ m : Nat, det n (up M j fun k => sm m fun i => c i * w i k) = sm m fun i => c i * det n (up M j (w i))
  | 0 => by
    have := det_smul (M := M) 0 (fun _ => 0) h
    simp only [Int.zero_mul] at this
    exact this
  | m + 1 => by
    have e := det_lin (M := M) 1 (c m) (fun k => sm m fun i => c i * w i k) (w m) h
    simp only [Int.one_mul] at e
    rw [sm, ← det_sum h c w m, ← e]
    rfl
def idm : Nat → Nat → Int := fun i k => if i = k then 1 else 0
theorem det_id : ∀ n : Nat, det n idm = 1
  | 0 => rfl
  | n + 1 => by
    rw [det, sm_one (a := 0) (by omega) fun i hi h => by rw [show idm i 0 = 0 from if_neg h]; simp]
    have : mn 0 idm = idm := by
      funext a b
      show (if skip 0 a = b + 1 then (1 : Int) else 0) = if a = b then 1 else 0
      have e : skip 0 a = a + 1 := if_neg (Nat.not_lt_zero a)
      rw [e]
      by_cases h : a = b
      · rw [if_pos h, if_pos (by omega)]
      · rw [if_neg h, if_neg (by omega)]
    rw [this, det_id n]
    rfl
/-- no more than the product of the rows' sums -/
def pr : Nat → (Nat → Nat) → Nat
  | 0, _ => 1
  | n + 1, f => pr n f * f n
theorem sm_nat_le {n : Nat} {f : Nat → Int} {b : Nat → Nat} (h : ∀ i, i < n → (f i).natAbs ≤ b i) {c : Nat} (hc : sm n (fun i => (b i : Int)) ≤ c) : (sm n f).natAbs ≤ c := by
  have := sm_abs h
  omega
theorem det_bd {B : Nat} : ∀ {n : Nat} {M : Nat → Nat → Int}, (∀ k, k < n → sm n (fun i => ((M i k).natAbs : Int)) ≤ B) → (det n M).natAbs ≤ B ^ n
  | 0, _, _ => by simp [det]
  | n + 1, M, h => by
    rw [det]
    have hm : ∀ i, i < n + 1 → (det n (mn i M)).natAbs ≤ B ^ n := fun i hi => det_bd fun k hk => by
      have h1 := h (k + 1) (by omega)
      have : sm n (fun a => ((mn i M a k).natAbs : Int)) ≤ sm (n + 1) fun a => ((M a (k + 1)).natAbs : Int) := by
        have e : ∀ m, m ≤ n → sm m (fun a => ((mn i M a k).natAbs : Int)) ≤ sm (if m ≤ i then m else m + 1) fun a => ((M a (k + 1)).natAbs : Int) := by
          intro m
          induction m with
          | zero =>
            intro _
            rw [if_pos (by omega)]; exact Int.le_refl _
          | succ m ih =>
            intro hm
            have ih := ih (by omega)
            rw [sm]
            by_cases c1 : m + 1 ≤ i
            · rw [if_pos (by omega)] at ih ⊢
              rw [sm]
              have : mn i M m k = M m (k + 1) := by unfold mn skip; rw [if_pos (by omega)]
              rw [this]; omega
            · rw [if_neg c1, sm]
              have : mn i M m k = M (m + 1) (k + 1) := by unfold mn skip; rw [if_neg (by omega)]
              rw [this]
              by_cases c2 : m ≤ i
              · rw [if_pos c2] at ih
                rw [sm]
                omega
              · rw [if_neg c2] at ih
                omega
        have := e n (Nat.le_refl _)
        by_cases c : n ≤ i
        · rw [if_pos c] at this
          rw [sm]; omega
        · rw [if_neg c] at this; exact this
      omega
    refine sm_nat_le (b := fun i => (M i 0).natAbs * B ^ n) (fun i hi => ?_) ?_
    · rw [Int.natAbs_mul, Int.natAbs_mul]
      have s1 : (sg i).natAbs = 1 := by unfold sg; split <;> rfl
      rw [s1, Nat.one_mul]
      exact Nat.mul_le_mul_left _ (hm i hi)
    · have e : sm (n + 1) (fun i => (((M i 0).natAbs * B ^ n : Nat) : Int)) = sm (n + 1) (fun i => ((M i 0).natAbs : Int)) * ((B ^ n : Nat) : Int) := by
        rw [← sm_mulr]
        exact sm_congr fun i _ => by rw [Int.natCast_mul]
      rw [e, Nat.pow_succ, Nat.mul_comm (B ^ n) B, Int.natCast_mul]
      exact Int.mul_le_mul_of_nonneg_right (h 0 (by omega)) (by omega)
end Sv

end

section
set_option linter.all false
set_option autoImplicit false
/-! The exchanges of the program's solver, as determinants. -/
namespace Sv
/-- a task: how many unknowns, how many rows in all (goal, unknowns, slacks), the rows (a constant, coefficients) -/
structure Tk where
  n : Nat
  N : Nat
  F : Nat → Nat → Int
structure Tk.Ok (t : Tk) : Prop where
  hN : t.n + 1 ≤ t.N
  un : ∀ k j, 1 ≤ k → k ≤ t.n → j ≤ t.n → t.F k j = idm k j
  g0 : t.F 0 0 = 0
  gp : ∀ j, 0 ≤ t.F 0 j
section
variable (t : Tk)
/-- the rows of the outer variables -/
def Tk.M (o : List Nat) : Nat → Nat → Int := fun j => if j = 0 then idm 0 else t.F (o.getD (j - 1) 0)
def Tk.sc (o : List Nat) : Int := det (t.n + 1) (t.M o)
def Tk.T (o : List Nat) (i j : Nat) : Int := det (t.n + 1) (up (t.M o) j (t.F i))
/-- each row by the outer ones -/
def Tk.C (o : List Nat) : Prop := ∀ i k, k ≤ t.n → t.sc o * t.F i k = sm (t.n + 1) fun j => t.T o i j * t.M o j k
variable {t}
theorem M_set {o : List Nat} {c r : Nat} (h1 : 1 ≤ c) (h2 : c ≤ o.length) : t.M (o.set (c - 1) r) = up (t.M o) c (t.F r) := by
  funext j
  unfold Tk.M up
  by_cases h0 : j = 0
  · rw [if_pos h0, if_neg (by omega)]
    exact (if_pos h0).symm
  · rw [if_neg h0, List.getD_eq_getElem?_getD, List.getElem?_set]
    by_cases h : j = c
    · rw [if_pos h, if_pos (by omega), if_pos (by omega)]; rfl
    · rw [if_neg h, if_neg (by omega)]
      show _ = if j = 0 then idm 0 else _
      rw [if_neg h0, List.getD_eq_getElem?_getD]
theorem sc_set {o : List Nat} {c r : Nat} (h1 : 1 ≤ c) (h2 : c ≤ o.length) : t.sc (o.set (c - 1) r) = t.T o r c := by
  unfold Tk.sc Tk.T
  rw [M_set h1 h2]
theorem T_setc {o : List Nat} {c r i : Nat} (h1 : 1 ≤ c) (h2 : c ≤ o.length) : t.T (o.set (c - 1) r) i c = t.T o i c := by
  unfold Tk.T
  rw [M_set h1 h2, up_up]
/-- an outer variable's row -/
theorem T_out {o : List Nat} {j k : Nat} (hj : 1 ≤ j) (hn : j ≤ t.n) (hk : k ≤ t.n) : t.T o (o.getD (j - 1) 0) k = if k = j then t.sc o else 0 := by
  have e : t.F (o.getD (j - 1) 0) = t.M o j := by unfold Tk.M; rw [if_neg (by omega)]
  unfold Tk.T
  rw [e]
  by_cases h : k = j
  · subst h; rw [if_pos rfl, up_self]; rfl
  · rw [if_neg h]
    exact det_same (a := k) (b := j) (by omega) (by omega) h (by rw [up_same, up_ne _ _ (Ne.symm h)])
theorem T_piv {o : List Nat} {c r i j : Nat} (C : t.C o) (h1 : 1 ≤ c) (h2 : c ≤ o.length) (hc : c ≤ t.n) (hj : j ≤ t.n) (ne : j ≠ c) : t.sc o * t.T (o.set (c - 1) r) i j = t.T o i j * t.T o r c - t.T o i c * t.T o r j := by
  have e : t.sc o * t.T (o.set (c - 1) r) i j = det (t.n + 1) (up (up (t.M o) c (t.F r)) j fun k => sm (t.n + 1) fun l => t.T o i l * t.M o l k) := by
    unfold Tk.T
    rw [M_set h1 h2, ← det_smul _ _ (by omega)]
    refine det_congr fun a k ha hk => ?_
    by_cases ea : a = j
    · subst ea
      rw [up_same, up_same]
      exact C i k (by omega)
    · rw [up_ne _ _ ea, up_ne _ _ ea]
  rw [e, det_sum (by omega), sm_two (a := j) (b := c) (by omega) (by omega) ne fun l hl lj lc => ?_]
  · have e1 : det (t.n + 1) (up (up (t.M o) c (t.F r)) j (t.M o j)) = t.T o r c := by
      unfold Tk.T
      rw [up_comm _ _ _ (Ne.symm ne), up_self]
    have e2 : det (t.n + 1) (up (up (t.M o) c (t.F r)) j (t.M o c)) = - t.T o r j := by
      unfold Tk.T
      rw [det_swap (by omega) (by omega) (Ne.symm ne), up_self]
    rw [e1, e2]
    grind
  · have : det (t.n + 1) (up (up (t.M o) c (t.F r)) j (t.M o l)) = 0 := det_same (a := j) (b := l) (by omega) (by omega) (Ne.symm lj) (by
      rw [up_same, up_ne _ _ lj, up_ne _ _ lc])
    rw [this, Int.mul_zero]
theorem C_set {o : List Nat} {c r : Nat} (C : t.C o) (s0 : t.sc o ≠ 0) (h1 : 1 ≤ c) (h2 : c ≤ o.length) (hc : c ≤ t.n) : t.C (o.set (c - 1) r) := fun i k hk => by
  refine Int.eq_of_mul_eq_mul_left s0 ?_
  have e : t.sc o * sm (t.n + 1) (fun j => t.T (o.set (c - 1) r) i j * t.M (o.set (c - 1) r) j k) = sm (t.n + 1) (fun j => (t.T o i j * t.T o r c * t.M o j k - t.T o i c * (t.T o r j * t.M o j k)) + (if j = c then t.sc o * t.T o i c * t.F r k else 0)) := by
    rw [← sm_mul]
    refine sm_congr fun j hj => ?_
    rw [M_set h1 h2]
    by_cases e : j = c
    · subst e
      rw [T_setc h1 h2, up_same, if_pos rfl]
      grind
    · rw [up_ne _ _ e, if_neg e, ← Int.mul_assoc, T_piv C h1 h2 hc (by omega) e]
      grind
  rw [e, sm_add, sm_sub, sm_mul, sm_one (a := c) (by omega) (fun j hj ne => if_neg ne), if_pos rfl, ← C r k hk]
  have e3 : sm (t.n + 1) (fun j => t.T o i j * t.T o r c * t.M o j k) = t.T o r c * sm (t.n + 1) (fun j => t.T o i j * t.M o j k) := by
    rw [← sm_mul]
    exact sm_congr fun j _ => by grind
  rw [e3, ← C i k hk, sc_set h1 h2]
  grind
theorem row_sum (i : Nat) (v : Nat → Nat → Int) (hv : ∀ k j, k ≤ t.n → j ≤ t.n → v k j = idm k j) : ∀ j, j ≤ t.n → t.F i j = sm (t.n + 1) fun k => t.F i k * v k j := fun j hj => by
  rw [sm_one (a := j) (by omega) fun k hk ne => by rw [hv k j (by omega) hj, show idm k j = 0 from if_neg ne, Int.mul_zero], hv j j hj hj, show idm j j = 1 from if_pos rfl, Int.mul_one]
theorem det_row {A : Nat → Nat → Int} (i j : Nat) (hj : j ≤ t.n) (v : Nat → Nat → Int) (hv : ∀ k j, k ≤ t.n → j ≤ t.n → v k j = idm k j) : det (t.n + 1) (up A j (t.F i)) = sm (t.n + 1) fun k => t.F i k * det (t.n + 1) (up A j (v k)) := by
  rw [← det_sum (by omega)]
  refine det_congr fun a k ha hk => ?_
  by_cases e : a = j
  · subst e; rw [up_same, up_same]; exact row_sum i v hv k (by omega)
  · rw [up_ne _ _ e, up_ne _ _ e]
section
variable (ok : t.Ok)
include ok
/-- the constant column is the rows' values at the point -/
theorem T_0 (o : List Nat) (i : Nat) : t.T o i 0 = sm (t.n + 1) fun k => t.F i k * (if k = 0 then t.sc o else t.T o k 0) := by
  unfold Tk.T
  rw [det_row (t := t) i 0 (by omega) (fun k => if k = 0 then idm 0 else t.F k) fun k j hk hj => by
    by_cases e : k = 0
    · subst e; rw [if_pos rfl]
    · rw [if_neg e]; exact ok.un k j (by omega) hk hj]
  refine sm_congr fun k hk => ?_
  by_cases e : k = 0
  · subst e
    rw [if_pos rfl, if_pos rfl]
    have : up (t.M o) 0 (idm 0) = t.M o := up_self (t.M o) 0
    rw [this]
    rfl
  · rw [if_neg e, if_neg e]
def o0 (n : Nat) : List Nat := (List.range n).map (· + 1)
theorem M_0 {j k : Nat} (hj : j ≤ t.n) (hk : k ≤ t.n) : t.M (o0 t.n) j k = idm j k := by
  unfold Tk.M
  by_cases e : j = 0
  · subst e; rw [if_pos rfl]
  · rw [if_neg e]
    have : (o0 t.n).getD (j - 1) 0 = j := by
      unfold o0
      rw [List.getD_eq_getElem?_getD, List.getElem?_map, List.getElem?_range (by omega)]
      show j - 1 + 1 = j
      omega
    rw [this]
    exact ok.un j k (by omega) hj hk
theorem sc_0 : t.sc (o0 t.n) = 1 := by
  unfold Tk.sc
  rw [← det_id (t.n + 1)]
  exact det_congr fun i k hi hk => M_0 ok (by omega) (by omega)
theorem T_init {i j : Nat} (hj : j ≤ t.n) : t.T (o0 t.n) i j = t.F i j := by
  have e : t.T (o0 t.n) i j = det (t.n + 1) (up idm j (t.F i)) := det_congr fun a k ha hk => by
    by_cases e : a = j
    · subst e; rw [up_same, up_same]
    · rw [up_ne _ _ e, up_ne _ _ e]; exact M_0 ok (by omega) (by omega)
  rw [e, det_row (t := t) i j hj idm fun _ _ _ _ => rfl, sm_one (a := j) (by omega) fun k hk ne => ?_]
  · rw [up_self, det_id, Int.mul_one]
  · rw [det_same (a := j) (b := k) (by omega) (by omega) (Ne.symm ne) (by rw [up_same, up_ne _ _ ne]), Int.mul_zero]
theorem C_0 : t.C (o0 t.n) := fun i k hk => by
  rw [sc_0 ok, Int.one_mul, row_sum (t := t) i idm (fun _ _ _ _ => rfl) k hk]
  exact sm_congr fun j hj => by rw [T_init ok (by omega), M_0 ok (by omega) hk]
end
/-! ### lexical order -/
def lpos (N : Nat) (v : Nat → Int) : Prop := ∃ i, i < N ∧ 0 < v i ∧ ∀ k, k < i → v k = 0
/-- the first place where two rows of numbers differ: less -/
def llt (N : Nat) (u v : Nat → Int) : Prop := ∃ i, i < N ∧ u i < v i ∧ ∀ k, k < i → u k = v k
theorem llt_iff {N : Nat} {u v : Nat → Int} : llt N u v ↔ lpos N fun i => v i - u i := by
  constructor
  · rintro ⟨i, h1, h2, h3⟩
    exact ⟨i, h1, by show 0 < v i - u i; omega, fun k hk => by have := h3 k hk; show v k - u k = 0; omega⟩
  · rintro ⟨i, h1, h2, h3⟩
    have h2 : 0 < v i - u i := h2
    exact ⟨i, h1, by omega, fun k hk => by have h3 : v k - u k = 0 := h3 k hk; omega⟩
theorem lpos_mul {N : Nat} {v : Nat → Int} {s : Int} (hs : 0 < s) : lpos N (fun i => s * v i) ↔ lpos N v := by
  constructor
  · rintro ⟨i, h1, h2, h3⟩
    refine ⟨i, h1, ?_, fun k hk => ?_⟩
    · exact Int.pos_of_mul_pos_right h2 (by omega)
    · rcases Int.mul_eq_zero.mp (h3 k hk) with h | h
      · omega
      · exact h
  · rintro ⟨i, h1, h2, h3⟩
    exact ⟨i, h1, Int.mul_pos hs h2, fun k hk => by show s * v k = 0; rw [h3 k hk, Int.mul_zero]⟩
theorem lpos_add {N : Nat} {u v : Nat → Int} (h : lpos N u) (k : lpos N v) : lpos N fun i => u i + v i := by
  obtain ⟨i, h1, h2, h3⟩ := h
  obtain ⟨j, k1, k2, k3⟩ := k
  by_cases c : i < j
  · exact ⟨i, h1, by show 0 < u i + v i; rw [k3 i c]; omega, fun l hl => by show u l + v l = 0; rw [h3 l hl, k3 l (by omega)]; rfl⟩
  · by_cases c2 : j < i
    · exact ⟨j, k1, by show 0 < u j + v j; rw [h3 j c2]; omega, fun l hl => by show u l + v l = 0; rw [h3 l (by omega), k3 l hl]; rfl⟩
    · have : i = j := by omega
      subst this
      exact ⟨i, h1, by show 0 < u i + v i; omega, fun l hl => by show u l + v l = 0; rw [h3 l hl, k3 l hl]; rfl⟩
theorem lpos_no {N : Nat} {v : Nat → Int} (h : lpos N v) (k : lpos N fun i => - v i) : False := by
  obtain ⟨i, _, h2, _⟩ := lpos_add h k
  have h2 : 0 < v i + - v i := h2
  omega
theorem lpos_or {v : Nat → Int} : ∀ N, lpos N v ∨ lpos N (fun i => - v i) ∨ ∀ i, i < N → v i = 0
  | 0 => .inr (.inr fun i h => absurd h (Nat.not_lt_zero _))
  | N + 1 => by
    rcases lpos_or N (v := v) with ⟨i, h1, h2⟩ | ⟨i, h1, h2⟩ | h
    · exact .inl ⟨i, by omega, h2⟩
    · exact .inr (.inl ⟨i, by omega, h2⟩)
    · by_cases c : v N = 0
      · exact .inr (.inr fun i hi => by
          by_cases e : i = N
          · rw [e, c]
          · exact h i (by omega))
      · by_cases c2 : 0 < v N
        · exact .inl ⟨N, by omega, c2, h⟩
        · exact .inr (.inl ⟨N, by omega, by show 0 < - v N; omega, fun k hk => by show - v k = 0; rw [h k hk]; rfl⟩)
theorem lpos_congr {N : Nat} {u v : Nat → Int} (e : ∀ i, i < N → u i = v i) (h : lpos N u) : lpos N v := by
  obtain ⟨i, h1, h2, h3⟩ := h
  exact ⟨i, h1, by rw [← e i h1]; exact h2, fun k hk => by rw [← e k (by omega)]; exact h3 k hk⟩
/-- a/p before b/q, b/q before c/t -/
theorem lq_trans {N : Nat} {a b c : Nat → Int} {p q r : Int} (hp : 0 < p) (hq : 0 < q) (hr : 0 < r) (h1 : lpos N fun i => b i * p - a i * q) (h2 : lpos N fun i => c i * q - b i * r) : lpos N fun i => c i * p - a i * r := by
  refine (lpos_mul hq).mp ?_
  refine lpos_congr (fun i hi => ?_) (lpos_add ((lpos_mul hr).mpr h1) ((lpos_mul hp).mpr h2))
  show r * (b i * p - a i * q) + p * (c i * q - b i * r) = q * (c i * p - a i * r)
  grind
/-! ### what holds at each state -/
structure Tk.St (t : Tk) (o : List Nat) : Prop where
  len : o.length = t.n
  lt : ∀ x ∈ o, 1 ≤ x ∧ x < t.N
  C : t.C o
  s : 0 < t.sc o
  lp : ∀ j, 1 ≤ j → j ≤ t.n → lpos t.N fun i => t.T o i j
theorem St_0 (ok : t.Ok) : t.St (o0 t.n) := by
  refine ⟨by unfold o0; simp, fun x m => ?_, C_0 ok, by rw [sc_0 ok]; omega, fun j h1 h2 => ?_⟩
  · unfold o0 at m
    obtain ⟨y, hy, rfl⟩ := List.mem_map.mp m
    have := List.mem_range.mp hy
    have := ok.hN
    omega
  · have hN := ok.hN
    by_cases g : t.F 0 j = 0
    · refine ⟨j, by omega, ?_, fun k hk => ?_⟩
      · show 0 < t.T (o0 t.n) j j
        rw [T_init ok h2, ok.un j j h1 h2 h2, show idm j j = 1 from if_pos rfl]; omega
      · show t.T (o0 t.n) k j = 0
        rw [T_init ok h2]
        by_cases k0 : k = 0
        · rw [k0, g]
        · rw [ok.un k j (by omega) (by omega) h2]; exact if_neg (by omega)
    · refine ⟨0, by omega, ?_, fun k hk => by omega⟩
      show 0 < t.T (o0 t.n) 0 j
      rw [T_init ok h2]
      have := ok.gp j
      omega
/-- column c comes before column j in row r -/
def Tk.bef (t : Tk) (o : List Nat) (r c j : Nat) : Prop := lpos t.N fun i => t.T o i j * t.T o r c - t.T o i c * t.T o r j
/-- the column that enters -/
structure Tk.Ent (t : Tk) (o : List Nat) (r c : Nat) : Prop where
  c1 : 1 ≤ c
  cn : c ≤ t.n
  pos : 0 < t.T o r c
  min : ∀ j, 1 ≤ j → j ≤ t.n → j ≠ c → 0 < t.T o r j → t.bef o r c j
theorem St_set {o : List Nat} {r c : Nat} (S : t.St o) (E : t.Ent o r c) (h1 : 1 ≤ r) (h2 : r < t.N) : t.St (o.set (c - 1) r) := by
  have l : c ≤ o.length := by rw [S.len]; exact E.cn
  refine ⟨by rw [List.length_set]; exact S.len, fun x m => ?_, C_set S.C (by have := S.s; omega) E.c1 l E.cn, by rw [sc_set E.c1 l]; exact E.pos, fun j j1 j2 => ?_⟩
  · rcases List.mem_or_eq_of_mem_set m with m | rfl
    · exact S.lt x m
    · exact ⟨h1, h2⟩
  · by_cases e : j = c
    · subst e
      exact lpos_congr (fun i _ => (T_setc E.c1 l).symm) (S.lp j j1 j2)
    · refine (lpos_mul S.s).mp (lpos_congr (fun i _ => (T_piv S.C E.c1 l E.cn j2 e).symm) ?_)
      by_cases p : 0 < t.T o r j
      · exact E.min j j1 j2 e p
      · by_cases z : t.T o r j = 0
        · refine lpos_congr (fun i _ => ?_) ((lpos_mul E.pos).mpr (S.lp j j1 j2))
          rw [z]; grind
        · refine lpos_congr (fun i _ => ?_) (lpos_add ((lpos_mul E.pos).mpr (S.lp j j1 j2)) ((lpos_mul (s := - t.T o r j) (by omega)).mpr (S.lp c E.c1 E.cn)))
          grind
/-- the constant column grows -/
def Tk.lt0 (t : Tk) (o o' : List Nat) : Prop := lpos t.N fun i => t.T o' i 0 * t.sc o - t.T o i 0 * t.sc o'
theorem grows {o : List Nat} {r c : Nat} (S : t.St o) (E : t.Ent o r c) (neg : t.T o r 0 < 0) : t.lt0 o (o.set (c - 1) r) := by
  have l : c ≤ o.length := by rw [S.len]; exact E.cn
  refine lpos_congr (fun i _ => ?_) ((lpos_mul (s := - t.T o r 0) (by omega)).mpr (S.lp c E.c1 E.cn))
  have := T_piv (r := r) (i := i) S.C E.c1 l E.cn (Nat.zero_le _) (j := 0) (by have := E.c1; omega)
  rw [sc_set E.c1 l]
  grind
theorem lt0_trans {a b c : List Nat} (ha : t.St a) (hb : t.St b) (hc : t.St c) (h1 : t.lt0 a b) (h2 : t.lt0 b c) : t.lt0 a c := lq_trans ha.s hb.s hc.s h1 h2
theorem lt0_irr {a : List Nat} (h : t.lt0 a a) : False := by
  obtain ⟨i, _, h2, _⟩ := h
  have h2 : 0 < t.T a i 0 * t.sc a - t.T a i 0 * t.sc a := h2
  omega
/-- columns that enter are never alike -/
theorem bef_or {o : List Nat} {r c j : Nat} (S : t.St o) (pc : 0 < t.T o r c) (pj : 0 < t.T o r j) (c1 : 1 ≤ c) (cn : c ≤ t.n) (j1 : 1 ≤ j) (jn : j ≤ t.n) (ne : c ≠ j) : t.bef o r c j ∨ t.bef o r j c := by
  rcases lpos_or t.N (v := fun i => t.T o i j * t.T o r c - t.T o i c * t.T o r j) with h | h | h
  · exact .inl h
  · exact .inr (lpos_congr (fun i _ => by grind) h)
  · have hm : o.getD (j - 1) 0 ∈ o := by
      rw [List.getD_eq_getElem?_getD, List.getElem?_eq_getElem (by rw [S.len]; omega)]
      exact List.getElem_mem _
    have e := h _ (S.lt _ hm).2
    rw [T_out j1 jn jn, T_out j1 jn cn, if_pos rfl, if_neg ne] at e
    have := Int.mul_pos S.s pc
    omega
theorem bef_trans {o : List Nat} {r a b c : Nat} (pa : 0 < t.T o r a) (pb : 0 < t.T o r b) (pc : 0 < t.T o r c) (h1 : t.bef o r a b) (h2 : t.bef o r b c) : t.bef o r a c := lq_trans pa pb pc h1 h2
end
end Sv

end

section
set_option linter.all false
set_option autoImplicit false
/-! The solver's end: what its last table shows; the exchanges end. -/
namespace Sv
/-! ### counting -/
theorem pigeon {α : Type} [DecidableEq α] : ∀ {l R : List α}, l.Nodup → (∀ x ∈ l, x ∈ R) → l.length ≤ R.length
  | [], _, _, _ => Nat.zero_le _
  | x :: l, R, nd, h => by
    have hx := h x List.mem_cons_self
    have h1 := List.nodup_cons.mp nd
    have := pigeon (l := l) (R := R.erase x) h1.2 fun y m => by
      have ne : y ≠ x := fun z => h1.1 (z ▸ m)
      exact (List.mem_erase_of_ne ne).mpr (h y (List.mem_cons_of_mem _ m))
    rw [List.length_erase_of_mem hx] at this
    have := List.length_pos_of_mem hx
    rw [List.length_cons]
    omega
theorem countP_lt {α : Type} {p q : α → Bool} : ∀ {U : List α}, (∀ u ∈ U, p u = true → q u = true) → (∃ x ∈ U, q x = true ∧ p x = false) → U.countP p < U.countP q
  | [], _, ⟨x, m, _⟩ => nomatch m
  | u :: U, h, ⟨x, m, h1, h2⟩ => by
    have le : U.countP p ≤ U.countP q := List.countP_mono_left fun y m => h y (List.mem_cons_of_mem _ m)
    rw [List.countP_cons, List.countP_cons]
    rcases List.mem_cons.mp m with rfl | m
    · rw [h1, h2]
      simp
      omega
    · have := countP_lt (U := U) (fun y m => h y (List.mem_cons_of_mem _ m)) ⟨x, m, h1, h2⟩
      have hu := h u List.mem_cons_self
      cases e : p u with
      | true => rw [hu e]; simp; omega
      | false => cases q u <;> simp <;> omega
/-- all rows of n numbers below N -/
def allL (N : Nat) : Nat → List (List Nat)
  | 0 => [[]]
  | n + 1 => (allL N n).flatMap fun l => (List.range N).map (· :: l)
theorem mem_allL {N : Nat} : ∀ {n : Nat} {l : List Nat}, l.length = n → (∀ x ∈ l, x < N) → l ∈ allL N n
  | 0, l, h, _ => by rw [List.length_eq_zero_iff.mp h]; exact List.mem_singleton.mpr rfl
  | n + 1, [], h, _ => by cases h
  | n + 1, x :: l, h, hx => by
    refine List.mem_flatMap.mpr ⟨l, mem_allL (by simpa using h) fun y m => hx y (List.mem_cons_of_mem _ m), List.mem_map.mpr ⟨x, List.mem_range.mpr (hx x List.mem_cons_self), rfl⟩⟩
theorem len_allL (N : Nat) : ∀ n, (allL N n).length = N ^ n
  | 0 => rfl
  | n + 1 => by
    rw [allL, List.length_flatMap]
    have : (allL N n).map (fun l => ((List.range N).map (· :: l)).length) = (allL N n).map fun _ => N := List.map_congr_left fun l _ => by rw [List.length_map, List.length_range]
    rw [this, List.map_const', List.sum_replicate_nat, len_allL N n, Nat.pow_succ]
section
variable {t : Tk}
open Classical in
/-- how many states are still ahead -/
noncomputable def Tk.mu (t : Tk) (o : List Nat) : Nat := (allL t.N t.n).countP fun u => decide (t.St u ∧ t.lt0 o u)
theorem mu_le (o : List Nat) : t.mu o ≤ t.N ^ t.n := by
  rw [← len_allL]
  exact List.countP_le_length
theorem mu_lt {o o' : List Nat} (S : t.St o) (S' : t.St o') (h : t.lt0 o o') : t.mu o' < t.mu o := by
  classical
  refine countP_lt (fun u _ hu => ?_) ⟨o', mem_allL S'.len fun x m => (S'.lt x m).2, ?_, ?_⟩
  · have hu := of_decide_eq_true hu
    exact decide_eq_true ⟨hu.1, lt0_trans S S' hu.1 h hu.2⟩
  · exact decide_eq_true ⟨S', h⟩
  · exact decide_eq_false fun z => lt0_irr z.2
theorem St.nodup {o : List Nat} (S : t.St o) : o.Nodup := by
  rw [List.nodup_iff_pairwise_ne, List.pairwise_iff_getElem]
  intro a b ha hb ab e
  have s0 := S.s
  have z : t.sc o = 0 := by
    refine det_same (a := a + 1) (b := b + 1) (by have := S.len; omega) (by have := S.len; omega) (by omega) ?_
    unfold Tk.M
    rw [if_neg (by omega), if_neg (by omega), show a + 1 - 1 = a by omega, show b + 1 - 1 = b by omega, List.getD_eq_getElem?_getD, List.getD_eq_getElem?_getD, List.getElem?_eq_getElem ha, List.getElem?_eq_getElem hb, e]
  omega
theorem nodup_inj {α : Type} {l : List α} (nd : l.Nodup) {a b : Nat} {ha : a < l.length} {hb : b < l.length} (e : l[a] = l[b]) : a = b := by
  rw [List.nodup_iff_pairwise_ne, List.pairwise_iff_getElem] at nd
  rcases Nat.lt_trichotomy a b with h | h | h
  · exact absurd e (nd a b ha hb h)
  · exact h
  · exact absurd e.symm (nd b a hb ha h)
/-- what stands at variable x: f at its place among the outer ones -/
def wt (n : Nat) (o : List Nat) (f : Nat → Int) (x : Nat) : Int := sm n fun j => if o.getD j 0 = x then f (j + 1) else 0
theorem wt_sum {n N : Nat} {o : List Nat} (f : Nat → Int) (g : Nat → Int) (h : ∀ j, j < n → o.getD j 0 < N) : sm n (fun j => f (j + 1) * g (o.getD j 0)) = sm N fun x => wt n o f x * g x := by
  have e : sm N (fun x => wt n o f x * g x) = sm N fun x => sm n fun j => if o.getD j 0 = x then f (j + 1) * g x else 0 := sm_congr fun x _ => by
    unfold wt
    rw [← sm_mulr]
    exact sm_congr fun j _ => by split <;> simp
  rw [e, sm_swap]
  refine sm_congr fun j hj => ?_
  rw [sm_one (a := o.getD j 0) (h j hj) fun x _ ne => if_neg (Ne.symm ne), if_pos rfl]
theorem wt_0 {n : Nat} {o : List Nat} {f : Nat → Int} {x : Nat} (h : ∀ j, j < n → o.getD j 0 ≠ x) : wt n o f x = 0 := sm_zero fun j hj => if_neg (h j hj)
theorem wt_at {n : Nat} {o : List Nat} {f : Nat → Int} {j : Nat} (nd : o.Nodup) (hl : o.length = n) (hj : j < n) : wt n o f (o.getD j 0) = f (j + 1) := by
  unfold wt
  rw [sm_one (a := j) hj fun k hk ne => if_neg fun z => ne ?_, if_pos rfl]
  rw [List.getD_eq_getElem?_getD, List.getD_eq_getElem?_getD, List.getElem?_eq_getElem (by omega), List.getElem?_eq_getElem (by omega)] at z
  exact nodup_inj nd z
theorem wt_nonneg {n : Nat} {o : List Nat} {f : Nat → Int} {x : Nat} (h : ∀ j, 1 ≤ j → j ≤ n → 0 ≤ f j) : 0 ≤ wt n o f x := sm_nonneg fun j hj => by
  split
  · exact h _ (by omega) (by omega)
  · exact Int.le_refl _
theorem sm_cons (n : Nat) (f : Nat → Int) : sm (n + 1) f = f 0 + sm n fun i => f (i + 1) := by
  induction n with
  | zero => simp [sm]
  | succ n ih => rw [sm, ih, sm]; omega
theorem sm_app (n m : Nat) (f : Nat → Int) : sm (n + m) f = sm n f + sm m fun i => f (n + i) := by
  induction m with
  | zero => simp [sm]
  | succ m ih => rw [Nat.add_succ, sm, ih, sm]; omega
variable (ok : t.Ok)
include ok
theorem getD_pos {o : List Nat} (S : t.St o) {j : Nat} (hj : j < t.n) : 1 ≤ o.getD j 0 ∧ o.getD j 0 < t.N := by
  have hm : o.getD j 0 ∈ o := by
    rw [List.getD_eq_getElem?_getD, List.getElem?_eq_getElem (by rw [S.len]; exact hj)]
    exact List.getElem_mem _
  exact S.lt _ hm
/-- a row by unknowns and slacks -/
theorem row_eq {o : List Nat} (S : t.St o) {m : Nat} (hN : t.N = t.n + 1 + m) (i k : Nat) (hk : k ≤ t.n) :
    t.sc o * t.F i k = (if k = 0 then t.T o i 0 else wt t.n o (t.T o i) k) + sm m fun l => wt t.n o (t.T o i) (t.n + 1 + l) * t.F (t.n + 1 + l) k := by
  rw [S.C i k hk, sm_cons]
  have e1 : sm t.n (fun j => t.T o i (j + 1) * t.M o (j + 1) k) = sm t.n fun j => t.T o i (j + 1) * (fun x => t.F x k) (o.getD j 0) := sm_congr fun j _ => by
    unfold Tk.M
    rw [if_neg (by omega), show j + 1 - 1 = j by omega]
  rw [e1, wt_sum (t.T o i) (fun x => t.F x k) (fun j hj => (getD_pos ok S hj).2), hN, sm_app, ← Int.add_assoc]
  refine congrArg (· + _) ?_
  rw [sm_cons, wt_0 fun j hj => by have := (getD_pos ok S hj).1; omega, Int.zero_mul, Int.zero_add]
  have m0 : t.M o 0 k = idm 0 k := by unfold Tk.M; rw [if_pos rfl]
  rw [m0]
  by_cases h0 : k = 0
  · subst h0
    rw [if_pos rfl, show idm 0 0 = 1 from rfl, Int.mul_one, sm_zero fun j hj => by rw [ok.un (j + 1) 0 (by omega) (by omega) hk, show idm (j + 1) 0 = 0 from if_neg (by omega), Int.mul_zero], Int.add_zero]
  · rw [if_neg h0, show idm 0 k = 0 from if_neg (by omega), Int.mul_zero, Int.zero_add, sm_one (a := k - 1) (by omega) fun j hj ne => by rw [ok.un (j + 1) k (by omega) (by omega) hk, show idm (j + 1) k = 0 from if_neg (by omega), Int.mul_zero]]
    rw [show k - 1 + 1 = k by omega, ok.un k k (by omega) hk hk, show idm k k = 1 from if_pos rfl, Int.mul_one]
/-- not more than m of the unknowns are not outer -/
theorem few_in {o : List Nat} (S : t.St o) {m : Nat} (hN : t.N = t.n + 1 + m) (p : Nat → Bool) (h : ∀ k, k < t.n → p k = true → k + 1 ∉ o) : (List.range t.n).countP p ≤ m := by
  have nd := St.nodup S
  have e : (o ++ ((List.range t.n).filter p).map (· + 1)).length ≤ (List.range (t.n + m)).length := by
    rw [← List.length_map (f := fun x => x + 1) (as := List.range (t.n + m))]
    refine pigeon ?_ fun x hx => ?_
    · rw [List.nodup_append]
      refine ⟨nd, ?_, ?_⟩
      · refine List.Pairwise.map _ (fun a b h => ?_) ((List.nodup_range).filter p)
        exact fun z => h (by omega)
      · intro a ha b hb z
        subst z
        obtain ⟨y, hy, rfl⟩ := List.mem_map.mp hb
        obtain ⟨h1, h2⟩ := List.mem_filter.mp hy
        exact h y (List.mem_range.mp h1) h2 ha
    · rcases List.mem_append.mp hx with hx | hx
      · have := S.lt x hx
        exact List.mem_map.mpr ⟨x - 1, List.mem_range.mpr (by omega), by omega⟩
      · obtain ⟨y, hy, rfl⟩ := List.mem_map.mp hx
        have := List.mem_range.mp (List.mem_filter.mp hy).1
        exact List.mem_map.mpr ⟨y, List.mem_range.mpr (by omega), rfl⟩
  rw [List.length_append, List.length_map, List.length_range, S.len, ← List.countP_eq_length_filter] at e
  omega
/-- not more than n of the slacks are outer -/
theorem few_out {o : List Nat} (S : t.St o) {m : Nat} (p : Nat → Bool) (h : ∀ l, l < m → p l = true → t.n + 1 + l ∈ o) : (List.range m).countP p ≤ t.n := by
  have e : (((List.range m).filter p).map (t.n + 1 + ·)).length ≤ o.length := by
    refine pigeon ?_ fun x hx => ?_
    · exact List.Pairwise.map _ (fun a b h z => h (by omega)) ((List.nodup_range).filter p)
    · obtain ⟨y, hy, rfl⟩ := List.mem_map.mp hx
      obtain ⟨h1, h2⟩ := List.mem_filter.mp hy
      exact h y (List.mem_range.mp h1) h2
  rw [List.length_map, S.len, ← List.countP_eq_length_filter] at e
  exact e
/-- a point and weights that show each other -/
structure Gr (n m : Nat) (g : Nat → Int) (a : Nat → Nat → Int) (b : Nat → Int) (s v : Int) (p w : Nat → Int) : Prop where
  sp : 0 < s
  p0 : ∀ k, k < n → 0 ≤ p k
  w0 : ∀ i, i < m → 0 ≤ w i
  row : ∀ i, i < m → s * b i ≤ sm n fun k => a i k * p k
  col : ∀ k, k < n → (sm m fun i => w i * a i k) ≤ s * g k
  vp : v = sm n fun k => g k * p k
  vw : v = sm m fun i => w i * b i
  cp : ((List.range n).countP fun k => decide (p k ≠ 0)) ≤ m
  cw : ((List.range m).countP fun i => decide (w i ≠ 0)) ≤ n
/-- weights that show that there is no point -/
structure Rf (n m : Nat) (a : Nat → Nat → Int) (b : Nat → Int) (s : Int) (w : Nat → Int) : Prop where
  sp : 0 < s
  w0 : ∀ i, i < m → 0 ≤ w i
  col : ∀ k, k < n → (sm m fun i => w i * a i k) ≤ 0
  bd : 0 < sm m fun i => w i * b i
  cw : ((List.range m).countP fun i => decide (w i ≠ 0)) ≤ n + 1
theorem T0_nonneg {o : List Nat} (S : t.St o) {j : Nat} (h1 : 1 ≤ j) (h2 : j ≤ t.n) : 0 ≤ t.T o 0 j := by
  obtain ⟨i, _, e2, e3⟩ := S.lp j h1 h2
  by_cases h : i = 0
  · subst h; have e2 : 0 < t.T o 0 j := e2; omega
  · have e3 : t.T o 0 j = 0 := e3 0 (by omega)
    omega
theorem wt_ne {n : Nat} {o : List Nat} {f : Nat → Int} {x : Nat} (hl : o.length = n) (h : wt n o f x ≠ 0) : x ∈ o := by
  by_cases c : x ∈ o
  · exact c
  · refine absurd (wt_0 fun j hj z => c ?_) h
    rw [← z, List.getD_eq_getElem?_getD, List.getElem?_eq_getElem (by omega)]
    exact List.getElem_mem _
theorem granted {o : List Nat} (S : t.St o) {m : Nat} (hN : t.N = t.n + 1 + m) (fin : ∀ i, 1 ≤ i → i < t.N → 0 ≤ t.T o i 0) :
    Gr t.n m (fun k => t.F 0 (k + 1)) (fun i k => t.F (t.n + 1 + i) (k + 1)) (fun i => - t.F (t.n + 1 + i) 0) (t.sc o) (t.T o 0 0) (fun k => t.T o (k + 1) 0) (fun i => wt t.n o (t.T o 0) (t.n + 1 + i)) := by
  have hpt : ∀ i, t.T o i 0 = t.F i 0 * t.sc o + sm t.n fun k => t.F i (k + 1) * t.T o (k + 1) 0 := fun i => by
    rw [T_0 ok o i, sm_cons, if_pos rfl]
    congr 1
  refine ⟨S.s, fun k hk => fin _ (by omega) (by omega), fun i _ => wt_nonneg fun j h1 h2 => T0_nonneg ok S h1 h2, fun i hi => ?_, fun k hk => ?_, ?_, ?_, ?_, ?_⟩
  · have := hpt (t.n + 1 + i)
    have := fin (t.n + 1 + i) (by omega) (by omega)
    show t.sc o * - t.F (t.n + 1 + i) 0 ≤ _
    rw [Int.mul_neg, Int.mul_comm]
    omega
  · have := row_eq ok S hN 0 (k + 1) (by omega)
    rw [if_neg (by omega)] at this
    have := wt_nonneg (n := t.n) (o := o) (x := k + 1) (f := t.T o 0) fun j h1 h2 => T0_nonneg ok S h1 h2
    show _ ≤ t.sc o * t.F 0 (k + 1)
    omega
  · have := hpt 0
    rw [ok.g0, Int.zero_mul, Int.zero_add] at this
    exact this
  · have := row_eq ok S hN 0 0 (by omega)
    rw [if_pos rfl, ok.g0, Int.mul_zero] at this
    have e : sm m (fun i => wt t.n o (t.T o 0) (t.n + 1 + i) * - t.F (t.n + 1 + i) 0) = - sm m fun l => wt t.n o (t.T o 0) (t.n + 1 + l) * t.F (t.n + 1 + l) 0 := by
      rw [← sm_neg]
      exact sm_congr fun i _ => by rw [Int.mul_neg]
    rw [e]
    omega
  · refine few_in ok S hN _ fun k hk hp hm => ?_
    have hp := of_decide_eq_true hp
    obtain ⟨j, hj, e⟩ := List.getElem_of_mem hm
    refine hp ?_
    have : o.getD (j + 1 - 1) 0 = k + 1 := by rw [List.getD_eq_getElem?_getD, show j + 1 - 1 = j by omega, List.getElem?_eq_getElem hj, e]; rfl
    rw [← this, T_out (by omega) (by rw [← S.len]; omega) (Nat.zero_le _), if_neg (by omega)]
  · exact few_out ok S _ fun l hl hp => wt_ne ok S.len (of_decide_eq_true hp)
/-- the weights of a refusal by row r -/
def rw' (t : Tk) (o : List Nat) (r i : Nat) : Int := if t.n + 1 + i = r then t.sc o else wt t.n o (fun j => - t.T o r j) (t.n + 1 + i)
theorem refused {o : List Nat} (S : t.St o) {m r : Nat} (hN : t.N = t.n + 1 + m) (h1 : 1 ≤ r) (h2 : r < t.N) (neg : t.T o r 0 < 0) (no : ∀ j, 1 ≤ j → j ≤ t.n → t.T o r j ≤ 0) :
    Rf t.n m (fun i k => t.F (t.n + 1 + i) (k + 1)) (fun i => - t.F (t.n + 1 + i) 0) (t.sc o) (rw' t o r) := by
  have wn : ∀ x, wt t.n o (fun j => - t.T o r j) x = - wt t.n o (t.T o r) x := fun x => by
    unfold wt
    rw [← sm_neg]
    exact sm_congr fun j _ => by split <;> rfl
  have w0 : ∀ x, 0 ≤ wt t.n o (fun j => - t.T o r j) x := fun x => wt_nonneg fun j h1 h2 => by have := no j h1 h2; omega
  have rn : r ∉ o := fun hm => by
    obtain ⟨j, hj, e⟩ := List.getElem_of_mem hm
    have : o.getD (j + 1 - 1) 0 = r := by rw [List.getD_eq_getElem?_getD, show j + 1 - 1 = j by omega, List.getElem?_eq_getElem hj, e]; rfl
    rw [← this, T_out (by omega) (by rw [← S.len]; omega) (Nat.zero_le _), if_neg (by omega)] at neg
    omega
  have wr : wt t.n o (fun j => - t.T o r j) r = 0 := by
    by_cases z : wt t.n o (fun j => - t.T o r j) r = 0
    · exact z
    · exact absurd (wt_ne ok S.len z) rn
  -- the sums of the weighted rows
  have key : ∀ k, k ≤ t.n → (sm m fun i => rw' t o r i * t.F (t.n + 1 + i) k) = (if t.n < r then t.sc o * t.F r k else 0) - sm m fun l => wt t.n o (t.T o r) (t.n + 1 + l) * t.F (t.n + 1 + l) k := fun k hk => by
    have e : (if t.n < r then t.sc o * t.F r k else 0) = sm m fun i => if t.n + 1 + i = r then t.sc o * t.F r k else 0 := by
      by_cases c : t.n < r
      · rw [if_pos c, sm_one (a := r - (t.n + 1)) (by omega) fun i _ ne => if_neg (by omega), if_pos (by omega)]
      · rw [if_neg c, sm_zero fun i _ => if_neg (by omega)]
    rw [e, ← sm_sub]
    refine sm_congr fun i _ => ?_
    unfold rw'
    by_cases c : t.n + 1 + i = r
    · rw [if_pos c, if_pos c, c]
      have := wn r
      rw [wr] at this
      have : wt t.n o (t.T o r) r = 0 := by omega
      rw [this]; grind
    · rw [if_neg c, if_neg c, wn]; grind
  refine ⟨S.s, fun i _ => ?_, fun k hk => ?_, ?_, ?_⟩
  · unfold rw'
    split
    · exact Int.le_of_lt S.s
    · exact w0 _
  · have e := row_eq ok S hN r (k + 1) (by omega)
    rw [if_neg (by omega)] at e
    rw [key (k + 1) (by omega)]
    have p := w0 (k + 1)
    rw [wn] at p
    by_cases c : t.n < r
    · rw [if_pos c]; omega
    · rw [if_neg c]
      rw [ok.un r (k + 1) h1 (by omega) (by omega)] at e
      have q : 0 ≤ t.sc o * idm r (k + 1) := Int.mul_nonneg (Int.le_of_lt S.s) (by unfold idm; split <;> omega)
      omega
  · have e := row_eq ok S hN r 0 (by omega)
    rw [if_pos rfl] at e
    have e2 : sm m (fun i => rw' t o r i * - t.F (t.n + 1 + i) 0) = - sm m fun i => rw' t o r i * t.F (t.n + 1 + i) 0 := by
      rw [← sm_neg]
      exact sm_congr fun i _ => by rw [Int.mul_neg]
    rw [e2, key 0 (by omega)]
    by_cases c : t.n < r
    · rw [if_pos c]; omega
    · rw [if_neg c]
      rw [ok.un r 0 h1 (by omega) (by omega), show idm r 0 = 0 from if_neg (by omega), Int.mul_zero] at e
      omega
  · have a1 : ((List.range m).countP fun i => decide (rw' t o r i ≠ 0)) ≤ ((List.range m).countP fun i => decide (t.n + 1 + i ∈ o)) + ((List.range m).countP fun i => decide (t.n + 1 + i = r)) := by
      have : ∀ l : List Nat, (l.countP fun i => decide (rw' t o r i ≠ 0)) ≤ (l.countP fun i => decide (t.n + 1 + i ∈ o)) + (l.countP fun i => decide (t.n + 1 + i = r)) := by
        intro l
        induction l with
        | nil => simp
        | cons x l ih =>
          rw [List.countP_cons, List.countP_cons, List.countP_cons]
          have : decide (rw' t o r x ≠ 0) = true → decide (t.n + 1 + x ∈ o) = true ∨ decide (t.n + 1 + x = r) = true := fun z => by
            have z := of_decide_eq_true z
            unfold rw' at z
            by_cases c : t.n + 1 + x = r
            · exact .inr (decide_eq_true c)
            · rw [if_neg c] at z
              exact .inl (decide_eq_true (wt_ne ok S.len z))
          generalize l.countP (fun i => decide (rw' t o r i ≠ 0)) = A at ih ⊢
          generalize l.countP (fun i => decide (t.n + 1 + i ∈ o)) = B at ih ⊢
          generalize l.countP (fun i => decide (t.n + 1 + i = r)) = C at ih ⊢
          generalize decide (t.n + 1 + x ∈ o) = b2 at this ⊢
          generalize decide (t.n + 1 + x = r) = b3 at this ⊢
          cases h1 : decide (rw' t o r x ≠ 0) with
          | false => cases b2 <;> cases b3 <;> simp <;> omega
          | true =>
            rcases this h1 with z | z
            · rw [z]; cases b3 <;> simp <;> omega
            · rw [z]; cases b2 <;> simp <;> omega
      exact this _
    have a2 := few_out ok S (m := m) (fun i => decide (t.n + 1 + i ∈ o)) fun l _ h => of_decide_eq_true h
    have a3 : ((List.range m).countP fun i => decide (t.n + 1 + i = r)) ≤ 1 := by
      rw [List.countP_eq_length_filter]
      have : (((List.range m).filter fun i => decide (t.n + 1 + i = r))).length ≤ [r - (t.n + 1)].length := pigeon ((List.nodup_range).filter _) fun x hx => by
        have := of_decide_eq_true (List.mem_filter.mp hx).2
        exact List.mem_singleton.mpr (by omega)
      exact this
    omega
end
end Sv

end

section
set_option linter.all false
set_option maxRecDepth 100000
/-! The solver's defs. -/
namespace MP
@[simp] theorem bin_addL {xs ys : List D} (h : xs.length + ys.length ≤ 1000000) : binD .add (.lst xs) (.lst ys) = .ok (.own (xs ++ ys)) := by simp only [binD, line_def, h, if_true]
@[simp] theorem mkOwn_0 : mkOwn [] = some (.own []) := nr rfl
@[simp] theorem mkOwn_f1 (d : D) : mkOwn [.fz d] = some (.own [d]) := nr rfl
@[simp] theorem mkOwn_o1 (d : List D) : mkOwn [.own d] = some (.own2 false [(false, d)]) := nr rfl
end MP
namespace Sw
open MP Sv
def rws (N n : Nat) (fl : Nat → Bool) (T : Nat → Nat → Int) : List (Bool × List D) := (List.range N).map fun i => (fl i, vec (n + 1) fun j => .int (T i j))
@[simp] theorem rws_len (N n : Nat) (fl : Nat → Bool) (T : Nat → Nat → Int) : (rws N n fl T).length = N := by unfold rws; rw [List.length_map, List.length_range]
theorem rws_at {N n k : Nat} {fl : Nat → Bool} {T : Nat → Nat → Int} (h : k < N) : atI (rws N n fl T) (k : Int) = some (fl k, vec (n + 1) fun j => .int (T k j)) := by
  rw [Lr.atI_nat]
  unfold rws
  rw [List.getElem?_map, List.getElem?_range h]
  rfl
theorem rws_snoc (N n : Nat) (fl : Nat → Bool) (T : Nat → Nat → Int) : rws (N + 1) n fl T = rws N n fl T ++ [(fl N, vec (n + 1) fun j => .int (T N j))] := by
  unfold rws
  rw [List.range_succ, List.map_append]
  rfl
/-- a table as data -/
abbrev tabD (N n : Nat) (T : Nat → Nat → Int) : D := .lst (vec N fun i => .lst (vec (n + 1) fun j => .int (T i j)))
theorem rws_data (N n : Nat) (fl : Nat → Bool) (T : Nat → Nat → Int) : (rws N n fl T).map rowD = vec N fun i => .lst (vec (n + 1) fun j => .int (T i j)) := by
  unfold rws vec
  rw [List.map_map]
  rfl
/-- a row of numbers -/
abbrev iv (n : Nat) (f : Nat → Int) : List D := vec n fun k => .int (f k)
/-- the first table -/
def fT (n : Nat) (g : Nat → Int) (a : Nat → Nat → Int) (b : Nat → Int) (i j : Nat) : Int :=
  if i = 0 then (if j = 0 then 0 else g (j - 1)) else if i ≤ n then (if i = j then 1 else 0) else if j = 0 then - b (i - n - 1) else a (i - n - 1) (j - 1)
structure HasS (P : MP.Prog) : Prop where
  ft : P.fn 27 = some Fb.f_first_table
  nr : P.fn 28 = some Fb.f_negative_row
  cb : P.fn 29 = some Fb.f_comes_before
  ec : P.fn 30 = some Fb.f_entering_column
  ex : P.fn 31 = some Fb.f_exchange
  sl : P.fn 32 = some Fb.f_at_slacks
  so : P.fn 33 = some Fb.f_solve
abbrev goalD (n : Nat) (g : Nat → Int) : D := .tup (iv n g)
abbrev rowsD (n m : Nat) (a : Nat → Nat → Int) (b : Nat → Int) : D := .tup (vec m fun i => .tup [.tup (iv n (a i)), .int (b i)])
theorem fT_unk {n k : Nat} {g : Nat → Int} {a : Nat → Nat → Int} {b : Nat → Int} (hk : k < n) : (D.int 0 :: vec n fun j => D.int (b2i (decide ((k : Int) = (j : Int))))) = vec (n + 1) fun j => .int (fT n g a b (k + 1) j) := by
  rw [vec_cons]
  refine congr (congrArg _ ?_) (vec_congr fun j hj => ?_)
  · unfold fT; rw [if_neg (by omega), if_pos (by omega), if_neg (by omega)]
  · have e1 : fT n g a b (k + 1) (j + 1) = if k + 1 = j + 1 then 1 else 0 := by unfold fT; rw [if_neg (by omega), if_pos (by omega)]
    rw [e1]
    by_cases e : k = j
    · subst e; simp [b2i]
    · have : ¬ ((k : Int) = (j : Int)) := by omega
      simp [e, this, b2i]
theorem fT_slk {n i : Nat} {g : Nat → Int} {a : Nat → Nat → Int} {b : Nat → Int} : (D.int (- b i) :: vec n fun j => D.int (a i j)) = vec (n + 1) fun j => .int (fT n g a b (n + 1 + i) j) := by
  rw [vec_cons]
  refine congr (congrArg _ ?_) (vec_congr fun j hj => ?_)
  · unfold fT; rw [if_neg (by omega), if_neg (by omega), if_pos rfl, show n + 1 + i - n - 1 = i by omega]
  · unfold fT; rw [if_neg (by omega), if_neg (by omega), if_neg (by omega), show n + 1 + i - n - 1 = i by omega, Nat.add_sub_cancel]
section
variable {P : MP.Prog} (h : HasS P)
include h
theorem first_table_ok (d n m : Nat) (hn : n ≤ 1000) (hm : m ≤ 1000) (g : Nat → Int) (a : Nat → Nat → Int) (b : Nat → Int) :
    K P (d + 1) 27 [goalD n g, rowsD n m a b] = .ok (.own2 false (rws (n + 1 + m) n (fun _ => false) (fT n g a b))) := by
  obtain ⟨_, e1, z4, z5, z6, z7, rfl⟩ := forL_inv (body := fun Γ => execs Fb.b_first_table_1 (gq P d) Γ) (t := .n 4) (n := n) (F := fun k => .int (k : Int)) (Γ0 := [.fz (goalD n g), .fz (rowsD n m a b), .fz (.int n), .own2 false (rws 1 n (fun _ => false) (fT n g a b)), .un, .un, .un, .un])
    (fun k Γ => ∃ z4 z5 z6 z7, Γ = [.fz (goalD n g), .fz (rowsD n m a b), .fz (.int n), .own2 false (rws (k + 1) n (fun _ => false) (fT n g a b)), z4, z5, z6, z7]) ⟨_, _, _, _, rfl⟩ (by
      rintro k _ hk ⟨z4, z5, z6, z7, rfl⟩
      have ec := ev_comp (X := (gq P d).toFx) gq_cm (e := .blt .int [(.cmp .eq (.var 4) (.var 7))]) (tg := .n 7) (it := .rng [(.var 2)]) (cs := []) (Γ := [.fz (goalD n g), .fz (rowsD n m a b), .fz (.int n), .own2 false (rws (k + 1) n (fun _ => false) (fT n g a b)), .fz (.int k), z5, z6, z7]) (pk := true) (n := n) (F := fun j => .int (j : Int))
        (fun j => .int (b2i (decide ((k : Int) = (j : Int))))) (by simp [isPath, show n ≤ 1000000 by omega]) (by omega) (fun j hj => ⟨_, by simp [setT]; rfl, by simp, by simp [isPath]⟩)
      refine ⟨_, [.fz (goalD n g), .fz (rowsD n m a b), .fz (.int n), .own2 false (rws (k + 1 + 1) n (fun _ => false) (fT n g a b)), .fz (.int k), z5, z6, z7], by simp [setT]; rfl, .inl ?_, _, _, _, _, rfl⟩
      simp (disch := (first | omega | (simp; done) | (simp; omega))) [Fb.b_first_table_1, isPath, ec]
      rw [fT_unk (g := g) (a := a) (b := b) hk, ← rws_snoc])
  obtain ⟨_, e2, z8, z9, z10, z11, rfl⟩ := forL_inv (body := fun Γ => execs Fb.b_first_table_2 (gq P d) Γ) (t := .t [.n 5, .n 6]) (n := m) (F := fun i => .tup [.tup (iv n (a i)), .int (b i)]) (Γ0 := [.fz (goalD n g), .fz (rowsD n m a b), .fz (.int n), .own2 false (rws (n + 1) n (fun _ => false) (fT n g a b)), z4, z5, z6, z7])
    (fun k Γ => ∃ z4 z5 z6 z7, Γ = [.fz (goalD n g), .fz (rowsD n m a b), .fz (.int n), .own2 false (rws (n + 1 + k) n (fun _ => false) (fT n g a b)), z4, z5, z6, z7]) ⟨_, _, _, _, rfl⟩ (by
      rintro k _ hk ⟨z4, z5, z6, z7, rfl⟩
      refine ⟨_, [.fz (goalD n g), .fz (rowsD n m a b), .fz (.int n), .own2 false (rws (n + 1 + k + 1) n (fun _ => false) (fT n g a b)), z4, .fz (.tup (iv n (a k))), .fz (.int (b k)), z7], by simp [setT, setTs, OD.toD, D.items]; rfl, .inl ?_, _, _, _, _, rfl⟩
      simp (disch := (first | omega | (simp; done) | (simp; omega))) [Fb.b_first_table_2, isPath]
      rw [fT_slk (g := g) (a := a) (b := b), ← rws_snoc])
  have r0 : rws 1 n (fun _ => false) (fT n g a b) = [(false, D.int 0 :: vec n fun k => D.int (g k))] := by
    show [(false, vec (n + 1) fun j => D.int (fT n g a b 0 j))] = _
    rw [vec_cons]
    rfl
  rw [r0] at e1
  refine call_eq h.ft rfl ?_
  simp only [goalD, rowsD, iv] at e1 e2 ⊢
  simp [Fb.f_first_table, Fb.b_first_table, MP.start, isPath, OD.toD, show n ≤ 1000000 by omega, show 1 + n ≤ 1000000 by omega, e1, e2]
theorem negative_row_ok (d N n : Nat) (T : Nat → Nat → Int) (hN : 1 ≤ N) (hN2 : N ≤ 100000) : ∃ r : Nat, K P (d + 1) 28 [tabD N n T] = .ok (.fz (.int r)) ∧ ((r = 0 ∧ ∀ i, 1 ≤ i → i < N → 0 ≤ T i 0) ∨ (1 ≤ r ∧ r < N ∧ T r 0 < 0)) := by
  have lp := forL_stop (body := fun Γ => execs Fb.b_negative_row_1 (gq P d) Γ) (t := .n 1) (n := N - 1) (F := fun k => .int ((k : Int) + 1)) (Γ0 := [.fz (tabD N n T), .un])
    (fun k Γ => (∀ i, 1 ≤ i → i < k + 1 → 0 ≤ T i 0) ∧ ∃ z, Γ = [.fz (tabD N n T), z]) (fun r => ∃ (i : Nat) (Γ' : List OD), 1 ≤ i ∧ i < N ∧ T i 0 < 0 ∧ r = .ok (.rt (.fz (.int i))) Γ') ⟨fun i h1 h2 => by omega, _, rfl⟩ (by
      rintro k _ hk ⟨hp, z, rfl⟩
      refine ⟨_, by simp; rfl, ?_⟩
      by_cases c : T (k + 1) 0 < 0
      · refine .inr (.inl ⟨.fz (.int ((k : Int) + 1)), [.fz (tabD N n T), .fz (.int ((k : Int) + 1))], ?_, k + 1, _, by omega, by omega, c, rfl⟩)
        simp (disch := (first | omega | (simp; done) | (simp; omega))) [Fb.b_negative_row_1, tabD, c]
      · refine .inl ⟨[.fz (tabD N n T), .fz (.int ((k : Int) + 1))], .inl ?_, fun i h1 h2 => ?_, _, rfl⟩
        · simp (disch := (first | omega | (simp; done) | (simp; omega))) [Fb.b_negative_row_1, tabD, c]
        · by_cases e : i = k + 1
          · rw [e]; omega
          · exact hp i h1 (by omega))
  have rr : rngD [.int 1, .int (N : Int)] = .ok (.fz (.lst (vec (N - 1) fun k => .int ((k : Int) + 1)))) := rngD_2n N hN (by omega)
  rcases lp with ⟨_, e, hp, z, rfl⟩ | ⟨i, Γ', h1, h2, h3, e⟩
  · refine ⟨0, call_eq h.nr rfl ?_, .inl ⟨rfl, fun i h1 h2 => hp i h1 (by omega)⟩⟩
    simp only [tabD] at e ⊢
    simp [Fb.f_negative_row, Fb.b_negative_row, MP.start, rr, e]
  · refine ⟨i, call_eq h.nr rfl ?_, .inr ⟨h1, h2, h3⟩⟩
    simp only [tabD] at e ⊢
    simp [Fb.f_negative_row, Fb.b_negative_row, MP.start, rr, e]
theorem comes_before_ok (d N n r c j B : Nat) (hB : B ≤ 400000) (T : Nat → Nat → Int) (hr : r < N) (hc : c < n + 1) (hj : j < n + 1) (hb : ∀ i k, i < N → k < n + 1 → (T i k).natAbs < 2 ^ B) :
    K P (d + 1) 29 [tabD N n T, .int r, .int c, .int j] = .ok (.fz (.bl true)) ∧ lpos N (fun i => T i j * T r c - T i c * T r j) ∨ K P (d + 1) 29 [tabD N n T, .int r, .int c, .int j] = .ok (.fz (.bl false)) ∧ ¬ lpos N (fun i => T i j * T r c - T i c * T r j) := by
  have m1 : ∀ i, i < N → mulOk (T i c) (T r j) = true := fun i hi => Lr.mulOk_of (hb i c hi hc) (hb r j hr hj) (by omega)
  have m2 : ∀ i, i < N → mulOk (T i j) (T r c) = true := fun i hi => Lr.mulOk_of (hb i j hi hj) (hb r c hr hc) (by omega)
  have lp := forL_stop (body := fun Γ => execs Fb.b_comes_before_1 (gq P d) Γ) (t := .n 4) (n := N) (F := fun i => .lst (vec (n + 1) fun j => .int (T i j))) (Γ0 := [.fz (tabD N n T), .fz (.int r), .fz (.int c), .fz (.int j), .un, .un, .un])
    (fun k Γ => (∀ i, i < k → T i j * T r c - T i c * T r j = 0) ∧ ∃ z1 z2 z3, Γ = [.fz (tabD N n T), .fz (.int r), .fz (.int c), .fz (.int j), z1, z2, z3])
    (fun x => (∃ Γ', x = .ok (.rt (.fz (.bl true))) Γ' ∧ lpos N (fun i => T i j * T r c - T i c * T r j)) ∨ (∃ Γ', x = .ok (.rt (.fz (.bl false))) Γ' ∧ ¬ lpos N (fun i => T i j * T r c - T i c * T r j))) ⟨fun i h => by omega, _, _, _, rfl⟩ (by
      rintro k _ hk ⟨hp, z1, z2, z3, rfl⟩
      refine ⟨_, by simp; rfl, ?_⟩
      have m1 := m1 k hk
      have m2 := m2 k hk
      by_cases e : T k c * T r j = T k j * T r c
      · refine .inl ⟨[.fz (tabD N n T), .fz (.int r), .fz (.int c), .fz (.int j), .fz (.lst (vec (n + 1) fun j => .int (T k j))), .fz (.int (T k c * T r j)), .fz (.int (T k j * T r c))], .inl ?_, fun i hi => ?_, _, _, _, rfl⟩
        · simp (disch := (first | omega | (simp; done) | (simp; omega))) [Fb.b_comes_before_1, tabD, bin_mul m1, bin_mul m2, e]
        · by_cases z : i = k
          · subst z; omega
          · exact hp i (by omega)
      · refine .inr (.inl ⟨.fz (.bl (decide (T k c * T r j < T k j * T r c))), [.fz (tabD N n T), .fz (.int r), .fz (.int c), .fz (.int j), .fz (.lst (vec (n + 1) fun j => .int (T k j))), .fz (.int (T k c * T r j)), .fz (.int (T k j * T r c))], ?_, ?_⟩)
        · simp (disch := (first | omega | (simp; done) | (simp; omega))) [Fb.b_comes_before_1, tabD, bin_mul m1, bin_mul m2, e]
        · by_cases l : T k c * T r j < T k j * T r c
          · exact .inl ⟨_, by rw [decide_eq_true l], k, hk, by show 0 < T k j * T r c - T k c * T r j; omega, fun i hi => hp i hi⟩
          · refine .inr ⟨_, by rw [decide_eq_false l], fun ⟨i, h1, h2, h3⟩ => ?_⟩
            have h2 : 0 < T i j * T r c - T i c * T r j := h2
            by_cases z : i < k
            · have := hp i z; omega
            · by_cases z2 : i = k
              · subst z2; omega
              · have h3 : T k j * T r c - T k c * T r j = 0 := h3 k (by omega)
                omega)
  rcases lp with ⟨_, e, hp, z1, z2, z3, rfl⟩ | ⟨Γ', e, hl⟩ | ⟨Γ', e, hl⟩
  · refine .inr ⟨call_eq h.cb rfl ?_, fun ⟨i, h1, h2, h3⟩ => ?_⟩
    · simp only [tabD] at e ⊢
      simp [Fb.f_comes_before, Fb.b_comes_before, MP.start, e]
    · have h2 : 0 < T i j * T r c - T i c * T r j := h2
      have := hp i h1
      omega
  · refine .inl ⟨call_eq h.cb rfl ?_, hl⟩
    simp only [tabD] at e ⊢
    simp [Fb.f_comes_before, Fb.b_comes_before, MP.start, e]
  · refine .inr ⟨call_eq h.cb rfl ?_, hl⟩
    simp only [tabD] at e ⊢
    simp [Fb.f_comes_before, Fb.b_comes_before, MP.start, e]
end
end Sw

end

section
set_option linter.all false
set_option maxRecDepth 100000
/-! entering_column, exchange, at_slacks -/
namespace MP
@[simp] theorem lent_ok' (bs : List (D × Bool)) (o : OD) : lent bs (.ok o) = if (bs.any (·.2) && !o.noFL) = true then .bad else .ok o := by
  unfold lent
  cases bs.any (·.2) <;> cases h : o.noFL <;> simp [h]
@[simp] theorem lent_ex' (bs : List (D × Bool)) (c : Nat) (p : Option D) : lent bs (.ex c p) = if (bs.any (·.2) && !(match p with
    | some d => d.noL
    | none => true)) = true then .bad else .ex c p := by
  unfold lent
  cases p with
  | none => cases bs.any (·.2) <;> rfl
  | some d => cases bs.any (·.2) <;> cases h : d.noL <;> simp [h]
@[simp] theorem noFL_int (i : Int) : (OD.fz (.int i)).noFL = true := nr rfl
@[simp] theorem noFL_bl (i : Bool) : (OD.fz (.bl i)).noFL = true := nr rfl
@[simp] theorem noFL_non : (OD.fz .non).noFL = true := nr rfl
@[simp] theorem noFL_str (x : List Nat) : (OD.fz (.str x)).noFL = true := nr rfl
theorem noLs_vec (n : Nat) (F : Nat → D) (h : ∀ k, k < n → (F k).noL = true) : D.noLs (vec n F) = true := by
  have : ∀ l : List D, (∀ d ∈ l, d.noL = true) → D.noLs l = true := by
    intro l
    induction l with
    | nil => intro _; rfl
    | cons d l ih => intro h; rw [D.noLs, h d List.mem_cons_self, ih fun e m => h e (List.mem_cons_of_mem _ m)]; rfl
  refine this _ fun d m => ?_
  obtain ⟨k, hk, rfl⟩ := List.mem_map.mp m
  exact h k (List.mem_range.mp hk)
@[simp] theorem noFL_ints (n : Nat) (f : Nat → Int) : (OD.own (vec n fun k => .int (f k))).noFL = true := noLs_vec n _ fun _ _ => rfl
@[simp] theorem argm_own2 (p q : Bool) (rs : List (Bool × List D)) : argm p (.ok (.own2 q rs)) = .ok (.lst (rs.map rowD), p && true) := nr rfl
@[simp] theorem frz_own2 (q : Bool) (rs : List (Bool × List D)) : frz (.ok (.own2 q rs)) = .ok (.lst (rs.map rowD)) := nr rfl
theorem enm_vec (n : Nat) (F : Nat → D) : enmD 0 (vec n F) = vec n fun k => .tup [.int (k : Int), F k] := by
  have key : ∀ m k, enmD k ((List.range' k m).map F) = (List.range' k m).map fun k => .tup [.int (k : Int), F k] := by
    intro m
    induction m with
    | zero => intro k; rfl
    | succ m ih =>
      intro k
      rw [List.range'_succ, List.map_cons, enmD, ih (k + 1), List.map_cons]
  have := key n 0
  rw [← List.range_eq_range'] at this
  exact this
end MP
namespace Sw
open MP Sv
theorem rws_congr {N n : Nat} {fl fl' : Nat → Bool} {T T' : Nat → Nat → Int} (h1 : ∀ i, i < N → fl i = fl' i) (h2 : ∀ i j, i < N → j < n + 1 → T i j = T' i j) : rws N n fl T = rws N n fl' T' := by
  unfold rws
  refine List.map_congr_left fun i m => ?_
  have hi := List.mem_range.mp m
  rw [h1 i hi, vec_congr fun j hj => by rw [h2 i j hi hj]]
@[simp] theorem rws_true (N n : Nat) (fl : Nat → Bool) (T : Nat → Nat → Int) : (rws N n fl T).map (fun r => (true, r.2)) = rws N n (fun _ => true) T := by
  unfold rws
  rw [List.map_map]
  rfl
theorem rws_set {N n k : Nat} {fl : Nat → Bool} {T : Nat → Nat → Int} {b : Bool} {f : Nat → Int} (h : k < N) : (rws N n fl T).set k (b, vec (n + 1) fun j => .int (f j)) = rws N n (fun i => if i = k then b else fl i) fun i j => if i = k then f j else T i j := by
  unfold rws
  apply List.ext_getElem?
  intro j
  rw [List.getElem?_set, List.getElem?_map, List.getElem?_map, List.length_map, List.length_range]
  by_cases e : k = j
  · subst e
    rw [if_pos rfl, if_pos h, List.getElem?_range h]
    simp
  · rw [if_neg e]
    by_cases hj : j < N
    · rw [List.getElem?_range hj]
      simp [Ne.symm e]
    · rw [List.getElem?_eq_none (by rw [List.length_range]; omega)]
      rfl
theorem rws_get {N n k : Nat} {fl : Nat → Bool} {T : Nat → Nat → Int} (h : k < N) : (rws N n fl T)[k]? = some (fl k, vec (n + 1) fun j => .int (T k j)) := by
  unfold rws
  rw [List.getElem?_map, List.getElem?_range h]
  rfl
@[simp] theorem sub_rws {N n k : Nat} {fl : Nat → Bool} {T : Nat → Nat → Int} {p q : Bool} (h : k < N) (hf : fl k = true) : subD p q (.own2 b (rws N n fl T)) (k : Int) = .ok (.fz (.lst (vec (n + 1) fun j => .int (T k j)))) := by
  unfold subD
  simp only [rws_at h, hf]
/-- an outer variable -/
def ov (o : List Nat) (j : Nat) : Nat := o.getD j 0
def rowOD : Bool → List D → OD
  | true, ds => .fz (.lst ds)
  | false, ds => .own ds
@[simp] theorem oper_rowOD (p b : Bool) (ds : List D) : oper p (.ok (rowOD b ds)) = .ok (.lst ds) := by cases b <;> rfl
@[simp] theorem argm_rowOD (p b : Bool) (ds : List D) : argm p (.ok (rowOD b ds)) = .ok (.lst ds, p && !b) := by cases b <;> rfl
@[simp] theorem sub_rowOD (pk p b : Bool) (ds : List D) (j : Int) : subD pk p (rowOD b ds) j = R.ofO ((atI ds j).map .fz) := by cases b <;> rfl
theorem sub_rwsK {N n k : Nat} {fl : Nat → Bool} {T : Nat → Nat → Int} {q b : Bool} (h : k < N) : subD true q (.own2 b (rws N n fl T)) (k : Int) = .ok (rowOD (fl k) (vec (n + 1) fun j => .int (T k j))) := by
  unfold subD
  simp only [rws_at h]
  cases fl k <;> rfl
theorem sub_rws0 {N n : Nat} {fl : Nat → Bool} {T : Nat → Nat → Int} {q b : Bool} (h : 0 < N) : subD true q (.own2 b (rws N n fl T)) 0 = .ok (rowOD (fl 0) (vec (n + 1) fun j => .int (T 0 j))) := sub_rwsK (k := 0) h
theorem sub_rws1 {N n k : Nat} {fl : Nat → Bool} {T : Nat → Nat → Int} {q b : Bool} (h : k + 1 < N) : subD true q (.own2 b (rws N n fl T)) ((k : Int) + 1) = .ok (rowOD (fl (k + 1)) (vec (n + 1) fun j => .int (T (k + 1) j))) := by
  have := sub_rwsK (n := n) (fl := fl) (T := T) (q := q) (b := b) h
  exact_mod_cast this
theorem sub_rwsP {N n k : Nat} {fl : Nat → Bool} {T : Nat → Nat → Int} {q : Bool} (h : k < N) : ∃ o, subD true q (.own2 b (rws N n fl T)) (k : Int) = .ok o ∧ (o = .fz (.lst (vec (n + 1) fun j => .int (T k j))) ∨ o = .own (vec (n + 1) fun j => .int (T k j))) := by
  unfold subD
  simp only [rws_at h]
  cases fl k with
  | true => exact ⟨_, rfl, .inl rfl⟩
  | false => exact ⟨_, rfl, .inr rfl⟩
@[simp] theorem row2_rws {N n k : Nat} {fl : Nat → Bool} {T : Nat → Nat → Int} {p : Bool} (h : k < N) : row2O (k : Int) (some (.own2 p (rws N n fl T))) = !fl k := by
  show (match ixN (rws N n fl T).length (k : Int) with
    | some k => (match (rws N n fl T)[k]? with
      | some (false, _) => true
      | _ => false)
    | none => false) = _
  rw [rws_len, ixN_k h]
  simp only [rws_get h]
  cases fl k <;> rfl
@[simp] theorem set2_rws {Γ : List OD} {x N n k c : Nat} {fl : Nat → Bool} {T : Nat → Nat → Int} {p : Bool} {v : Int} (h : k < N) (hf : fl k = false) (hc : c < n + 1) :
    set2O Γ x (k : Int) (c : Int) (.fz (.int v)) (some (.own2 p (rws N n fl T))) = some (st Γ x (.own2 p (rws N n fl fun i j => if i = k then (if j = c then v else T k j) else T i j))) := by
  show ((ixN (rws N n fl T).length (k : Int)).bind fun k => (match (rws N n fl T)[k]? with
    | some (false, ds) => (ixN ds.length (c : Int)).bind fun l => (OD.fz (D.int v)).toD.map fun d => st Γ x (.own2 p ((rws N n fl T).set k (false, ds.set l d)))
    | _ => none)) = _
  rw [rws_len, ixN_k h, Option.bind_some]
  simp only [rws_get h, hf]
  rw [vec_len, ixN_k hc, Option.bind_some]
  show some (st Γ x (.own2 p _)) = _
  rw [vec_set hc]
  have e : (vec (n + 1) fun j => if j = c then D.int v else D.int (T k j)) = vec (n + 1) fun j => D.int (if j = c then v else T k j) := vec_congr fun j _ => by split <;> rfl
  rw [e, rws_set h]
  congr 2
  congr 1
  refine rws_congr (fun i _ => ?_) fun i j _ _ => rfl
  by_cases q : i = k
  · rw [if_pos q, q, hf]
  · rw [if_neg q]
@[simp] theorem oper_rwsT (N n : Nat) (T : Nat → Nat → Int) (p q : Bool) : oper p (.ok (.own2 q (rws N n (fun _ => true) T))) = .ok (D.lst (vec N fun i => D.lst (vec (n + 1) fun j => D.int (T i j)))) := by
  show R.ofO (if (p && (rws N n (fun _ => true) T).any fun r => !r.1) = true then none else some (D.lst ((rws N n (fun _ => true) T).map rowD))) = _
  have : ((rws N n (fun _ => true) T).any fun r => !r.1) = false := by
    unfold rws
    rw [List.any_map, List.any_eq_false]
    intro x _
    simp
  rw [this, Bool.and_false, if_neg Bool.false_ne_true, rws_data]
  rfl
section
variable {P : MP.Prog} (h : HasS P)
include h
theorem entering_ok {t : Tk} {o : List Nat} (d r B : Nat) (S : t.St o) (hr : r < t.N) (hn : t.n ≤ 1000) (hN : t.N ≤ 10000) (hB : B ≤ 400000) (hb : ∀ i k, i < t.N → k < t.n + 1 → (t.T o i k).natAbs < 2 ^ B) :
    ∃ c : Nat, K P (d + 2) 30 [tabD t.N t.n (t.T o), .int r] = .ok (.fz (.int c)) ∧ ((c = 0 ∧ ∀ j, 1 ≤ j → j ≤ t.n → t.T o r j ≤ 0) ∨ (1 ≤ c ∧ t.Ent o r c)) := by
  obtain ⟨_, e, c, hc, z, rfl⟩ := forL_inv (body := fun Γ => execs Fb.b_entering_column_1 (gq P (d + 1)) Γ) (t := .n 3) (n := t.n) (F := fun k => .int ((k : Int) + 1)) (Γ0 := [.fz (tabD t.N t.n (t.T o)), .fz (.int r), .fz (.int 0), .un])
    (fun k Γ => ∃ c : Nat, ((c = 0 ∧ ∀ j, 1 ≤ j → j ≤ k → t.T o r j ≤ 0) ∨ (1 ≤ c ∧ c ≤ k ∧ 0 < t.T o r c ∧ ∀ j, 1 ≤ j → j ≤ k → j ≠ c → 0 < t.T o r j → t.bef o r c j)) ∧ ∃ z, Γ = [.fz (tabD t.N t.n (t.T o)), .fz (.int r), .fz (.int (c : Int)), z])
    ⟨0, .inl ⟨rfl, fun j h1 h2 => by omega⟩, _, rfl⟩ (by
      rintro k _ hk ⟨c, hc, z, rfl⟩
      by_cases p : 0 < t.T o r (k + 1)
      · rcases hc with ⟨rfl, hc⟩ | ⟨c1, c2, c3, c4⟩
        · refine ⟨_, [.fz (tabD t.N t.n (t.T o)), .fz (.int r), .fz (.int ((k + 1 : Nat) : Int)), .fz (.int ((k : Int) + 1))], by simp; rfl, .inl ?_, k + 1, .inr ⟨by omega, by omega, p, fun j j1 j2 j3 j4 => ?_⟩, _, rfl⟩
          · simp (disch := (first | omega | (simp; done) | (simp; omega))) [Fb.b_entering_column_1, tabD, p]
          · have := hc j j1 (by omega); omega
        · have cb := comes_before_ok h d t.N t.n r (k + 1) c B hB (t.T o) hr (by omega) (by omega) hb
          have cz : ¬ (c = 0) := by omega
          have ck : ((k + 1 : Nat) : Int) = (k : Int) + 1 := by omega
          rw [ck] at cb
          rcases cb with ⟨e, hl⟩ | ⟨e, hl⟩
          · refine ⟨_, [.fz (tabD t.N t.n (t.T o)), .fz (.int r), .fz (.int ((k + 1 : Nat) : Int)), .fz (.int ((k : Int) + 1))], by simp; rfl, .inl ?_, k + 1, .inr ⟨by omega, by omega, p, fun j j1 j2 j3 j4 => ?_⟩, _, rfl⟩
            · simp only [tabD, K] at e
              simp (disch := (first | omega | (simp; done) | (simp; omega))) [Fb.b_entering_column_1, tabD, p, e, cz]
            · by_cases q : j = c
              · subst q; exact hl
              · exact bef_trans p c3 j4 hl (c4 j j1 (by omega) q j4)
          · refine ⟨_, [.fz (tabD t.N t.n (t.T o)), .fz (.int r), .fz (.int (c : Int)), .fz (.int ((k : Int) + 1))], by simp; rfl, .inl ?_, c, .inr ⟨c1, by omega, c3, fun j j1 j2 j3 j4 => ?_⟩, _, rfl⟩
            · simp only [tabD, K] at e
              simp (disch := (first | omega | (simp; done) | (simp; omega))) [Fb.b_entering_column_1, tabD, p, e, cz]
            · by_cases q : j = k + 1
              · subst q
                rcases bef_or S p c3 (by omega) (by omega) c1 (by omega) (by omega) with z | z
                · exact absurd z hl
                · exact z
              · exact c4 j j1 (by omega) j3 j4
      · refine ⟨_, [.fz (tabD t.N t.n (t.T o)), .fz (.int r), .fz (.int (c : Int)), .fz (.int ((k : Int) + 1))], by simp; rfl, .inl ?_, c, ?_, _, rfl⟩
        · simp (disch := (first | omega | (simp; done) | (simp; omega))) [Fb.b_entering_column_1, tabD, p]
        · rcases hc with ⟨c0, hc⟩ | ⟨c1, c2, c3, c4⟩
          · refine .inl ⟨c0, fun j j1 j2 => ?_⟩
            by_cases q : j = k + 1
            · subst q; omega
            · exact hc j j1 (by omega)
          · refine .inr ⟨c1, by omega, c3, fun j j1 j2 j3 j4 => ?_⟩
            by_cases q : j = k + 1
            · subst q; omega
            · exact c4 j j1 (by omega) j3 j4)
  refine ⟨c, call_eq h.ec rfl ?_, ?_⟩
  · simp only [tabD] at e ⊢
    simp (disch := (first | omega | (simp; done) | (simp; omega))) [Fb.f_entering_column, Fb.b_entering_column, MP.start, e]
  · rcases hc with hc | ⟨c1, c2, c3, c4⟩
    · exact .inl hc
    · exact .inr ⟨c1, c1, c2, c3, c4⟩
theorem exchange_ok (d N n r c B : Nat) (s : Int) (fl : Nat → Bool) (T : Nat → Nat → Int) (hr : r < N) (hc : c < n + 1) (hn : n ≤ 1000) (hN : N ≤ 10000) (hB : B ≤ 400000) (hb : ∀ i k, i < N → k < n + 1 → (T i k).natAbs < 2 ^ B) (hs : divOk s = true) :
    ∃ fl', (gq P (d + 1)).mcall 31 (rws N n fl T) [.int s, .int r, .int c] = .ok (.int (T r c), rws N n fl' fun i j => if j = c then T i c else (T i j * T r c - T i c * T r j).fdiv s) := by
  let T' : Nat → Nat → Int := fun i j => if j = c then T i c else (T i j * T r c - T i c * T r j).fdiv s
  let R : List D := vec (n + 1) fun j => .int (T r j)
  obtain ⟨_, e, fl', z6, z7, z8, z9, rfl⟩ := forL_inv (body := fun Γ => execs Fb.b_exchange_1 (gq P d) Γ) (t := .n 6) (n := N) (F := fun k => .int (k : Int)) (Γ0 := [.own2 true (rws N n (fun _ => true) T), .fz (.int s), .fz (.int r), .fz (.int c), .fz (.lst R), .fz (.int (T r c)), .un, .un, .un, .un])
    (fun k Γ => ∃ fl' z6 z7 z8 z9, Γ = [.own2 true (rws N n fl' fun i j => if i < k then T' i j else T i j), .fz (.int s), .fz (.int r), .fz (.int c), .fz (.lst R), .fz (.int (T r c)), z6, z7, z8, z9])
    ⟨fun _ => true, _, _, _, _, rfl⟩ (by
      rintro k _ hk ⟨fl', z6, z7, z8, z9, rfl⟩
      have m1 : ∀ j, j < n + 1 → mulOk (T k j) (T r c) = true := fun j hj => Lr.mulOk_of (hb k j hk hj) (hb r c hr hc) (by omega)
      have m2 : ∀ j, j < n + 1 → mulOk (T k c) (T r j) = true := fun j hj => Lr.mulOk_of (hb k c hk hc) (hb r j hr hj) (by omega)
      have ek : (fun j => D.int (if k < k then T' k j else T k j)) = fun j => D.int (T k j) := by simp
      have ec := ev_comp (X := (gq P d).toFx) gq_cm (e := (.bin .fdiv (.bin .sub (.bin .mul (.sub (.var 7) (.var 9)) (.var 5)) (.bin .mul (.var 8) (.sub (.var 4) (.var 9)))) (.var 1))) (tg := .n 9) (it := .rng [(.blt .len [(.var 7)])]) (cs := [])
        (Γ := [.own2 true (rws N n (fun _ => true) fun i j => if i < k then T' i j else T i j), .fz (.int s), .fz (.int r), .fz (.int c), .fz (.lst R), .fz (.int (T r c)), .fz (.int k), .fz (.lst (vec (n + 1) fun j => .int (T k j))), .fz (.int (T k c)), z9]) (pk := false) (n := n + 1) (F := fun j => .int (j : Int))
        (fun j => .int ((T k j * T r c - T k c * T r j).fdiv s)) (by simp (disch := (first | omega | (simp; done) | (simp; omega))) [isPath]) (by omega) (fun j hj => ⟨_, by simp; rfl, by simp, by
          simp (disch := (first | omega | (simp; done) | (simp; omega))) [R, bin_mul (m1 j hj), bin_mul (m2 j hj), bin_fdiv hs]⟩)
      refine ⟨_, [.own2 true (rws N n (fun i => if i = k then false else true) fun i j => if i < k + 1 then T' i j else T i j), .fz (.int s), .fz (.int r), .fz (.int c), .fz (.lst R), .fz (.int (T r c)), .fz (.int k), .fz (.lst (vec (n + 1) fun j => .int (T k j))), .fz (.int (T k c)), z9], by simp; rfl, .inl ?_, _, _, _, _, _, rfl⟩
      simp (disch := (first | omega | (simp; done) | (simp; omega))) [Fb.b_exchange_1, ec, rws_set]
      refine rws_congr (fun i _ => rfl) fun i j _ _ => ?_
      show _ = if i < k + 1 then T' i j else T i j
      by_cases q : i = k
      · subst q
        by_cases q2 : j = c <;> simp [T', q2]
      · by_cases q3 : i < k
        · simp [q, q3, show i < k + 1 by omega]
        · simp [q, q3, show ¬ i < k + 1 by omega])
  have e0 : (rws N n (fun _ => true) fun i j => if i < N then T' i j else T i j) = rws N n (fun _ => true) T' := rws_congr (fun _ _ => rfl) fun i j hi _ => if_pos hi
  have e1 : (rws N n fl' fun i j => if i < N then T' i j else T i j) = rws N n fl' T' := rws_congr (fun _ _ => rfl) fun i j hi _ => if_pos hi
  rw [e1] at e
  refine ⟨fl', mcall_run h.ex rfl ?_⟩
  simp (disch := (first | omega | (simp; done) | (simp; omega))) [Fb.f_exchange, Fb.b_exchange, MP.start, e, R]
  rfl
theorem at_slacks_ok (d n m : Nat) (o : List Nat) (f : Nat → Int) (hn : n ≤ 1000) (hm : m ≤ 1000) (hl : o.length = n) (nd : o.Nodup) (hx : ∀ x ∈ o, x < n + 1 + m) :
    K P (d + 1) 32 [.lst (vec (n + 1) fun j => .int (f j)), .lst (vec n fun j => .int (ov o j : Nat)), .int n, .int m] = .ok (.own (vec m fun i => .int (wt n o f (n + 1 + i)))) := by
  unfold ov
  have hd : ∀ k, k < n → o.getD k 0 < n + 1 + m := fun k hk => hx _ (by
    rw [List.getD_eq_getElem?_getD, List.getElem?_eq_getElem (by omega)]
    exact List.getElem_mem _)
  have inj : ∀ j k, j < n → k < n → o.getD j 0 = o.getD k 0 → j = k := fun j k hj hk e => by
    rw [List.getD_eq_getElem?_getD, List.getD_eq_getElem?_getD, List.getElem?_eq_getElem (by omega), List.getElem?_eq_getElem (by omega)] at e
    exact nodup_inj nd e
  obtain ⟨q, hq⟩ : ∃ q : Nat → Nat, ∀ k, o.getD k 0 = q k := ⟨_, fun _ => rfl⟩
  simp only [hq] at hd inj ⊢
  have hw : ∀ k x, wt (k + 1) o f x = wt k o f x + if q k = x then f (k + 1) else 0 := fun k x => by
    unfold wt
    rw [sm, hq]
  have hw0 : ∀ k, k < n → wt k o f (q k) = 0 := fun k hk => wt_0 fun j hj z => by
    rw [hq] at z
    have := inj j k (by omega) hk z
    omega
  let N1 : D := .lst (vec (n + 1) fun j => .int (f j))
  let O1 : D := .lst (vec n fun j => .int (q j : Nat))
  obtain ⟨_, e, z5, z6, rfl⟩ := forL_inv (body := fun Γ => execs Fb.b_at_slacks_1 (gq P d) Γ) (t := .t [.n 5, .n 6]) (n := n) (F := fun k => .tup [.int (k : Int), .int (q k : Nat)]) (Γ0 := [.fz N1, .fz O1, .fz (.int n), .fz (.int m), .own (vec m fun i => .int (wt 0 o f (n + 1 + i))), .un, .un])
    (fun k Γ => ∃ z5 z6, Γ = [.fz N1, .fz O1, .fz (.int n), .fz (.int m), .own (vec m fun i => .int (wt k o f (n + 1 + i))), z5, z6]) ⟨_, _, rfl⟩ (by
      rintro k _ hk ⟨z5, z6, rfl⟩
      have hdk := hd k hk
      refine ⟨[.fz N1, .fz O1, .fz (.int n), .fz (.int m), .own (vec m fun i => .int (wt k o f (n + 1 + i))), .fz (.int k), .fz (.int (q k : Nat))], [.fz N1, .fz O1, .fz (.int n), .fz (.int m), .own (vec m fun i => .int (wt (k + 1) o f (n + 1 + i))), .fz (.int k), .fz (.int (q k : Nat))], by simp, .inl ?_, _, _, rfl⟩
      by_cases c : n < q k
      · obtain ⟨y, hy⟩ : ∃ y, q k = n + 1 + y := ⟨q k - (n + 1), by omega⟩
        have hi : ixN m ((q k : Int) - (n : Int) - 1) = some y := by
          rw [show (q k : Int) - (n : Int) - 1 = (y : Int) by omega]
          exact ixN_k (by omega)
        simp (disch := (first | omega | (simp; done) | (simp; omega))) [Fb.b_at_slacks_1, c, hi, N1, vec_set]
        refine vec_congr fun i hi => ?_
        rw [hw]
        by_cases e : i = y
        · subst e
          rw [if_pos rfl, if_pos hy, ← hy, hw0 k hk, Int.zero_add]
        · rw [if_neg e, if_neg (by omega), Int.add_zero]
      · simp (disch := (first | omega | (simp; done) | (simp; omega))) [Fb.b_at_slacks_1, c]
        refine vec_congr fun i hi => ?_
        rw [hw, if_neg (by omega), Int.add_zero])
  have e : @forLz (fun Γ => execs Fb.b_at_slacks_1 (gq P d) Γ) (.t [.n 5, .n 6]) ⟨vec n fun k => .tup [.int (k : Int), .int (q k : Nat)]⟩ ⟨[.fz (.lst (vec (n + 1) fun j => .int (f j))), .fz (.lst (vec n fun j => .int (q j : Nat))), .fz (.int n), .fz (.int m), .own (vec m fun _ => .int 0), .un, .un]⟩ = _ := e
  refine call_eq h.sl rfl ?_
  simp only [N1, O1] at e ⊢
  simp (disch := (first | omega | (simp; done) | (simp; omega))) [Fb.f_at_slacks, Fb.b_at_slacks, MP.start, enm_vec, e]
end
end Sw

end

section
set_option linter.all false
set_option maxRecDepth 100000
/-! solve -/
namespace MP
@[simp ↓] theorem outR_rt' (o : OD) (Γ : List OD) : outR (.ok (.rt o) Γ) = .ok o := nr rfl
@[simp] theorem tru_bl2 (b : Bool) : tru (.ok (.fz (.bl b))) = .ok b := nr rfl
end MP
namespace Sw
open MP Sv
def Tq (n m : Nat) (g : Nat → Int) (a : Nat → Nat → Int) (b : Nat → Int) : Tk := ⟨n, n + 1 + m, fT n g a b⟩
section
variable {n m : Nat} {g : Nat → Int} {a : Nat → Nat → Int} {b : Nat → Int}
theorem Tq_ok (hg : ∀ k, 0 ≤ g k) : (Tq n m g a b).Ok where
  hN := by show n + 1 ≤ n + 1 + m; omega
  un := fun k j h1 h2 _ => by
    show fT n g a b k j = idm k j
    have h2 : k ≤ n := h2
    unfold fT idm
    rw [if_neg (by omega), if_pos h2]
  g0 := rfl
  gp := fun j => by
    show 0 ≤ fT n g a b 0 j
    unfold fT
    rw [if_pos rfl]
    split
    · exact Int.le_refl _
    · exact hg _
theorem fT_g : (fun k => fT n g a b 0 (k + 1)) = g := by
  funext k
  unfold fT
  rw [if_pos rfl, if_neg (by omega), Nat.add_sub_cancel]
theorem fT_a : (fun i k => fT n g a b (n + 1 + i) (k + 1)) = a := by
  funext i k
  unfold fT
  rw [if_neg (by omega), if_neg (by omega), if_neg (by omega), show n + 1 + i - n - 1 = i by omega, Nat.add_sub_cancel]
theorem fT_b : (fun i => - fT n g a b (n + 1 + i) 0) = b := by
  funext i
  unfold fT
  rw [if_neg (by omega), if_neg (by omega), if_pos rfl, show n + 1 + i - n - 1 = i by omega, Int.neg_neg]
theorem sm_const (k : Nat) (c : Int) : sm k (fun _ => c) = k * c := by
  induction k with
  | zero => simp [sm]
  | succ k ih => rw [sm, ih, Int.natCast_succ, Int.add_mul, Int.one_mul]
theorem det_Bd {A : Nat} {M : Nat → Nat → Int} {k : Nat} (h : ∀ i j, (M i j).natAbs ≤ A) : (det k M).natAbs ≤ (k * A) ^ k := by
  refine det_bd fun j hj => ?_
  have := sm_le (n := k) (f := fun i => ((M i j).natAbs : Int)) (g := fun _ => (A : Int)) fun i _ => by have := h i j; omega
  rw [sm_const] at this
  rw [Int.natCast_mul]
  exact this
theorem M_bd {A : Nat} (h1 : 1 ≤ A) (hA : ∀ i k, (fT n g a b i k).natAbs ≤ A) (o : List Nat) (i j : Nat) : ((Tq n m g a b).M o i j).natAbs ≤ A := by
  unfold Tk.M
  by_cases h : i = 0
  · rw [if_pos h]
    unfold idm
    split <;> simp <;> omega
  · rw [if_neg h]
    exact hA _ _
theorem T_bd {A : Nat} (h1 : 1 ≤ A) (hA : ∀ i k, (fT n g a b i k).natAbs ≤ A) (o : List Nat) (i j : Nat) : ((Tq n m g a b).T o i j).natAbs ≤ ((n + 1) * A) ^ (n + 1) := det_Bd fun x y => by
  unfold up
  split
  · exact hA _ _
  · exact M_bd h1 hA o x y
theorem sc_bd {A : Nat} (h1 : 1 ≤ A) (hA : ∀ i k, (fT n g a b i k).natAbs ≤ A) (o : List Nat) : ((Tq n m g a b).sc o).natAbs ≤ ((n + 1) * A) ^ (n + 1) := det_Bd fun x y => M_bd h1 hA o x y
theorem wt_bd {k : Nat} {o : List Nat} {f : Nat → Int} {B : Nat} (nd : o.Nodup) (hl : o.length = k) (h : ∀ j, (f j).natAbs < B) (hB : 0 < B) (x : Nat) : (wt k o f x).natAbs < B := by
  by_cases hx : ∃ j, j < k ∧ o.getD j 0 = x
  · obtain ⟨j, hj, rfl⟩ := hx
    rw [wt_at nd hl hj]
    exact h _
  · rw [wt_0 fun j hj z => hx ⟨j, hj, z⟩]
    exact hB
end
/-- what solve tells -/
def Sol (n m : Nat) (g : Nat → Int) (a : Nat → Nat → Int) (b : Nat → Int) (β : Nat) (r : D) : Prop :=
  (∃ s v p w, r = .tup [.bl true, .int v, .lst (iv n p), .lst (iv m w), .int s] ∧ Gr n m g a b s v p w ∧ s.natAbs < 2 ^ β ∧ v.natAbs < 2 ^ β ∧ (∀ k, (p k).natAbs < 2 ^ β) ∧ ∀ i, (w i).natAbs < 2 ^ β) ∨
  (∃ s w, r = .tup [.bl false, .lst (iv m w), .int s] ∧ Rf n m a b s w ∧ s.natAbs < 2 ^ β ∧ ∀ i, (w i).natAbs < 2 ^ β)
section
variable {P : MP.Prog} (h : HasS P)
include h
theorem solve_ok (d n m A β : Nat) (g : Nat → Int) (a : Nat → Nat → Int) (b : Nat → Int) (hn : n ≤ 100) (hm : m ≤ 1000) (hn1 : 1 ≤ n) (hg : ∀ k, 0 ≤ g k) (hA1 : 1 ≤ A) (hA : ∀ i k, (fT n g a b i k).natAbs ≤ A) (hAβ : ((n + 1) * A) ^ (n + 1) < 2 ^ β) (hβ : β ≤ 8000) (hw : (n + 1 + m) ^ n < P.wide) :
    ∃ r, K P (d + 3) 33 [goalD n g, rowsD n m a b] = .ok (.fz r) ∧ Sol n m g a b β r := by
  obtain ⟨t, ht⟩ : ∃ t, Tq n m g a b = t := ⟨_, rfl⟩
  have ok : t.Ok := by rw [← ht]; exact Tq_ok hg
  have tn : t.n = n := by rw [← ht]; rfl
  have tN : t.N = n + 1 + m := by rw [← ht]; rfl
  have tF : t.F = fT n g a b := by rw [← ht]; rfl
  have hT : ∀ o i j, (t.T o i j).natAbs < 2 ^ β := fun o i j => by rw [← ht]; exact Nat.lt_of_le_of_lt (T_bd hA1 hA o i j) hAβ
  have hS : ∀ o, (t.sc o).natAbs < 2 ^ β := fun o => by rw [← ht]; exact Nat.lt_of_le_of_lt (sc_bd hA1 hA o) hAβ
  have hD : ∀ o, 0 < t.sc o → divOk (t.sc o) = true := fun o ho => Lr.divOk_of (by omega) (Lr.lt_mono (hS o) (by omega))
  clear hAβ
  have c1 : ∀ n m : Nat, (n : Int) + 1 + m = ((n + 1 + m : Nat) : Int) := fun _ _ => by omega
  obtain ⟨G, hG⟩ : ∃ G, goalD n g = G := ⟨_, rfl⟩
  obtain ⟨Q, hQ⟩ : ∃ Q, rowsD n m a b = Q := ⟨_, rfl⟩
  let E (o : List Nat) (fl : Nat → Bool) (r : Nat) (z8 z9 : OD) : List OD := [.fz G, .fz Q, .fz (.int n), .fz (.int m), .own2 false (rws (n + 1 + m) n fl (t.T o)), .own (vec n fun j => .int (ov o j : Nat)), .fz (.int (t.sc o)), .fz (.int (r : Int)), z8, z9, .un, .un, .un]
  -- at a state, the first row whose constant is below zero
  have neg : ∀ o, ∃ r : Nat, (gq P (d + 2)).call 28 [tabD (n + 1 + m) n (t.T o)] [] [] = .ok (.fz (.int r)) ∧ ((r = 0 ∧ ∀ i, 1 ≤ i → i < n + 1 + m → 0 ≤ t.T o i 0) ∨ (1 ≤ r ∧ r < n + 1 + m ∧ t.T o r 0 < 0)) := fun o => negative_row_ok h (d + 1) (n + 1 + m) n (t.T o) (by omega) (by omega)
  let I (k : Nat) (Γ : List OD) : Prop := ∃ o fl r z8 z9, t.St o ∧ t.mu o = k ∧ ((r = 0 ∧ ∀ i, 1 ≤ i → i < n + 1 + m → 0 ≤ t.T o i 0) ∨ (1 ≤ r ∧ r < n + 1 + m ∧ t.T o r 0 < 0)) ∧ Γ = E o fl r z8 z9
  let Fin (x : XR) : Prop := (∃ o fl z8 z9, t.St o ∧ (∀ i, 1 ≤ i → i < n + 1 + m → 0 ≤ t.T o i 0) ∧ x = .ok .nx (E o fl 0 z8 z9)) ∨ (∃ s w Γ', x = .ok (.rt (.fz (.tup [.bl false, .lst (iv m w), .int s]))) Γ' ∧ Rf n m a b s w ∧ s.natAbs < 2 ^ β ∧ ∀ i, (w i).natAbs < 2 ^ β)
  have step : ∀ k Γ, I k Γ → ((tru (ev (gq P (d + 2)).toFx (.cmp .gt (.var 7) (.int 0)) Γ true)) = .ok false ∧ Fin (.ok .nx Γ)) ∨ ((tru (ev (gq P (d + 2)).toFx (.cmp .gt (.var 7) (.int 0)) Γ true)) = .ok true ∧ ((∃ Γ2 j, execs Fb.b_solve_1 (gq P (d + 2)) Γ = .ok .nx Γ2 ∧ j < k ∧ I j Γ2) ∨ (∃ o Γ2, execs Fb.b_solve_1 (gq P (d + 2)) Γ = .ok (.rt o) Γ2 ∧ Fin (.ok (.rt o) Γ2)))) := by
    rintro k _ ⟨o, fl, r, z8, z9, S, rfl, hr, rfl⟩
    rcases hr with ⟨rfl, hr⟩ | ⟨r1, r2, r3⟩
    · refine .inl ⟨by simp [E], .inl ⟨o, fl, z8, z9, S, hr, rfl⟩⟩
    · refine .inr ⟨by simp [E]; omega, ?_⟩
      obtain ⟨c, ec, hc⟩ := entering_ok h (t := t) (o := o) d r β S (by rw [tN]; exact r2) (by omega) (by omega) (by omega) fun i k _ _ => hT o i k
      simp only [K, tN, tn, tabD] at ec
      rcases hc with ⟨rfl, hc⟩ | ⟨c0, En⟩
      · -- refused
        rw [tn] at hc
        have rf := refused ok S (m := m) (by rw [tN, tn]) r1 (by rw [tN]; exact r2) r3 fun j j1 j2 => hc j j1 (by rw [tn] at j2; exact j2)
        rw [tF, tn, fT_a, fT_b] at rf
        have sl := at_slacks_ok h (d + 1) n m o (fun j => - t.T o r j) (by omega) hm (by rw [S.len, tn]) (St.nodup S) fun x m => by have := S.lt x m; rw [tN] at this; omega
        simp only [K] at sl
        have wb : ∀ i, (rw' t o r i).natAbs < 2 ^ β := fun i => by
          unfold rw'
          split
          · exact hS o
          · exact wt_bd (St.nodup S) S.len (fun j => by rw [Int.natAbs_neg]; exact hT o r j) (Nat.two_pow_pos β) _
        have ew := ev_comp (X := (gq P (d + 2)).toFx) gq_cm (e := .neg (.var 12)) (tg := .n 12) (it := .sub (.var 4) (.var 7)) (cs := []) (Γ := E o fl r (.fz (.int 0)) z9) (pk := true) (n := n + 1) (F := fun j => .int (t.T o r j)) (fun j => .int (- t.T o r j)) (by simp [E, sub_rwsK r2]) (by omega) (fun j hj => ⟨_, by simp [E]; rfl, by simp, by simp [E]⟩)
        simp +instances only [E] at ew
        by_cases rn : n < r
        · have hi : ixN m ((r : Int) - (n : Int) - 1) = some (r - n - 1) := by
            rw [show (r : Int) - (n : Int) - 1 = ((r - n - 1 : Nat) : Int) by omega]
            exact ixN_k (by omega)
          have ev : (vec m fun i => if i = r - n - 1 then D.int (t.sc o) else D.int (wt n o (fun j => - t.T o r j) (n + 1 + i))) = iv m (rw' t o r) := vec_congr fun i hi => by
            unfold rw'
            rw [tn]
            by_cases q : i = r - n - 1
            · rw [if_pos q, if_pos (by omega)]
            · rw [if_neg q, if_neg (by omega)]
          obtain ⟨Γ2, e2⟩ : ∃ Γ2, execs Fb.b_solve_1 (gq P (d + 2)) (E o fl r z8 z9) = .ok (.rt (.fz (.tup [.bl false, .lst (iv m (rw' t o r)), .int (t.sc o)]))) Γ2 := ⟨_, by
            simp (disch := (first | omega | (simp; done) | (simp; omega))) [Fb.b_solve_1, E, ec, ew, sl, rws_data, rn, hi, vec_set, ev]
            rfl⟩
          exact .inr ⟨_, _, e2, .inr ⟨t.sc o, rw' t o r, _, rfl, rf, hS o, wb⟩⟩
        · have ev : (vec m fun i => D.int (wt n o (fun j => - t.T o r j) (n + 1 + i))) = iv m (rw' t o r) := vec_congr fun i hi => by
            unfold rw'
            rw [tn, if_neg (by omega)]
          obtain ⟨Γ2, e2⟩ : ∃ Γ2, execs Fb.b_solve_1 (gq P (d + 2)) (E o fl r z8 z9) = .ok (.rt (.fz (.tup [.bl false, .lst (iv m (rw' t o r)), .int (t.sc o)]))) Γ2 := ⟨_, by
            simp (disch := (first | omega | (simp; done) | (simp; omega))) [Fb.b_solve_1, E, ec, ew, sl, rws_data, rn, ev]
            rfl⟩
          exact .inr ⟨_, _, e2, .inr ⟨t.sc o, rw' t o r, _, rfl, rf, hS o, wb⟩⟩
      · -- an exchange
        have cn := En.cn
        rw [tn] at cn
        have S' := St_set S En r1 (by rw [tN]; exact r2)
        have gr := grows S En r3
        have lt := mu_lt S S' gr
        have ol : c ≤ o.length := by rw [S.len, tn]; exact cn
        obtain ⟨fl', ex⟩ := exchange_ok h (d + 1) (n + 1 + m) n r c β (t.sc o) fl (t.T o) r2 (by omega) (by omega) (by omega) (by omega) (fun i k _ _ => hT o i k) (hD o S.s)
        have eT : rws (n + 1 + m) n fl' (fun i j => if j = c then t.T o i c else (t.T o i j * t.T o r c - t.T o i c * t.T o r j).fdiv (t.sc o)) = rws (n + 1 + m) n fl' (t.T (o.set (c - 1) r)) := rws_congr (fun _ _ => rfl) fun i j _ hj => by
          by_cases q : j = c
          · subst q; rw [if_pos rfl, T_setc c0 ol]
          · rw [if_neg q, ← T_piv S.C c0 ol (by rw [tn]; exact cn) (by rw [tn]; omega) q]
            exact Int.mul_fdiv_cancel_left _ (by have := S.s; omega)
        rw [eT, ← sc_set c0 ol] at ex
        obtain ⟨r', en, hr'⟩ := neg (o.set (c - 1) r)
        simp only [tabD] at en
        have hi : ixN n ((c : Int) - 1) = some (c - 1) := by
          rw [show (c : Int) - 1 = ((c - 1 : Nat) : Int) by omega]
          exact ixN_k (by omega)
        have eo : (vec n fun j => if j = c - 1 then D.int (r : Int) else D.int (ov o j : Nat)) = vec n fun j => .int (ov (o.set (c - 1) r) j : Nat) := vec_congr fun j hj => by
          unfold ov
          rw [List.getD_eq_getElem?_getD (l := o.set (c - 1) r), List.getElem?_set]
          by_cases q : j = c - 1
          · rw [if_pos q, if_pos q.symm, if_pos (by omega)]; rfl
          · rw [if_neg q, if_neg (Ne.symm q), List.getD_eq_getElem?_getD]
        refine .inl ⟨E (o.set (c - 1) r) fl' r' (.fz (.int c)) z9, t.mu (o.set (c - 1) r), ?_, lt, o.set (c - 1) r, fl', r', _, _, S', rfl, hr', rfl⟩
        have cz : ¬ c = 0 := by omega
        simp only [E]
        generalize t.T (o.set (c - 1) r) = T2 at ex en ⊢
        generalize t.sc (o.set (c - 1) r) = s2 at ex ⊢
        simp (disch := (first | omega | (simp; done) | (simp; omega))) [Fb.b_solve_1, ec, cz, rws_data, ex, hi, vec_set, eo, en]
  -- the beginning
  have l0 : (o0 n).length = n := by unfold o0; simp
  have T0 : rws (n + 1 + m) n (fun _ => false) (fT n g a b) = rws (n + 1 + m) n (fun _ => false) (t.T (o0 n)) := rws_congr (fun _ _ => rfl) fun i j _ hj => by
    have := T_init ok (i := i) (j := j) (by rw [tn]; omega)
    rw [tn, tF] at this
    exact this.symm
  have s0 : t.sc (o0 n) = 1 := by have := sc_0 ok; rwa [tn] at this
  have S0 : t.St (o0 n) := by have := St_0 ok; rwa [tn] at this
  have v0 : (vec n fun k => D.int ((k : Int) + 1)) = vec n fun j => .int (ov (o0 n) j : Nat) := vec_congr fun j hj => by
    unfold ov o0
    rw [List.getD_eq_getElem?_getD, List.getElem?_map, List.getElem?_range hj]
    rfl
  obtain ⟨r0, e0, hr0⟩ := neg (o0 n)
  have ft := first_table_ok h (d + 1) n m (by omega) hm g a b
  rw [hG, hQ, T0] at ft
  have W := whlL_run I Fin step P.wide (t.mu (o0 n)) (E (o0 n) (fun _ => false) r0 .un .un) (by
    have := mu_le (t := t) (o0 n)
    rw [tn, tN] at this
    omega) ⟨o0 n, _, r0, _, _, S0, rfl, hr0, rfl⟩
  rw [hG, hQ]
  have lG : ∃ dsG, G = .tup dsG ∧ dsG.length = n := ⟨iv n g, hG.symm, vec_len ..⟩
  have lQ : ∃ dsQ, Q = .tup dsQ ∧ dsQ.length = m := ⟨_, hQ.symm, vec_len ..⟩
  obtain ⟨dsG, rG, lG⟩ := lG
  obtain ⟨dsQ, rQ, lQ⟩ := lQ
  have bG : bltD .len [G] = .ok (.fz (.int n)) := by rw [rG, blt_len_t, lG]
  have bQ : bltD .len [Q] = .ok (.fz (.int m)) := by rw [rQ, blt_len_t, lQ]
  simp only [K, tabD] at ft e0
  have ndk : ∀ o, t.St o → ∀ x ∈ o, x < n + 1 + m := fun o S x hx => by have := S.lt x hx; rw [tN] at this; omega
  rcases W with ⟨o, fl, z8, z9, S, fin, W⟩ | ⟨s, w, Γ', W, rf, hs, hwb⟩
  · have gt := granted ok S (m := m) (by rw [tN, tn]) fun i h1 h2 => fin i h1 (by rw [tN] at h2; exact h2)
    rw [tF, tn, fT_g, fT_a, fT_b] at gt
    have sl := at_slacks_ok h (d + 1) n m o (fun j => t.T o 0 j) (by omega) hm (by rw [S.len, tn]) (St.nodup S) (ndk o S)
    simp only [K] at sl
    have ep := ev_comp (X := (gq P (d + 2)).toFx) gq_cm (e := .sub (.sub (.var 4) (.var 11)) (.int 0)) (tg := .n 11) (it := .rng [(.int 1), (.bin .add (.var 2) (.int 1))]) (cs := []) (Γ := E o fl 0 z8 z9) (pk := false) (n := n) (F := fun j => .int ((j : Int) + 1)) (fun k => .int (t.T o (k + 1) 0))
      (by simp (disch := (first | omega | (simp; done) | (simp; omega))) [E]) (by omega) (fun j hj => ⟨_, by simp [E]; rfl, by simp, by simp (disch := (first | omega | (simp; done) | (simp; omega))) [E, sub_rws1]⟩)
    refine ⟨.tup [.bl true, .int (t.T o 0 0), .lst (iv n fun k => t.T o (k + 1) 0), .lst (iv m fun i => wt n o (t.T o 0) (n + 1 + i)), .int (t.sc o)], call_eq h.so rfl ?_, .inl ⟨_, _, _, _, rfl, gt, hS o, hT o 0 0, fun k => hT o _ 0, fun i => wt_bd (St.nodup S) (by rw [S.len, tn]) (fun j => hT o 0 j) (Nat.two_pow_pos β) _⟩⟩
    simp only [E, s0, Int.cast_ofNat_Int, Int.natCast_zero] at W ep
    simp (disch := (first | omega | (simp; done) | (simp; omega))) [Fb.f_solve, Fb.b_solve, MP.start, bG, bQ, ft, v0, e0, rws_data, ↓W, ep, sl, sub_rws0]
  · refine ⟨.tup [.bl false, .lst (iv m w), .int s], call_eq h.so rfl ?_, .inr ⟨s, w, rfl, rf, hs, hwb⟩⟩
    simp only [E, s0] at W
    simp (disch := (first | omega | (simp; done) | (simp; omega))) [Fb.f_solve, Fb.b_solve, MP.start, bG, bQ, ft, v0, e0, rws_data, ↓W]
end
end Sw

end

section
set_option linter.all false
set_option autoImplicit false
/-! Sums of rationals; what a point and weights show. -/
namespace Sv
def smR : Nat → (Nat → Rat) → Rat
  | 0, _ => 0
  | n + 1, f => smR n f + f n
theorem smR_congr {n : Nat} {f g : Nat → Rat} (h : ∀ i, i < n → f i = g i) : smR n f = smR n g := by
  induction n with
  | zero => rfl
  | succ n ih => rw [smR, smR, ih fun i hi => h i (by omega), h n (by omega)]
theorem smR_zero {n : Nat} {f : Nat → Rat} (h : ∀ i, i < n → f i = 0) : smR n f = 0 := by
  induction n with
  | zero => rfl
  | succ n ih => rw [smR, ih fun i hi => h i (by omega), h n (by omega)]; grind
theorem smR_add (n : Nat) (f g : Nat → Rat) : smR n (fun i => f i + g i) = smR n f + smR n g := by
  induction n with
  | zero => simp only [smR]; grind
  | succ n ih => rw [smR, smR, smR, ih]; grind
theorem smR_sub (n : Nat) (f g : Nat → Rat) : smR n (fun i => f i - g i) = smR n f - smR n g := by
  induction n with
  | zero => simp only [smR]; grind
  | succ n ih => rw [smR, smR, smR, ih]; grind
theorem smR_mul (n : Nat) (c : Rat) (f : Nat → Rat) : smR n (fun i => c * f i) = c * smR n f := by
  induction n with
  | zero => simp [smR]
  | succ n ih => rw [smR, smR, ih]; grind
theorem smR_mulr (n : Nat) (c : Rat) (f : Nat → Rat) : smR n (fun i => f i * c) = smR n f * c := by
  induction n with
  | zero => simp [smR]
  | succ n ih => rw [smR, smR, ih]; grind
theorem smR_le {n : Nat} {f g : Nat → Rat} (h : ∀ i, i < n → f i ≤ g i) : smR n f ≤ smR n g := by
  induction n with
  | zero => exact Rat.le_refl
  | succ n ih =>
    rw [smR, smR]
    have := ih fun i hi => h i (by omega)
    have := h n (by omega)
    grind
theorem smR_nonneg {n : Nat} {f : Nat → Rat} (h : ∀ i, i < n → 0 ≤ f i) : 0 ≤ smR n f := by
  have := smR_le (f := fun _ => 0) h
  rw [smR_zero fun _ _ => rfl] at this
  exact this
theorem smR_swap (n m : Nat) (f : Nat → Nat → Rat) : smR n (fun i => smR m fun j => f i j) = smR m fun j => smR n fun i => f i j := by
  induction n with
  | zero => rw [smR, smR_zero]; intro i _; rfl
  | succ n ih => rw [smR, ih, ← smR_add]; rfl
theorem smR_one {n a : Nat} {f : Nat → Rat} (ha : a < n) (h : ∀ i, i < n → i ≠ a → f i = 0) : smR n f = f a := by
  induction n with
  | zero => omega
  | succ n ih =>
    rw [smR]
    by_cases e : a = n
    · subst e
      rw [smR_zero fun i hi => h i (by omega) (by omega)]; grind
    · rw [ih (by omega) fun i hi hn => h i (by omega) hn, h n (by omega) (by omega)]; grind
theorem smR_cons (n : Nat) (f : Nat → Rat) : smR (n + 1) f = f 0 + smR n fun i => f (i + 1) := by
  induction n with
  | zero => simp only [smR]; grind
  | succ n ih => rw [smR, ih, smR]; grind
theorem smR_int (n : Nat) (f : Nat → Int) : smR n (fun i => (f i : Rat)) = ((sm n f : Int) : Rat) := by
  induction n with
  | zero => rfl
  | succ n ih => rw [smR, sm, ih]; push_cast; rfl
theorem dv (p s : Int) : Rat.divInt p s = (p : Rat) / (s : Rat) := Rat.divInt_eq_div p s
theorem smR_dv (n : Nat) (c p : Nat → Int) (s : Int) : smR n (fun k => (c k : Rat) * Rat.divInt (p k) s) = Rat.divInt (sm n fun k => c k * p k) s := by
  rw [dv, ← smR_int, Rat.div_def, ← smR_mulr]
  exact smR_congr fun i _ => by rw [dv, Rat.div_def]; push_cast; grind
theorem cast_pos {s : Int} (h : 0 < s) : (0 : Rat) < (s : Rat) := by exact_mod_cast h
theorem dv_nonneg {p s : Int} (hs : 0 < s) (hp : 0 ≤ p) : 0 ≤ Rat.divInt p s := by
  rw [← Rat.not_lt]
  intro z
  have e0 : (0 : Rat) = Rat.divInt 0 1 := rfl
  rw [e0, Lr.dv_lt hs (by decide)] at z
  omega
theorem dv_le {p q s : Int} (hs : 0 < s) : Rat.divInt p s ≤ Rat.divInt q s ↔ p ≤ q := by
  rw [← Rat.not_lt, Lr.dv_lt hs hs]
  constructor
  · intro h
    refine Int.not_lt.mp fun z => h ?_
    exact Int.mul_lt_mul_of_pos_right z hs
  · intro h z
    have := Int.mul_le_mul_of_nonneg_right h (Int.le_of_lt hs)
    omega
theorem int_dv {s : Int} (hs : 0 < s) (b : Int) : (b : Rat) = Rat.divInt (s * b) s := by
  have : (s : Rat) ≠ 0 := by have := cast_pos hs; grind
  rw [dv]
  push_cast
  grind
theorem dv_zero {p s : Int} (hs : 0 < s) : Rat.divInt p s = 0 ↔ p = 0 := by
  have e0 : (0 : Rat) = Rat.divInt 0 1 := rfl
  rw [e0, Lr.dv_eq hs (by decide)]
  omega
/-- what a Granted shows -/
structure GrQ (n m : Nat) (g : Nat → Int) (a : Nat → Nat → Int) (b : Nat → Int) (u : Int) (val : Rat) (x y : Nat → Rat) : Prop where
  x0 : ∀ k, k < n → 0 ≤ x k
  y0 : ∀ i, i < m → 0 ≤ y i
  row : ∀ i, i < m → (b i : Rat) ≤ smR n fun k => (a i k : Rat) * x k
  col : ∀ k, k < n → (smR m fun i => (a i k : Rat) * y i) ≤ (g k : Rat)
  vx : (smR n fun k => (g k : Rat) * x k) = val * u
  vy : (smR m fun i => (b i : Rat) * y i) = val * u
  cx : ((List.range n).countP fun k => decide (x k ≠ 0)) ≤ m
  cy : ((List.range m).countP fun i => decide (y i ≠ 0)) ≤ n
/-- what a Refused shows -/
structure RfQ (n m : Nat) (a : Nat → Nat → Int) (b : Nat → Int) (y : Nat → Rat) : Prop where
  y0 : ∀ i, i < m → 0 ≤ y i
  col : ∀ k, k < n → (smR m fun i => (a i k : Rat) * y i) ≤ 0
  bd : 0 < smR m fun i => (b i : Rat) * y i
  cy : ((List.range m).countP fun i => decide (y i ≠ 0)) ≤ n + 1
theorem Gr.q {n m : Nat} {g : Nat → Int} {a : Nat → Nat → Int} {b : Nat → Int} {s v u : Int} {p w : Nat → Int} (G : Gr n m g a b s v p w) (hu : 0 < u) :
    GrQ n m g a b u (Rat.divInt v (s * u)) (fun k => Rat.divInt (p k) s) (fun i => Rat.divInt (w i) s) := by
  have hs := G.sp
  have us : (s : Rat) ≠ 0 := by have := cast_pos hs; grind
  have uu : (u : Rat) ≠ 0 := by have := cast_pos hu; grind
  have ev : Rat.divInt v (s * u) * u = Rat.divInt v s := by
    rw [dv, dv]
    push_cast
    grind
  refine ⟨fun k hk => dv_nonneg hs (G.p0 k hk), fun i hi => dv_nonneg hs (G.w0 i hi), fun i hi => ?_, fun k hk => ?_, ?_, ?_, ?_, ?_⟩
  · rw [smR_dv, int_dv hs (b i), dv_le hs]
    exact G.row i hi
  · rw [smR_dv, int_dv hs (g k), dv_le hs]
    have := G.col k hk
    have e : sm m (fun i => a i k * w i) = sm m fun i => w i * a i k := sm_congr fun i _ => Int.mul_comm _ _
    omega
  · rw [smR_dv, ev, ← G.vp]
  · rw [smR_dv, ev]
    have e : sm m (fun i => b i * w i) = sm m fun i => w i * b i := sm_congr fun i _ => Int.mul_comm _ _
    rw [e, ← G.vw]
  · refine Nat.le_trans (List.countP_mono_left fun k _ h => ?_) G.cp
    have h := of_decide_eq_true h
    exact decide_eq_true fun z => h ((dv_zero hs).mpr z)
  · refine Nat.le_trans (List.countP_mono_left fun k _ h => ?_) G.cw
    have h := of_decide_eq_true h
    exact decide_eq_true fun z => h ((dv_zero hs).mpr z)
theorem Rf.q {n m : Nat} {a : Nat → Nat → Int} {b : Nat → Int} {s : Int} {w : Nat → Int} (R : Rf n m a b s w) : RfQ n m a b (fun i => Rat.divInt (w i) s) := by
  have hs := R.sp
  refine ⟨fun i hi => dv_nonneg hs (R.w0 i hi), fun k hk => ?_, ?_, ?_⟩
  · have e : sm m (fun i => a i k * w i) = sm m fun i => w i * a i k := sm_congr fun i _ => Int.mul_comm _ _
    have e0 : (0 : Rat) = Rat.divInt 0 s := ((dv_zero hs).mpr rfl).symm
    rw [smR_dv, e, e0, dv_le hs]
    exact R.col k hk
  · have e : sm m (fun i => b i * w i) = sm m fun i => w i * b i := sm_congr fun i _ => Int.mul_comm _ _
    rw [smR_dv, e, ← Rat.not_le]
    have e0 : (0 : Rat) = Rat.divInt 0 s := ((dv_zero hs).mpr rfl).symm
    rw [e0, dv_le hs]
    have := R.bd
    omega
  · refine Nat.le_trans (List.countP_mono_left fun k _ h => ?_) R.cw
    have h := of_decide_eq_true h
    exact decide_eq_true fun z => h ((dv_zero hs).mpr z)
end Sv

end

section
set_option linter.all false
set_option maxRecDepth 100000
/-! Instances, tuples, ratios, by simp. -/
namespace MP
def atN : List D → Nat → Option D
  | [], _ => none
  | d :: _, 0 => some d
  | _ :: ds, i + 1 => atN ds i
theorem atN_is : ∀ {ds : List D} {i : Nat}, ds[i]? = atN ds i
  | [], _ => rfl
  | _ :: _, 0 => rfl
  | _ :: ds, i + 1 => by rw [List.getElem?_cons_succ, atN_is (ds := ds)]; rfl
@[simp ↓] theorem atN_0 (d : D) (ds : List D) : atN (d :: ds) 0 = some d := nr rfl
@[simp ↓] theorem atN_1 (d : D) (ds : List D) (i : Nat) : atN (d :: ds) (i + 1) = atN ds i := nr rfl
@[simp] theorem attrD_o (X : Fx) (f c : Nat) (ds : List D) : attrD X f (.fz (.obj c ds)) = R.ofO (((X.fld c f).bind fun i => atN ds i).map .fz) := by
  show R.ofO (((X.fld c f).bind fun i => ds[i]?).map OD.fz) = _
  simp only [atN_is]
@[simp] theorem attrD_x (X : Fx) (f c : Nat) (p : D) : attrD X f (.xv c (some p)) = if X.xf c = some f then .ok (.fz p) else .bad := nr rfl
@[simp ↓] theorem fldAt_o (fld : Nat → Nat → Option Nat) (c : Nat) (fs : List (Nat × D)) (Γ : List OD) (f : Nat) (o : OD) : fldAt fld (.oi c fs :: Γ) f o = if fs.length < 100 ∧ fld c f = some fs.length then o.toD.map fun d => .oi c (fs ++ [(f, d)]) :: Γ else none := nr rfl
theorem outI_ok {P : MP.Prog} {c : Nat} {q : Cl} (h : P.cl c = some q) (fs : List (Nat × D)) (Γ : List OD) : outI P c (.ok .nx (.oi c fs :: Γ)) = if fs.map (·.1) = q.flds then .ok (.fz (.obj c (fs.map (·.2)))) else .bad := by
  unfold outI
  simp only [h, true_and]
@[simp ↓] theorem outI_ex (P : MP.Prog) (c k : Nat) (p : Option D) (Γ : List OD) : outI P c (.ex k p Γ) = .ex k p := nr rfl
@[simp ↓] theorem outR_ex' (c : Nat) (p : Option D) (Γ : List OD) : outR (.ex c p Γ) = .ex c p := nr rfl
@[simp ↓] theorem outR_nx' (Γ : List OD) : outR (.ok .nx Γ) = .ok (.fz .non) := nr rfl
section
variable {a b c d e : D}
@[simp] theorem a2_0 : atI [a, b] 0 = some a := nr rfl
@[simp] theorem a2_1 : atI [a, b] 1 = some b := nr rfl
@[simp] theorem a2_m1 : atI [a, b] (-1) = some b := nr rfl
@[simp] theorem a3_0 : atI [a, b, c] 0 = some a := nr rfl
@[simp] theorem a3_1 : atI [a, b, c] 1 = some b := nr rfl
@[simp] theorem a3_2 : atI [a, b, c] 2 = some c := nr rfl
@[simp] theorem a3_m1 : atI [a, b, c] (-1) = some c := nr rfl
@[simp] theorem a3_m2 : atI [a, b, c] (-2) = some b := nr rfl
@[simp] theorem a5_0 : atI [a, b, c, d, e] 0 = some a := nr rfl
@[simp] theorem a5_1 : atI [a, b, c, d, e] 1 = some b := nr rfl
@[simp] theorem a5_2 : atI [a, b, c, d, e] 2 = some c := nr rfl
@[simp] theorem a5_3 : atI [a, b, c, d, e] 3 = some d := nr rfl
@[simp] theorem a5_4 : atI [a, b, c, d, e] 4 = some e := nr rfl
@[simp] theorem a5_m1 : atI [a, b, c, d, e] (-1) = some e := nr rfl
@[simp] theorem a5_m2 : atI [a, b, c, d, e] (-2) = some d := nr rfl
end
@[simp] theorem truth_bl (b : Bool) : truth (.bl b) = some b := nr rfl
@[simp] theorem sq_tuple (b : Bool) (ds : List D) : bltD .tuple [sq b ds] = .ok (.fz (.tup ds)) := by cases b <;> rfl
@[simp] theorem sq_list (b : Bool) (ds : List D) : bltD .list [sq b ds] = .ok (.own ds) := by cases b <;> rfl
@[simp] theorem oper_sq (p b : Bool) (ds : List D) : oper p (.ok (.fz (sq b ds))) = .ok (sq b ds) := oper_fz _ _
/-- any, all of a row of answers -/
theorem blt_any_vec (n : Nat) (p : Nat → Bool) : bltD .any [.lst (vec n fun k => .bl (p k))] = .ok (.fz (.bl ((List.range n).any p))) := by
  have e : (vec n fun k => D.bl (p k)) = ((List.range n).map p).map D.bl := by unfold vec; rw [List.map_map]; rfl
  rw [e]
  simp only [bltD, anyD, bls_map, R.ofO, R.map, List.any_map]
  rfl
theorem blt_all_vec (n : Nat) (p : Nat → Bool) : bltD .all [.lst (vec n fun k => .bl (p k))] = .ok (.fz (.bl ((List.range n).all p))) := by
  have e : (vec n fun k => D.bl (p k)) = ((List.range n).map p).map D.bl := by unfold vec; rw [List.map_map]; rfl
  rw [e]
  simp only [bltD, allD, bls_map, R.ofO, R.map, List.all_map]
  rfl
theorem any_no {n : Nat} {p : Nat → Bool} (h : ∀ k, k < n → p k = false) : (List.range n).any p = false := by
  rw [List.any_eq_false]
  intro k m
  rw [h k (List.mem_range.mp m)]
  exact Bool.false_ne_true
theorem all_yes {n : Nat} {p : Nat → Bool} (h : ∀ k, k < n → p k = true) : (List.range n).all p = true := List.all_eq_true.mpr fun k m => h k (List.mem_range.mp m)
/-- the least number -/
theorem min_vec {n : Nat} (f : Nat → Int) (b : Bool) (h : 0 < n) : ∃ m, (∃ k, k < n ∧ f k = m) ∧ (∀ k, k < n → m ≤ f k) ∧ bltD .min [sq b (vec n fun k => .int (f k))] = .ok (.fz (.int m)) := by
  have e : (vec n fun k => D.int (f k)) = ((List.range n).map f).map D.int := by unfold vec; rw [List.map_map]; rfl
  obtain ⟨m, h1, h2, h3⟩ := blt_minS (b := b) (xs := (List.range n).map f) (by intro z; have := congrArg List.length z; simp at this; omega)
  obtain ⟨k, hk, rfl⟩ := List.mem_map.mp h1
  exact ⟨f k, ⟨k, List.mem_range.mp hk, rfl⟩, fun j hj => h2 _ (List.mem_map.mpr ⟨j, List.mem_range.mpr hj, rfl⟩), by rw [e]; exact h3⟩
theorem max_vec {n : Nat} (f : Nat → Int) (b : Bool) (h : 0 < n) : ∃ m, (∃ k, k < n ∧ f k = m) ∧ (∀ k, k < n → f k ≤ m) ∧ bltD .max [sq b (vec n fun k => .int (f k))] = .ok (.fz (.int m)) := by
  have e : (vec n fun k => D.int (f k)) = ((List.range n).map f).map D.int := by unfold vec; rw [List.map_map]; rfl
  obtain ⟨m, h1, h2, h3⟩ := blt_maxS (b := b) (xs := (List.range n).map f) (by intro z; have := congrArg List.length z; simp at this; omega)
  obtain ⟨k, hk, rfl⟩ := List.mem_map.mp h1
  exact ⟨f k, ⟨k, List.mem_range.mp hk, rfl⟩, fun j hj => h2 _ (List.mem_map.mpr ⟨j, List.mem_range.mpr hj, rfl⟩), by rw [e]; exact h3⟩
end MP
/-! ### ratios -/
namespace Lr
open MP
section
variable {P : MP.Prog} (hR : HasR P)
include hR
theorem ratio_k (n : Nat) {t b : Int} (hb : b ≠ 0) (h2 : b.natAbs < 2 ^ 8500) : MP.K P (n + 1) 5 [.int t, .int b] = .ok (.fz (rr (Rat.divInt t b))) := by rw [K_eq]; exact ratio_ok hR n hb h2
theorem plus_k (n : Nat) {x y : Rat} (h1 : Bd 4000 x) (h2 : Bd 4000 y) : MP.K P (n + 2) 7 [rr x, rr y] = .ok (.fz (rr (x + y))) := by rw [K_eq]; exact plus_ok hR n h1 h2
theorem minus_k (h8 : P.fn 8 = some Fb.f_minus) (n : Nat) {x y : Rat} (h1 : Bd 4000 x) (h2 : Bd 4000 y) : MP.K P (n + 3) 8 [rr x, rr y] = .ok (.fz (rr (x - y))) := by rw [K_eq]; exact minus_ok hR h8 n h1 h2
theorem times_k (n : Nat) {x y : Rat} (h1 : Bd 4000 x) (h2 : Bd 4000 y) : MP.K P (n + 2) 9 [rr x, rr y] = .ok (.fz (rr (x * y))) := by rw [K_eq]; exact times_ok hR n h1 h2
theorem over_k (h10 : P.fn 10 = some Fb.f_over) (n : Nat) {x y : Rat} (h1 : Bd 4000 x) (h2 : Bd 4000 y) (h : y ≠ 0) : MP.K P (n + 2) 10 [rr x, rr y] = .ok (.fz (rr (x / y))) := by rw [K_eq]; exact over_ok hR h10 n h1 h2 h
theorem compare_k (n : Nat) {x y : Rat} (h1 : Bd 4000 x) (h2 : Bd 4000 y) : MP.K P (n + 1) 11 [rr x, rr y] = .ok (.fz (.int (cmpv x y))) := by rw [K_eq]; exact compare_ok hR n h1 h2
end
end Lr

end

section
set_option linter.all false
set_option maxRecDepth 100000
/-! Wish, Granted, Refused, ask. -/
namespace Sw
open MP Sv
open Lr hiding K
structure HasA (P : MP.Prog) : Prop extends HasS P, HasR P where
  wi : P.fn 969 = some Fb.f_Wish___init__
  gi : P.fn 970 = some Fb.f_Granted___init__
  ri : P.fn 971 = some Fb.f_Refused___init__
  ask : P.fn 39 = some Fb.f_ask
  cw : P.cl 36 = some ⟨969, [55, 52, 56], []⟩
  cg : P.cl 37 = some ⟨970, [57, 58, 59], []⟩
  cr : P.cl 38 = some ⟨971, [59], []⟩
  total : P.fn 12 = some Fb.f_total
  psum : P.fn 40 = some Fb.f_product_sum
  shares : P.fn 41 = some Fb.f_are_shares
  shows : P.fn 42 = some Fb.f_shows
  g3 : P.gv 3 = some (.tup [.int 0, .int 1])
  g34 : P.gv 34 = some (.int 18)
  g35 : P.gv 35 = some (.int 40)
theorem fld_of {P : MP.Prog} {c : Nat} {q : Cl} (h : P.cl c = some q) (f : Nat) : P.fld c f = q.flds.findIdx? (· == f) := by unfold Prog.fld; rw [h]; rfl
/-- a row of ratios -/
abbrev rv (n : Nat) (x : Nat → Rat) : List D := vec n fun k => rr (x k)
def wishD (n m : Nat) (g : Nat → Int) (a : Nat → Nat → Int) (b : Nat → Int) (u : Int) : D := .obj 36 [goalD n g, rowsD n m a b, .int u]
def grD (n m : Nat) (v : Rat) (x y : Nat → Rat) : D := .obj 37 [rr v, .tup (rv n x), .tup (rv m y)]
def rfD (m : Nat) (y : Nat → Rat) : D := .obj 38 [.tup (rv m y)]
theorem noL_rr (x : Rat) : (rr x).noL = true := rfl
theorem noFL_gr (n m : Nat) (v : Rat) (x y : Nat → Rat) : (OD.fz (grD n m v x y)).noFL = true := by
  show D.noLs [rr v, .tup (rv n x), .tup (rv m y)] = true
  simp only [D.noLs, D.noL, noL_rr, noLs_vec n _ fun k _ => noL_rr (x k), noLs_vec m _ fun k _ => noL_rr (y k), Bool.and_self]
theorem noFL_rf (m : Nat) (y : Nat → Rat) : (OD.fz (rfD m y)).noFL = true := by
  show D.noLs [.tup (rv m y)] = true
  simp only [D.noLs, D.noL, noLs_vec m _ fun k _ => noL_rr (y k), Bool.and_self]
section
variable {P : MP.Prog} (h : HasA P)
include h
theorem HasA.f36 : P.fld 36 55 = some 0 ∧ P.fld 36 52 = some 1 ∧ P.fld 36 56 = some 2 := by rw [fld_of h.cw, fld_of h.cw, fld_of h.cw]; exact ⟨rfl, rfl, rfl⟩
theorem HasA.f37 : P.fld 37 57 = some 0 ∧ P.fld 37 58 = some 1 ∧ P.fld 37 59 = some 2 := by rw [fld_of h.cg, fld_of h.cg, fld_of h.cg]; exact ⟨rfl, rfl, rfl⟩
theorem HasA.f38 : P.fld 38 59 = some 0 := by rw [fld_of h.cr]; rfl
theorem granted_make (d n m : Nat) (c1 c2 : Bool) (v : Rat) (x y : Nat → Rat) : (gq P (d + 1)).make 37 [rr v, sq c1 (rv n x), sq c2 (rv m y)] = .ok (.fz (grD n m v x y)) := by
  obtain ⟨f1, f2, f3⟩ := h.f37
  refine make_run h.cg h.gi rfl ?_
  simp [Fb.f_Granted___init__, Fb.b_Granted___init__, MP.start, f1, f2, f3, outI_ok h.cg]
  rfl
theorem refused_make (d m : Nat) (c2 : Bool) (y : Nat → Rat) : (gq P (d + 1)).make 38 [sq c2 (rv m y)] = .ok (.fz (rfD m y)) := by
  have f1 := h.f38
  refine make_run h.cr h.ri rfl ?_
  simp [Fb.f_Refused___init__, Fb.b_Refused___init__, MP.start, f1, outI_ok h.cr]
  rfl
/-- a right wish is made -/
theorem wish_make (d n m : Nat) (c1 c2 c3 : Bool) (g : Nat → Int) (a : Nat → Nat → Int) (b : Nat → Int) (u : Int) (hn : 1 ≤ n) (hn2 : n ≤ 18) (hm : m ≤ 40) (hg : ∀ k, k < n → 0 ≤ g k) (hu : 1 ≤ u) :
    (gq P (d + 1)).make 36 [sq c1 (iv n g), sq c2 (vec m fun i => .tup [sq c3 (iv n (a i)), .int (b i)]), .int u] = .ok (.fz (wishD n m g a b u)) := by
  obtain ⟨f1, f2, f3⟩ := h.f36
  obtain ⟨mn, ⟨k0, hk0, e0⟩, _, e1⟩ := min_vec g c1 hn
  have m0 : ¬ (mn < 0) := by have := hg k0 hk0; omega
  have ec := ev_comp (X := (gq P d).toFx) gq_cm (e := .cmp .ne (.blt .len [(.sub (.var 4) (.int 0))]) (.blt .len [(.var 1)])) (tg := .n 4) (it := .var 2) (cs := []) (Γ := [.oi 36 [], .fz (sq c1 (iv n g)), .fz (sq c2 (vec m fun i => .tup [sq c3 (iv n (a i)), .int (b i)])), .fz (.int u), .un]) (pk := true) (n := m) (F := fun i => .tup [sq c3 (iv n (a i)), .int (b i)])
    (fun i => .bl false) (by simp) (by omega) (fun j hj => ⟨_, by simp; rfl, by simp, by simp⟩)
  have ea := blt_any_vec m fun _ => false
  rw [any_no fun _ _ => rfl] at ea
  have er := ev_comp (X := (gq P d).toFx) gq_cm (e := .tup [(.blt .tuple [(.sub (.var 4) (.int 0))]), (.sub (.var 4) (.int 1))]) (tg := .n 4) (it := .var 2) (cs := []) (Γ := [.oi 36 [(55, .tup (iv n g))], .fz (sq c1 (iv n g)), .fz (sq c2 (vec m fun i => .tup [sq c3 (iv n (a i)), .int (b i)])), .fz (.int u), .un]) (pk := true) (n := m) (F := fun i => .tup [sq c3 (iv n (a i)), .int (b i)])
    (fun i => .tup [.tup (iv n (a i)), .int (b i)]) (by simp) (by omega) (fun j hj => ⟨_, by simp; rfl, by simp, by simp⟩)
  refine make_run h.cw h.wi rfl ?_
  simp (disch := (first | omega | (simp; done) | (simp; omega))) [Fb.f_Wish___init__, Fb.b_Wish___init__, MP.start, f1, f2, f3, outI_ok h.cw, h.g34, h.g35, show ¬ ((18 : Int) < (n : Int)) by omega, show ¬ ((40 : Int) < (m : Int)) by omega, show ¬ (n = 0) by omega, e1, m0, ec, ea, show ¬ (u < 1) by omega, er]
  rfl
/-- what ask tells -/
def Ans (n m : Nat) (g : Nat → Int) (a : Nat → Nat → Int) (b : Nat → Int) (u : Int) (β : Nat) (r : D) : Prop :=
  (∃ v x y, r = grD n m v x y ∧ GrQ n m g a b u v x y ∧ Bd β v ∧ (∀ k, Bd β (x k)) ∧ ∀ i, Bd β (y i)) ∨ (∃ y, r = rfD m y ∧ RfQ n m a b y ∧ ∀ i, Bd β (y i))
theorem ask_ok (d n m A β γ : Nat) (g : Nat → Int) (a : Nat → Nat → Int) (b : Nat → Int) (u : Int) (hn1 : 1 ≤ n) (hn : n ≤ 18) (hm : m ≤ 40) (hg : ∀ k, 0 ≤ g k) (hA1 : 1 ≤ A) (hA : ∀ i k, (fT n g a b i k).natAbs ≤ A) (hAβ : ((n + 1) * A) ^ (n + 1) < 2 ^ β) (hu : 1 ≤ u) (hu2 : u.natAbs < 2 ^ γ) (hβ : β + γ ≤ 8000) (hw : (n + 1 + m) ^ n < P.wide) :
    ∃ r, K P (d + 4) 39 [wishD n m g a b u] = .ok (.fz r) ∧ Ans n m g a b u (β + γ) r := by
  obtain ⟨f1, f2, f3⟩ := h.f36
  obtain ⟨r, e, S⟩ := solve_ok h.toHasS d n m A β g a b (by omega) (by omega) hn1 hg hA1 hA hAβ (by omega) hw
  simp only [K] at e
  clear hAβ hA hw
  rcases S with ⟨s, v, p, w, rfl, G, bs, bv, bp, bw⟩ | ⟨s, w, rfl, R, bs, bw⟩
  · have hs := G.sp
    have s8 : s.natAbs < 2 ^ 8500 := lt_mono bs (by omega)
    have su : s * u ≠ 0 := Int.mul_ne_zero (by omega) (by omega)
    have sul := lt_mul bs hu2
    have su8 : (s * u).natAbs < 2 ^ 8500 := lt_mono sul (by omega)
    have mo : mulOk s u = true := mulOk_of bs hu2 (by omega)
    have r1 : ∀ t, (gq P (d + 3)).call 5 [.int t, .int s] [] [] = .ok (.fz (rr (Rat.divInt t s))) := fun t => ratio_k h.toHasR (d + 2) (by omega) s8
    have r2 : ∀ t, (gq P (d + 3)).call 5 [.int t, .int (s * u)] [] [] = .ok (.fz (rr (Rat.divInt t (s * u)))) := fun t => ratio_k h.toHasR (d + 2) su su8
    clear s8 su8
    have gm := granted_make h (d + 2) n m false false (Rat.divInt v (s * u)) (fun k => Rat.divInt (p k) s) (fun i => Rat.divInt (w i) s)
    have e1 := ev_comp (X := (gq P (d + 3)).toFx) gq_cm (e := .call 5 [(.var 5), (.var 2)] [] []) (tg := .n 5) (it := .sub (.var 1) (.neg (.int 2))) (cs := []) (Γ := [.fz (wishD n m g a b u), .fz (.tup [.bl true, .int v, .lst (iv n p), .lst (iv m w), .int s]), .fz (.int s), .un, .un, .un, .un]) (pk := false) (n := m) (F := fun i => .int (w i))
      (fun i => rr (Rat.divInt (w i) s)) (by simp) (by omega) (fun j hj => ⟨_, by simp; rfl, by simp, by simp [r1]⟩)
    have e2 := ev_comp (X := (gq P (d + 3)).toFx) gq_cm (e := .call 5 [(.var 6), (.var 2)] [] []) (tg := .n 6) (it := .sub (.var 1) (.int 2)) (cs := []) (Γ := [.fz (wishD n m g a b u), .fz (.tup [.bl true, .int v, .lst (iv n p), .lst (iv m w), .int s]), .fz (.int s), .own (rv m fun i => Rat.divInt (w i) s), .un, .un, .un]) (pk := false) (n := n) (F := fun i => .int (p i))
      (fun i => rr (Rat.divInt (p i) s)) (by simp) (by omega) (fun j hj => ⟨_, by simp; rfl, by simp, by simp [r1]⟩)
    refine ⟨grD n m (Rat.divInt v (s * u)) (fun k => Rat.divInt (p k) s) (fun i => Rat.divInt (w i) s), call_eq h.ask rfl ?_, .inl ⟨_, _, _, rfl, G.q (by omega), bd_div su (lt_mono bv (by omega)) sul, fun k => bd_div (by omega) (lt_mono (bp k) (by omega)) (lt_mono bs (by omega)), fun i => bd_div (by omega) (lt_mono (bw i) (by omega)) (lt_mono bs (by omega))⟩⟩
    simp +instances only [wishD, sq, Bool.false_eq_true, if_false] at e e1 e2 gm ⊢
    simp (disch := (first | omega | (simp; done) | (simp; omega))) [Fb.f_ask, Fb.b_ask, MP.start, f1, f2, f3, e, e1, e2, r2, bin_mul mo, gm, noFL_gr]
  · have hs := R.sp
    have s8 : s.natAbs < 2 ^ 8500 := lt_mono bs (by omega)
    have r1 : ∀ t, (gq P (d + 3)).call 5 [.int t, .int s] [] [] = .ok (.fz (rr (Rat.divInt t s))) := fun t => ratio_k h.toHasR (d + 2) (by omega) s8
    clear s8
    have gm := refused_make h (d + 2) m false (fun i => Rat.divInt (w i) s)
    have e1 := ev_comp (X := (gq P (d + 3)).toFx) gq_cm (e := .call 5 [(.var 5), (.var 2)] [] []) (tg := .n 5) (it := .sub (.var 1) (.neg (.int 2))) (cs := []) (Γ := [.fz (wishD n m g a b u), .fz (.tup [.bl false, .lst (iv m w), .int s]), .fz (.int s), .un, .un, .un, .un]) (pk := false) (n := m) (F := fun i => .int (w i))
      (fun i => rr (Rat.divInt (w i) s)) (by simp) (by omega) (fun j hj => ⟨_, by simp; rfl, by simp, by simp [r1]⟩)
    refine ⟨rfD m (fun i => Rat.divInt (w i) s), call_eq h.ask rfl ?_, .inr ⟨_, rfl, R.q, fun i => bd_div (by omega) (lt_mono (bw i) (by omega)) (lt_mono bs (by omega))⟩⟩
    simp +instances only [wishD, sq, Bool.false_eq_true, if_false] at e e1 gm ⊢
    simp (disch := (first | omega | (simp; done) | (simp; omega))) [Fb.f_ask, Fb.b_ask, MP.start, f1, f2, f3, e, e1, gm, noFL_rf]
end
end Sw

end

section
set_option linter.all false
set_option maxRecDepth 100000
/-! total, product_sum, are_shares, shows -/
namespace Lr
open MP
theorem rr_int (c : Int) : rr (c : Rat) = .tup [.int c, .int 1] := rfl
theorem rr_0 : (.tup [.int 0, .int 1] : D) = rr 0 := rfl
theorem Bd.int {k : Nat} {c : Int} (h : c.natAbs < 2 ^ k) (hk : 1 ≤ k) : Bd k (c : Rat) := ⟨h, by
  show 1 < 2 ^ k
  exact Nat.one_lt_two_pow (by omega)⟩
theorem Bd.zero {k : Nat} (hk : 1 ≤ k) : Bd k 0 := ⟨Nat.two_pow_pos k, by
  show 1 < 2 ^ k
  exact Nat.one_lt_two_pow (by omega)⟩
@[simp] theorem cmpv_lt (x y : Rat) : cmpv x y < 0 ↔ x < y := by
  unfold cmpv
  by_cases h : x < y
  · simp [h]
  · by_cases h2 : y < x <;> simp [h, h2]
@[simp] theorem cmpv_gt (x y : Rat) : 0 < cmpv x y ↔ y < x := by
  unfold cmpv
  by_cases h : x < y
  · have : ¬ y < x := fun z => by grind
    simp [h, this]
  · by_cases h2 : y < x <;> simp [h, h2]
@[simp] theorem cmpv_ge (x y : Rat) : 0 ≤ cmpv x y ↔ ¬ x < y := by rw [← cmpv_lt]; omega
@[simp] theorem cmpv_le (x y : Rat) : cmpv x y ≤ 0 ↔ ¬ y < x := by rw [← cmpv_gt]; omega
theorem rr_inj {x y : Rat} (h1 : x.num = y.num) (h2 : x.den = y.den) : x = y := Rat.ext h1 h2
theorem plain_rr (k : Nat) (x : Rat) : (rr x).plain (k + 1) = true := by cases k <;> rfl
@[simp] theorem noFL_rr (x : Rat) : (OD.fz (rr x)).noFL = true := nr rfl
theorem eqv_rr (x y : Rat) : D.eqv (rr x) (rr y) = decide (x = y) := by
  show ((x.num == y.num) && (((x.den : Int) == (y.den : Int)) && true)) = decide (x = y)
  by_cases h : x = y
  · subst h; simp
  · rw [decide_eq_false h, Bool.and_true]
    by_cases h1 : x.num = y.num
    · have : ¬ x.den = y.den := fun z => h (rr_inj h1 z)
      have t2 : ¬ ((x.den : Int) = (y.den : Int)) := by omega
      simp [t2]
    · simp [h1]
@[simp] theorem cmp_eq_rr (x y : Rat) : cmpD .eq (rr x) (rr y) = .ok (.fz (.bl (decide (x = y)))) := by
  simp only [cmpD, plain_rr 19, eqv_rr, Bool.and_self, if_true]
@[simp] theorem cmp_ne_rr (x y : Rat) : cmpD .ne (rr x) (rr y) = .ok (.fz (.bl (!decide (x = y)))) := by
  simp only [cmpD, plain_rr 19, eqv_rr, Bool.and_self, if_true]
end Lr
namespace Sw
open MP Sv
open Lr hiding K
section
variable {P : MP.Prog} (h : HasA P)
include h
theorem total_ok (d n : Nat) (c : Bool) (z : Nat → Rat) (hn : n ≤ 100000) (hb : ∀ j, j ≤ n → Bd 3900 (smR j z)) (hz : ∀ j, j < n → Bd 3900 (z j)) : K P (d + 3) 12 [sq c (rv n z)] = .ok (.fz (rr (smR n z))) := by
  obtain ⟨_, e, y, rfl⟩ := forL_inv (body := fun Γ => execs Fb.b_total_1 (gq P (d + 2)) Γ) (t := .n 2) (n := n) (F := fun k => rr (z k)) (Γ0 := [.fz (sq c (rv n z)), .fz (rr 0), .un])
    (fun k Γ => ∃ y, Γ = [.fz (sq c (rv n z)), .fz (rr (smR k z)), y]) ⟨_, rfl⟩ (by
      rintro k _ hk ⟨y, rfl⟩
      have e := plus_k h.toHasR d ((hb k (by omega)).mono (by omega)) ((hz k hk).mono (by omega))
      simp only [K] at e
      exact ⟨_, [.fz (sq c (rv n z)), .fz (rr (smR (k + 1) z)), .fz (rr (z k))], by simp; rfl, .inl (by simp [Fb.b_total_1, e]; rfl), _, rfl⟩)
  refine call_eq h.total rfl ?_
  simp [Fb.f_total, Fb.b_total, MP.start, h.g3, rr_0, e]
theorem product_sum_ok (d n l : Nat) (c : Bool) (f : Nat → Int) (z : Nat → Rat) (hn : n ≤ 100000) (hl : n ≤ l) (hb : ∀ j, j ≤ n → Bd 3900 (smR j fun k => (f k : Rat) * z k)) (hf : ∀ j, j < n → (f j).natAbs < 2 ^ 1900) (hz : ∀ j, j < n → Bd 1900 (z j)) : K P (d + 4) 40 [sq c (iv n f), .tup (rv l z)] = .ok (.fz (rr (smR n fun k => (f k : Rat) * z k))) := by
  have bt : ∀ k, k < n → Bd 1900 ((f k : Rat)) := fun k hk => Bd.int (hf k hk) (by omega)
  have et : ∀ k, k < n → (gq P (d + 3)).call 9 [.tup [.int (f k), .int 1], rr (z k)] [] [] = .ok (.fz (rr ((f k : Rat) * z k))) := fun k hk => by
    rw [← rr_int]
    exact times_k h.toHasR (d + 1) ((bt k hk).mono (by omega)) ((hz k hk).mono (by omega))
  have e1 := total_ok h d n false (fun k => (f k : Rat) * z k) hn hb fun j hj => ((bt j hj).mul (hz j hj)).mono (by omega)
  simp only [K, sq, Bool.false_eq_true, if_false] at e1
  clear hf hz bt hb
  have ec := ev_comp (X := (gq P (d + 3)).toFx) gq_cm (e := .call 9 [(.tup [(.sub (.var 0) (.var 2)), (.int 1)]), (.sub (.var 1) (.var 2))] [] []) (tg := .n 2) (it := .rng [(.blt .len [(.var 0)])]) (cs := []) (Γ := [.fz (sq c (iv n f)), .fz (.tup (rv l z)), .un]) (pk := true) (n := n) (F := fun i => .int (i : Int))
    (fun k => rr ((f k : Rat) * z k)) (by simp (disch := omega)) (by omega) (fun j hj => ⟨_, by simp; rfl, by simp, by simp (disch := omega) [et j hj]⟩)
  refine call_eq h.psum rfl ?_
  simp [Fb.f_product_sum, Fb.b_product_sum, MP.start, ec, e1]
theorem are_shares_ok (d l m : Nat) (z : Nat → Rat) (hl : l ≤ 100000) (hz : ∀ j, j < l → Bd 3900 (z j)) : K P (d + 2) 41 [.tup (rv l z), .int m] = .ok (.fz (.bl (decide (l = m) && (List.range l).all fun k => !decide (z k < 0)))) := by
  have ec : ∀ k, k < l → (gq P (d + 1)).call 11 [rr (z k), rr 0] [] [] = .ok (.fz (.int (cmpv (z k) 0))) := fun k hk => compare_k h.toHasR d ((hz k hk).mono (by omega)) (Bd.zero (by omega))
  have e := ev_comp (X := (gq P (d + 1)).toFx) gq_cm (e := .cmp .ge (.call 11 [(.var 2), (.glob 3)] [] []) (.int 0)) (tg := .n 2) (it := .var 0) (cs := []) (Γ := [.fz (.tup (rv l z)), .fz (.int m), .un]) (pk := true) (n := l) (F := fun k => rr (z k))
    (fun k => .bl (!decide (z k < 0))) (by simp) (by omega) (fun j hj => ⟨_, by simp; rfl, by simp, by simp [h.g3, rr_0, ec j hj]⟩)
  have ea := blt_all_vec l fun k => !decide (z k < 0)
  refine call_eq h.shares rfl ?_
  by_cases q : l = m
  · subst q
    simp [Fb.f_are_shares, Fb.b_are_shares, MP.start, e, ea]
  · have q' : ¬ ((l : Int) = (m : Int)) := by omega
    simp [Fb.f_are_shares, Fb.b_are_shares, MP.start, q, q']
end
end Sw

end

section
set_option linter.all false
set_option maxRecDepth 100000
/-! shows -/
namespace Sv
open Lr hiding K
theorem smR_bd {n γ : Nat} {f : Nat → Rat} (h : ∀ j, j < n → Bd γ (f j)) : ∀ j, j ≤ n → Bd (j * (γ + 1) + 1) (smR j f) := by
  intro j
  induction j with
  | zero => intro _; exact Bd.zero (by omega)
  | succ j ih =>
    intro hj
    have := (ih (by omega)).add (h j (by omega))
    refine this.mono ?_
    rw [Nat.add_mul]
    omega
end Sv
namespace Sw
open MP Sv
open Lr hiding K
/-- no number too large -/
structure ShB (n m α β : Nat) (g : Nat → Int) (a : Nat → Nat → Int) (b : Nat → Int) (u : Int) : Prop where
  ha : ∀ i k, (a i k).natAbs < 2 ^ α
  hb : ∀ i, (b i).natAbs < 2 ^ α
  hg : ∀ k, (g k).natAbs < 2 ^ α
  hu : u.natAbs < 2 ^ α
  a1 : 1 ≤ α
  n1 : n * (α + β + 1) + 1 ≤ 3900
  m1 : m * (α + β + 1) + 1 ≤ 3900
  ab : α + β ≤ 1900
section
variable {P : MP.Prog} (h : HasA P)
include h
theorem psum_b {n m α β l : Nat} {g : Nat → Int} {a : Nat → Nat → Int} {b : Nat → Int} {u : Int} (B : ShB n m α β g a b u) (d k : Nat) (hk : k ≤ n ∨ k ≤ m) (hl : k ≤ l) (c : Bool) (f : Nat → Int) (z : Nat → Rat) (hf : ∀ j, (f j).natAbs < 2 ^ α) (hz : ∀ j, Bd β (z j)) (hn : n ≤ 100000) (hm : m ≤ 100000) :
    K P (d + 4) 40 [sq c (iv k f), .tup (rv l z)] = .ok (.fz (rr (smR k fun j => (f j : Rat) * z j))) ∧ Bd 3900 (smR k fun j => (f j : Rat) * z j) := by
  have b1 := B.n1; have b2 := B.m1; have b3 := B.ab; have b4 := B.a1
  have bt : ∀ j, Bd (α + β) ((f j : Rat) * z j) := fun j => (Bd.int (hf j) b4).mul (hz j)
  have bs : ∀ j, j ≤ k → Bd 3900 (smR j fun j => (f j : Rat) * z j) := fun j hj => (smR_bd (n := k) (fun j _ => bt j) j hj).mono (by
    rcases hk with hk | hk
    · have := Nat.mul_le_mul_right (α + β + 1) (Nat.le_trans hj hk); omega
    · have := Nat.mul_le_mul_right (α + β + 1) (Nat.le_trans hj hk); omega)
  exact ⟨product_sum_ok h d k l c f z (by omega) hl bs (fun j _ => lt_mono (hf j) (by omega)) fun j _ => (hz j).mono (by omega), bs k (Nat.le_refl _)⟩
/-- what shows says of a Granted -/
def shG (n m : Nat) (g : Nat → Int) (a : Nat → Nat → Int) (b : Nat → Int) (u : Int) (lx ly : Nat) (v : Rat) (x y : Nat → Rat) : Bool :=
  decide (ly = m) && ((List.range ly).all fun k => !decide (y k < 0)) && (decide (lx = n) && ((List.range lx).all fun k => !decide (x k < 0)) &&
    (((List.range m).all fun i => !decide ((smR n fun k => (a i k : Rat) * x k) < (b i : Rat))) && (!((List.range n).any fun k => decide ((g k : Rat) < smR m fun i => (a i k : Rat) * y i)) &&
      (decide ((smR m fun i => (b i : Rat) * y i) = v * u) && decide ((smR n fun k => (g k : Rat) * x k) = v * u)))))
theorem shows_g {n m α β : Nat} {g : Nat → Int} {a : Nat → Nat → Int} {b : Nat → Int} {u : Int} (B : ShB n m α β g a b u) (d lx ly : Nat) (v : Rat) (x y : Nat → Rat) (hv : Bd β v) (hx : ∀ k, Bd β (x k)) (hy : ∀ k, Bd β (y k)) (hn : n ≤ 1000) (hm : m ≤ 1000) (hlx : lx ≤ 1000) (hly : ly ≤ 1000) :
    K P (d + 5) 42 [wishD n m g a b u, grD lx ly v x y] = .ok (.fz (.bl (shG n m g a b u lx ly v x y))) := by
  obtain ⟨f1, f2, f3⟩ := h.f36
  obtain ⟨k1, k2, k3⟩ := h.f37
  have b3 := B.ab
  have s1 := are_shares_ok h (d + 2) ly m y (by omega) fun j _ => (hy j).mono (by omega)
  have s2 := are_shares_ok h (d + 2) lx n x (by omega) fun j _ => (hx j).mono (by omega)
  simp only [K] at s1 s2
  refine call_eq h.shows rfl ?_
  unfold shG
  cases c1 : (decide (ly = m) && (List.range ly).all fun k => !decide (y k < 0)) with
  | false =>
    rw [c1] at s1
    simp [Fb.f_shows, Fb.b_shows, MP.start, wishD, grD, goalD, rowsD, f1, f2, f3, k1, k2, k3, s1]
  | true =>
  rw [c1] at s1
  have lm : ly = m := of_decide_eq_true (Bool.and_eq_true_iff.mp c1).1
  subst lm
  have b4 := B.a1
  have ti : anyTy (.fz (grD lx ly v x y)) P.sub [.cls 38] = some false := by
    have : isTy (.fz (grD lx ly v x y)) (.cls 38) P.sub = some false := by
      show (if P.sub 37 .tnone then some (37 == 38) else none) = _
      have : P.sub 37 .tnone = true := by show (P.cl 37).isSome = true; rw [h.cg]; rfl
      rw [this]; rfl
    show (match isTy (.fz (grD lx ly v x y)) (.cls 38) P.sub with
      | some true => some true
      | some false => some false
      | none => none) = _
    rw [this]
  obtain ⟨W, hW⟩ : ∃ W, wishD n ly g a b u = W := ⟨_, rfl⟩
  obtain ⟨A, hA⟩ : ∃ A, grD lx ly v x y = A := ⟨_, rfl⟩
  have aW1 : attrD (gq P (d + 4)).toFx 55 (.fz W) = .ok (.fz (.tup (iv n g))) := by rw [← hW]; simp [wishD, goalD, f1]
  have aW2 : attrD (gq P (d + 4)).toFx 52 (.fz W) = .ok (.fz (.tup (vec ly fun i => .tup [.tup (iv n (a i)), .int (b i)]))) := by rw [← hW]; simp [wishD, rowsD, f2]
  have aW3 : attrD (gq P (d + 4)).toFx 56 (.fz W) = .ok (.fz (.int u)) := by rw [← hW]; simp [wishD, f3]
  have aA1 : attrD (gq P (d + 4)).toFx 57 (.fz A) = .ok (.fz (rr v)) := by rw [← hA]; simp [grD, k1]
  have aA2 : attrD (gq P (d + 4)).toFx 58 (.fz A) = .ok (.fz (.tup (rv lx x))) := by rw [← hA]; simp [grD, k2]
  have aA3 : attrD (gq P (d + 4)).toFx 59 (.fz A) = .ok (.fz (.tup (rv ly y))) := by rw [← hA]; simp [grD, k3]
  rw [hA] at ti
  rw [hA, hW]
  have ps : ∀ k, (gq P (d + 4)).call 40 [.lst (iv ly fun i => a i k), .tup (rv ly y)] [] [] = .ok (.fz (rr (smR ly fun i => (a i k : Rat) * y i))) ∧ Bd 3900 (smR ly fun i => (a i k : Rat) * y i) := fun k => by
    have := psum_b h B d ly (.inr (Nat.le_refl _)) (Nat.le_refl _) false (fun i => a i k) y (fun i => B.ha i k) hy (by omega) (by omega)
    simpa only [K, sq, Bool.false_eq_true, if_false] using this
  have pb : (gq P (d + 4)).call 40 [.lst (iv ly b), .tup (rv ly y)] [] [] = .ok (.fz (rr (smR ly fun i => (b i : Rat) * y i))) ∧ Bd 3900 (smR ly fun i => (b i : Rat) * y i) := by
    have := psum_b h B d ly (.inr (Nat.le_refl _)) (Nat.le_refl _) false b y B.hb hy (by omega) (by omega)
    simpa only [K, sq, Bool.false_eq_true, if_false] using this
  have ec1 : ∀ k z9 z10, k < n → @evz (gq P (d + 4)).toFx (.comp (.sub (.sub (.var 9) (.int 0)) (.var 8)) (.n 9) (.attr (.var 0) 52) []) ⟨[.fz W, .fz A, .fz (.int n), .un, .un, .un, .un, .un, .fz (.int (k : Int)), z9, z10]⟩ true = .ok (.own (iv ly fun i => a i k)) := fun k z9 z10 hk =>
    ev_comp gq_cm (n := ly) (F := fun i => .tup [.tup (iv n (a i)), .int (b i)]) (fun i => .int (a i k)) (by simp [aW2]) (by omega) (fun j hj => ⟨_, by simp; rfl, by simp, by simp (disch := omega)⟩)
  have es := ev_comp (X := (gq P (d + 4)).toFx) gq_cm (e := .call 40 [(.comp (.sub (.sub (.var 9) (.int 0)) (.var 8)) (.n 9) (.attr (.var 0) 52) []), (.attr (.var 1) 59)] [] []) (tg := .n 8) (it := .rng [(.var 2)]) (cs := []) (Γ := [.fz W, .fz A, .fz (.int n), .un, .un, .un, .un, .un, .un, .un, .un]) (pk := false) (n := n) (F := fun k => .int (k : Int))
    (fun k => rr (smR ly fun i => (a i k : Rat) * y i)) (by simp [show n ≤ 1000000 by omega]) (by omega) (fun j hj => ⟨[.fz W, .fz A, .fz (.int n), .un, .un, .un, .un, .un, .fz (.int (j : Int)), .un, .un], by simp, by simp, by simp [ec1 j _ _ hj, aA3, (ps j).1]⟩)
  have eb := ev_comp (X := (gq P (d + 4)).toFx) gq_cm (e := .sub (.var 9) (.int 1)) (tg := .n 9) (it := .attr (.var 0) 52) (cs := []) (Γ := [.fz W, .fz A, .fz (.int n), .own (rv n fun k => smR ly fun i => (a i k : Rat) * y i), .un, .un, .un, .un, .un, .un, .un]) (pk := true) (n := ly) (F := fun i => .tup [.tup (iv n (a i)), .int (b i)])
    (fun i => .int (b i)) (by simp [aW2]) (by omega) (fun j hj => ⟨_, by simp; rfl, by simp, by simp⟩)
  cases c2 : (decide (lx = n) && (List.range lx).all fun k => !decide (x k < 0)) with
  | false =>
    rw [c2] at s2
    simp [Fb.f_shows, Fb.b_shows, MP.start, aW1, aW2, aW3, aA1, aA2, aA3, s1, es, eb, pb.1, ti, s2]
  | true =>
  rw [c2] at s2
  have ln : lx = n := of_decide_eq_true (Bool.and_eq_true_iff.mp c2).1
  subst ln
  have px : ∀ i, (gq P (d + 4)).call 40 [.tup (iv lx (a i)), .tup (rv lx x)] [] [] = .ok (.fz (rr (smR lx fun k => (a i k : Rat) * x k))) ∧ Bd 3900 (smR lx fun k => (a i k : Rat) * x k) := fun i => by
    have := psum_b h B d lx (.inl (Nat.le_refl _)) (Nat.le_refl _) true (a i) x (B.ha i) hx (by omega) (by omega)
    simpa only [K, sq, if_true] using this
  have pg : (gq P (d + 4)).call 40 [.tup (iv lx g), .tup (rv lx x)] [] [] = .ok (.fz (rr (smR lx fun k => (g k : Rat) * x k))) ∧ Bd 3900 (smR lx fun k => (g k : Rat) * x k) := by
    have := psum_b h B d lx (.inl (Nat.le_refl _)) (Nat.le_refl _) true g x B.hg hx (by omega) (by omega)
    simpa only [K, sq, if_true] using this
  have cr : ∀ i, (gq P (d + 4)).call 11 [rr (smR lx fun k => (a i k : Rat) * x k), .tup [.int (b i), .int 1]] [] [] = .ok (.fz (.int (cmpv (smR lx fun k => (a i k : Rat) * x k) (b i : Rat)))) := fun i => by
    rw [← rr_int]
    exact compare_k h.toHasR (d + 3) ((px i).2.mono (by omega)) ((Bd.int (B.hb i) b4).mono (by omega))
  have cc : ∀ k, (gq P (d + 4)).call 11 [rr (smR ly fun i => (a i k : Rat) * y i), .tup [.int (g k), .int 1]] [] [] = .ok (.fz (.int (cmpv (smR ly fun i => (a i k : Rat) * y i) (g k : Rat)))) := fun k => by
    rw [← rr_int]
    exact compare_k h.toHasR (d + 3) ((ps k).2.mono (by omega)) ((Bd.int (B.hg k) b4).mono (by omega))
  have tv : (gq P (d + 4)).call 9 [rr v, .tup [.int u, .int 1]] [] [] = .ok (.fz (rr (v * u))) := by
    rw [← rr_int]
    exact times_k h.toHasR (d + 2) (hv.mono (by omega)) ((Bd.int B.hu b4).mono (by omega))
  obtain ⟨S, hS⟩ : ∃ S, OD.own (rv lx fun k => smR ly fun i => (a i k : Rat) * y i) = S := ⟨_, rfl⟩
  obtain ⟨bd, hbd⟩ : ∃ bd, (smR ly fun i => (b i : Rat) * y i) = bd := ⟨_, rfl⟩
  rw [hbd] at pb ⊢
  have lp := forL_stop (body := fun Γ => execs Fb.b_shows_1 (gq P (d + 4)) Γ) (t := .t [.n 5, .n 6]) (n := ly) (F := fun i => .tup [.tup (iv lx (a i)), .int (b i)]) (Γ0 := [.fz W, .fz A, .fz (.int lx), S, .fz (rr bd), .un, .un, .un, .un, .un, .un])
    (fun k Γ => (∀ i, i < k → ¬ (smR lx fun k => (a i k : Rat) * x k) < (b i : Rat)) ∧ ∃ z5 z6, Γ = [.fz W, .fz A, .fz (.int lx), S, .fz (rr bd), z5, z6, .un, .un, .un, .un])
    (fun r => (∃ i, i < ly ∧ (smR lx fun k => (a i k : Rat) * x k) < (b i : Rat)) ∧ ∃ Γ', r = .ok (.rt (.fz (.bl false))) Γ') ⟨fun i hi => by omega, _, _, rfl⟩ (by
      rintro i _ hi ⟨hp, z5, z6, rfl⟩
      refine ⟨[.fz W, .fz A, .fz (.int lx), S, .fz (rr bd), .fz (.tup (iv lx (a i))), .fz (.int (b i)), .un, .un, .un, .un], by simp, ?_⟩
      by_cases q : (smR lx fun k => (a i k : Rat) * x k) < (b i : Rat)
      · exact .inr (.inl ⟨.fz (.bl false), [.fz W, .fz A, .fz (.int lx), S, .fz (rr bd), .fz (.tup (iv lx (a i))), .fz (.int (b i)), .un, .un, .un, .un], by simp [Fb.b_shows_1, aA2, (px i).1, cr i, q], ⟨i, hi, q⟩, _, rfl⟩)
      · refine .inl ⟨[.fz W, .fz A, .fz (.int lx), S, .fz (rr bd), .fz (.tup (iv lx (a i))), .fz (.int (b i)), .un, .un, .un, .un], .inl (by simp [Fb.b_shows_1, aA2, (px i).1, cr i, q]), fun j hj => ?_, _, _, rfl⟩
        by_cases e : j = i
        · rw [e]; exact q
        · exact hp j (by omega))
  rcases lp with ⟨_, e, hp, z5, z6, rfl⟩ | ⟨⟨i, hi, q⟩, Γ', e⟩
  rotate_left
  · have ar : ((List.range ly).all fun i => !decide ((smR lx fun k => (a i k : Rat) * x k) < (b i : Rat))) = false := by
      rw [List.all_eq_false]
      exact ⟨i, List.mem_range.mpr hi, by simp [q]⟩
    rw [← hS] at e
    rw [ar]
    simp [Fb.f_shows, Fb.b_shows, MP.start, aW1, aW2, aW3, aA1, aA2, aA3, s1, es, eb, pb.1, ti, s2, e]
  have ar : ((List.range ly).all fun i => !decide ((smR lx fun k => (a i k : Rat) * x k) < (b i : Rat))) = true := all_yes fun i hi => by simp [hp i hi]
  rw [ar]
  have ey := ev_comp (X := (gq P (d + 4)).toFx) gq_cm (e := .cmp .gt (.call 11 [(.sub (.var 3) (.var 8)), (.tup [(.sub (.attr (.var 0) 55) (.var 8)), (.int 1)])] [] []) (.int 0)) (tg := .n 8) (it := .rng [(.var 2)]) (cs := []) (Γ := [.fz W, .fz A, .fz (.int lx), .own (rv lx fun k => smR ly fun i => (a i k : Rat) * y i), .fz (rr bd), z5, z6, .un, .un, .un, .un]) (pk := true) (n := lx) (F := fun k => .int (k : Int))
    (fun k => .bl (decide ((g k : Rat) < smR ly fun i => (a i k : Rat) * y i))) (by simp [show lx ≤ 1000000 by omega]) (by omega) (fun j hj => ⟨_, by simp; rfl, by simp, by simp (disch := omega) [aW1, cc j]⟩)
  have ea := blt_any_vec lx fun k => decide ((g k : Rat) < smR ly fun i => (a i k : Rat) * y i)
  rw [← hS] at e
  generalize ((List.range lx).any fun k => decide ((g k : Rat) < smR ly fun i => (a i k : Rat) * y i)) = an at ea ⊢
  cases an with
  | true => simp [Fb.f_shows, Fb.b_shows, MP.start, aW1, aW2, aW3, aA1, aA2, aA3, s1, es, eb, pb.1, ti, s2, e, ey, ea]
  | false =>
    by_cases q : bd = v * u
    · subst q
      simp [Fb.f_shows, Fb.b_shows, MP.start, aW1, aW2, aW3, aA1, aA2, aA3, s1, es, eb, pb.1, ti, s2, e, ey, ea, tv, pg.1]
    · simp [Fb.f_shows, Fb.b_shows, MP.start, aW1, aW2, aW3, aA1, aA2, aA3, s1, es, eb, pb.1, ti, s2, e, ey, ea, tv, q]
/-- what shows says of a Refused -/
def shR (n m : Nat) (a : Nat → Nat → Int) (b : Nat → Int) (ly : Nat) (y : Nat → Rat) : Bool :=
  decide (ly = m) && ((List.range ly).all fun k => !decide (y k < 0)) && (decide (0 < smR m fun i => (b i : Rat) * y i) && (List.range n).all fun k => !decide (0 < smR m fun i => (a i k : Rat) * y i))
theorem shows_r {n m α β : Nat} {g : Nat → Int} {a : Nat → Nat → Int} {b : Nat → Int} {u : Int} (B : ShB n m α β g a b u) (d ly : Nat) (y : Nat → Rat) (hy : ∀ k, Bd β (y k)) (hn : n ≤ 1000) (hm : m ≤ 1000) (hly : ly ≤ 1000) :
    K P (d + 5) 42 [wishD n m g a b u, rfD ly y] = .ok (.fz (.bl (shR n m a b ly y))) := by
  obtain ⟨f1, f2, f3⟩ := h.f36
  have k3 := h.f38
  have b3 := B.ab
  have b4 := B.a1
  have s1 := are_shares_ok h (d + 2) ly m y (by omega) fun j _ => (hy j).mono (by omega)
  simp only [K] at s1
  refine call_eq h.shows rfl ?_
  unfold shR
  cases c1 : (decide (ly = m) && (List.range ly).all fun k => !decide (y k < 0)) with
  | false =>
    rw [c1] at s1
    simp [Fb.f_shows, Fb.b_shows, MP.start, wishD, rfD, goalD, rowsD, f1, f2, f3, k3, s1]
  | true =>
  rw [c1] at s1
  have lm : ly = m := of_decide_eq_true (Bool.and_eq_true_iff.mp c1).1
  subst lm
  have ti : anyTy (.fz (rfD ly y)) P.sub [.cls 38] = some true := by
    have : isTy (.fz (rfD ly y)) (.cls 38) P.sub = some true := by
      show (if P.sub 38 .tnone then some (38 == 38) else none) = _
      have : P.sub 38 .tnone = true := by show (P.cl 38).isSome = true; rw [h.cr]; rfl
      rw [this]; rfl
    show (match isTy (.fz (rfD ly y)) (.cls 38) P.sub with
      | some true => some true
      | some false => some false
      | none => none) = _
    rw [this]
  obtain ⟨W, hW⟩ : ∃ W, wishD n ly g a b u = W := ⟨_, rfl⟩
  obtain ⟨A, hA⟩ : ∃ A, rfD ly y = A := ⟨_, rfl⟩
  have aW1 : attrD (gq P (d + 4)).toFx 55 (.fz W) = .ok (.fz (.tup (iv n g))) := by rw [← hW]; simp [wishD, goalD, f1]
  have aW2 : attrD (gq P (d + 4)).toFx 52 (.fz W) = .ok (.fz (.tup (vec ly fun i => .tup [.tup (iv n (a i)), .int (b i)]))) := by rw [← hW]; simp [wishD, rowsD, f2]
  have aA3 : attrD (gq P (d + 4)).toFx 59 (.fz A) = .ok (.fz (.tup (rv ly y))) := by rw [← hA]; simp [rfD, k3]
  rw [hA] at ti
  rw [hA, hW]
  have ps : ∀ k, (gq P (d + 4)).call 40 [.lst (iv ly fun i => a i k), .tup (rv ly y)] [] [] = .ok (.fz (rr (smR ly fun i => (a i k : Rat) * y i))) ∧ Bd 3900 (smR ly fun i => (a i k : Rat) * y i) := fun k => by
    have := psum_b h B d ly (.inr (Nat.le_refl _)) (Nat.le_refl _) false (fun i => a i k) y (fun i => B.ha i k) hy (by omega) (by omega)
    simpa only [K, sq, Bool.false_eq_true, if_false] using this
  have pb : (gq P (d + 4)).call 40 [.lst (iv ly b), .tup (rv ly y)] [] [] = .ok (.fz (rr (smR ly fun i => (b i : Rat) * y i))) ∧ Bd 3900 (smR ly fun i => (b i : Rat) * y i) := by
    have := psum_b h B d ly (.inr (Nat.le_refl _)) (Nat.le_refl _) false b y B.hb hy (by omega) (by omega)
    simpa only [K, sq, Bool.false_eq_true, if_false] using this
  have ec1 : ∀ k z9 z10, k < n → @evz (gq P (d + 4)).toFx (.comp (.sub (.sub (.var 9) (.int 0)) (.var 8)) (.n 9) (.attr (.var 0) 52) []) ⟨[.fz W, .fz A, .fz (.int n), .un, .un, .un, .un, .un, .fz (.int (k : Int)), z9, z10]⟩ true = .ok (.own (iv ly fun i => a i k)) := fun k z9 z10 hk =>
    ev_comp gq_cm (n := ly) (F := fun i => .tup [.tup (iv n (a i)), .int (b i)]) (fun i => .int (a i k)) (by simp [aW2]) (by omega) (fun j hj => ⟨_, by simp; rfl, by simp, by simp (disch := omega)⟩)
  have es := ev_comp (X := (gq P (d + 4)).toFx) gq_cm (e := .call 40 [(.comp (.sub (.sub (.var 9) (.int 0)) (.var 8)) (.n 9) (.attr (.var 0) 52) []), (.attr (.var 1) 59)] [] []) (tg := .n 8) (it := .rng [(.var 2)]) (cs := []) (Γ := [.fz W, .fz A, .fz (.int n), .un, .un, .un, .un, .un, .un, .un, .un]) (pk := false) (n := n) (F := fun k => .int (k : Int))
    (fun k => rr (smR ly fun i => (a i k : Rat) * y i)) (by simp [show n ≤ 1000000 by omega]) (by omega) (fun j hj => ⟨[.fz W, .fz A, .fz (.int n), .un, .un, .un, .un, .un, .fz (.int (j : Int)), .un, .un], by simp, by simp, by simp [ec1 j _ _ hj, aA3, (ps j).1]⟩)
  have eb := ev_comp (X := (gq P (d + 4)).toFx) gq_cm (e := .sub (.var 9) (.int 1)) (tg := .n 9) (it := .attr (.var 0) 52) (cs := []) (Γ := [.fz W, .fz A, .fz (.int n), .own (rv n fun k => smR ly fun i => (a i k : Rat) * y i), .un, .un, .un, .un, .un, .un, .un]) (pk := true) (n := ly) (F := fun i => .tup [.tup (iv n (a i)), .int (b i)])
    (fun i => .int (b i)) (by simp [aW2]) (by omega) (fun j hj => ⟨_, by simp; rfl, by simp, by simp⟩)
  obtain ⟨bd, hbd⟩ : ∃ bd, (smR ly fun i => (b i : Rat) * y i) = bd := ⟨_, rfl⟩
  rw [hbd] at pb ⊢
  have cb : (gq P (d + 4)).call 11 [rr bd, rr 0] [] [] = .ok (.fz (.int (cmpv bd 0))) := compare_k h.toHasR (d + 3) (pb.2.mono (by omega)) (Bd.zero (by omega))
  have cc : ∀ k, (gq P (d + 4)).call 11 [rr (smR ly fun i => (a i k : Rat) * y i), rr 0] [] [] = .ok (.fz (.int (cmpv (smR ly fun i => (a i k : Rat) * y i) 0))) := fun k => compare_k h.toHasR (d + 3) ((ps k).2.mono (by omega)) (Bd.zero (by omega))
  have ey := ev_comp (X := (gq P (d + 4)).toFx) gq_cm (e := .cmp .le (.call 11 [(.var 10), (.glob 3)] [] []) (.int 0)) (tg := .n 10) (it := .var 3) (cs := []) (Γ := [.fz W, .fz A, .fz (.int n), .own (rv n fun k => smR ly fun i => (a i k : Rat) * y i), .fz (rr bd), .un, .un, .un, .un, .un, .un]) (pk := true) (n := n) (F := fun k => rr (smR ly fun i => (a i k : Rat) * y i))
    (fun k => .bl (!decide (0 < smR ly fun i => (a i k : Rat) * y i))) (by simp) (by omega) (fun j hj => ⟨_, by simp; rfl, by simp, by simp [h.g3, rr_0, cc j]⟩)
  have ea := blt_all_vec n fun k => !decide (0 < smR ly fun i => (a i k : Rat) * y i)
  generalize ((List.range n).all fun k => !decide (0 < smR ly fun i => (a i k : Rat) * y i)) = an at ea ⊢
  by_cases q : 0 < bd
  · simp [Fb.f_shows, Fb.b_shows, MP.start, aW1, aW2, aA3, s1, es, eb, pb.1, ti, h.g3, rr_0, cb, q, ey, ea]
  · simp [Fb.f_shows, Fb.b_shows, MP.start, aW1, aW2, aA3, s1, es, eb, pb.1, ti, h.g3, rr_0, cb, q]
end
end Sw

end

section
set_option linter.all false
set_option maxRecDepth 100000
/-! The laws' own helpers: sums by top and bottom, columns, ratios. -/
namespace MP
theorem compL_filt {g : List OD → R OD} {f : List OD → R Bool} {tg : T} {Γ : List OD} {n : Nat} {F : Nat → D} (p : Nat → Bool) (G : Nat → OD) (h : ∀ k, k < n → ∃ Γ', setT tg (.fz (F k)) Γ = some Γ' ∧ f Γ' = .ok (p k) ∧ g Γ' = .ok (G k)) : compL g f tg Γ (vec n F) = .ok (((List.range n).filter p).map G) := by
  have key : ∀ m k, k + m = n → compL g f tg Γ ((List.range' k m).map F) = .ok (((List.range' k m).filter p).map G) := by
    intro m
    induction m with
    | zero => intro k _; rfl
    | succ m ih =>
      intro k e
      obtain ⟨Γ', e1, e2, e3⟩ := h k (by omega)
      rw [List.range'_succ, List.map_cons, compL, e1]
      simp only
      rw [e2]
      cases hp : p k with
      | true =>
        simp only
        rw [e3]
        simp only
        rw [ih (k + 1) (by omega), R.bind_ok, List.filter_cons_of_pos hp, List.map_cons]
      | false =>
        simp only
        rw [ih (k + 1) (by omega), List.filter_cons_of_neg (by rw [hp]; exact Bool.false_ne_true)]
  have := key n 0 (by omega)
  rw [← List.range_eq_range'] at this
  exact this
/-- a comprehension with a condition -/
theorem ev_filt {X : Fx} (hc : X.calm = true) {e : E} {tg : T} {it : E} {cs : List E} {Γ : List OD} {pk : Bool} {n : Nat} {F : Nat → D} (p : Nat → Bool) (G : Nat → D) (hi : itemsR (oper (isPath it) (ev X it Γ true)) = .ok (vec n F)) (hn : n ≤ 1000000)
    (h : ∀ k, k < n → ∃ Γ', setT tg (.fz (F k)) Γ = some Γ' ∧ evC X cs Γ' = .ok (p k) ∧ ev X e Γ' false = .ok (.fz (G k)))   : @evz X (.comp e tg it cs) ⟨Γ⟩ pk = .ok (.own (((List.range n).filter p).map G)) := by
  show ev X (.comp e tg it cs) Γ pk = _
  rw [x_comp hc, hi, R.bind_ok, if_neg (by rw [vec_len]; unfold line; omega), compL_filt p (fun k => .fz (G k)) h, R.bind_ok, mkOwn_map]
  rfl
@[simp] theorem isPath_comp (e : E) (t : T) (i : E) (cs : List E) : isPath (.comp e t i cs) = false := nr rfl
@[simp] theorem noFL_pair (i j : Int) : (OD.fz (.tup [.int i, .int j])).noFL = true := nr rfl
@[simp] theorem len_map_filt (p : Nat → Bool) (G : Nat → D) (n : Nat) : (((List.range n).filter p).map G).length = (List.range n).countP p := by rw [List.length_map, ← List.countP_eq_length_filter]
end MP
namespace Sv
open Lr hiding K
theorem num_is (x : Rat) : (x.num : Rat) = x * (x.den : Rat) := by
  have d0 : (x.den : Rat) ≠ 0 := by have := x.den_nz; exact_mod_cast this
  have e := rr_dv x
  rw [dv] at e
  have e2 : (((x.den : Nat) : Int) : Rat) = (x.den : Rat) := rfl
  rw [e2] at e
  grind
/-- a sum's bottom and top, not reduced -/
def smB (z : Nat → Rat) : Nat → Int
  | 0 => 1
  | n + 1 => smB z n * ((z n).den : Int)
def smT (f : Nat → Int) (z : Nat → Rat) : Nat → Int
  | 0 => 0
  | n + 1 => smT f z n * ((z n).den : Int) + f n * (z n).num * smB z n
theorem smB_pos (z : Nat → Rat) : ∀ n, 0 < smB z n
  | 0 => Int.one_pos
  | n + 1 => Int.mul_pos (smB_pos z n) (den_pos _)
theorem smT_is (f : Nat → Int) (z : Nat → Rat) : ∀ n, ((smT f z n : Int) : Rat) = smR n (fun k => (f k : Rat) * z k) * (smB z n : Int)
  | 0 => by simp [smT, smR, smB]
  | n + 1 => by
    have ih := smT_is f z n
    have d0 : ((z n).den : Rat) ≠ 0 := by have := (z n).den_nz; exact_mod_cast this
    have e : ((z n).num : Rat) = z n * ((z n).den : Rat) := num_is _
    rw [smT, smR, smB]
    push_cast
    rw [ih, e]
    grind
theorem smB_lt {β n : Nat} {z : Nat → Rat} (h : ∀ k, Bd β (z k)) : (smB z n).natAbs < 2 ^ (n * β + 1) := by
  have : (smB z n).natAbs ≤ 2 ^ (n * β) := by
    induction n with
    | zero => simp [smB]
    | succ n ih =>
      rw [smB, Int.natAbs_mul, Nat.add_mul, Nat.one_mul, Nat.pow_add]
      exact Nat.mul_le_mul ih (Nat.le_of_lt (h n).2)
  rw [Nat.pow_succ]
  have := Nat.two_pow_pos (n * β)
  omega
theorem smT_lt {α β n : Nat} {f : Nat → Int} {z : Nat → Rat} (hf : ∀ k, (f k).natAbs < 2 ^ α) (h : ∀ k, Bd β (z k)) : (smT f z n).natAbs < 2 ^ (n * (α + β + 2) + 1) := by
  induction n with
  | zero => simp [smT]
  | succ n ih =>
    rw [smT]
    have h1 := lt_mul ih (show ((z n).den : Int).natAbs < 2 ^ β from (h n).2)
    have h2 := lt_mul (lt_mul (hf n) (h n).1) (smB_lt (n := n) h)
    have e1 : n * (α + β + 2) = n * α + n * β + n * 2 := by rw [Nat.mul_add, Nat.mul_add]
    have e2 : (n + 1) * (α + β + 2) = n * (α + β + 2) + (α + β + 2) := by rw [Nat.add_mul, Nat.one_mul]
    exact lt_mono (lt_add (lt_mono h1 (b := n * (α + β + 2) + α + β + 1) (by omega)) (lt_mono h2 (by omega))) (by omega)
theorem smT_gt (f : Nat → Int) (z : Nat → Rat) (n : Nat) (c : Int) : c * smB z n < smT f z n ↔ (c : Rat) < smR n fun k => (f k : Rat) * z k := by
  have hb := cast_pos (smB_pos z n)
  rw [← Rat.intCast_lt_intCast, smT_is]
  push_cast
  exact Rat.mul_lt_mul_right hb
theorem smT_lt' (f : Nat → Int) (z : Nat → Rat) (n : Nat) (c : Int) : smT f z n < c * smB z n ↔ (smR n fun k => (f k : Rat) * z k) < (c : Rat) := by
  have hb := cast_pos (smB_pos z n)
  rw [← Rat.intCast_lt_intCast, smT_is]
  push_cast
  exact Rat.mul_lt_mul_right hb
/-- the same as a ratio's multiple -/
theorem smT_same (f : Nat → Int) (z : Nat → Rat) (n : Nat) (v : Rat) (u : Int) (h : (smR n fun k => (f k : Rat) * z k) = v * u) : smT f z n * (v.den : Int) = v.num * u * smB z n := by
  have e : (v.num : Rat) = v * (v.den : Rat) := num_is _
  have := smT_is f z n
  rw [h] at this
  have : ((smT f z n * (v.den : Int) : Int) : Rat) = ((v.num * u * smB z n : Int) : Rat) := by
    push_cast
    rw [this, e]
    grind
  exact_mod_cast this
end Sv
namespace Sw
open MP Sv
open Lr hiding K
section
variable {P : MP.Prog}
theorem law_sum_ok (h : P.fn 20 = some Fb.f__law_sum) (d n l : Nat) (c : Bool) {α β : Nat} {f : Nat → Int} {z : Nat → Rat} (hn : n ≤ l) (hn2 : n ≤ 1000) (ha : α ≤ 100) (hb : β ≤ 400) (hf : ∀ k, (f k).natAbs < 2 ^ α) (hz : ∀ k, Bd β (z k)) :
    K P (d + 1) 20 [sq c (iv n f), .tup (rv l z)] = .ok (.fz (.tup [.int (smT f z n), .int (smB z n)])) := by
  have lm : ∀ k, k ≤ n → k * (α + β + 2) ≤ 502000 := fun k hk => Nat.le_trans (Nat.mul_le_mul (show k ≤ 1000 by omega) (show α + β + 2 ≤ 502 by omega)) (by omega)
  have lb : ∀ k, k ≤ n → k * β ≤ 400000 := fun k hk => Nat.le_trans (Nat.mul_le_mul (show k ≤ 1000 by omega) hb) (by omega)
  have m1 : ∀ k, k < n → mulOk (smT f z k) ((z k).den : Int) = true := fun k hk => mulOk_of (smT_lt hf hz) (show ((z k).den : Int).natAbs < 2 ^ β from (hz k).2) (by have := lm k (by omega); omega)
  have m2 : ∀ k, k < n → mulOk (f k) (z k).num = true := fun k hk => mulOk_of (hf k) (hz k).1 (by omega)
  have m3 : ∀ k, k < n → mulOk (f k * (z k).num) (smB z k) = true := fun k hk => mulOk_of (lt_mul (hf k) (hz k).1) (smB_lt hz) (by have := lb k (by omega); omega)
  have m4 : ∀ k, k < n → mulOk (smB z k) ((z k).den : Int) = true := fun k hk => mulOk_of (smB_lt hz) (show ((z k).den : Int).natAbs < 2 ^ β from (hz k).2) (by have := lb k (by omega); omega)
  clear lm lb
  obtain ⟨_, e, y, rfl⟩ := forL_inv (body := fun Γ => execs Fb.b__law_sum_1 (gq P d) Γ) (t := .n 4) (n := n) (F := fun k => .int (k : Int)) (Γ0 := [.fz (sq c (iv n f)), .fz (.tup (rv l z)), .fz (.int 0), .fz (.int 1), .un])
    (fun k Γ => ∃ y, Γ = [.fz (sq c (iv n f)), .fz (.tup (rv l z)), .fz (.int (smT f z k)), .fz (.int (smB z k)), y]) ⟨_, rfl⟩ (by
      rintro k _ hk ⟨y, rfl⟩
      refine ⟨[.fz (sq c (iv n f)), .fz (.tup (rv l z)), .fz (.int (smT f z k)), .fz (.int (smB z k)), .fz (.int (k : Int))], [.fz (sq c (iv n f)), .fz (.tup (rv l z)), .fz (.int (smT f z (k + 1))), .fz (.int (smB z (k + 1))), .fz (.int (k : Int))], by simp, .inl ?_, _, rfl⟩
      have e1 : smT f z (k + 1) = smT f z k * ((z k).den : Int) + f k * (z k).num * smB z k := rfl
      have e2 : smB z (k + 1) = smB z k * ((z k).den : Int) := rfl
      simp (disch := omega) [Fb.b__law_sum_1, rr, bin_mul (m1 k hk), bin_mul (m2 k hk), bin_mul (m3 k hk), bin_mul (m4 k hk), e1, e2])
  refine call_eq h rfl ?_
  simp (disch := omega) [Fb.f__law_sum, Fb.b__law_sum, MP.start, e]
theorem law_above_ok (h : P.fn 47 = some Fb.f__law_above) (d l : Nat) (z : Nat → Rat) (hl : l ≤ 1000) : K P (d + 1) 47 [.tup (rv l z)] = .ok (.fz (.int (((List.range l).countP fun k => decide (0 < (z k).num) : Nat) : Int))) := by
  have e := ev_filt (X := (gq P d).toFx) gq_cm (e := .var 1) (tg := .n 1) (it := .var 0) (cs := [(.cmp .gt (.sub (.var 1) (.int 0)) (.int 0))]) (Γ := [.fz (.tup (rv l z)), .un]) (pk := true) (n := l) (F := fun k => rr (z k))
    (fun k => decide (0 < (z k).num)) (fun k => rr (z k)) (by simp) (by omega) (fun j hj => ⟨_, by simp; rfl, by by_cases q : 0 < (z j).num <;> simp [rr, q], by simp⟩)
  refine call_eq h rfl ?_
  simp [Fb.f__law_above, Fb.b__law_above, MP.start, e, List.countP_eq_length_filter]
theorem law_columns_ok (h : P.fn 48 = some Fb.f__law_columns) (h2 : P.fn 20 = some Fb.f__law_sum) (d n m : Nat) (c c2 : Bool) {α β : Nat} {a : Nat → Nat → Int} {b : Nat → Int} {y : Nat → Rat} (hn : n ≤ 1000) (hm : m ≤ 1000) (ha : α ≤ 100) (hb : β ≤ 400) (hf : ∀ i k, (a i k).natAbs < 2 ^ α) (hz : ∀ k, Bd β (y k)) :
    K P (d + 2) 48 [sq c (vec m fun i => .tup [sq c2 (iv n (a i)), .int (b i)]), .tup (rv m y), .int (n : Int)] = .ok (.own (vec n fun k => .tup [.int (smT (fun i => a i k) y m), .int (smB y m)])) := by
  have ps : ∀ k, (gq P (d + 1)).call 20 [.lst (iv m fun i => a i k), .tup (rv m y)] [] [] = .ok (.fz (.tup [.int (smT (fun i => a i k) y m), .int (smB y m)])) := fun k => by
    have := law_sum_ok h2 d m m false (f := fun i => a i k) (Nat.le_refl _) hm ha hb (fun i => hf i k) hz
    simpa only [K, sq, Bool.false_eq_true, if_false] using this
  have ec1 : ∀ k, k < n → @evz (gq P (d + 1)).toFx (.comp (.sub (.sub (.var 4) (.int 0)) (.var 3)) (.n 4) (.var 0) []) ⟨[.fz (sq c (vec m fun i => .tup [sq c2 (iv n (a i)), .int (b i)])), .fz (.tup (rv m y)), .fz (.int n), .fz (.int (k : Int)), .un]⟩ true = .ok (.own (iv m fun i => a i k)) := fun k hk =>
    ev_comp gq_cm (n := m) (F := fun i => .tup [sq c2 (iv n (a i)), .int (b i)]) (fun i => .int (a i k)) (by simp) (by omega) (fun j hj => ⟨_, by simp; rfl, by simp, by simp (disch := omega)⟩)
  have es := fun pk => ev_comp (X := (gq P (d + 1)).toFx) gq_cm (e := .call 20 [(.comp (.sub (.sub (.var 4) (.int 0)) (.var 3)) (.n 4) (.var 0) []), (.var 1)] [] []) (tg := .n 3) (it := .rng [(.var 2)]) (cs := []) (Γ := [.fz (sq c (vec m fun i => .tup [sq c2 (iv n (a i)), .int (b i)])), .fz (.tup (rv m y)), .fz (.int n), .un, .un]) (pk := pk) (n := n) (F := fun k => .int (k : Int))
    (fun k => .tup [.int (smT (fun i => a i k) y m), .int (smB y m)]) (by simp (disch := omega)) (by omega) (fun j hj => ⟨[.fz (sq c (vec m fun i => .tup [sq c2 (iv n (a i)), .int (b i)])), .fz (.tup (rv m y)), .fz (.int n), .fz (.int (j : Int)), .un], by simp, by simp, by simp [ec1 j hj, ps j]⟩)
  refine call_eq h rfl ?_
  simp [Fb.f__law_columns, Fb.b__law_columns, MP.start, es]
/-- .. are ratios, none below zero -/
theorem law_are_ok (h : P.fn 45 = some Fb.f__law_are_ratios) (d l : Nat) (z : Nat → Rat) (hr : ∀ k, k < l → K P (d + 1) 44 [rr (z k)] = .ok (.fz (.bl true))) (hz : ∀ k, k < l → 0 ≤ z k) (hl : l ≤ 1000) : K P (d + 2) 45 [.tup (rv l z), .int (l : Int)] = .ok (.fz (.bl true)) := by
  simp only [K] at hr
  have nn : ∀ k, k < l → ¬ (z k).num < 0 := fun k hk => by
    have := Rat.num_nonneg.mpr (hz k hk)
    omega
  obtain ⟨_, e, y, rfl⟩ := forL_inv (body := fun Γ => execs Fb.b__law_are_ratios_1 (gq P (d + 1)) Γ) (t := .n 2) (n := l) (F := fun k => rr (z k)) (Γ0 := [.fz (.tup (rv l z)), .fz (.int l), .un])
    (fun k Γ => ∃ y, Γ = [.fz (.tup (rv l z)), .fz (.int l), y]) ⟨_, rfl⟩ (by
      rintro k _ hk ⟨y, rfl⟩
      refine ⟨[.fz (.tup (rv l z)), .fz (.int l), .fz (rr (z k))], [.fz (.tup (rv l z)), .fz (.int l), .fz (rr (z k))], by simp, .inl ?_, _, rfl⟩
      have a0 : subD true true (.fz (rr (z k))) 0 = .ok (.fz (.int (z k).num)) := by simp [rr]
      simp [Fb.b__law_are_ratios_1, hr k hk, a0, nn k hk])
  refine call_eq h rfl ?_
  simp [Fb.f__law_are_ratios, Fb.b__law_are_ratios, MP.start, e, anyTy, isTy]
end
end Sw

end

section
set_option linter.all false
set_option maxRecDepth 100000
namespace Lw
open MP PySem PySem.W PySem.Calls PyProof.Rows
def b__law_cell : List S := [(.iff (.cmp .lt (.var 1) (.blt .len [(.var 0)])) [(.ret (.blt .int [(.sub (.var 0) (.var 1))]))] []), (.ret (.bin .add (.bin .mul (.int 13) (.var 1)) (.int 5)))]
def f__law_cell : Fn := ⟨2, 2, [], [], b__law_cell⟩
def b__law_digits_1 : List S := [(.app 3 (.bin .mod (.blt .int [(.var 0)]) (.var 2))), (.asg (.n 0) (.bin .fdiv (.var 0) (.var 2))), (.iff (.orE (.cmp .eq (.var 0) (.int 0)) (.one (.cmp .eq (.var 0) (.neg (.int 1))))) [(.asg (.n 0) (.bin .mod (.blt .int [(.bin .mul (.bin .add (.var 4) (.int 3)) (.int 48271))]) (.int 7919)))] [])]
def b__law_digits : List S := [(.asg (.n 3) (.lst [])), (.forr (.n 4) (.rng [(.var 1)]) b__law_digits_1), (.ret (.var 3))]
def f__law_digits : Fn := ⟨3, 5, [], [], b__law_digits⟩
def b__law_is_ratio_1 : List S := [(.iff (.orE (.notE (.inst (.var 1) [.tint])) (.one (.inst (.var 1) [.tbool]))) [(.ret (.bl false))] [])]
def b__law_is_ratio : List S := [(.iff (.orE (.notE (.inst (.var 0) [.ttuple])) (.one (.cmp .ne (.blt .len [(.var 0)]) (.int 2)))) [(.ret (.bl false))] []), (.forr (.n 1) (.var 0) b__law_is_ratio_1), (.ret (.andE (.cmp .ge (.sub (.var 0) (.int 1)) (.int 1)) (.one (.cmp .eq (.call 14 [(.sub (.var 0) (.int 0)), (.sub (.var 0) (.int 1))] [] []) (.int 1)))))]
def f__law_is_ratio : Fn := ⟨1, 2, [], [], b__law_is_ratio⟩
def b__law_same : List S := [(.ret (.cmp .eq (.bin .mul (.sub (.var 0) (.int 0)) (.sub (.var 1) (.int 1))) (.bin .mul (.sub (.var 1) (.int 0)) (.sub (.var 0) (.int 1)))))]
def f__law_same : Fn := ⟨2, 2, [], [], b__law_same⟩
def b__law_shows_1 : List S := [(.iff (.cmp .gt (.sub (.var 6) (.int 0)) (.int 0)) [(.ret (.bl false))] [])]
def b__law_shows_2 : List S := [(.iff (.cmp .gt (.sub (.sub (.var 4) (.var 7)) (.int 0)) (.bin .mul (.sub (.var 0) (.var 7)) (.sub (.sub (.var 4) (.var 7)) (.int 1)))) [(.ret (.bl false))] [])]
def b__law_shows_3 : List S := [(.asg (.n 10) (.call 20 [(.var 8), (.attr (.var 3) 58)] [] [])), (.iff (.cmp .lt (.sub (.var 10) (.int 0)) (.bin .mul (.var 9) (.sub (.var 10) (.int 1)))) [(.ret (.bl false))] [])]
def b__law_shows : List S := [(.iff (.notE (.call 45 [(.attr (.var 3) 59), (.blt .len [(.var 1)])] [] [])) [(.ret (.bl false))] []), (.asg (.n 4) (.call 48 [(.var 1), (.attr (.var 3) 59), (.blt .len [(.var 0)])] [] [])), (.asg (.n 5) (.call 20 [(.comp (.sub (.var 12) (.int 1)) (.n 12) (.var 1) []), (.attr (.var 3) 59)] [] [])), (.iff (.inst (.var 3) [(.cls 38)]) [(.frz [4]), (.forr (.n 6) (.var 4) b__law_shows_1), (.ret (.andE (.cmp .gt (.sub (.var 5) (.int 0)) (.int 0)) (.one (.cmp .le (.call 47 [(.attr (.var 3) 59)] [] []) (.bin .add (.blt .len [(.var 0)]) (.int 1))))))] []), (.iff (.orE (.notE (.call 45 [(.attr (.var 3) 58), (.blt .len [(.var 0)])] [] [])) (.one (.notE (.call 44 [(.attr (.var 3) 57)] [] [])))) [(.ret (.bl false))] []), (.forr (.n 7) (.rng [(.blt .len [(.var 0)])]) b__law_shows_2), (.forr (.t [(.n 8), (.n 9)]) (.var 1) b__law_shows_3), (.asg (.n 11) (.tup [(.bin .mul (.sub (.attr (.var 3) 57) (.int 0)) (.var 2)), (.sub (.attr (.var 3) 57) (.int 1))])), (.iff (.orE (.notE (.call 46 [(.var 5), (.var 11)] [] [])) (.one (.notE (.call 46 [(.call 20 [(.var 0), (.attr (.var 3) 58)] [] []), (.var 11)] [] [])))) [(.ret (.bl false))] []), (.ret (.andE (.cmp .le (.call 47 [(.attr (.var 3) 58)] [] []) (.blt .len [(.var 1)])) (.one (.cmp .le (.call 47 [(.attr (.var 3) 59)] [] []) (.blt .len [(.var 0)])))))]
def f__law_shows : Fn := ⟨4, 13, [], [], b__law_shows⟩
def b__law_task_1 : List S := [(.asg (.n 8) (.call 43 [(.call 13 [(.var 0), (.bin .add (.int 4) (.var 7))] [] []), (.bin .add (.var 3) (.int 1)), (.var 2)] [] [])), (.asg (.n 9) (.comp (.bin .sub (.var 12) (.bin .fdiv (.var 2) (.int 2))) (.n 12) (.slc (.var 8) .non (.var 3)) [])), (.asg (.n 10) (.bin .sub (.sub (.var 8) (.var 3)) (.bin .fdiv (.var 2) (.int 2)))), (.iff (.cmp .eq (.var 1) (.int 0)) [(.asg (.n 10) (.bin .sub (.blt .sum [(.comp (.bin .mul (.sub (.var 9) (.var 14)) (.sub (.var 5) (.var 14))) (.n 14) (.rng [(.var 3)]) [])]) (.bin .mod (.sub (.var 8) (.var 3)) (.int 5))))] []), (.frz [9]), (.app 6 (.tup [(.var 9), (.var 10)]))]
def b__law_task : List S := [(.asg (.n 2) (.int 19)), (.iff (.cmp .eq (.bin .mod (.bin .fdiv (.blt .int [(.call 13 [(.var 0), (.int 0)] [] [])]) (.int 3)) (.int 8)) (.int 5)) [(.asg (.n 2) (.bin .add (.bin .mul (.int 2) (.bin .pow (.int 10) (.int 12))) (.int 1)))] []), (.asg (.n 3) (.bin .add (.int 1) (.bin .mod (.blt .int [(.call 13 [(.var 0), (.int 1)] [] [])]) (.int 4)))), (.asg (.n 4) (.call 43 [(.call 13 [(.var 0), (.int 2)] [] []), (.var 3), (.int 10)] [] [])), (.asg (.n 5) (.call 43 [(.call 13 [(.var 0), (.int 3)] [] []), (.var 3), (.int 6)] [] [])), (.asg (.n 6) (.lst [])), (.forr (.n 7) (.rng [(.bin .mod (.bin .fdiv (.blt .int [(.call 13 [(.var 0), (.int 1)] [] [])]) (.int 4)) (.int 6))]) b__law_task_1), (.iff (.cmp .eq (.var 1) (.int 1)) [(.asg (.n 11) (.tup [(.call 43 [(.call 13 [(.var 0), (.int 2)] [] []), (.var 3), (.int 7)] [] []), (.int 3)])), (.iff (.cmp .gt (.blt .len [(.var 6)]) (.int 0)) [(.asg (.n 11) (.sub (.var 6) (.bin .mod (.blt .int [(.call 13 [(.var 0), (.int 3)] [] [])]) (.blt .len [(.var 6)]))))] []), (.app 6 (.tup [(.comp (.neg (.var 13)) (.n 13) (.sub (.var 11) (.int 0)) []), (.bin .sub (.int 1) (.sub (.var 11) (.int 1)))])), (.iff (.cmp .eq (.blt .len [(.var 6)]) (.int 1)) [(.app 6 (.var 11))] [])] []), (.frz [4, 5, 6]), (.ret (.tup [(.var 4), (.var 6), (.var 5)]))]
def f__law_task : Fn := ⟨2, 15, [], [], b__law_task⟩
def b__law_changed : List S := [(.asg (.n 2) (.blt .list [(.attr (.var 0) 59)])), (.iff (.cmp .gt (.blt .len [(.var 2)]) (.int 0)) [(.set 2 (.bin .mod (.blt .int [(.var 1)]) (.blt .len [(.var 2)])) (.tup [(.neg (.int 1)), (.int 1)]))] []), (.asg (.n 3) (.bin .add (.blt .list [(.attr (.var 0) 59)]) (.lst [(.tup [(.int 0), (.int 1)])]))), (.iff (.inst (.var 0) [(.cls 38)]) [(.ret (.lst [(.mk 38 [(.var 2)]), (.mk 38 [(.var 3)])]))] []), (.asg (.n 4) (.blt .list [(.attr (.var 0) 58)])), (.set 4 (.bin .mod (.blt .int [(.var 1)]) (.blt .len [(.var 4)])) (.tup [(.neg (.int 1)), (.int 1)])), (.asg (.n 5) (.tup [(.bin .add (.sub (.attr (.var 0) 57) (.int 0)) (.sub (.attr (.var 0) 57) (.int 1))), (.sub (.attr (.var 0) 57) (.int 1))])), (.asg (.n 6) (.lst [(.mk 37 [(.var 5), (.attr (.var 0) 58), (.attr (.var 0) 59)]), (.mk 37 [(.attr (.var 0) 57), (.var 4), (.attr (.var 0) 59)])])), (.app 6 (.mk 37 [(.attr (.var 0) 57), (.bin .add (.blt .list [(.attr (.var 0) 58)]) (.lst [(.tup [(.int 0), (.int 1)])])), (.attr (.var 0) 59)])), (.app 6 (.mk 37 [(.attr (.var 0) 57), (.attr (.var 0) 58), (.var 3)])), (.iff (.cmp .gt (.blt .len [(.var 2)]) (.int 0)) [(.app 6 (.mk 37 [(.attr (.var 0) 57), (.attr (.var 0) 58), (.var 2)]))] []), (.ret (.var 6))]
def f__law_changed : Fn := ⟨2, 7, [], [], b__law_changed⟩
def b_law_1 : List S := [(.iff (.isB (.call 42 [(.var 7), (.var 10)] [] []) false false) [(.ret (.bl false))] [])]
def b_law : List S := [(.asg (.n 1) (.bin .mod (.blt .int [(.call 13 [(.var 0), (.int 0)] [] [])]) (.int 3))), (.asg (.t [(.n 2), (.n 3), (.n 4)]) (.call 50 [(.var 0), (.var 1)] [] [])), (.asg (.n 5) (.bin .add (.int 1) (.bin .mod (.bin .fdiv (.blt .int [(.call 13 [(.var 0), (.int 1)] [] [])]) (.int 24)) (.int 5)))), (.asg (.n 6) (.lst [(.blt .list [(.var 2)]), (.comp (.tup [(.blt .list [(.sub (.var 11) (.int 0))]), (.sub (.var 11) (.int 1))]) (.n 11) (.var 3) [])])), (.asg (.n 7) (.mk 36 [(.var 2), (.var 3), (.var 5)])), (.asg (.n 8) (.call 39 [(.var 7)] [] [])), (.iff (.orE (.cmp .ne (.var 2) (.sub (.var 6) (.int 0))) (.one (.cmp .ne (.var 3) (.sub (.var 6) (.int 1))))) [(.ret (.bl false))] []), (.iff (.orE (.cmp .eq (.inst (.var 8) [(.cls 37)]) (.inst (.var 8) [(.cls 38)])) (.one (.notE (.call 49 [(.var 2), (.var 3), (.var 5), (.var 8)] [] [])))) [(.ret (.bl false))] []), (.iff (.andE (.cmp .eq (.var 1) (.int 1)) (.one (.notE (.inst (.var 8) [(.cls 38)])))) [(.ret (.bl false))] []), (.iff (.cmp .eq (.var 1) (.int 0)) [(.iff (.notE (.inst (.var 8) [(.cls 37)])) [(.ret (.bl false))] []), (.asg (.n 9) (.blt .sum [(.comp (.bin .mul (.sub (.var 2) (.var 12)) (.sub (.var 4) (.var 12))) (.n 12) (.rng [(.blt .len [(.var 2)])]) [])])), (.iff (.cmp .gt (.bin .mul (.sub (.attr (.var 8) 57) (.int 0)) (.var 5)) (.bin .mul (.var 9) (.sub (.attr (.var 8) 57) (.int 1)))) [(.ret (.bl false))] [])] []), (.iff (.orE (.isB (.call 42 [(.var 7), (.var 8)] [] []) true false) (.one (.cmp .ne (.attr (.call 39 [(.mk 36 [(.var 2), (.var 3), (.var 5)])] [] []) 59) (.attr (.var 8) 59)))) [(.ret (.bl false))] []), (.forr (.n 10) (.call 51 [(.var 8), (.bin .mod (.blt .int [(.call 13 [(.var 0), (.int 3)] [] [])]) (.int 7))] [] []) b_law_1), (.ret (.bl true))]
def f_law : Fn := ⟨1, 13, [], [], b_law⟩
def top (i : Nat) : Stmt := PySem.Challenge.pw_paidforsigns_k01_granted_or_refused.main.body.getD i (.Pass ⟨0, 0, 0, 0⟩)
def memb : Stmt → Nat → Stmt
  | .ClassDef _ _ _ body _ _ _ _ _ _ _, j => body.getD j (.Pass ⟨0, 0, 0, 0⟩)
  | s, _ => s
def iniOf : Stmt → Stmt
  | .ClassDef _ _ _ body _ _ _ _ _ _ _ => body.headD (.Pass ⟨0, 0, 0, 0⟩)
  | s => s
def prog : PD := { nms := List.map (fun q => (q.1, PySem.Str.ofString q.2)) [(1, "SignsError"), (2, "BadRatio"), (24, "TooMany"), (26, "BadWish"), (3, "ZERO"), (5, "ratio"), (7, "plus"), (9, "times"), (11, "compare"), (12, "total"), (27, "first_table"), (28, "negative_row"), (29, "comes_before"), (30, "entering_column"), (31, "exchange"), (32, "at_slacks"), (33, "solve"), (34, "UNKNOWNS"), (35, "ROWS"), (36, "Wish"), (37, "Granted"), (38, "Refused"), (39, "ask"), (40, "product_sum"), (41, "are_shares"), (42, "shows"), (13, "_law_cell"), (43, "_law_digits"), (14, "_law_shared"), (44, "_law_is_ratio"), (45, "_law_are_ratios"), (20, "_law_sum"), (46, "_law_same"), (47, "_law_above"), (48, "_law_columns"), (49, "_law_shows"), (50, "_law_task"), (51, "_law_changed"), (21, "law"), (55, "goal"), (52, "rows"), (56, "unit"), (59, "weights"), (58, "point"), (57, "value"), (969, "Wish.__init__"), (970, "Granted.__init__"), (971, "Refused.__init__"), (53, "limit"), (54, "part")], fns := [(5, Fb.f_ratio), (7, Fb.f_plus), (9, Fb.f_times), (11, Fb.f_compare), (12, Fb.f_total), (27, Fb.f_first_table), (28, Fb.f_negative_row), (29, Fb.f_comes_before), (30, Fb.f_entering_column), (31, Fb.f_exchange), (32, Fb.f_at_slacks), (33, Fb.f_solve), (39, Fb.f_ask), (40, Fb.f_product_sum), (41, Fb.f_are_shares), (42, Fb.f_shows), (13, f__law_cell), (43, f__law_digits), (14, Fb.f__law_shared), (44, f__law_is_ratio), (45, Fb.f__law_are_ratios), (20, Fb.f__law_sum), (46, f__law_same), (47, Fb.f__law_above), (48, Fb.f__law_columns), (49, f__law_shows), (50, f__law_task), (51, f__law_changed), (21, f_law), (969, Fb.f_Wish___init__), (970, Fb.f_Granted___init__), (971, Fb.f_Refused___init__)], xcs := [(1, ⟨[], none⟩), (2, ⟨[1], none⟩), (24, ⟨[1], some 53⟩), (26, ⟨[1], some 54⟩)], cls := [(36, ⟨969, [55, 52, 56], []⟩), (37, ⟨970, [57, 58, 59], []⟩), (38, ⟨971, [59], []⟩)], gvs := [(3, (.tup [(.int 0), (.int 1)])), (34, (.int 18)), (35, (.int 40))], wide := 10000000000000000000000000000000000000000, bl := [.abs, .all, .any, .gcd, .int, .len, .list, .min, .sum, .tuple], ty := [(.cls 38), .ttuple, .tbool, .tint, (.cls 37), (.exc 1), (.exc 2), (.exc 24), (.exc 26)], ex := [2], exf := [24, 26], file := PySem.Challenge.pw_paidforsigns_k01_granted_or_refused.main.file, mts := [(969, (36, "__init__")), (970, (37, "__init__")), (971, (38, "__init__"))] }
def dds : List Dd := [⟨5, top 8, ["top", "bottom", "shared"]⟩, ⟨7, top 9, ["first", "second"]⟩, ⟨9, top 10, ["first", "second"]⟩, ⟨11, top 11, ["first", "second", "difference"]⟩, ⟨12, top 12, ["ratios", "found", "each"]⟩, ⟨27, top 14, ["goal", "rows", "size", "table", "k", "coefficients", "bound", "j"]⟩, ⟨28, top 15, ["table", "place"]⟩, ⟨29, top 16, ["table", "row", "column", "other", "line", "left", "right"]⟩, ⟨30, top 17, ["table", "row", "best", "column"]⟩, ⟨31, top 18, ["table", "scale", "row", "column", "pivot", "lead", "place", "line", "part", "k"]⟩, ⟨32, top 19, ["numbers", "outer", "size", "many", "found", "place", "variable"]⟩, ⟨33, top 20, ["goal", "rows", "size", "many", "table", "outer", "scale", "row", "column", "weights", "point", "k", "number"]⟩, ⟨39, top 27, ["wish", "answer", "scale", "weights", "point", "weight", "number"]⟩, ⟨40, top 28, ["numbers", "ratios", "k"]⟩, ⟨41, top 29, ["ratios", "many", "each"]⟩, ⟨42, top 30, ["wish", "answer", "size", "sums", "bound", "coefficients", "least_sum", "value", "k", "row", "each"]⟩, ⟨13, top 32, ["script", "k"]⟩, ⟨43, top 33, ["cell", "many", "size", "digits", "k"]⟩, ⟨14, top 34, ["first", "second", "k", "rest"]⟩, ⟨44, top 35, ["told", "part"]⟩, ⟨45, top 36, ["told", "many", "each"]⟩, ⟨20, top 37, ["numbers", "ratios", "top", "bottom", "k"]⟩, ⟨46, top 38, ["pair", "other"]⟩, ⟨47, top 39, ["ratios", "each"]⟩, ⟨48, top 40, ["rows", "weights", "many", "k", "row"]⟩, ⟨49, top 41, ["goal", "rows", "unit", "answer", "columns", "bound", "pair", "k", "coefficients", "least_sum", "reached", "value", "row"]⟩, ⟨50, top 42, ["script", "kind", "size", "many", "goal", "point", "rows", "k", "digits", "coefficients", "bound", "chosen", "digit", "number", "j"]⟩, ⟨51, top 43, ["answer", "place", "weights", "longer", "point", "value", "changed"]⟩, ⟨21, top 44, ["script", "kind", "goal", "rows", "point", "unit", "kept", "wish", "answer", "reached", "wrong", "row", "k"]⟩, ⟨969, memb (top 24) 0, ["self", "goal", "rows", "unit", "row"]⟩, ⟨970, memb (top 25) 0, ["self", "value", "point", "weights"]⟩, ⟨971, memb (top 26) 0, ["self", "weights"]⟩]
def eds : List Ed := [⟨24, 53, iniOf (top 4)⟩, ⟨26, 54, iniOf (top 5)⟩]
def lawIx : Nat := 44
def lawNo : Nat := 21
def loose : List PySem.Str := List.map PySem.Str.ofString ["SignsError", "BadRatio", "TooMany", "BadWish", "ZERO", "ratio", "plus", "times", "compare", "total", "first_table", "negative_row", "comes_before", "entering_column", "exchange", "at_slacks", "solve", "UNKNOWNS", "ROWS", "Wish", "Granted", "Refused", "ask", "product_sum", "are_shares", "shows", "_law_cell", "_law_digits", "_law_shared", "_law_is_ratio", "_law_are_ratios", "_law_sum", "_law_same", "_law_above", "_law_columns", "_law_shows", "_law_task", "_law_changed"]
end Lw

end

section
set_option linter.all false
set_option maxRecDepth 100000
namespace Lw
open MP Sv Sw
open Lr hiding K
structure HasM (P : MP.Prog) : Prop extends HasA P where
  cell : P.fn 13 = some f__law_cell
  dig : P.fn 43 = some f__law_digits
  sh : P.fn 14 = some Fb.f__law_shared
  isr : P.fn 44 = some f__law_is_ratio
  are : P.fn 45 = some Fb.f__law_are_ratios
  sum : P.fn 20 = some Fb.f__law_sum
  same : P.fn 46 = some f__law_same
  above : P.fn 47 = some Fb.f__law_above
  cols : P.fn 48 = some Fb.f__law_columns
  lsh : P.fn 49 = some f__law_shows
  task : P.fn 50 = some f__law_task
  chg : P.fn 51 = some f__law_changed
def cl (ns : List Int) (k : Nat) : Int := if h : k < ns.length then ns[k] else 13 * k + 5
theorem iv_snoc (k : Nat) (f : Nat → Int) (d : Int) : iv k f ++ [.int d] = iv (k + 1) fun j => if j = k then d else f j := by
  unfold iv
  rw [vec_snoc]
  simp only [if_true]
  congr 1
  exact vec_congr fun j hj => by rw [if_neg (by omega)]
section
variable {P : MP.Prog} (h : HasM P)
include h
theorem cell_ok (n : Nat) (ns : List Int) (k : Nat) (hk : k < 1000) : K P (n + 1) 13 [.scr ns, .int (k : Int)] = .ok (.fz (.int (cl ns k))) := by
  refine call_eq h.cell rfl ?_
  unfold cl
  by_cases hl : k < ns.length
  · have h' : (k : Int) < (ns.length : Int) := by omega
    simp [f__law_cell, MP.start, b__law_cell, hl, h', atI_nat]
  · have h' : ¬ (k : Int) < (ns.length : Int) := by omega
    have m : mulOk 13 (k : Int) = true := mulOk_l (by decide)
    simp [f__law_cell, MP.start, b__law_cell, hl, h', bin_mul m]
theorem digits_ok (d : Nat) (cell : Int) (n : Nat) (size : Int) (hn : n ≤ 1000) (hs : 0 < size) (h2 : size.natAbs < 2 ^ 8000) :
    ∃ f : Nat → Int, K P (d + 1) 43 [.int cell, .int (n : Int), .int size] = .ok (.own (iv n f)) ∧ ∀ k, 0 ≤ f k ∧ f k < size := by
  have z0 : size ≠ 0 := by omega
  have d0 : divOk size = true := divOk_of z0 (lt_mono h2 (by decide))
  clear h2
  obtain ⟨_, e, f, c, y, hf, rfl⟩ := forL_inv (body := fun Γ => execs b__law_digits_1 (gq P d) Γ) (t := .n 4) (n := n) (F := fun k => .int (k : Int)) (Γ0 := [.fz (.int cell), .fz (.int n), .fz (.int size), .own [], .un])
    (fun k Γ => ∃ (f : Nat → Int) (c : Int) (y : OD), (∀ k, 0 ≤ f k ∧ f k < size) ∧ Γ = [.fz (.int c), .fz (.int n), .fz (.int size), .own (iv k f), y]) ⟨fun _ => 0, cell, .un, fun _ => ⟨Int.le_refl _, hs⟩, rfl⟩ (by
      rintro k _ hk ⟨f, c, y, hf, rfl⟩
      have bd := fmod_bd c hs
      have m3 : mulOk ((k : Int) + 3) 48271 = true := mulOk_r (by decide)
      have m4 : (7919 : Int) ≠ 0 := by decide
      by_cases q : c.fdiv size = 0 ∨ c.fdiv size = -1
      · refine ⟨_, [.fz (.int ((((k : Int) + 3) * 48271).fmod 7919)), .fz (.int n), .fz (.int size), .own (iv k f ++ [.int (c.fmod size)]), .fz (.int (k : Int))], by simp; rfl, .inl ?_, _, _, _, fun j => ?_, by rw [iv_snoc]⟩
        · rcases q with q | q <;> simp [b__law_digits_1, show k < 1000000 by omega, bin_mod z0, bin_fdiv d0, q, bin_mul m3, bin_mod m4]
        · split
          · exact bd
          · exact hf j
      · refine ⟨_, [.fz (.int (c.fdiv size)), .fz (.int n), .fz (.int size), .own (iv k f ++ [.int (c.fmod size)]), .fz (.int (k : Int))], by simp; rfl, .inl ?_, _, _, _, fun j => ?_, by rw [iv_snoc]⟩
        · have q1 : ¬ c.fdiv size = 0 := fun z => q (.inl z)
          have q2 : ¬ c.fdiv size = -1 := fun z => q (.inr z)
          simp [b__law_digits_1, show k < 1000000 by omega, bin_mod z0, bin_fdiv d0, q1, q2]
        · split
          · exact bd
          · exact hf j)
  refine ⟨f, call_eq h.dig rfl ?_, hf⟩
  simp (disch := omega) [f__law_digits, b__law_digits, MP.start, e]
theorem isr_ok (d : Nat) (x : Rat) {k : Nat} (hk : k ≤ 8000) (hx : Bd k x) : K P (d + 2) 44 [rr x] = .ok (.fz (.bl true)) := by
  have e := shared_ok h.sh d (a := x.num) (b := x.den) k (by omega) hx.2
  unfold Lr.K at e
  rw [← gq_eq] at e
  have g1 : x.num.natAbs.gcd x.den = 1 := x.reduced
  rw [g1] at e
  clear hx
  have dp := den_pos x
  have dp1 : (1 : Int) ≤ (x.den : Int) := by omega
  obtain ⟨_, l, y, rfl⟩ := forL_inv (body := fun Γ => execs b__law_is_ratio_1 (gq P (d + 1)) Γ) (t := .n 1) (n := 2) (F := fun k => if k = 0 then .int x.num else .int (x.den : Int)) (Γ0 := [.fz (rr x), .un])
    (fun k Γ => ∃ y, Γ = [.fz (rr x), y]) ⟨_, rfl⟩ (by
      rintro k _ hk ⟨y, rfl⟩
      refine ⟨_, [.fz (rr x), .fz (if k = 0 then .int x.num else .int (x.den : Int))], by simp; rfl, .inl ?_, _, rfl⟩
      split <;> simp [b__law_is_ratio_1, anyTy, isTy])
  have v2 : (vec 2 fun k => if k = 0 then D.int x.num else .int (x.den : Int)) = [.int x.num, .int (x.den : Int)] := rfl
  rw [v2] at l
  refine call_eq h.isr rfl ?_
  unfold rr at l ⊢
  simp [f__law_is_ratio, b__law_is_ratio, MP.start, anyTy, isTy, l, e, dp1]
theorem same_ok (d : Nat) {a b c e : Int} (m1 : mulOk a e = true) (m2 : mulOk c b = true) (q : a * e = c * b) : K P (d + 1) 46 [.tup [.int a, .int b], .tup [.int c, .int e]] = .ok (.fz (.bl true)) := by
  refine call_eq h.same rfl ?_
  simp [f__law_same, b__law_same, MP.start, bin_mul m1, bin_mul m2, q]
end
end Lw

end

section
set_option linter.all false
set_option maxRecDepth 100000
namespace MP
@[simp] theorem sum_vec (n : Nat) (f : Nat → Int) : bltD .sum [.lst (vec n fun k => .int (f k))] = .ok (.fz (.int (Sv.sm n f))) := by
  have e : (vec n fun k => D.int (f k)) = ((List.range n).map f).map D.int := by unfold vec; rw [List.map_map]; rfl
  have s : ((List.range n).map f).sum = Sv.sm n f := by
    induction n with
    | zero => rfl
    | succ n ih =>
      rw [List.range_succ, List.map_append, List.sum_append, ih (by unfold vec; rw [List.map_map]; rfl)]
      simp [Sv.sm]
  show (R.ofO (seqInts _)).map _ = _
  rw [e]
  show (R.ofO (D.ints _)).map _ = _
  rw [ints_map]
  show R.ok (OD.fz (.int _)) = _
  rw [s]
@[simp] theorem isNon_0 : isNon .non = true := nr rfl
@[simp] theorem isNon_1 (i : Nat) : isNon (.var i) = false := nr rfl
@[simp] theorem isNon_2 (i : Int) : isNon (.int i) = false := nr rfl
@[simp] theorem part_0 (r : R D) : part true r = .ok none := nr rfl
@[simp] theorem part_1 (i : Int) : part false (.ok (.int i)) = .ok (some i) := nr rfl
theorem slc_vec {l n : Nat} (F : Nat → D) (h : n ≤ l) : slcD (.lst (vec l F)) none (some (n : Int)) = .ok (.own (vec n F)) := by
  show R.ok (OD.own (cutL _ _ _)) = _
  rw [cutL_take]
  unfold vec
  rw [← List.map_take, List.take_range, Nat.min_eq_left h]
end MP
namespace Sv
theorem sm_ab {n : Nat} {f : Nat → Int} {C : Nat} (h : ∀ k, (f k).natAbs ≤ C) : (sm n f).natAbs ≤ n * C := by
  induction n with
  | zero => simp [sm]
  | succ n ih =>
    rw [sm, Nat.add_mul, Nat.one_mul]
    have := h n
    omega
end Sv
namespace Lw
open MP Sv Sw
open Lr hiding K
abbrev rowL (n m : Nat) (a : Nat → Nat → Int) (b : Nat → Int) : List D := vec m fun i => .tup [.lst (iv n (a i)), .int (b i)]
structure Task (kind : Int) (n m : Nat) (g : Nat → Int) (a : Nat → Nat → Int) (b p : Nat → Int) : Prop where
  n1 : 1 ≤ n
  n4 : n ≤ 4
  m7 : m ≤ 7
  g0 : ∀ k, 0 ≤ g k ∧ g k < 10
  ha : ∀ i k, (a i k).natAbs ≤ 10 ^ 13
  hb : ∀ i, (b i).natAbs ≤ 10 ^ 13 * 3
  p0 : ∀ k, 0 ≤ p k ∧ p k < 6
  k0 : kind = 0 → ∀ i, i < m → b i ≤ sm n fun k => a i k * p k
  k1 : kind = 1 → ∃ i j, i < m ∧ j < m ∧ (∀ k, a j k = - a i k) ∧ b j = 1 - b i
theorem rowL_snoc (n m : Nat) (a : Nat → Nat → Int) (b : Nat → Int) (f : Nat → Int) (x : Int) : rowL n m a b ++ [.tup [.lst (iv n f), .int x]] = rowL n (m + 1) (fun i => if i = m then f else a i) fun i => if i = m then x else b i := by
  unfold rowL
  rw [vec_snoc]
  simp only [if_true]
  congr 1
  exact vec_congr fun j hj => by rw [if_neg (by omega), if_neg (by omega)]
/-- the rows drawn -/
structure Rows (kind : Int) (n m : Nat) (a : Nat → Nat → Int) (b p : Nat → Int) : Prop where
  ha : ∀ i k, (a i k).natAbs ≤ 10 ^ 12
  hb : ∀ i, (b i).natAbs ≤ 10 ^ 13 * 2 + 10
  k0 : kind = 0 → ∀ i, i < m → b i ≤ sm n fun k => a i k * p k
section
variable {P : MP.Prog} (h : HasM P)
include h
theorem rows_loop (d : Nat) (ns : List Int) (kind size : Int) (n r : Nat) (g p : Nat → Int) (hs : 0 < size) (hs2 : size ≤ 2 * 10 ^ 12 + 1) (hn : n ≤ 4) (hr : r ≤ 5) (hp : ∀ k, 0 ≤ p k ∧ p k < 6) :
    ∃ a b y7 y8 y9 y10, @forLz (fun Γ => execs b__law_task_1 (gq P (d + 1)) Γ) (.n 7) ⟨vec r fun k => .int (k : Int)⟩ ⟨[.fz (.scr ns), .fz (.int kind), .fz (.int size), .fz (.int n), .own (iv n g), .own (iv n p), .own [], .un, .un, .un, .un, .un, .un, .un, .un]⟩ =
      .ok .nx [.fz (.scr ns), .fz (.int kind), .fz (.int size), .fz (.int n), .own (iv n g), .own (iv n p), .own (rowL n r a b), y7, y8, y9, y10, .un, .un, .un, .un] ∧ Rows kind n r a b p := by
  have dd : divOk 2 = true := by decide
  have d5 : (5 : Int) ≠ 0 := by decide
  have hf : size.fdiv 2 = size / 2 := Int.fdiv_eq_ediv_of_nonneg _ (by decide)
  obtain ⟨_, e, a, b, y7, y8, y9, y10, R, rfl⟩ := forL_inv (body := fun Γ => execs b__law_task_1 (gq P (d + 1)) Γ) (t := .n 7) (n := r) (F := fun k => .int (k : Int)) (Γ0 := [.fz (.scr ns), .fz (.int kind), .fz (.int size), .fz (.int n), .own (iv n g), .own (iv n p), .own [], .un, .un, .un, .un, .un, .un, .un, .un])
    (fun k Γ => ∃ a b y7 y8 y9 y10, Rows kind n k a b p ∧ Γ = [.fz (.scr ns), .fz (.int kind), .fz (.int size), .fz (.int n), .own (iv n g), .own (iv n p), .own (rowL n k a b), y7, y8, y9, y10, .un, .un, .un, .un]) ⟨fun _ _ => 0, fun _ => 0, .un, .un, .un, .un, ⟨by simp, by simp, fun _ i hi => by omega⟩, rfl⟩ (by
      rintro k _ hk ⟨a, b, y7, y8, y9, y10, R, rfl⟩
      have ec := cell_ok h d ns (4 + k) (by omega)
      have ec' : (gq P (d + 1)).call 13 [.scr ns, .int (4 + (k : Int))] [] [] = .ok (.fz (.int (cl ns (4 + k)))) := by
        have : ((4 + k : Nat) : Int) = 4 + (k : Int) := by omega
        rw [this] at ec
        exact ec
      obtain ⟨f, ed, hf2⟩ := digits_ok h d (cl ns (4 + k)) (n + 1) size (by omega) hs (by
        have : (2 : Nat) ^ 64 ≤ 2 ^ 8000 := Nat.pow_le_pow_right (by decide) (by decide)
        omega)
      have ed' : (gq P (d + 1)).call 43 [.int (cl ns (4 + k)), .int ((n : Int) + 1), .int size] [] [] = .ok (.own (iv (n + 1) f)) := by
        have : ((n + 1 : Nat) : Int) = (n : Int) + 1 := by omega
        rw [this] at ed
        exact ed
      generalize cl ns (4 + k) = c at *
      have cb : ∀ j, (f j - size / 2).natAbs ≤ 10 ^ 12 := fun j => by have := hf2 j; omega
      have e9 := ev_comp (X := (gq P (d + 1)).toFx) gq_cm (e := .bin .sub (.var 12) (.bin .fdiv (.var 2) (.int 2))) (tg := .n 12) (it := .slc (.var 8) .non (.var 3)) (cs := []) (Γ := [.fz (.scr ns), .fz (.int kind), .fz (.int size), .fz (.int n), .own (iv n g), .own (iv n p), .own (rowL n k a b), .fz (.int (k : Int)), .own (iv (n + 1) f), y9, y10, .un, .un, .un, .un]) (pk := false) (n := n) (F := fun j => .int (f j))
        (fun j => .int (f j - size / 2)) (by simp [slc_vec (fun j => .int (f j)) (show n ≤ n + 1 by omega)]) (by omega) (fun j hj => ⟨_, by simp; rfl, by simp, by simp [bin_fdiv dd, hf]⟩)
      by_cases q : kind = 0
      · have em : ∀ j, mulOk (f j - size / 2) (p j) = true := fun j => mulOk_r (by have := hp j; omega)
        have e10 := ev_comp (X := (gq P (d + 1)).toFx) gq_cm (e := .bin .mul (.sub (.var 9) (.var 14)) (.sub (.var 5) (.var 14))) (tg := .n 14) (it := .rng [(.var 3)]) (cs := []) (Γ := [.fz (.scr ns), .fz (.int kind), .fz (.int size), .fz (.int n), .own (iv n g), .own (iv n p), .own (rowL n k a b), .fz (.int (k : Int)), .own (iv (n + 1) f), .own (iv n fun j => f j - size / 2), .fz (.int (f n - size / 2)), .un, .un, .un, .un]) (pk := true) (n := n) (F := fun j => .int (j : Int))
          (fun j => .int ((f j - size / 2) * p j)) (by simp (disch := omega)) (by omega) (fun j hj => ⟨_, by simp; rfl, by simp, by simp (disch := omega) [bin_mul (em j)]⟩)
        have b5 := fmod_bd (f n) (m := 5) (by decide)
        have sb : (sm n fun j => (f j - size / 2) * p j).natAbs ≤ n * (10 ^ 12 * 5) := sm_ab fun j => by
          rw [Int.natAbs_mul]
          exact Nat.mul_le_mul (cb j) (by have := hp j; omega)
        have sb2 : n * (10 ^ 12 * 5) ≤ 4 * (10 ^ 12 * 5) := Nat.mul_le_mul hn (Nat.le_refl _)
        refine ⟨_, [.fz (.scr ns), .fz (.int kind), .fz (.int size), .fz (.int n), .own (iv n g), .own (iv n p), .own (rowL n k a b ++ [.tup [.lst (iv n fun j => f j - size / 2), .int ((sm n fun j => (f j - size / 2) * p j) - (f n).fmod 5)]]), .fz (.int (k : Int)), .own (iv (n + 1) f), .fz (.lst (iv n fun j => f j - size / 2)), .fz (.int ((sm n fun j => (f j - size / 2) * p j) - (f n).fmod 5)), .un, .un, .un, .un], by simp; rfl, .inl ?_, _, _, _, _, _, _, ?_, by rw [rowL_snoc]⟩
        · subst q
          simp [b__law_task_1, ec', ed', e9, bin_fdiv dd, hf, e10, bin_mod d5, show n < n + 1 by omega, show k < 1000000 by omega]
        · refine ⟨fun i j => ?_, fun i => ?_, fun _ i hi => ?_⟩
          · skip
            split
            · exact cb j
            · exact R.ha i j
          · skip
            split
            · omega
            · exact R.hb i
          · skip
            by_cases e : i = k
            · simp only [if_pos e]; omega
            · simp only [if_neg e]; exact R.k0 q i (by omega)
      · refine ⟨_, [.fz (.scr ns), .fz (.int kind), .fz (.int size), .fz (.int n), .own (iv n g), .own (iv n p), .own (rowL n k a b ++ [.tup [.lst (iv n fun j => f j - size / 2), .int (f n - size / 2)]]), .fz (.int (k : Int)), .own (iv (n + 1) f), .fz (.lst (iv n fun j => f j - size / 2)), .fz (.int (f n - size / 2)), .un, .un, .un, .un], by simp; rfl, .inl ?_, _, _, _, _, _, _, ?_, by rw [rowL_snoc]⟩
        · simp [b__law_task_1, ec', ed', e9, bin_fdiv dd, hf, q, show n < n + 1 by omega, show k < 1000000 by omega]
        · refine ⟨fun i j => ?_, fun i => ?_, fun z => absurd z q⟩
          · skip
            split
            · exact cb j
            · exact R.ha i j
          · skip
            split
            · have := cb n; omega
            · exact R.hb i)
  exact ⟨a, b, y7, y8, y9, y10, e, R⟩
end
end Lw

end

section
set_option linter.all false
set_option maxRecDepth 100000
namespace MP
theorem fmod_nat (x : Int) (m : Nat) (h : 0 < m) : ∃ k : Nat, x.fmod (m : Int) = (k : Int) ∧ k < m := by
  have b := Lr.fmod_bd x (m := (m : Int)) (by omega)
  exact ⟨(x.fmod m).toNat, by omega, by omega⟩
theorem execs_app (X : Gx) : ∀ (a b : List S) (Γ : List OD), execs (a ++ b) X Γ = (execs a X Γ).seq fun Γ' => execs b X Γ'
  | [], b, Γ => by rw [List.nil_append, y_nil]; rfl
  | s :: a, b, Γ => by
    rw [List.cons_append, y_cons, y_cons]
    cases e : exec s X Γ with
    | ok f Γ' =>
      cases f with
      | nx => exact execs_app X a b Γ'
      | _ => rfl
    | ex c p Γ' => rfl
    | bad => rfl
theorem run_app {X : Gx} {a b : List S} {Γ Γ' : List OD} {r : XR} (h : execs a X Γ = .ok .nx Γ') (h2 : execs b X Γ' = r) : execs (a ++ b) X Γ = r := by
  rw [execs_app, h]
  exact h2
end MP
namespace Lw
open MP Sv Sw
open Lr hiding K
section
variable {P : MP.Prog} (h : HasM P)
include h
theorem task_pre (d : Nat) (ns : List Int) (kind : Int) : ∃ (n r : Nat) (g : Nat → Int) (a : Nat → Nat → Int) (b p : Nat → Int) (size : Int) (y7 y8 y9 y10 : OD), execs (b__law_task.take 7) (gq P (d + 1)) [.fz (.scr ns), .fz (.int kind), .un, .un, .un, .un, .un, .un, .un, .un, .un, .un, .un, .un, .un] =
    .ok .nx [.fz (.scr ns), .fz (.int kind), .fz (.int size), .fz (.int (n : Int)), .own (iv n g), .own (iv n p), .own (rowL n r a b), y7, y8, y9, y10, .un, .un, .un, .un] ∧ 1 ≤ n ∧ n ≤ 4 ∧ r ≤ 5 ∧ (∀ k, 0 ≤ g k ∧ g k < 10) ∧ (∀ k, 0 ≤ p k ∧ p k < 6) ∧ Rows kind n r a b p := by
  have c0 : (gq P (d + 1)).call 13 [.scr ns, .int 0] [] [] = _ := cell_ok h d ns 0 (by omega)
  have c1 : (gq P (d + 1)).call 13 [.scr ns, .int 1] [] [] = _ := cell_ok h d ns 1 (by omega)
  have c2 : (gq P (d + 1)).call 13 [.scr ns, .int 2] [] [] = _ := cell_ok h d ns 2 (by omega)
  have c3 : (gq P (d + 1)).call 13 [.scr ns, .int 3] [] [] = _ := cell_ok h d ns 3 (by omega)
  have dd : divOk 3 = true := by decide
  have d4 : divOk 4 = true := by decide
  have e8 : (8 : Int) ≠ 0 := by decide
  have e4 : (4 : Int) ≠ 0 := by decide
  have e6 : (6 : Int) ≠ 0 := by decide
  have pw : powOk 10 12 = true := by decide
  have mm : mulOk 2 1000000000000 = true := by decide
  obtain ⟨n0, en, hn⟩ := fmod_nat (cl ns 1) 4 (by decide)
  obtain ⟨r, er, hr⟩ := fmod_nat ((cl ns 1).fdiv 4) 6 (by decide)
  have en : (cl ns 1).fmod 4 = (n0 : Int) := en
  have er : ((cl ns 1).fdiv 4).fmod 6 = (r : Int) := er
  have L8 : (2 : Nat) ^ 64 ≤ 2 ^ 8000 := Nat.pow_le_pow_right (by decide) (by decide)
  obtain ⟨g, dg, hg⟩ := digits_ok h d (cl ns 2) (n0 + 1) 10 (by omega) (by decide) (by omega)
  obtain ⟨p, dp, hp⟩ := digits_ok h d (cl ns 3) (n0 + 1) 6 (by omega) (by decide) (by omega)
  clear L8
  have n1 : ((n0 + 1 : Nat) : Int) = 1 + (n0 : Int) := by omega
  obtain ⟨size, hs, hs2, es⟩ : ∃ size : Int, 0 < size ∧ size ≤ 2 * 10 ^ 12 + 1 ∧ size = if ((cl ns 0).fdiv 3).fmod 8 = 5 then 2000000000001 else 19 := ⟨_, by split <;> decide, by split <;> decide, rfl⟩
  obtain ⟨a, b, y7, y8, y9, y10, lp, R⟩ := rows_loop h d ns kind size (n0 + 1) r g p hs hs2 (by omega) (by omega) hp
  refine ⟨n0 + 1, r, g, a, b, p, size, y7, y8, y9, y10, ?_, by omega, by omega, by omega, hg, hp, R⟩
  rw [n1] at dg dp lp ⊢
  simp only [K] at dg dp
  generalize cl ns 0 = x0 at *
  generalize cl ns 1 = x1 at *
  generalize cl ns 2 = x2 at *
  generalize cl ns 3 = x3 at *
  by_cases q : (x0.fdiv 3).fmod 8 = 5
  · rw [if_pos q] at es
    subst es
    simp (disch := omega) [b__law_task, c0, c1, c2, c3, bin_fdiv dd, bin_mod e8, q, bin_pow pw, bin_mul mm, bin_mod e4, en, dg, dp, bin_fdiv d4, bin_mod e6, er, lp]
  · rw [if_neg q] at es
    subst es
    simp (disch := omega) [b__law_task, c0, c1, c2, c3, bin_fdiv dd, bin_mod e8, q, bin_mod e4, en, dg, dp, bin_fdiv d4, bin_mod e6, er, lp]
end
end Lw

end

section
set_option linter.all false
set_option maxRecDepth 100000
namespace Lw
open MP Sv Sw
open Lr hiding K
section
variable {P : MP.Prog} (h : HasM P)
include h
theorem task_ok (d : Nat) (ns : List Int) (kind : Int) : ∃ (n m : Nat) (g : Nat → Int) (a : Nat → Nat → Int) (b p : Nat → Int), K P (d + 2) 50 [.scr ns, .int kind] = .ok (.fz (.tup [.lst (iv n g), .lst (rowL n m a b), .lst (iv n p)])) ∧ Task kind n m g a b p := by
  have c2 : (gq P (d + 1)).call 13 [.scr ns, .int 2] [] [] = _ := cell_ok h d ns 2 (by omega)
  have c3 : (gq P (d + 1)).call 13 [.scr ns, .int 3] [] [] = _ := cell_ok h d ns 3 (by omega)
  obtain ⟨n, r, g, a, b, p, size, y7, y8, y9, y10, ep, hn1, hn4, hr, hg, hp, R⟩ := task_pre h d ns kind
  have L8 : (2 : Nat) ^ 64 ≤ 2 ^ 8000 := Nat.pow_le_pow_right (by decide) (by decide)
  obtain ⟨q7, dq, hq⟩ := digits_ok h d (cl ns 2) n 7 (by omega) (by decide) (by omega)
  clear L8
  simp only [K] at dq
  have lr : (rowL n r a b).length = r := vec_len ..
  have run : ∀ (m : Nat) (a' : Nat → Nat → Int) (b' : Nat → Int), Task kind n m g a' b' p → (∃ Γ', execs (b__law_task.drop 7) (gq P (d + 1)) [.fz (.scr ns), .fz (.int kind), .fz (.int size), .fz (.int (n : Int)), .own (iv n g), .own (iv n p), .own (rowL n r a b), y7, y8, y9, y10, .un, .un, .un, .un] = .ok (.rt (.fz (.tup [.lst (iv n g), .lst (rowL n m a' b'), .lst (iv n p)]))) Γ') →
      ∃ (n m : Nat) (g : Nat → Int) (a : Nat → Nat → Int) (b p : Nat → Int), K P (d + 2) 50 [.scr ns, .int kind] = .ok (.fz (.tup [.lst (iv n g), .lst (rowL n m a b), .lst (iv n p)])) ∧ Task kind n m g a b p := by
    intro m a' b' T ⟨Γ', e⟩
    refine ⟨n, m, g, a', b', p, call_eq h.task rfl ?_, T⟩
    show outR (execs (b__law_task.take 7 ++ b__law_task.drop 7) (gq P (d + 1)) [.fz (.scr ns), .fz (.int kind), .un, .un, .un, .un, .un, .un, .un, .un, .un, .un, .un, .un, .un]) = _
    rw [run_app ep e]
    rfl
  by_cases k1 : kind = 1
  · subst k1
    by_cases r0 : r = 0
    · subst r0
      have en9 := ev_comp (X := (gq P (d + 1)).toFx) gq_cm (e := .neg (.var 13)) (tg := .n 13) (it := .sub (.var 11) (.int 0)) (cs := []) (Γ := [.fz (.scr ns), .fz (.int 1), .fz (.int size), .fz (.int (n : Int)), .own (iv n g), .own (iv n p), .own (rowL n 0 a b), y7, y8, y9, y10, .fz (.tup [.lst (iv n q7), .int 3]), .un, .un, .un]) (pk := false) (n := n) (F := fun j => .int (q7 j))
        (fun j => .int (-(q7 j))) (by simp) (by omega) (fun j hj => ⟨_, by simp; rfl, by simp, by simp⟩)
      refine run 2 (fun i j => if i = 1 then q7 j else -(q7 j)) (fun i => if i = 1 then 3 else -2) ⟨hn1, hn4, by omega, hg, fun i k => ?_, fun i => ?_, hp, fun z => by omega, fun _ => ⟨1, 0, by omega, by omega, fun k => by simp, by simp⟩⟩ ⟨[.fz (.scr ns), .fz (.int 1), .fz (.int size), .fz (.int (n : Int)), .fz (.lst (iv n g)), .fz (.lst (iv n p)), .fz (.lst [.tup [.lst (iv n fun j => -(q7 j)), .int (-2)], .tup [.lst (iv n q7), .int 3]]), y7, y8, y9, y10, .fz (.tup [.lst (iv n q7), .int 3]), .un, .un, .un], ?_⟩
      · have := hq k
        split <;> omega
      · skip
        split <;> decide
      · have v0 : rowL n 0 a b = [] := rfl
        have v2 : rowL n 2 (fun i j => if i = 1 then q7 j else -(q7 j)) (fun i => if i = 1 then 3 else -2) = [.tup [.lst (iv n fun j => -(q7 j)), .int (-2)], .tup [.lst (iv n q7), .int 3]] := rfl
        rw [v2]
        rw [v0] at en9 ⊢
        simp [b__law_task, dq, c2, en9]
    · obtain ⟨i, ei, hi⟩ := fmod_nat (cl ns 3) r (by omega)
      have rz : (r : Int) ≠ 0 := by omega
      have r1 : ¬ (r : Int) + 1 = 1 := by omega
      have rp : (0 : Int) < (r : Int) := by omega
      have rp' : 0 < r := by omega
      have en9 := ev_comp (X := (gq P (d + 1)).toFx) gq_cm (e := .neg (.var 13)) (tg := .n 13) (it := .sub (.var 11) (.int 0)) (cs := []) (Γ := [.fz (.scr ns), .fz (.int 1), .fz (.int size), .fz (.int (n : Int)), .own (iv n g), .own (iv n p), .own (rowL n r a b), y7, y8, y9, y10, .fz (.tup [.lst (iv n (a i)), .int (b i)]), .un, .un, .un]) (pk := false) (n := n) (F := fun j => .int (a i j))
        (fun j => .int (-(a i j))) (by simp) (by omega) (fun j hj => ⟨_, by simp; rfl, by simp, by simp⟩)
      refine run (r + 1) (fun i' => if i' = r then (fun j => -(a i j)) else a i') (fun i' => if i' = r then 1 - b i else b i') ⟨hn1, hn4, by omega, hg, fun i' k => ?_, fun i' => ?_, hp, fun z => by omega, fun _ => ⟨i, r, by omega, by omega, fun k => ?_, ?_⟩⟩ ⟨[.fz (.scr ns), .fz (.int 1), .fz (.int size), .fz (.int (n : Int)), .fz (.lst (iv n g)), .fz (.lst (iv n p)), .fz (.lst (rowL n r a b ++ [.tup [.lst (iv n fun j => -(a i j)), .int (1 - b i)]])), y7, y8, y9, y10, .fz (.tup [.lst (iv n (a i)), .int (b i)]), .un, .un, .un], ?_⟩
      · have := R.ha i k
        have := R.ha i' k
        split
        · show (-(a i k)).natAbs ≤ _; omega
        · omega
      · have := R.hb i
        have := R.hb i'
        split <;> omega
      · simp only [if_true, if_neg (show ¬ i = r by omega)]
      · simp only [if_true, if_neg (show ¬ i = r by omega)]
      · rw [← rowL_snoc]
        simp [b__law_task, dq, c2, c3, rp, rp', bin_mod rz, ei, hi, en9, r1, show r < 1000000 by omega, r0]
  · refine run r a b ⟨hn1, hn4, by omega, hg, fun i k => ?_, fun i => ?_, hp, R.k0, fun z => absurd z k1⟩ ⟨[.fz (.scr ns), .fz (.int kind), .fz (.int size), .fz (.int (n : Int)), .fz (.lst (iv n g)), .fz (.lst (iv n p)), .fz (.lst (rowL n r a b)), y7, y8, y9, y10, .un, .un, .un, .un], ?_⟩
    · have := R.ha i k; omega
    · have := R.hb i; omega
    · simp [b__law_task, k1]
end
end Lw

end

section
set_option linter.all false
set_option maxRecDepth 100000
namespace Sw
open MP Sv
open Lr hiding K
section
variable {P : MP.Prog} (h : HasA P)
include h
theorem ty_gr (n m : Nat) (v : Rat) (x y : Nat → Rat) : anyTy (.fz (grD n m v x y)) P.sub [.cls 38] = some false ∧ anyTy (.fz (grD n m v x y)) P.sub [.cls 37] = some true := by
  have s : P.sub 37 .tnone = true := by show (P.cl 37).isSome = true; rw [h.cg]; rfl
  have i1 : isTy (.fz (grD n m v x y)) (.cls 38) P.sub = some false := by
    show (if P.sub 37 .tnone then some (37 == 38) else none) = _
    rw [s]; rfl
  have i2 : isTy (.fz (grD n m v x y)) (.cls 37) P.sub = some true := by
    show (if P.sub 37 .tnone then some (37 == 37) else none) = _
    rw [s]; rfl
  exact ⟨by unfold anyTy; rw [i1]; rfl, by unfold anyTy; rw [i2]⟩
theorem ty_rf (m : Nat) (y : Nat → Rat) : anyTy (.fz (rfD m y)) P.sub [.cls 38] = some true ∧ anyTy (.fz (rfD m y)) P.sub [.cls 37] = some false := by
  have s : P.sub 38 .tnone = true := by show (P.cl 38).isSome = true; rw [h.cr]; rfl
  have i1 : isTy (.fz (rfD m y)) (.cls 38) P.sub = some true := by
    show (if P.sub 38 .tnone then some (38 == 38) else none) = _
    rw [s]; rfl
  have i2 : isTy (.fz (rfD m y)) (.cls 37) P.sub = some false := by
    show (if P.sub 38 .tnone then some (38 == 37) else none) = _
    rw [s]; rfl
  exact ⟨by unfold anyTy; rw [i1], by unfold anyTy; rw [i2]; rfl⟩
end
theorem above_le {l : Nat} {z : Nat → Rat} {c : Nat} (h : ((List.range l).countP fun k => decide (z k ≠ 0)) ≤ c) : (((List.range l).countP fun k => decide (0 < (z k).num) : Nat) : Int) ≤ (c : Int) := by
  have : ((List.range l).countP fun k => decide (0 < (z k).num)) ≤ ((List.range l).countP fun k => decide (z k ≠ 0)) := List.countP_mono_left fun k _ h => by
    have h := of_decide_eq_true h
    refine decide_eq_true fun e => ?_
    rw [e] at h
    exact absurd h (by decide)
  omega
end Sw
namespace Lw
open MP Sv Sw
open Lr hiding K
section
variable {P : MP.Prog} (h : HasM P)
include h
theorem lshows_r (d n m α β : Nat) (g : Nat → Int) (a : Nat → Nat → Int) (b : Nat → Int) (u : Int) (y : Nat → Rat) (R : RfQ n m a b y) (ha : α ≤ 100) (hb : β ≤ 400) (fa : ∀ i k, (a i k).natAbs < 2 ^ α) (fb : ∀ k, (b k).natAbs < 2 ^ α) (hy : ∀ k, Bd β (y k)) (hn : n ≤ 1000) (hm : m ≤ 1000) :
    K P (d + 4) 49 [.lst (iv n g), .lst (rowL n m a b), .int u, rfD m y] = .ok (.fz (.bl true)) := by
  have ce := law_columns_ok h.cols h.sum (d + 1) n m false false (b := b) hn hm ha hb fa hy
  have se := law_sum_ok h.sum (d + 2) m m false (Nat.le_refl _) hm ha hb fb hy
  have re := law_are_ok h.are (d + 1) m y (fun k _ => isr_ok h d (y k) (k := β) (by omega) (hy k)) R.y0 hm
  have ae := law_above_ok h.above (d + 2) m y hm
  have al := above_le R.cy
  simp only [K, sq, Bool.false_eq_true, if_false] at ce se re ae
  obtain ⟨A, hA⟩ : ∃ A, rfD m y = A := ⟨_, rfl⟩
  have k3 := h.f38
  have aA3 : attrD (gq P (d + 3)).toFx 59 (.fz A) = .ok (.fz (.tup (rv m y))) := by rw [← hA]; simp [rfD, k3]
  have ti := (ty_rf h.toHasA m y).1
  rw [hA] at ti ⊢
  have cz : ∀ k, k < n → ¬ 0 < smT (fun i => a i k) y m := fun k hk z => by
    have := (smT_gt (fun i => a i k) y m 0).mp (by rw [Int.zero_mul]; exact z)
    have := R.col k hk
    grind
  have bz : 0 < smT b y m := by
    have := (smT_gt b y m 0).mpr R.bd
    rw [Int.zero_mul] at this
    exact this
  have eb := ev_comp (X := (gq P (d + 3)).toFx) gq_cm (e := .sub (.var 12) (.int 1)) (tg := .n 12) (it := .var 1) (cs := []) (Γ := [.fz (.lst (iv n g)), .fz (.lst (rowL n m a b)), .fz (.int u), .fz A, .own (vec n fun k => .tup [.int (smT (fun i => a i k) y m), .int (smB y m)]), .un, .un, .un, .un, .un, .un, .un, .un]) (pk := true) (n := m) (F := fun i => .tup [.lst (iv n (a i)), .int (b i)])
    (fun i => .int (b i)) (by simp) (by omega) (fun j hj => ⟨_, by simp; rfl, by simp, by simp⟩)
  obtain ⟨_, l, z, rfl⟩ := forL_inv (body := fun Γ => execs b__law_shows_1 (gq P (d + 3)) Γ) (t := .n 6) (n := n) (F := fun k => .tup [.int (smT (fun i => a i k) y m), .int (smB y m)]) (Γ0 := [.fz (.lst (iv n g)), .fz (.lst (rowL n m a b)), .fz (.int u), .fz A, .fz (.lst (vec n fun k => .tup [.int (smT (fun i => a i k) y m), .int (smB y m)])), .fz (.tup [.int (smT b y m), .int (smB y m)]), .un, .un, .un, .un, .un, .un, .un])
    (fun k Γ => ∃ z, Γ = [.fz (.lst (iv n g)), .fz (.lst (rowL n m a b)), .fz (.int u), .fz A, .fz (.lst (vec n fun k => .tup [.int (smT (fun i => a i k) y m), .int (smB y m)])), .fz (.tup [.int (smT b y m), .int (smB y m)]), z, .un, .un, .un, .un, .un, .un]) ⟨_, rfl⟩ (by
      rintro k _ hk ⟨z, rfl⟩
      exact ⟨_, _, by simp; rfl, .inl (by simp [b__law_shows_1, cz k hk]; rfl), _, rfl⟩)
  generalize ((List.range m).countP fun k => decide (0 < (y k).num)) = cc at ae al
  have al' : (cc : Int) ≤ (n : Int) + 1 := by omega
  refine call_eq h.lsh rfl ?_
  simp [f__law_shows, b__law_shows, MP.start, aA3, re, ce, eb, se, ti, l, bz, ae, al']
theorem lshows_g (d n m α β : Nat) (g : Nat → Int) (a : Nat → Nat → Int) (b : Nat → Int) (u : Int) (v : Rat) (x y : Nat → Rat) (R : GrQ n m g a b u v x y) (ha : α ≤ 60) (hb : β ≤ 400) (fa : ∀ i k, (a i k).natAbs < 2 ^ α) (fb : ∀ k, (b k).natAbs < 2 ^ α) (fg : ∀ k, (g k).natAbs < 2 ^ α) (fu : u.natAbs < 2 ^ α) (hv : Bd β v) (hx : ∀ k, Bd β (x k)) (hy : ∀ k, Bd β (y k)) (hn : n ≤ 100) (hm : m ≤ 100) :
    K P (d + 4) 49 [.lst (iv n g), .lst (rowL n m a b), .int u, grD n m v x y] = .ok (.fz (.bl true)) := by
  have ce := law_columns_ok h.cols h.sum (d + 1) n m false false (b := b) (by omega) (by omega) (by omega) hb fa hy
  have se := law_sum_ok h.sum (d + 2) m m false (Nat.le_refl _) (by omega) (by omega) hb fb hy
  have xe := law_sum_ok h.sum (d + 2) n n false (Nat.le_refl _) (by omega) (by omega) hb fg hx
  have rw' := fun i => law_sum_ok h.sum (d + 2) n n false (Nat.le_refl _) (by omega) (by omega) hb (fa i) hx
  have re := law_are_ok h.are (d + 1) m y (fun k _ => isr_ok h d (y k) (k := β) (by omega) (hy k)) R.y0 (by omega)
  have rx := law_are_ok h.are (d + 1) n x (fun k _ => isr_ok h d (x k) (k := β) (by omega) (hx k)) R.x0 (by omega)
  have rv' := isr_ok h (d + 1) v (k := β) (by omega) hv
  have ae := law_above_ok h.above (d + 2) m y (by omega)
  have ax := law_above_ok h.above (d + 2) n x (by omega)
  have al := above_le R.cy
  have axl := above_le R.cx
  have lm : ∀ k, k ≤ 100 → k * (α + β + 2) + 1 + β < 1000000 := fun k hk => by
    have := Nat.mul_le_mul hk (show α + β + 2 ≤ 1000 by omega)
    omega
  have lb : ∀ k, k ≤ 100 → k * β + 1 + α + β < 1000000 := fun k hk => by
    have := Nat.mul_le_mul hk (show β ≤ 1000 by omega)
    omega
  have s1 := same_ok h (d + 2) (a := smT b y m) (b := smB y m) (c := v.num * u) (e := (v.den : Int)) (mulOk_of (smT_lt fb hy) (show ((v.den : Int)).natAbs < 2 ^ β from hv.2) (by have := lm m hm; omega)) (mulOk_of (lt_mul hv.1 fu) (smB_lt hy) (by have := lb m hm; omega)) (smT_same b y m v u R.vy)
  have s2 := same_ok h (d + 2) (a := smT g x n) (b := smB x n) (c := v.num * u) (e := (v.den : Int)) (mulOk_of (smT_lt fg hx) (show ((v.den : Int)).natAbs < 2 ^ β from hv.2) (by have := lm n hn; omega)) (mulOk_of (lt_mul hv.1 fu) (smB_lt hx) (by have := lb n hn; omega)) (smT_same g x n v u R.vx)
  have mu : mulOk v.num u = true := mulOk_of hv.1 fu (by omega)
  have a64 : 2 ^ α ≤ 2 ^ 60 := Nat.pow_le_pow_right (by decide) ha
  have mg : ∀ k, mulOk (g k) (smB y m) = true := fun k => mulOk_l (by have := fg k; omega)
  have mb : ∀ k, mulOk (b k) (smB x n) = true := fun k => mulOk_l (by have := fb k; omega)
  simp only [K, sq, Bool.false_eq_true, if_false] at ce se re ae xe rw' rx rv' ax s1 s2
  clear lm lb a64 fa fb fg fu hv hx hy
  obtain ⟨A, hA⟩ : ∃ A, grD n m v x y = A := ⟨_, rfl⟩
  obtain ⟨k1, k2, k3⟩ := h.f37
  have aA1 : attrD (gq P (d + 3)).toFx 57 (.fz A) = .ok (.fz (rr v)) := by rw [← hA]; simp [grD, k1]
  have aA2 : attrD (gq P (d + 3)).toFx 58 (.fz A) = .ok (.fz (.tup (rv n x))) := by rw [← hA]; simp [grD, k2]
  have aA3 : attrD (gq P (d + 3)).toFx 59 (.fz A) = .ok (.fz (.tup (rv m y))) := by rw [← hA]; simp [grD, k3]
  have ti := (ty_gr h.toHasA n m v x y).1
  rw [hA] at ti ⊢
  have cz : ∀ k, k < n → ¬ g k * smB y m < smT (fun i => a i k) y m := fun k hk z => by
    have := (smT_gt (fun i => a i k) y m (g k)).mp z
    have := R.col k hk
    grind
  have bz : ∀ i, i < m → ¬ smT (a i) x n < b i * smB x n := fun i hi z => by
    have := (smT_lt' (a i) x n (b i)).mp z
    have := R.row i hi
    grind
  have eb := ev_comp (X := (gq P (d + 3)).toFx) gq_cm (e := .sub (.var 12) (.int 1)) (tg := .n 12) (it := .var 1) (cs := []) (Γ := [.fz (.lst (iv n g)), .fz (.lst (rowL n m a b)), .fz (.int u), .fz A, .own (vec n fun k => .tup [.int (smT (fun i => a i k) y m), .int (smB y m)]), .un, .un, .un, .un, .un, .un, .un, .un]) (pk := true) (n := m) (F := fun i => .tup [.lst (iv n (a i)), .int (b i)])
    (fun i => .int (b i)) (by simp) (by omega) (fun j hj => ⟨_, by simp; rfl, by simp, by simp⟩)
  obtain ⟨_, l, z7, rfl⟩ := forL_inv (body := fun Γ => execs b__law_shows_2 (gq P (d + 3)) Γ) (t := .n 7) (n := n) (F := fun k => .int (k : Int)) (Γ0 := [.fz (.lst (iv n g)), .fz (.lst (rowL n m a b)), .fz (.int u), .fz A, .own (vec n fun k => .tup [.int (smT (fun i => a i k) y m), .int (smB y m)]), .fz (.tup [.int (smT b y m), .int (smB y m)]), .un, .un, .un, .un, .un, .un, .un])
    (fun k Γ => ∃ z, Γ = [.fz (.lst (iv n g)), .fz (.lst (rowL n m a b)), .fz (.int u), .fz A, .own (vec n fun k => .tup [.int (smT (fun i => a i k) y m), .int (smB y m)]), .fz (.tup [.int (smT b y m), .int (smB y m)]), .un, z, .un, .un, .un, .un, .un]) ⟨_, rfl⟩ (by
      rintro k _ hk ⟨z, rfl⟩
      exact ⟨_, _, by simp; rfl, .inl (by simp (disch := omega) [b__law_shows_2, bin_mul (mg k), cz k hk]; rfl), _, rfl⟩)
  obtain ⟨_, l2, z8, z9, z10, rfl⟩ := forL_inv (body := fun Γ => execs b__law_shows_3 (gq P (d + 3)) Γ) (t := .t [.n 8, .n 9]) (n := m) (F := fun i => .tup [.lst (iv n (a i)), .int (b i)]) (Γ0 := [.fz (.lst (iv n g)), .fz (.lst (rowL n m a b)), .fz (.int u), .fz A, .own (vec n fun k => .tup [.int (smT (fun i => a i k) y m), .int (smB y m)]), .fz (.tup [.int (smT b y m), .int (smB y m)]), .un, z7, .un, .un, .un, .un, .un])
    (fun k Γ => ∃ z8 z9 z10, Γ = [.fz (.lst (iv n g)), .fz (.lst (rowL n m a b)), .fz (.int u), .fz A, .own (vec n fun k => .tup [.int (smT (fun i => a i k) y m), .int (smB y m)]), .fz (.tup [.int (smT b y m), .int (smB y m)]), .un, z7, z8, z9, z10, .un, .un]) ⟨_, _, _, rfl⟩ (by
      rintro k _ hk ⟨z8, z9, z10, rfl⟩
      exact ⟨_, _, by simp; rfl, .inl (by simp (disch := omega) [b__law_shows_3, aA2, rw' k, bin_mul (mb k), bz k hk]; exact ⟨rfl, rfl, rfl⟩), _, _, _, rfl⟩)
  generalize ((List.range m).countP fun k => decide (0 < (y k).num)) = cc at ae al
  generalize ((List.range n).countP fun k => decide (0 < (x k).num)) = cx at ax axl
  have v0 : ∀ p q, subD p q (.fz (rr v)) 0 = .ok (.fz (.int v.num)) := fun p q => by simp [rr]
  have v1 : ∀ p q, subD p q (.fz (rr v)) 1 = .ok (.fz (.int v.den)) := fun p q => by simp [rr]
  obtain ⟨S, hS⟩ : ∃ S, (vec n fun k => D.tup [.int (smT (fun i => a i k) y m), .int (smB y m)]) = S := ⟨_, rfl⟩
  obtain ⟨bT, hT⟩ : ∃ S, D.tup [.int (smT b y m), .int (smB y m)] = S := ⟨_, rfl⟩
  have nT : (OD.fz bT).noFL = true := by rw [← hT]; rfl
  rw [hS] at ce eb l l2
  rw [hT] at se l l2 s1
  refine call_eq h.lsh rfl ?_
  show outR (execs (b__law_shows.take 5 ++ b__law_shows.drop 5) (gq P (d + 3)) [.fz (.lst (iv n g)), .fz (.lst (rowL n m a b)), .fz (.int u), .fz A, .un, .un, .un, .un, .un, .un, .un, .un, .un]) = _
  rw [run_app (Γ' := [.fz (.lst (iv n g)), .fz (.lst (rowL n m a b)), .fz (.int u), .fz A, .own S, .fz bT, .un, .un, .un, .un, .un, .un, .un]) (by simp [b__law_shows, aA1, aA2, aA3, re, ce, eb, se, ti, rx, rv', nT]) rfl]
  rw [show b__law_shows.drop 5 = (b__law_shows.drop 5).take 2 ++ b__law_shows.drop 7 from rfl]
  rw [run_app (Γ' := [.fz (.lst (iv n g)), .fz (.lst (rowL n m a b)), .fz (.int u), .fz A, .own S, .fz bT, .un, z7, z8, z9, z10, .un, .un]) (by simp (disch := omega) [b__law_shows, l, l2]) rfl]
  simp [b__law_shows, aA1, aA2, aA3, v0, v1, bin_mul mu, s1, s2, xe, ae, ax, al, axl]
end
end Lw

end

section
set_option linter.all false
set_option maxRecDepth 100000
namespace MP
@[simp ↓] theorem mkOwn_2 (a b : D) : mkOwn [.fz a, .fz b] = some (.own [a, b]) := nr rfl
@[simp ↓] theorem mkOwn_2o (a b : List D) : mkOwn [.own a, .own b] = some (.own2 false [(false, a), (false, b)]) := nr rfl
end MP
namespace Lr
open MP
theorem rr_succ (v : Rat) : (.tup [.int (v.num + (v.den : Int)), .int (v.den : Int)] : D) = rr (v + 1) := by
  have co : (v.num + (v.den : Int)).natAbs.Coprime v.den := by
    have := v.reduced
    unfold Nat.Coprime at this ⊢
    have e : ((v.num + (v.den : Int)).natAbs.gcd v.den : Nat) = Int.gcd (v.num + (v.den : Int)) (v.den : Int) := rfl
    rw [e, Int.gcd_add_self_left]
    exact this
  obtain ⟨w, hw⟩ : ∃ w : Rat, w = ⟨v.num + (v.den : Int), v.den, v.den_nz, co⟩ := ⟨_, rfl⟩
  have hn : w.num = v.num + (v.den : Int) := by rw [hw]
  have hd : w.den = v.den := by rw [hw]
  have e1 := Sv.num_is v
  have e2 := Sv.num_is w
  rw [hn, hd] at e2
  have d0 : (v.den : Rat) ≠ 0 := by have := v.den_nz; exact_mod_cast this
  have : w = v + 1 := by
    have e3 : ((v.num + (v.den : Int) : Int) : Rat) = (v.num : Rat) + (v.den : Rat) := by push_cast; rfl
    rw [e3, e1] at e2
    have e4 : (w - (v + 1)) * (v.den : Rat) = 0 := by grind
    rcases Rat.mul_eq_zero.mp e4 with z | z
    · grind
    · exact absurd z d0
  rw [← this]
  unfold rr
  rw [hn, hd]
theorem rr_m1 : (.tup [.int (-1), .int 1] : D) = rr (-1) := rfl
end Lr
namespace Sw
open MP Sv
open Lr hiding K
def chg (y : Nat → Rat) (j : Nat) (v : Rat) (k : Nat) : Rat := if k = j then v else y k
theorem rv_set (m j : Nat) (y : Nat → Rat) (hj : j < m) : (rv m y).set j (rr (-1)) = rv m (chg y j (-1)) := by
  unfold rv vec
  apply List.ext_getElem?
  intro i
  rw [List.getElem?_set, List.getElem?_map, List.getElem?_map, List.length_map, List.length_range]
  by_cases e : j = i
  · subst e
    rw [if_pos rfl, if_pos hj, List.getElem?_range hj]
    simp [chg]
  · rw [if_neg e]
    by_cases hi : i < m
    · rw [List.getElem?_range hi]
      simp [chg, Ne.symm e]
    · rw [List.getElem?_eq_none (by rw [List.length_range]; omega)]
      rfl
theorem rv_app (m : Nat) (y : Nat → Rat) : rv m y ++ [rr 0] = rv (m + 1) (chg y m 0) := by
  unfold rv
  rw [vec_snoc]
  simp only [chg, if_true]
  congr 1
  exact vec_congr fun j hj => by rw [if_neg (by omega)]
theorem chg_bd {β j : Nat} {y : Nat → Rat} {v : Rat} (h : ∀ k, Bd β (y k)) (hv : Bd β v) (k : Nat) : Bd β (chg y j v k) := by
  unfold chg
  split
  · exact hv
  · exact h k
theorem all_no {n : Nat} {p : Nat → Bool} {k : Nat} (hk : k < n) (h : p k = false) : (List.range n).all p = false := by
  rw [List.all_eq_false]
  exact ⟨k, List.mem_range.mpr hk, by rw [h]; exact Bool.false_ne_true⟩
theorem share_no {m j : Nat} {y : Nat → Rat} (hj : j < m) : ((List.range m).all fun k => !decide (chg y j (-1) k < 0)) = false := all_no hj (by
  have : (chg y j (-1) j) < 0 := by
    unfold chg
    rw [if_pos rfl]
    decide
  simp [this])
section
variable {n m : Nat} {g : Nat → Int} {a : Nat → Nat → Int} {b : Nat → Int} {u : Int} {v : Rat} {x y : Nat → Rat}
theorem shG_yes (G : GrQ n m g a b u v x y) : shG n m g a b u n m v x y = true := by
  have a1 : ((List.range m).all fun k => !decide (y k < 0)) = true := all_yes fun k hk => by have := G.y0 k hk; simp; grind
  have a2 : ((List.range n).all fun k => !decide (x k < 0)) = true := all_yes fun k hk => by have := G.x0 k hk; simp; grind
  have a3 : ((List.range m).all fun i => !decide ((smR n fun k => (a i k : Rat) * x k) < (b i : Rat))) = true := all_yes fun i hi => by have := G.row i hi; simp; grind
  have a4 : ((List.range n).any fun k => decide ((g k : Rat) < smR m fun i => (a i k : Rat) * y i)) = false := any_no fun k hk => by have := G.col k hk; simp; grind
  unfold shG
  rw [a1, a2, a3, a4, decide_eq_true G.vy, decide_eq_true G.vx]
  simp
theorem shG_y (hj : j < m) : shG n m g a b u lx m v x (chg y j (-1)) = false := by unfold shG; rw [share_no hj]; simp
theorem shG_yl (y' : Nat → Rat) : shG n m g a b u lx (m + 1) v x y' = false := by unfold shG; simp
theorem shG_x (hj : j < n) : shG n m g a b u n ly v (chg x j (-1)) y = false := by unfold shG; rw [share_no hj]; simp
theorem shG_xl (x' : Nat → Rat) : shG n m g a b u (n + 1) ly v x' y = false := by unfold shG; simp
theorem shG_v (G : GrQ n m g a b u v x y) (hu : u ≠ 0) : shG n m g a b u lx ly (v + 1) x y = false := by
  have q : ¬ (smR m fun i => (b i : Rat) * y i) = (v + 1) * u := by
    rw [G.vy]
    intro z
    have : (u : Rat) = 0 := by grind
    exact hu (by exact_mod_cast this)
  unfold shG
  rw [decide_eq_false q]
  simp
theorem shR_yes (R : RfQ n m a b y) : shR n m a b m y = true := by
  have a1 : ((List.range m).all fun k => !decide (y k < 0)) = true := all_yes fun k hk => by have := R.y0 k hk; simp; grind
  have a4 : ((List.range n).all fun k => !decide (0 < smR m fun i => (a i k : Rat) * y i)) = true := all_yes fun k hk => by have := R.col k hk; simp; grind
  unfold shR
  rw [a1, a4, decide_eq_true R.bd]
  simp
theorem shR_y (hj : j < m) : shR n m a b m (chg y j (-1)) = false := by unfold shR; rw [share_no hj]; simp
theorem shR_yl (y' : Nat → Rat) : shR n m a b (m + 1) y' = false := by unfold shR; simp
end
end Sw
namespace Lw
open MP Sv Sw
open Lr hiding K
section
variable {P : MP.Prog} (h : HasM P)
include h
theorem changed_r (d m : Nat) (y : Nat → Rat) (pl : Int) (hm : 1 ≤ m) (hm2 : m ≤ 1000) : ∃ j, j < m ∧ K P (d + 2) 51 [rfD m y, .int pl] = .ok (.own [rfD m (chg y j (-1)), rfD (m + 1) (chg y m 0)]) := by
  obtain ⟨j, ej, hj⟩ := fmod_nat pl m (by omega)
  refine ⟨j, hj, ?_⟩
  have m1 := refused_make h.toHasA d m false (chg y j (-1))
  have m2 := refused_make h.toHasA d (m + 1) false (chg y m 0)
  simp only [sq, Bool.false_eq_true, if_false] at m1 m2
  obtain ⟨A, hA⟩ : ∃ A, rfD m y = A := ⟨_, rfl⟩
  have k3 := h.f38
  have aA3 : attrD (gq P (d + 1)).toFx 59 (.fz A) = .ok (.fz (.tup (rv m y))) := by rw [← hA]; simp [rfD, k3]
  have ti := (ty_rf h.toHasA m y).1
  rw [hA] at ti ⊢
  have mz : (m : Int) ≠ 0 := by omega
  have mp : (0 : Int) < (m : Int) := by omega
  have mp' : 0 < m := by omega
  have ix : ixN (rv m y).length (j : Int) = some j := ixN_nat (by rw [vec_len]; exact hj)
  rw [vec_len] at ix
  have hs : (rv m y).set j (.tup [.int (-1), .int 1]) = rv m (chg y j (-1)) := rv_set m j y hj
  have ha : rv m y ++ [.tup [.int 0, .int 1]] = rv (m + 1) (chg y m 0) := rv_app m y
  refine call_eq h.chg rfl ?_
  show outR (execs (b__law_changed.take 2 ++ b__law_changed.drop 2) (gq P (d + 1)) [.fz A, .fz (.int pl), .un, .un, .un, .un, .un]) = _
  rw [run_app (Γ' := [.fz A, .fz (.int pl), .own (rv m (chg y j (-1))), .un, .un, .un, .un]) (by simp [b__law_changed, aA3, mp, mp', bin_mod mz, ej, ix, hs]) rfl]
  have bl : ∀ (l : Nat) (z : Nat → Rat) (d : D), l ≤ 1000 → binD .add (.lst (rv l z)) (.lst [d]) = .ok (.own (rv l z ++ [d])) := fun l z d hl => if_pos (by rw [vec_len, List.length_singleton]; unfold line; omega)
  simp [b__law_changed, aA3, bl m y _ hm2, ha, ti, m1, m2, noFL_rf]
theorem changed_g (d n m : Nat) (v : Rat) (x y : Nat → Rat) (pl : Int) (hn : 1 ≤ n) (hn2 : n ≤ 1000) (hm2 : m ≤ 1000) : ∃ i j, i < n ∧ (m = 0 ∨ j < m) ∧ K P (d + 2) 51 [grD n m v x y, .int pl] =
    .ok (.own ([grD n m (v + 1) x y, grD n m v (chg x i (-1)) y, grD (n + 1) m v (chg x n 0) y, grD n (m + 1) v x (chg y m 0)] ++ if m = 0 then [] else [grD n m v x (chg y j (-1))])) := by
  obtain ⟨i, ei, hi⟩ := fmod_nat pl n (by omega)
  obtain ⟨k1, k2, k3⟩ := h.f37
  have mz : (n : Int) ≠ 0 := by omega
  have ti := (ty_gr h.toHasA n m v x y).1
  have g1 := granted_make h.toHasA d n m true true (v + 1) x y
  have g2 := granted_make h.toHasA d n m false true v (chg x i (-1)) y
  have g3 := granted_make h.toHasA d (n + 1) m false true v (chg x n 0) y
  have g4 := granted_make h.toHasA d n (m + 1) true false v x (chg y m 0)
  simp only [sq, Bool.false_eq_true, if_false, if_true] at g1 g2 g3 g4
  obtain ⟨A, hA⟩ : ∃ A, grD n m v x y = A := ⟨_, rfl⟩
  have aA1 : attrD (gq P (d + 1)).toFx 57 (.fz A) = .ok (.fz (rr v)) := by rw [← hA]; simp [grD, k1]
  have aA2 : attrD (gq P (d + 1)).toFx 58 (.fz A) = .ok (.fz (.tup (rv n x))) := by rw [← hA]; simp [grD, k2]
  have aA3 : attrD (gq P (d + 1)).toFx 59 (.fz A) = .ok (.fz (.tup (rv m y))) := by rw [← hA]; simp [grD, k3]
  rw [hA] at ti ⊢
  have ixn : ixN (rv n x).length (i : Int) = some i := ixN_nat (by rw [vec_len]; exact hi)
  rw [vec_len] at ixn
  have hsn : (rv n x).set i (.tup [.int (-1), .int 1]) = rv n (chg x i (-1)) := rv_set n i x hi
  have han : rv n x ++ [.tup [.int 0, .int 1]] = rv (n + 1) (chg x n 0) := rv_app n x
  have ha : rv m y ++ [.tup [.int 0, .int 1]] = rv (m + 1) (chg y m 0) := rv_app m y
  have bl : ∀ (l : Nat) (z : Nat → Rat) (d : D), l ≤ 1000 → binD .add (.lst (rv l z)) (.lst [d]) = .ok (.own (rv l z ++ [d])) := fun l z d hl => if_pos (by rw [vec_len, List.length_singleton]; unfold line; omega)
  have v0 : ∀ p q, subD p q (.fz (rr v)) 0 = .ok (.fz (.int v.num)) := fun p q => by simp [rr]
  have v1 : ∀ p q, subD p q (.fz (rr v)) 1 = .ok (.fz (.int v.den)) := fun p q => by simp [rr]
  have rs := rr_succ v
  by_cases m0 : m = 0
  · subst m0
    refine ⟨i, 0, hi, .inl rfl, ?_⟩
    refine call_eq h.chg rfl ?_
    show outR (execs (b__law_changed.take 4 ++ b__law_changed.drop 4) (gq P (d + 1)) [.fz A, .fz (.int pl), .un, .un, .un, .un, .un]) = _
    rw [run_app (Γ' := [.fz A, .fz (.int pl), .own (rv 0 y), .own (rv (0 + 1) (chg y 0 0)), .un, .un, .un]) (by simp [b__law_changed, aA3, bl _ y _ hm2, ha, ti]) rfl]
    rw [show b__law_changed.drop 4 = (b__law_changed.drop 4).take 3 ++ b__law_changed.drop 7 from rfl]
    rw [run_app (Γ' := [.fz A, .fz (.int pl), .own (rv 0 y), .own (rv (0 + 1) (chg y 0 0)), .own (rv n (chg x i (-1))), .fz (rr (v + 1)), .un]) (by simp [b__law_changed, aA1, aA2, v0, v1, bin_mod mz, ei, ixn, hsn, rs]) rfl]
    simp [b__law_changed, aA1, aA2, aA3, g1, g2, bl n x _ hn2, han, g3, g4, noFL_gr]
  · obtain ⟨j, ej, hj⟩ := fmod_nat pl m (by omega)
    have mz' : (m : Int) ≠ 0 := by omega
    have mp : (0 : Int) < (m : Int) := by omega
    have mp' : 0 < m := by omega
    have ix : ixN (rv m y).length (j : Int) = some j := ixN_nat (by rw [vec_len]; exact hj)
    rw [vec_len] at ix
    have hs : (rv m y).set j (.tup [.int (-1), .int 1]) = rv m (chg y j (-1)) := rv_set m j y hj
    have g5 := granted_make h.toHasA d n m true false v x (chg y j (-1))
    simp only [sq, Bool.false_eq_true, if_false, if_true] at g5
    refine ⟨i, j, hi, .inr hj, ?_⟩
    refine call_eq h.chg rfl ?_
    show outR (execs (b__law_changed.take 4 ++ b__law_changed.drop 4) (gq P (d + 1)) [.fz A, .fz (.int pl), .un, .un, .un, .un, .un]) = _
    rw [run_app (Γ' := [.fz A, .fz (.int pl), .own (rv m (chg y j (-1))), .own (rv (m + 1) (chg y m 0)), .un, .un, .un]) (by simp [b__law_changed, aA3, mp, mp', bin_mod mz', ej, ix, hs, bl m y _ hm2, ha, ti]) rfl]
    rw [show b__law_changed.drop 4 = (b__law_changed.drop 4).take 3 ++ b__law_changed.drop 7 from rfl]
    rw [run_app (Γ' := [.fz A, .fz (.int pl), .own (rv m (chg y j (-1))), .own (rv (m + 1) (chg y m 0)), .own (rv n (chg x i (-1))), .fz (rr (v + 1)), .un]) (by simp [b__law_changed, aA1, aA2, v0, v1, bin_mod mz, ei, ixn, hsn, rs]) rfl]
    simp [b__law_changed, aA1, aA2, aA3, g1, g2, bl n x _ hn2, han, g3, g4, noFL_gr, mp, mp', g5, m0]
end
end Lw

end

section
set_option linter.all false
set_option maxRecDepth 100000
namespace Lw
open MP Sv Sw
open Lr hiding K
/-! ### the plain law -/
theorem smR_neg (n : Nat) (f : Nat → Rat) : smR n (fun i => - f i) = - smR n f := by
  induction n with
  | zero => simp [smR]
  | succ n ih => rw [smR, smR, ih]; grind
theorem no_g {n m : Nat} {g : Nat → Int} {a : Nat → Nat → Int} {b : Nat → Int} {u : Int} {v : Rat} {x y : Nat → Rat} (G : GrQ n m g a b u v x y) {i j : Nat} (hi : i < m) (hj : j < m) (ha : ∀ k, a j k = - a i k) (hb : b j = 1 - b i) : False := by
  have h1 := G.row i hi
  have h2 := G.row j hj
  have e : (smR n fun k => (a j k : Rat) * x k) = - smR n fun k => (a i k : Rat) * x k := by
    rw [← smR_neg]
    exact smR_congr fun k _ => by rw [ha k]; push_cast; grind
  rw [e, hb] at h2
  push_cast at h2
  grind
theorem dual {n m : Nat} {a : Nat → Nat → Int} {b p : Nat → Int} {y : Nat → Rat} (hb : ∀ i, i < m → b i ≤ sm n fun k => a i k * p k) (hy : ∀ i, i < m → 0 ≤ y i) :
    (smR m fun i => (b i : Rat) * y i) ≤ smR n fun k => (p k : Rat) * smR m fun i => (a i k : Rat) * y i := by
  have e : (smR n fun k => (p k : Rat) * smR m fun i => (a i k : Rat) * y i) = smR m fun i => (smR n fun k => (a i k : Rat) * (p k : Rat)) * y i := by
    have : (smR n fun k => (p k : Rat) * smR m fun i => (a i k : Rat) * y i) = smR n fun k => smR m fun i => (p k : Rat) * ((a i k : Rat) * y i) := smR_congr fun k _ => (smR_mul m _ _).symm
    rw [this, smR_swap]
    exact smR_congr fun i _ => by
      rw [← smR_mulr]
      exact smR_congr fun k _ => by grind
  rw [e]
  refine smR_le fun i hi => ?_
  have h1 := hb i hi
  have h2 : (b i : Rat) ≤ smR n fun k => (a i k : Rat) * (p k : Rat) := by
    have : (smR n fun k => (a i k : Rat) * (p k : Rat)) = ((sm n fun k => a i k * p k : Int) : Rat) := by
      rw [← smR_int]
      exact smR_congr fun k _ => by push_cast; rfl
    rw [this]
    exact_mod_cast h1
  exact Rat.mul_le_mul_of_nonneg_right h2 (hy i hi)
theorem no_r {n m : Nat} {a : Nat → Nat → Int} {b p : Nat → Int} {y : Nat → Rat} (R : RfQ n m a b y) (hp : ∀ k, 0 ≤ p k) (hb : ∀ i, i < m → b i ≤ sm n fun k => a i k * p k) : False := by
  have h1 := dual hb R.y0
  have h2 := R.bd
  have h3 : (smR n fun k => (p k : Rat) * smR m fun i => (a i k : Rat) * y i) ≤ smR n fun _ => 0 := smR_le fun k hk => by
    have h4 := R.col k hk
    have h5 : (0 : Rat) ≤ (p k : Rat) := by exact_mod_cast hp k
    have := Rat.mul_le_mul_of_nonneg_left h4 h5
    grind
  rw [smR_zero (f := fun _ => 0) fun _ _ => rfl] at h3
  grind
theorem duality {n m : Nat} {g : Nat → Int} {a : Nat → Nat → Int} {b p : Nat → Int} {u : Int} {v : Rat} {x y : Nat → Rat} (G : GrQ n m g a b u v x y) (hp : ∀ k, 0 ≤ p k) (hb : ∀ i, i < m → b i ≤ sm n fun k => a i k * p k) :
    v.num * u ≤ (sm n fun k => g k * p k) * (v.den : Int) := by
  have h1 := dual hb G.y0
  rw [G.vy] at h1
  have h3 : (smR n fun k => (p k : Rat) * smR m fun i => (a i k : Rat) * y i) ≤ smR n fun k => (g k : Rat) * (p k : Rat) := smR_le fun k hk => by
    have h4 := G.col k hk
    have h5 : (0 : Rat) ≤ (p k : Rat) := by exact_mod_cast hp k
    have := Rat.mul_le_mul_of_nonneg_left h4 h5
    grind
  have e : (smR n fun k => (g k : Rat) * (p k : Rat)) = ((sm n fun k => g k * p k : Int) : Rat) := by
    rw [← smR_int]
    exact smR_congr fun k _ => by push_cast; rfl
  rw [e] at h3
  have h6 : v * (u : Rat) ≤ ((sm n fun k => g k * p k : Int) : Rat) := Rat.le_trans h1 h3
  have d0 : (0 : Rat) ≤ (v.den : Rat) := by exact_mod_cast Nat.zero_le _
  have h7 := Rat.mul_le_mul_of_nonneg_right h6 d0
  have e2 := num_is v
  have h8 : ((v.num * u : Int) : Rat) ≤ (((sm n fun k => g k * p k) * (v.den : Int) : Int) : Rat) := by
    push_cast
    rw [e2]
    grind
  exact_mod_cast h8
end Lw

end

section
set_option linter.all false
set_option maxRecDepth 100000
namespace MP
@[simp] theorem sub_o2a (p q : Bool) (a : List D) (rs : List (Bool × List D)) : subD true p (.own2 q ((false, a) :: rs)) 0 = .ok (.own a) := by
  unfold subD
  simp only [Lr.at_0]
  rfl
@[simp] theorem sub_o2b (p q : Bool) (a b : List D) (f : Bool) : subD true p (.own2 q [(f, a), (false, b)]) 1 = .ok (.own b) := by
  unfold subD
  simp only [Lr.at_1]
  rfl
theorem ne_lst {ds : List D} (h : D.plains 19 ds = true) : cmpD .ne (.lst ds) (.lst ds) = .ok (.fz (.bl false)) := ne_self h
theorem plains_vec {n k : Nat} {F : Nat → D} (h : ∀ i, (F i).plain k = true) : D.plains k (vec n F) = true := plains_of fun d m => by
  obtain ⟨i, _, rfl⟩ := List.mem_map.mp m
  exact h i
end MP
namespace Lw
open MP Sv Sw
open Lr hiding K
section
variable {P : MP.Prog} (h : HasM P)
include h
theorem ask_at {kind : Int} {n m : Nat} {g : Nat → Int} {a : Nat → Nat → Int} {b p : Nat → Int} (T : Task kind n m g a b p) (hw : P.wide = 10 ^ 40) (d : Nat) (u : Int) (hu : 1 ≤ u) (hu2 : u ≤ 5) : ∃ r, K P (d + 4) 39 [wishD n m g a b u] = .ok (.fz r) ∧ Ans n m g a b u 243 r := by
  have n4 := T.n4
  have m7 := T.m7
  have B : ∀ i k, (fT n g a b i k).natAbs ≤ 2 ^ 45 := fun i k => by
    unfold fT
    split
    · split
      · decide
      · have := T.g0 (k - 1); omega
    · split
      · split <;> decide
      · split
        · have := T.hb (i - n - 1); omega
        · have := T.ha (i - n - 1) (k - 1); omega
  refine ask_ok h.toHasA d n m (2 ^ 45) 240 3 g a b u T.n1 (by omega) (by omega) (fun k => (T.g0 k).1) (by decide) B ?_ hu (by omega) (by decide) ?_
  · have : ((n + 1) * 2 ^ 45) ^ (n + 1) ≤ (5 * 2 ^ 45) ^ 5 := Nat.le_trans (Nat.pow_le_pow_left (Nat.mul_le_mul (by omega) (Nat.le_refl _)) _) (Nat.pow_le_pow_right (by decide) (by omega))
    exact Nat.lt_of_le_of_lt this (by decide)
  · have : (n + 1 + m) ^ n ≤ 12 ^ 4 := Nat.le_trans (Nat.pow_le_pow_left (by omega) _) (Nat.pow_le_pow_right (by decide) n4)
    rw [hw]
    exact Nat.lt_of_le_of_lt this (by decide)
theorem sh_b {kind : Int} {n m : Nat} {g : Nat → Int} {a : Nat → Nat → Int} {b p : Nat → Int} (T : Task kind n m g a b p) (u : Int) (hu : 1 ≤ u) (hu2 : u ≤ 5) : ShB n m 46 246 g a b u := by
  have n4 := T.n4
  have m7 := T.m7
  exact ⟨fun i k => by have := T.ha i k; omega, fun i => by have := T.hb i; omega, fun k => by have := T.g0 k; omega, by omega, by decide, by omega, by omega, by decide⟩
/-- the wrong answers are told -/
theorem wrongs {d : Nat} {W : D} {Γ : List OD} {L : List D} (hΓ : lk Γ 7 = some (.fz W)) (hl : Γ.length = 13) (H : ∀ w, w ∈ L → K P d 42 [W, w] = .ok (.fz (.bl false))) (y : OD) :
    ∃ z, @forLz (fun Γ => execs b_law_1 (gq P d) Γ) (.n 10) ⟨L⟩ ⟨Γ.set 10 y⟩ = .ok .nx (Γ.set 10 z) := by
  refine forL_const (by omega) L y fun w m => ?_
  have e := H w m
  simp only [K] at e
  have h1 : lk (Γ.set 10 (.fz w)) 7 = some (.fz W) := by
    rw [lk_is, List.getElem?_set_ne (by decide), ← lk_is]
    exact hΓ
  have h2 : lk (Γ.set 10 (.fz w)) 10 = some (.fz w) := by
    rw [lk_is, List.getElem?_set_self (by omega)]
  simp [b_law_1, h1, h2, e, D.isBl]
end
end Lw

end

section
set_option linter.all false
set_option maxRecDepth 100000
namespace Lw
open MP Sv Sw
open Lr hiding K
section
variable {P : MP.Prog} (h : HasM P)
include h
theorem law_run (d : Nat) (hw : P.wide = 10 ^ 40) (ns : List Int) : outR (execs b_law (gq P (d + 5)) [.fz (.scr ns), .un, .un, .un, .un, .un, .un, .un, .un, .un, .un, .un, .un]) = .ok (.fz (.bl true)) := by
  have c0 : (gq P (d + 5)).call 13 [.scr ns, .int 0] [] [] = _ := cell_ok h (d + 4) ns 0 (by omega)
  have c1 : (gq P (d + 5)).call 13 [.scr ns, .int 1] [] [] = _ := cell_ok h (d + 4) ns 1 (by omega)
  have c3 : (gq P (d + 5)).call 13 [.scr ns, .int 3] [] [] = _ := cell_ok h (d + 4) ns 3 (by omega)
  have e3 : (3 : Int) ≠ 0 := by decide
  have e5 : (5 : Int) ≠ 0 := by decide
  have e7 : (7 : Int) ≠ 0 := by decide
  have d24 : divOk 24 = true := by decide
  generalize ek : (cl ns 0).fmod 3 = kind
  obtain ⟨n, m, g, a, b, p, et, T⟩ := task_ok h (d + 3) ns kind
  simp only [K] at et
  obtain ⟨u0, eu, hu0⟩ := fmod_nat ((cl ns 1).fdiv 24) 5 (by decide)
  have eu : ((cl ns 1).fdiv 24).fmod 5 = (u0 : Int) := eu
  obtain ⟨u, hu⟩ : ∃ u : Int, 1 + (u0 : Int) = u := ⟨_, rfl⟩
  have u1 : 1 ≤ u := by omega
  have u5 : u ≤ 5 := by omega
  obtain ⟨pl, hpl⟩ : ∃ pl, (cl ns 3).fmod 7 = pl := ⟨_, rfl⟩
  generalize cl ns 0 = x0 at *
  generalize cl ns 1 = x1 at *
  generalize cl ns 3 = x3 at *
  obtain ⟨r, er, A⟩ := ask_at h T hw (d + 1) u u1 u5
  have SB := sh_b h T u u1 u5
  have wm := wish_make h.toHasA (d + 4) n m false false false g a b u T.n1 (by have := T.n4; omega) (by have := T.m7; omega) (fun k _ => (T.g0 k).1) u1
  simp only [K, sq, Bool.false_eq_true, if_false] at er wm
  have n4 := T.n4
  have m7 := T.m7
  have mulg : ∀ k, mulOk (g k) (p k) = true := fun k => mulOk_l (by have := T.g0 k; omega)
  have ne1 : cmpD .ne (.lst (iv n g)) (.lst (iv n g)) = .ok (.fz (.bl false)) := ne_lst (plains_vec fun i => rfl)
  have ne2 : cmpD .ne (.lst (rowL n m a b)) (.lst (rowL n m a b)) = .ok (.fz (.bl false)) := ne_lst (plains_vec fun i => by
    show D.plains 18 [.lst (iv n (a i)), .int (b i)] = true
    have : D.plains 17 (iv n (a i)) = true := plains_vec fun k => rfl
    simp [D.plains, D.plain, this])
  have ek6 := ev_comp (X := (gq P (d + 5)).toFx) gq_cm (e := .tup [(.blt .list [(.sub (.var 11) (.int 0))]), (.sub (.var 11) (.int 1))]) (tg := .n 11) (it := .var 3) (cs := []) (Γ := [.fz (.scr ns), .fz (.int kind), .fz (.lst (iv n g)), .fz (.lst (rowL n m a b)), .fz (.lst (iv n p)), .fz (.int u), .un, .un, .un, .un, .un, .un, .un]) (pk := false) (n := m) (F := fun i => .tup [.lst (iv n (a i)), .int (b i)])
    (fun i => .tup [.lst (iv n (a i)), .int (b i)]) (by simp) (by omega) (fun j hj => ⟨_, by simp; rfl, by simp, by simp⟩)
  obtain ⟨W, hW⟩ : ∃ W, wishD n m g a b u = W := ⟨_, rfl⟩
  rw [hW] at er wm
  have hpre : execs (b_law.take 7) (gq P (d + 5)) [.fz (.scr ns), .un, .un, .un, .un, .un, .un, .un, .un, .un, .un, .un, .un] = .ok .nx [.fz (.scr ns), .fz (.int kind), .fz (.lst (iv n g)), .fz (.lst (rowL n m a b)), .fz (.lst (iv n p)), .fz (.int u), .own2 false [(false, iv n g), (false, rowL n m a b)], .fz W, .fz r, .un, .un, .un, .un] := by
    simp [b_law, c0, c1, bin_mod e3, ek, et, bin_fdiv d24, bin_mod e5, eu, hu, ek6, wm, er, ne1, ne2]
  have bq1 : cmpD .eq (.bl true) (.bl false) = .ok (.fz (.bl false)) := rfl
  have bq2 : cmpD .eq (.bl false) (.bl true) = .ok (.fz (.bl false)) := rfl
  have ney : ∀ y : Nat → Rat, cmpD .ne (.tup (rv m y)) (.tup (rv m y)) = .ok (.fz (.bl false)) := fun y => ne_self (show D.plains 19 (rv m y) = true from plains_vec fun i => plain_rr 18 (y i))
  show outR (execs (b_law.take 7 ++ b_law.drop 7) (gq P (d + 5)) [.fz (.scr ns), .un, .un, .un, .un, .un, .un, .un, .un, .un, .un, .un, .un]) = _
  rw [run_app hpre rfl]
  have fa : ∀ i k, (a i k).natAbs < 2 ^ 46 := SB.ha
  rcases A with ⟨v, x, y, hr, G, bv, bx, by'⟩ | ⟨y, hr, R, by'⟩
  · have k1 : kind ≠ 1 := fun z => by
      obtain ⟨i, j, hi, hj, e1, e2⟩ := T.k1 z
      exact no_g G hi hj e1 e2
    have ls := lshows_g h (d + 1) n m 46 246 g a b u v x y G (by decide) (by decide) fa SB.hb SB.hg SB.hu (bv.mono (by decide)) (fun k => (bx k).mono (by decide)) (fun k => (by' k).mono (by decide)) (by omega) (by omega)
    have bv1 : Bd 246 (v + 1) := (bv.add (Bd.int (c := 1) (k := 1) (by decide) (by decide))).mono (by decide)
    have sg := fun lx ly v x y hv hx hy hlx hly => shows_g h.toHasA SB d lx ly v x y hv hx hy (by omega) (by omega) hlx hly
    have s0 := sg n m v x y (bv.mono (by decide)) (fun k => (bx k).mono (by decide)) (fun k => (by' k).mono (by decide)) (by omega) (by omega)
    rw [shG_yes G] at s0
    have bm1 : Bd 246 (-1) := Bd.int (c := -1) (by decide) (by decide)
    have bz0 : Bd 246 0 := Bd.zero (by decide)
    obtain ⟨i, j, hi, hj, ec⟩ := changed_g h (d + 3) n m v x y pl T.n1 (by omega) (by omega)
    have lp := wrongs h (d := d + 5) (W := W) (Γ := [.fz (.scr ns), .fz (.int kind), .fz (.lst (iv n g)), .fz (.lst (rowL n m a b)), .fz (.lst (iv n p)), .fz (.int u), .own2 false [(false, iv n g), (false, rowL n m a b)], .fz W, .fz r, if kind = 0 then .fz (.int (sm n fun k => g k * p k)) else .un, .un, .un, .un]) (L := [grD n m (v + 1) x y, grD n m v (chg x i (-1)) y, grD (n + 1) m v (chg x n 0) y, grD n (m + 1) v x (chg y m 0)] ++ if m = 0 then [] else [grD n m v x (chg y j (-1))]) rfl rfl (fun w hw => by
      have v246 := bv.mono (show 243 ≤ 246 by decide)
      have x246 : ∀ k, Bd 246 (x k) := fun k => (bx k).mono (by decide)
      have y246 : ∀ k, Bd 246 (y k) := fun k => (by' k).mono (by decide)
      rw [← hW]
      simp only [List.cons_append, List.nil_append, List.mem_cons] at hw
      rcases hw with rfl | rfl | rfl | rfl | hw
      · rw [sg n m (v + 1) x y bv1 x246 y246 (by omega) (by omega), shG_v G (by omega)]
      · rw [sg n m v _ y v246 (chg_bd x246 bm1) y246 (by omega) (by omega), shG_x hi]
      · rw [sg (n + 1) m v _ y v246 (chg_bd x246 bz0) y246 (by omega) (by omega), shG_xl]
      · rw [sg n (m + 1) v x _ v246 x246 (chg_bd y246 bz0) (by omega) (by omega), shG_yl]
      · by_cases m0 : m = 0
        · rw [if_pos m0] at hw; cases hw
        · rw [if_neg m0] at hw
          rw [List.mem_singleton.mp hw]
          rw [sg n m v x _ v246 x246 (chg_bd y246 bm1) (by omega) (by omega), shG_y (hj.resolve_left m0)])
    obtain ⟨k1', k2', k3'⟩ := h.f37
    have aA1 : attrD (gq P (d + 5)).toFx 57 (.fz r) = .ok (.fz (rr v)) := by rw [hr]; simp [grD, k1']
    have aA3 : attrD (gq P (d + 5)).toFx 59 (.fz r) = .ok (.fz (.tup (rv m y))) := by rw [hr]; simp [grD, k3']
    obtain ⟨t38, t37⟩ := ty_gr h.toHasA n m v x y
    rw [← hr] at ls s0 ec t38 t37
    rw [hW] at s0
    simp only [K] at ls s0 ec
    generalize ([grD n m (v + 1) x y, grD n m v (chg x i (-1)) y, grD (n + 1) m v (chg x n 0) y, grD n (m + 1) v x (chg y m 0)] ++ if m = 0 then [] else [grD n m v x (chg y j (-1))]) = L at ec lp
    have v0 : ∀ p q, subD p q (.fz (rr v)) 0 = .ok (.fz (.int v.num)) := fun p q => by simp [rr]
    have v1 : ∀ p q, subD p q (.fz (rr v)) 1 = .ok (.fz (.int v.den)) := fun p q => by simp [rr]
    have ney := ney y
    obtain ⟨z, lp⟩ := lp .un
    simp +instances only [List.set_cons_succ, List.set_cons_zero] at lp
    have mu : mulOk v.num u = true := mulOk_r (by omega)
    have G0 := G
    clear G
    by_cases k0 : kind = 0
    · subst k0
      have du := duality G0 (fun k => (T.p0 k).1) (T.k0 rfl)
      have sb : (sm n fun k => g k * p k).natAbs ≤ n * 100 := sm_ab fun k => by
        have h1 := T.g0 k
        have h2 := T.p0 k
        rw [Int.natAbs_mul]
        exact Nat.mul_le_mul (show (g k).natAbs ≤ 10 by omega) (show (p k).natAbs ≤ 10 by omega)
      have md : mulOk (sm n fun k => g k * p k) (v.den : Int) = true := mulOk_l (by have := Nat.mul_le_mul_right 100 n4; omega)
      have e9 := ev_comp (X := (gq P (d + 5)).toFx) gq_cm (e := .bin .mul (.sub (.var 2) (.var 12)) (.sub (.var 4) (.var 12))) (tg := .n 12) (it := .rng [(.blt .len [(.var 2)])]) (cs := []) (Γ := [.fz (.scr ns), .fz (.int 0), .fz (.lst (iv n g)), .fz (.lst (rowL n m a b)), .fz (.lst (iv n p)), .fz (.int u), .own2 false [(false, iv n g), (false, rowL n m a b)], .fz W, .fz r, .un, .un, .un, .un]) (pk := true) (n := n) (F := fun j => .int (j : Int))
        (fun j => .int (g j * p j)) (by simp (disch := omega)) (by omega) (fun j hj => ⟨_, by simp; rfl, by simp, by simp (disch := omega) [bin_mul (mulg j)]⟩)
      simp +instances only [if_pos rfl] at lp
      generalize hre : (sm n fun k => g k * p k) = re at *
      have du' : ¬ re * (v.den : Int) < v.num * u := by omega
      rw [show b_law.drop 7 = (b_law.drop 7).take 3 ++ b_law.drop 10 from rfl]
      rw [run_app (Γ' := [.fz (.scr ns), .fz (.int 0), .fz (.lst (iv n g)), .fz (.lst (rowL n m a b)), .fz (.lst (iv n p)), .fz (.int u), .own2 false [(false, iv n g), (false, rowL n m a b)], .fz W, .fz r, .fz (.int re), .un, .un, .un]) (by simp [b_law, t37, t38, bq1, bq2, ls, e9, hre, aA1, v0, v1, bin_mul mu, bin_mul md, du']) rfl]
      simp [b_law, s0, wm, er, aA3, ney, c3, bin_mod e7, hpl, ec, lp, D.isBl]
    · simp +instances only [if_neg k0] at lp
      simp [b_law, t37, t38, bq1, bq2, ls, k0, k1, s0, wm, er, aA3, ney, c3, bin_mod e7, hpl, ec, lp, D.isBl]
  · have k0 : kind ≠ 0 := fun z => no_r R (fun k => (T.p0 k).1) (T.k0 z)
    have m1 : 1 ≤ m := by
      have := R.bd
      rcases Nat.eq_zero_or_pos m with z | z
      · subst z
        exact absurd this Rat.lt_irrefl
      · exact z
    have ls := lshows_r h (d + 1) n m 46 246 g a b u y R (by decide) (by decide) fa SB.hb (fun k => (by' k).mono (by decide)) (by omega) (by omega)
    have sg := fun ly y hy hly => shows_r h.toHasA SB d ly y hy (by omega) (by omega) hly
    have s0 := sg m y (fun k => (by' k).mono (by decide)) (by omega)
    rw [shR_yes R] at s0
    have bm1 : Bd 246 (-1) := Bd.int (c := -1) (by decide) (by decide)
    have bz0 : Bd 246 0 := Bd.zero (by decide)
    obtain ⟨j, hj, ec⟩ := changed_r h (d + 3) m y pl m1 (by omega)
    have lp := wrongs h (d := d + 5) (W := W) (Γ := [.fz (.scr ns), .fz (.int kind), .fz (.lst (iv n g)), .fz (.lst (rowL n m a b)), .fz (.lst (iv n p)), .fz (.int u), .own2 false [(false, iv n g), (false, rowL n m a b)], .fz W, .fz r, .un, .un, .un, .un]) (L := [rfD m (chg y j (-1)), rfD (m + 1) (chg y m 0)]) rfl rfl (fun w hw => by
      have y246 : ∀ k, Bd 246 (y k) := fun k => (by' k).mono (by decide)
      rw [← hW]
      simp only [List.mem_cons, List.not_mem_nil, or_false] at hw
      rcases hw with rfl | rfl
      · rw [sg m _ (chg_bd y246 bm1) (by omega), shR_y hj]
      · rw [sg (m + 1) _ (chg_bd y246 bz0) (by omega), shR_yl])
    have k3' := h.f38
    have aA3 : attrD (gq P (d + 5)).toFx 59 (.fz r) = .ok (.fz (.tup (rv m y))) := by rw [hr]; simp [rfD, k3']
    obtain ⟨t38, t37⟩ := ty_rf h.toHasA m y
    rw [← hr] at ls s0 ec t38 t37
    rw [hW] at s0
    simp only [K] at ls s0 ec
    generalize ([rfD m (chg y j (-1)), rfD (m + 1) (chg y m 0)]) = L at ec lp
    have ney := ney y
    obtain ⟨z, lp⟩ := lp .un
    simp +instances only [List.set_cons_succ, List.set_cons_zero] at lp
    simp [b_law, t37, t38, bq1, bq2, ls, k0, s0, wm, er, aA3, ney, c3, bin_mod e7, hpl, ec, lp, D.isBl]
end
end Lw

end

section
set_option linter.all false
set_option maxRecDepth 100000
namespace Lw
open MP Sv Sw
theorem hasM : HasM prog.P := by
  have a : HasS prog.P := by constructor <;> rfl
  have b : Lr.HasR prog.P := by constructor <;> rfl
  have c : HasA prog.P := ⟨a, b, rfl, rfl, rfl, rfl, rfl, rfl, rfl, rfl, rfl, rfl, rfl, rfl, rfl, rfl⟩
  exact ⟨c, rfl, rfl, rfl, rfl, rfl, rfl, rfl, rfl, rfl, rfl, rfl, rfl⟩
theorem law_all (ns : List Int) : runB prog.P 20 f_law [.scr ns] = .ok (.fz (.bl true)) := by
  have e := law_run hasM 15 (by rfl) ns
  rw [gq_eq] at e
  exact e
end Lw

end

section
set_option linter.all false
set_option maxRecDepth 100000
namespace Lw
open MP PySem PySem.W PySem.Calls PyProof.Rows
theorem text_ok : okText prog dds eds = true := by kernel_rfl
abbrev R : OpenRow := OpenLaw.row PySem.Challenge.rw_paidforsigns_k01_granted_or_refused
abbrev hk : Hook := hookM 4 prog (defsOf prog dds) eds
def ob (s : SharedT) : AlM := obsMG 4 prog (defsOf prog dds) eds (HandSHeadRun.getT s)
theorem ob_eq (s : SharedT) : ob s = hk.obs s.abs := obsMG_eq (HandSHeadRun.getT_eq s)
theorem head_run (w : World) : HandSHeadRun.RunEqI R (view R.prog [0, lawIx]) hk ob 3000 loose w := by
  show (HandSHeadRun.wholeF _ _ _ _).map _ = _
  kernel_rfl
theorem law_of (hrun : ∀ ns : List Int, ns.length ≤ 63 → runB prog.P 20 f_law [.scr ns] = .ok (.fz (.bl true))) : PySem.Challenge.rw_paidforsigns_k01_granted_or_refused.Holds := by
  w_on; o_law
  refine HandSHeadRun.head_imp (r := OpenLaw.row PySem.Challenge.rw_paidforsigns_k01_granted_or_refused) (q := view (OpenLaw.row PySem.Challenge.rw_paidforsigns_k01_granted_or_refused).prog [0, lawIx]) (H := hk) (ob := ob) (M := 3000) (loose := loose) (d := HandSHeadRun.topDef (OpenLaw.row PySem.Challenge.rw_paidforsigns_k01_granted_or_refused).prog lawIx) (kwd := []) ob_eq
    head_run (by kernel_rfl) (by kernel_rfl) (by kernel_rfl) (by rfl) (by first | assumption | decide +kernel) (by decide +kernel) ⟨rfl, rfl, rfl, rfl, rfl, by decide +kernel⟩ ?hw ?hc
  case hw => w_witness2
  case hc =>
    refine walk_mp (l := PySem.Challenge.rw_paidforsigns_k01_granted_or_refused) (p := prog) (ds := dds) (es := eds) (f := lawNo) (F := f_law) (n := 20) (m := 4) rfl rfl (by kernel_rfl) (by kernel_rfl) rfl text_ok (by kernel_rfl) (by kernel_rfl) rfl rfl trivial ⟨rfl, by decide, by decide⟩ hrun
end Lw


end

section
theorem PySem.Challenge.cw_paidforsigns_k01_granted_or_refused_holds : PySem.Challenge.rw_paidforsigns_k01_granted_or_refused.Holds := by
  exact Lw.law_of fun ns _ => Lw.law_all ns

end
