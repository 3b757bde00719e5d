import PyProof.Rows.All
import Wide.All
import OpenK.AllK
import Wide.FinOn
import HandS.ForExc
import HandS.Comp
import HandS.Iter
import HandS.IsInst
import HandS.Property
import HandS.Defaults
import HandS.HeadHook2
import HandS.HeadEnd
import HandS.Head2
import HandS.Gcd
import HandS.Wide
import HandS.ExcSuper
import HandS.ExcInit
import HandS.ExcField
import HandS.FStr
import HandS.Flow
import HandS.Style
import HandS.HeadWalk
import KE.KExcSuper
import HandS.ExcIs
import PySem.Challenge.RW_spreadshrinks_k09_invalid_settings
/-! Ev: a small evaluator for the erased text (plain Lean). -/
namespace Ev

/-- data: a text is its codes; own: a list that nobody else holds; scr: the script; ins: an instance, its fields in the order of its class; obj: self within __init__; ref: an object of the store; exc: a caught error -/
inductive D where
  | non | bl (b : Bool) | int (i : Int) | str (s : List Nat)
  | tup (ds : List D) | lst (ds : List D) | own (ds : List D) | scr (ns : List Int)
  | ins (c : Nat) (ds : List D) | obj (c : Nat) (ds : List D)
  | ref (k : Nat) | exc (c : Nat) (ds : List D) | nim
  deriving Inhabited

/-- an object of the store -/
inductive Ob where
  | lst (ds : List D) | ins (c : Nat) (ds : List D) | dct (kvs : List (D × D))
  deriving Inhabited
abbrev Sto := List Ob
/-- an error: its class, its attributes -/
structure Xn where
  c : Nat
  ds : List D
  deriving Inhabited

inductive R (α : Type) where
  | ok (a : α) (S : Sto) | er (x : Xn) (S : Sto) | no

def R.bind {α β : Type} (r : R α) (k : α → Sto → R β) : R β := match r with
  | .ok a S => k a S
  | .er x S => .er x S
  | .no => .no
@[simp] theorem bind_ok {α β : Type} (a : α) (S : Sto) (k : α → Sto → R β) : (R.ok a S).bind k = k a S := rfl
@[simp] theorem bind_er {α β : Type} (x : Xn) (S : Sto) (k : α → Sto → R β) : (R.er x S : R α).bind k = .er x S := rfl
@[simp] theorem bind_no {α β : Type} (k : α → Sto → R β) : (R.no : R α).bind k = .no := rfl
/-- a value, or stuck -/
def R.of {α : Type} (o : Option α) (S : Sto) : R α := match o with
  | some a => .ok a S
  | none => .no
@[simp] theorem of_some {α : Type} (a : α) (S : Sto) : R.of (some a) S = .ok a S := rfl
@[simp] theorem of_none {α : Type} (S : Sto) : (R.of none S : R α) = .no := rfl

/-! ### the erased text -/
inductive BO where
  | add | sub | mul | fdv | mod | pow | band | shr
  deriving DecidableEq
inductive CO where
  | eq | ne | lt | le | gt | ge | is_ | isn | in_ | nin
  deriving DecidableEq
/-- what isinstance is asked of -/
inductive TY where
  | int | bool | str | tuple | list | dict | verr | cls (c : Nat)
  deriving DecidableEq
/-- built-in functions -/
inductive BI where
  | len | int | str | list | tuple | abs | sum | sorted | gcd | range1 | range2 | min2
  deriving DecidableEq
mutual
inductive E where
  | non | bl (b : Bool) | int (i : Int) | str (s : List Nat)
  | var (i : Nat) | con (j : Nat)
  | neg (a : E) | not (a : E)
  | bin (o : BO) (a b : E) | cmp (o : CO) (a b : E) | chain (o p : CO) (a b c : E)
  | and (a b : E) | or (a b : E) | ite (t : Tt) (a b : E)
  | call (f : Nat) (as : Es) | make (c : Nat) (as : Es) | meth (m : Nat) (a : E) (as : Es) | attr (a : E) (m : Nat)
  | bi (b : BI) (as : Es) | isi (a : E) (ts : List TY)
  | tup (as : Es) | lst (as : Es)
  | ix (a i : E) | sl (a lo hi : E) | nop
  | comp (i : Nat) (e : E) (src : It) (t : Tt)
  | fst (as : Es)
  | sto (a : E)
  | xat (i m : Nat) | xis (i : Nat) (t : TY)
inductive Es where
  | nil | cons (a : E) (as : Es)
/-- a test -/
inductive Tt where
  | e (a : E) | not (a : Tt) | and (a b : Tt) | or (a b : Tt)
inductive It where
  | seq (a : E) | rng (as : Es) | enum (a : E) | zip (a b : E)
end
inductive S where
  | skip | seq (s r : S) | expr (a : E)
  | set (i : Nat) (a : E) | own (i : Nat) (a : E) | unp (is : List Nat) (a : E) | frz (i : Nat)
  | setf (m : Nat) (a : E) | seti (a i v : E) | ownseti (x : Nat) (i v : E)
  | aug (x : Nat) (o : BO) (a : E)
  | app (x : Nat) (a : E) | insr (x : Nat) (i a : E)
  | ret (a : E) | retm (i : Nat) | ret0
  | ifs (t : Tt) (a b : S) | for_ (ts : List Nat) (src : It) (b : S) | while_ (t : Tt) (b : S)
  | brk | cnt | raise (c : Nat) (as : Es)
  | try_ (b hs : S) | hnd (c : Nat) (x : Option Nat) (h r : S)

/-! ### the table -/
/-- a class: its fields, its methods and properties by the attributes' numbers, __init__ -/
structure Cls where
  fields : List Nat
  meths : List (Nat × Nat) := []
  props : List (Nat × Nat) := []
  init : Nat := 0
  /-- how many arguments __init__ takes behind self; the defaults of its last ones -/
  np : Nat := 0
  dfl : List D := []
  /-- an error's class -/
  exc : Bool := false
  /-- its text is made of its first field -/
  cat : Bool := false
  /-- the classes above it -/
  up : List Nat := []
structure Fn where
  np : Nat
  nl : Nat
  body : S
  /-- the class whose __init__ it is -/
  ini : Option Nat := none
  /-- above the levels of all that it calls -/
  lv : Nat
structure Tab where
  cls : Nat → Option Cls
  con : Nat → D
  fn : Nat → Option Fn
  /-- the functions of the operators: of a class, left and right -/
  bop : Nat → BO → Option Nat
  rop : Nat → BO → Option Nat
  cop : Nat → CO → Option Nat
  neg : Nat → Option Nat := fun _ => none
  abs : Nat → Option Nat := fun _ => none
  str : Nat → Option Nat := fun _ => none
  get : Nat → Option Nat := fun _ => none
  /-- what isinstance is asked of anywhere -/
  isi : List TY := []

/-! ### values -/
def small (i : Int) : Bool := decide (-(18446744073709551616) < i) && decide (i < 18446744073709551616)
def mulOk (i j : Int) : Bool := small i || small j || decide (i.natAbs.log2 + j.natAbs.log2 < 1000000)
def divOk (j : Int) : Bool := decide (j ≠ 0) && decide (j.natAbs.log2 < 9000)
def LINE : Nat := 1000000
/-- a list as it may be read -/
def asL : D → Option (List D)
  | .lst ds => some ds
  | .own ds => some ds
  | _ => none
/-- kept elsewhere: an own list becomes one that is not changed any more -/
def fz : D → D
  | .own ds => .lst ds
  | d => d
@[simp] theorem fz_own (ds : List D) : fz (.own ds) = .lst ds := rfl
@[simp] theorem fz_lst (ds : List D) : fz (.lst ds) = .lst ds := rfl
@[simp] theorem fz_int (i : Int) : fz (.int i) = .int i := rfl
@[simp] theorem fz_bl (i : Bool) : fz (.bl i) = .bl i := rfl
@[simp] theorem fz_non : fz .non = .non := rfl
@[simp] theorem fz_str (s) : fz (.str s) = .str s := rfl
@[simp] theorem fz_tup (ds) : fz (.tup ds) = .tup ds := rfl
@[simp] theorem fz_ins (c ds) : fz (.ins c ds) = .ins c ds := rfl
@[simp] theorem fz_ref (c) : fz (.ref c) = .ref c := rfl
@[simp] theorem fz_scr (c) : fz (.scr c) = .scr c := rfl

def binD : BO → D → D → Option D
  | .add, .int a, .int b => some (.int (a + b))
  | .sub, .int a, .int b => some (.int (a - b))
  | .mul, .int a, .int b => if mulOk a b then some (.int (a * b)) else none
  | .fdv, .int a, .int b => if divOk b then some (.int (a.fdiv b)) else none
  | .mod, .int a, .int b => if b ≠ 0 then some (.int (a.fmod b)) else none
  | .pow, .int a, .int b => if 0 ≤ b ∧ b ≤ 1000000 ∧ small a then some (.int (a ^ b.toNat)) else none
  | .add, .str s, .str t => if s.length + t.length ≤ LINE then some (.str (s ++ t)) else none
  | _, _, _ => none
/-- what is no object -/
def flat : D → Bool
  | .non => true | .bl _ => true | .int _ => true | .str _ => true
  | _ => false
/-- == of flat data -/
def eqF : D → D → Option Bool
  | .non, .non => some true | .non, .int _ => some false | .int _, .non => some false | .non, .bl _ => some false | .bl _, .non => some false
  | .non, .str _ => some false | .str _, .non => some false
  | .int a, .int b => some (decide (a = b)) | .bl a, .bl b => some (decide (a = b)) | .str a, .str b => some (decide (a = b))
  | .int _, .str _ => some false | .str _, .int _ => some false | .bl _, .str _ => some false | .str _, .bl _ => some false
  | _, _ => none
/-- in a row of flat data: none of them a truth value, nor the thing -/
def noBl : D → Bool
  | .non => true | .int _ => true | .str _ => true
  | _ => false
def leafEq : D → D → Bool
  | .non, .non => true
  | .int a, .int b => decide (a = b)
  | .str a, .str b => decide (a = b)
  | _, _ => false
def inF (x : D) (ds : List D) : Option Bool := if noBl x && ds.all noBl then some (ds.any fun d => leafEq d x) else none
def seqOf : D → Option (List D)
  | .lst ds => some ds
  | .own ds => some ds
  | .tup ds => some ds
  | _ => none
def isNon : D → Bool
  | .non => true
  | _ => false
def cmpD : CO → D → D → Option Bool
  | .eq, a, b => eqF a b
  | .ne, a, b => (eqF a b).map (!·)
  | .lt, .int a, .int b => some (decide (a < b))
  | .le, .int a, .int b => some (decide (a ≤ b))
  | .gt, .int a, .int b => some (decide (b < a))
  | .ge, .int a, .int b => some (decide (b ≤ a))
  | .is_, .bl a, .bl b => some (decide (a = b))
  | .is_, d, .non => some (isNon d)
  | .isn, d, .non => some (!isNon d)
  | .in_, x, y => (seqOf y).bind (inF x)
  | .nin, x, y => ((seqOf y).bind (inF x)).map (!·)
  | _, _, _ => none
def truth : D → Option Bool
  | .non => some false
  | .bl b => some b
  | .int i => some (i != 0)
  | .tup ds => some (!ds.isEmpty)
  | .lst ds => some (!ds.isEmpty)
  | .own ds => some (!ds.isEmpty)
  | _ => none
/-- the place that an index means -/
def ixN (n : Nat) (i : Int) : Option Nat := if 0 ≤ i then (if i < n then some i.toNat else none) else if -(n : Int) ≤ i then some (i + n).toNat else none
def atI {α : Type} (xs : List α) (i : Int) : Option α := (ixN xs.length i).bind fun j => xs[j]?
def sIx (n d : Nat) : Option Int → Nat
  | none => d
  | some v => (if v < 0 then max (v + n) 0 else min v n).toNat
def cutL {α : Type} (xs : List α) (lo hi : Option Int) : List α := (xs.drop (sIx xs.length 0 lo)).take (sIx xs.length xs.length hi - sIx xs.length 0 lo)
/-- the kinds of data, as isinstance asks -/
inductive Kd where
  | int | bool | str | non | tuple | list | ins (c : Nat) | exc (c : Nat)
  deriving DecidableEq
def kdOf : D → Option Kd
  | .int _ => some .int | .bl _ => some .bool | .str _ => some .str | .non => some .non | .tup _ => some .tuple | .lst _ => some .list | .own _ => some .list
  | .ins c _ => some (.ins c) | .exc c _ => some (.exc c)
  | _ => none
def kdIs (T : Tab) : Kd → TY → Option Bool
  | k, .cls j => (match T.cls j with
    | none => none
    | some _ => (match k with
      | .ins c => (match T.cls c with
        | some C => if C.exc then none else some (decide (c = j))
        | none => none)
      | .exc c => (match T.cls c with
        | some C => if C.exc then some (decide (c = j) || C.up.contains j) else none
        | none => none)
      | _ => some false))
  | .ins c, _ => (match T.cls c with
    | some C => if C.exc then none else some false
    | none => none)
  | .exc c, t => (match T.cls c with
    | some C => if C.exc then some (t == .verr) else none
    | none => none)
  | .int, t => some (t == .int)
  | .bool, t => some (t == .int || t == .bool)
  | .str, t => some (t == .str)
  | .non, _ => some false
  | .tuple, t => some (t == .tuple)
  | .list, t => some (t == .list)
def isInst (T : Tab) (d : D) (t : TY) : Option Bool := if T.isi.contains t then (kdOf d).bind fun k => kdIs T k t else none
def isAny (T : Tab) (d : D) : List TY → Option Bool
  | [] => some false
  | t :: ts => match isInst T d t with
    | some true => some true
    | some false => isAny T d ts
    | none => none
/-- the digits of a number -/
def digitsOf (n : Nat) : List Nat := (Nat.toDigits 10 n).map Char.toNat
def strI (i : Int) : List Nat := if i < 0 then 45 :: digitsOf i.natAbs else digitsOf i.natAbs

def allInt : List D → Option (List Int)
  | [] => some []
  | .int i :: ds => (allInt ds).map (i :: ·)
  | _ => none
/-- sorted by insertion -/
def insI (x : Int) : List Int → List Int
  | [] => [x]
  | y :: r => if x ≤ y then x :: y :: r else y :: insI x r
def sortI : List Int → List Int
  | [] => []
  | x :: r => insI x (sortI r)
def rangeI (lo hi : Int) : List Int := (List.range (hi - lo).toNat).map fun (k : Nat) => lo + (k : Int)
def biD : BI → List D → Option D
  | .len, [.tup ds] => some (.int ds.length)
  | .len, [.lst ds] => some (.int ds.length)
  | .len, [.own ds] => some (.int ds.length)
  | .len, [.scr ns] => some (.int ns.length)
  | .len, [.str s] => if s.length ≤ LINE then some (.int s.length) else none
  | .int, [.int i] => some (.int i)
  | .int, [.bl b] => some (.int (if b then 1 else 0))
  | .str, [.int i] => if i.natAbs.log2 < 1920 then some (.str (strI i)) else none
  | .str, [.str s] => some (.str s)
  | .list, [d] => match seqOf d with
    | some ds => some (.own ds)
    | none => none
  | .tuple, [d] => match seqOf d with
    | some ds => some (.tup ds)
    | none => none
  | .abs, [.int i] => some (.int (if i < 0 then -i else i))
  | .gcd, [.int a, .int b] => some (.int (Int.gcd a b : Nat))
  | .sum, [d] => match (seqOf d).bind allInt with
    | some ns => some (.int ns.sum)
    | none => none
  | .sorted, [d] => match (seqOf d).bind allInt with
    | some ns => if ns.length < 64 then some (.own ((sortI ns).map D.int)) else none
    | none => none
  | .range1, [.int n] => if n < LINE then some (.own ((rangeI 0 n).map D.int)) else none
  | .range2, [.int a, .int b] => if -(LINE : Int) < a ∧ b < LINE then some (.own ((rangeI a b).map D.int)) else none
  | .min2, [.int a, .int b] => some (.int (if b < a then b else a))
  | _, _ => none

abbrev Rho := List (Option D)
/-- a name's value as it may be kept: no own list, no self -/
def rdV (ρ : Rho) (i : Nat) : Option D := match ρ[i]? with
  | some (some (.own _)) => none
  | some (some (.obj _ _)) => none
  | some (some (.exc _ _)) => none
  | some (some d) => some d
  | _ => none
/-- .. as it may be looked at -/
def rdB (ρ : Rho) (i : Nat) : Option D := match ρ[i]? with
  | some (some d) => some d
  | _ => none
def nameOf {β : Type} (m : Nat) : List (Nat × β) → Option β
  | [] => none
  | (k, b) :: r => if k = m then some b else nameOf m r
def posOf (m : Nat) : List Nat → Option Nat
  | [] => none
  | k :: r => if k = m then some 0 else (posOf m r).map (· + 1)

def Es.len : Es → Nat
  | .nil => 0
  | .cons _ as => as.len + 1
section
variable (T : Tab) (cf : Nat → List D → Sto → R D)
/-- what is a field -/
def fieldD (c m : Nat) (ds : List D) : Option D := match T.cls c with
  | some C => (posOf m C.fields).bind fun j => ds[j]?
  | none => none
def isErr (c : Nat) : Bool := match T.cls c with
  | some C => C.exc
  | none => false
/-- of the error that is handled: a field; isinstance -/
def xatD (ρ : Rho) (i m : Nat) : Option D := match rdB ρ i with
  | some (.exc c ds) => if isErr T c then fieldD T c m ds else none
  | _ => none
def xisD (ρ : Rho) (i : Nat) (t : TY) : Option D := match rdB ρ i with
  | some (.exc c _) => if isErr T c && T.isi.contains t then (kdIs T (.exc c) t).map D.bl else none
  | _ => none
/-- a class of instances -/
def clsI (c : Nat) : Option Cls := match T.cls c with
  | some C => if C.exc then none else some C
  | none => none
def prop (c m : Nat) : Option Nat := (clsI T c).bind fun C => nameOf m C.props
def methOf (c m : Nat) : Option Nat := (clsI T c).bind fun C => nameOf m C.meths
/-- a property raises nothing -/
def noEr : R D → R D
  | .ok d st => .ok d st
  | _ => .no
@[simp] theorem noEr_ok (d : D) (st : Sto) : noEr (.ok d st) = .ok d st := rfl
def notNim : R D → R D
  | .ok .nim _ => .no
  | r => r
def binE (o : BO) (a b : D) (st : Sto) : R D := match a, b with
  | .ins c ds, b => (match T.bop c o with
    | some f => notNim (cf f [.ins c ds, fz b] st)
    | none => .no)
  | .int i, .ins c ds => (match T.rop c o with
    | some f => notNim (cf f [.ins c ds, .int i] st)
    | none => .no)
  | a, b => R.of (binD o a b) st
def asBl : R D → R Bool
  | .ok (.bl b) st => .ok b st
  | .er x st => .er x st
  | _ => .no
def cmpE (o : CO) (a b : D) (st : Sto) : R Bool := match a, b with
  | .ins c ds, b => (match T.cop c o with
    | some f => asBl (cf f [.ins c ds, fz b] st)
    | none => R.of (cmpD o (.ins c ds) b) st)
  | a, b => R.of (cmpD o a b) st
def attrE (a : D) (m : Nat) (st : Sto) : R D := match a with
  | .ins c ds => (match (clsI T c).bind fun _ => fieldD T c m ds with
    | some d => .ok d st
    | none => (match prop T c m with
      | some f => noEr (cf f [.ins c ds] st)
      | none => .no))
  | .obj c ds => R.of ((clsI T c).bind fun _ => fieldD T c m ds) st
  | .exc c ds => R.of (fieldD T c m ds) st
  | _ => .no
def methE (m : Nat) (a : D) (as : List D) (st : Sto) : R D := match a with
  | .ins c ds => (match methOf T c m with
    | some f => cf f (.ins c ds :: as) st
    | none => .no)
  | _ => .no
def ixE (a i : D) (st : Sto) : R D := match a, i with
  | .tup ds, .int k => R.of (atI ds k) st
  | .lst ds, .int k => R.of (atI ds k) st
  | .own ds, .int k => R.of (atI ds k) st
  | .scr ns, .int k => R.of ((atI ns k).map D.int) st
  | .str s, .int k => if s.length ≤ LINE then R.of ((atI s k).map fun c => D.str [c]) st else .no
  | .ref r, .int k => (match st[r]? with
    | some (.lst ds) => R.of (atI ds k) st
    | _ => .no)
  | .ins _ _, .own _ => .no
  | .ins c ds, d => (match T.get c with
    | some f => cf f [.ins c ds, d] st
    | none => .no)
  | _, _ => .no
def partOf : D → Option (Option Int)
  | .non => some none
  | .int i => some (some i)
  | _ => none
def slE (a lo hi : D) (st : Sto) : R D := match partOf lo, partOf hi with
  | some l, some h => (match a with
    | .lst ds => .ok (.own (cutL ds l h)) st
    | .own ds => .ok (.own (cutL ds l h)) st
    | .tup ds => .ok (.tup (cutL ds l h)) st
    | _ => .no)
  | _, _ => .no
def strE (a : D) (st : Sto) : R D := match a with
  | .ins c ds => (match T.str c with
    | some f => cf f [.ins c ds] st
    | none => .no)
  | d => R.of (biD .str [d]) st
def biE (b : BI) (as : List D) (st : Sto) : R D := match b, as with
  | .str, [d] => strE T cf d st
  | .abs, [.ins c ds] => (match T.abs c with
    | some f => cf f [.ins c ds] st
    | none => .no)
  | .len, [.ref r] => (match st[r]? with
    | some (.lst ds) => .ok (.int ds.length) st
    | _ => .no)
  | b, as => R.of (biD b as) st
def negE (a : D) (st : Sto) : R D := match a with
  | .int i => .ok (.int (-i)) st
  | .ins c ds => (match T.neg c with
    | some f => cf f [.ins c ds] st
    | none => .no)
  | _ => .no
/-- a new instance: __init__ is a function too; it answers with the instance -/
def mis (C : Cls) (n : Nat) : List D := C.dfl.drop (C.dfl.length + n - C.np)
def makeE (c : Nat) (as : List D) (st : Sto) : R D := match clsI T c with
  | some C => cf C.init (as ++ mis C as.length) st
  | none => .no
def joinS : List D → Option (List Nat)
  | [] => some []
  | .str s :: r => (joinS r).map (s ++ ·)
  | .int i :: r => if i.natAbs.log2 < 1920 then (joinS r).map (strI i ++ ·) else none
  | _ => none
/-- the items that a for takes: each the values of the targets -/
def zipD : List D → List D → List (List D)
  | a :: as, b :: bs => [a, b] :: zipD as bs
  | _, _ => []
def enumD (k : Int) : List D → List (List D)
  | [] => []
  | d :: ds => [.int k, d] :: enumD (k + 1) ds
def setAll (ρ : Rho) : List Nat → List D → Option Rho
  | [], [] => some ρ
  | i :: is, d :: ds => setAll (ρ.set i (some d)) is ds
  | _, _ => none
def rngI : List D → Option (List Int)
  | [.int n] => if n < LINE then some (rangeI 0 n) else none
  | [.int a, .int b] => if -(LINE : Int) < a ∧ b < LINE then some (rangeI a b) else none
  | _ => none
/-- a comprehension's loop: the slot's value ahead of it does not matter -/
def compL (el : Rho → Sto → R D) (te : Rho → Sto → R Bool) (ρ : Rho) (is : List Nat) : List (List D) → List D → Sto → R (List D)
  | [], acc, st => .ok acc st
  | ds :: r, acc, st => match setAll ρ is ds with
    | none => .no
    | some ρ' => (te ρ' st).bind fun t st => if t then (el ρ' st).bind fun d st => if acc.length < LINE then compL el te ρ is r (acc ++ [fz d]) st else .no else compL el te ρ is r acc st
/-- looked at, not kept: a name may stand for an own list -/
def bor (a : E) (ρ : Rho) (st : Sto) (r : R D) : R D := match a with
  | .var i => R.of (rdB ρ i) st
  | _ => r
mutual
def evE : E → Rho → Sto → R D
  | .non, _, st => .ok .non st
  | .bl b, _, st => .ok (.bl b) st
  | .int i, _, st => .ok (.int i) st
  | .str s, _, st => .ok (.str s) st
  | .var i, ρ, st => R.of (rdV ρ i) st
  | .con j, _, st => .ok (T.con j) st
  | .neg a, ρ, st => (evE a ρ st).bind fun d st => negE T cf d st
  | .not a, ρ, st => (bor a ρ st (evE a ρ st)).bind fun d st => R.of ((truth d).map fun b => .bl (!b)) st
  | .bin o a b, ρ, st => (bor a ρ st (evE a ρ st)).bind fun x st => (bor b ρ st (evE b ρ st)).bind fun y st => binE T cf o x y st
  | .cmp o a b, ρ, st => (bor a ρ st (evE a ρ st)).bind fun x st => (bor b ρ st (evE b ρ st)).bind fun y st => (cmpE T cf o x y st).bind fun b st => .ok (.bl b) st
  | .chain o p a b c, ρ, st => (evE a ρ st).bind fun x st => (evE b ρ st).bind fun y st => (cmpE T cf o x y st).bind fun k st => if k then (evE c ρ st).bind fun z st => (cmpE T cf p y z st).bind fun b st => .ok (.bl b) st else .ok (.bl false) st
  | .and a b, ρ, st => (evE a ρ st).bind fun x st => (match x with
    | .bl true => evE b ρ st
    | .bl false => .ok (.bl false) st
    | _ => .no)
  | .or a b, ρ, st => (evE a ρ st).bind fun x st => (match x with
    | .bl true => .ok (.bl true) st
    | .bl false => evE b ρ st
    | _ => .no)
  | .ite t a b, ρ, st => (evT t ρ st).bind fun k st => if k then evE a ρ st else evE b ρ st
  | .call f as, ρ, st => (evA as ρ st).bind fun ds st => cf f ds st
  | .make c as, ρ, st => (evA as ρ st).bind fun ds st => makeE T cf c ds st
  | .meth m a as, ρ, st => (evE a ρ st).bind fun x st => (evA as ρ st).bind fun ds st => methE T cf m x ds st
  | .attr a m, ρ, st => (bor a ρ st (evE a ρ st)).bind fun x st => attrE T cf x m st
  | .bi b as, ρ, st => (evL as ρ st).bind fun ds st => biE T cf b ds st
  | .isi a ts, ρ, st => (bor a ρ st (evE a ρ st)).bind fun x st => R.of ((isAny T x ts).map D.bl) st
  | .tup as, ρ, st => (evA as ρ st).bind fun ds st => if ds.length ≤ LINE then .ok (.tup ds) st else .no
  | .lst as, ρ, st => (evA as ρ st).bind fun ds st => if ds.length ≤ LINE then .ok (.own ds) st else .no
  | .ix a i, ρ, st => (bor a ρ st (evE a ρ st)).bind fun x st => (evE i ρ st).bind fun y st => ixE T cf x y st
  | .sl a lo hi, ρ, st => (bor a ρ st (evE a ρ st)).bind fun x st => (evE lo ρ st).bind fun l st => (evE hi ρ st).bind fun h st => slE x l h st
  | .nop, _, st => .ok .non st
  | .comp i e src t, ρ, st => (evJ src ρ st).bind fun dss st => (compL (evE e) (evT t) ρ [i] dss [] st).bind fun ds st => .ok (.own ds) st
  | .fst as, ρ, st => (evA as ρ st).bind fun ds st => R.of ((joinS ds).map D.str) st
  | .sto a, ρ, st => (evE a ρ st).bind fun d st => (match d with
    | .own ds => .ok (.ref st.length) (st ++ [.lst ds])
    | _ => .no)
  | .xat i m, ρ, st => R.of (xatD T ρ i m) st
  | .xis i t, ρ, st => R.of (xisD T ρ i t) st
/-- as a test -/
def evT : Tt → Rho → Sto → R Bool
  | .not a, ρ, st => (evT a ρ st).bind fun b st => .ok (!b) st
  | .and a b, ρ, st => (evT a ρ st).bind fun k st => if k then evT b ρ st else .ok false st
  | .or a b, ρ, st => (evT a ρ st).bind fun k st => if k then .ok true st else evT b ρ st
  | .e a, ρ, st => (bor a ρ st (evE a ρ st)).bind fun d st => R.of (truth d) st
def evA : Es → Rho → Sto → R (List D)
  | .nil, _, st => .ok [] st
  | .cons a as, ρ, st => (evE a ρ st).bind fun d st => (evA as ρ st).bind fun ds st => .ok (fz d :: ds) st
def evL : Es → Rho → Sto → R (List D)
  | .nil, _, st => .ok [] st
  | .cons a as, ρ, st => (bor a ρ st (evE a ρ st)).bind fun d st => (evL as ρ st).bind fun ds st => .ok (d :: ds) st
def evI : It → Rho → Sto → R (List (List D))
  | .seq a, ρ, st => (evE a ρ st).bind fun d st => R.of ((seqOf d).map fun ds => ds.map fun x => [x]) st
  | .rng as, ρ, st => (evA as ρ st).bind fun ds st => R.of ((rngI ds).map fun ns => ns.map fun n => [.int n]) st
  | .enum a, ρ, st => (evE a ρ st).bind fun d st => R.of ((seqOf d).map (enumD 0)) st
  | .zip a b, ρ, st => (evE a ρ st).bind fun d st => (evE b ρ st).bind fun e st => R.of ((seqOf d).bind fun ds => (seqOf e).map fun es => zipD ds es) st
/-- .. within an expression: looked at -/
def evJ : It → Rho → Sto → R (List (List D))
  | .seq a, ρ, st => (bor a ρ st (evE a ρ st)).bind fun d st => R.of ((seqOf d).map fun ds => ds.map fun x => [x]) st
  | .rng as, ρ, st => (evA as ρ st).bind fun ds st => R.of ((rngI ds).map fun ns => ns.map fun n => [.int n]) st
  | .enum a, ρ, st => (bor a ρ st (evE a ρ st)).bind fun d st => R.of ((seqOf d).map (enumD 0)) st
  | .zip a b, ρ, st => (bor a ρ st (evE a ρ st)).bind fun d st => (bor b ρ st (evE b ρ st)).bind fun e st => R.of ((seqOf d).bind fun ds => (seqOf e).map fun es => zipD ds es) st
end

/-! ### statements -/
/-- how a statement ends -/
inductive F where
  | nx (ρ : Rho) (st : Sto) | rt (d : D) (st : Sto) | bk (ρ : Rho) (st : Sto) | ct (ρ : Rho) (st : Sto) | er (x : Xn) (ρ : Rho) (st : Sto) | no
/-- an expression within a statement -/
def R.f {α : Type} (r : R α) (ρ : Rho) (k : α → Sto → F) : F := match r with
  | .ok a st => k a st
  | .er x st => .er x ρ st
  | .no => .no
@[simp] theorem f_ok {α : Type} (a : α) (st : Sto) (ρ : Rho) (k : α → Sto → F) : (R.ok a st).f ρ k = k a st := rfl
@[simp] theorem f_er {α : Type} (x : Xn) (st : Sto) (ρ : Rho) (k : α → Sto → F) : (R.er x st : R α).f ρ k = .er x ρ st := rfl
@[simp] theorem f_no {α : Type} (ρ : Rho) (k : α → Sto → F) : (R.no : R α).f ρ k = .no := rfl
def F.then (r : F) (k : Rho → Sto → F) : F := match r with
  | .nx ρ st => k ρ st
  | r => r
@[simp] theorem then_nx (ρ : Rho) (st : Sto) (k : Rho → Sto → F) : (F.nx ρ st).then k = k ρ st := rfl
@[simp] theorem then_rt (d : D) (st : Sto) (k : Rho → Sto → F) : (F.rt d st).then k = .rt d st := rfl
@[simp] theorem then_bk (ρ : Rho) (st : Sto) (k : Rho → Sto → F) : (F.bk ρ st).then k = .bk ρ st := rfl
@[simp] theorem then_ct (ρ : Rho) (st : Sto) (k : Rho → Sto → F) : (F.ct ρ st).then k = .ct ρ st := rfl
@[simp] theorem then_er (x : Xn) (ρ : Rho) (st : Sto) (k : Rho → Sto → F) : (F.er x ρ st).then k = .er x ρ st := rfl
@[simp] theorem then_no (k : Rho → Sto → F) : F.no.then k = .no := rfl
def F.of (o : Option Rho) (st : Sto) : F := match o with
  | some ρ => .nx ρ st
  | none => .no
@[simp] theorem Fof_some (ρ : Rho) (st : Sto) : F.of (some ρ) st = .nx ρ st := rfl
@[simp] theorem Fof_none (st : Sto) : F.of none st = .no := rfl
/-- a loop over items -/
def forL (b : Rho → Sto → F) (ts : List Nat) : List (List D) → Rho → Sto → F
  | [], ρ, st => .nx ρ st
  | ds :: r, ρ, st => match setAll ρ ts ds with
    | none => .no
    | some ρ' => (match b ρ' st with
      | .nx ρ st => forL b ts r ρ st
      | .ct ρ st => forL b ts r ρ st
      | .bk ρ st => .nx ρ st
      | r => r)
def whileL (t : Rho → Sto → R Bool) (b : Rho → Sto → F) : Nat → Rho → Sto → F
  | 0, _, _ => .no
  | n + 1, ρ, st => (t ρ st).f ρ fun k st => if k then (match b ρ st with
      | .nx ρ st => whileL t b n ρ st
      | .ct ρ st => whileL t b n ρ st
      | .bk ρ st => .nx ρ st
      | r => r) else .nx ρ st
/-- does the error's class lie under the clause's? -/
def under (c k : Nat) : Bool := c == k || (match T.cls c with
  | some C => C.up.contains k
  | none => false)
def isTxt : List D → Bool
  | .str s :: _ => decide (s.length ≤ LINE)
  | _ => false
/-- may it be made of these? -/
def raisable (C : Cls) (ds : List D) : Bool := C.exc && ds.length == C.fields.length && (!C.cat || isTxt ds)
def setO (ρ : Rho) (o : Option Nat) (d : Option D) : Rho := match o with
  | some i => ρ.set i d
  | none => ρ
def notExc : Option D → Bool
  | some (.exc _ _) => false
  | _ => true
/-- behind an except suite its name is gone -/
def F.unset (r : F) (o : Option Nat) : F := match r with
  | .nx ρ st => if (setO ρ o none).all notExc then .nx (setO ρ o none) st else .no
  | .bk ρ st => if (setO ρ o none).all notExc then .bk (setO ρ o none) st else .no
  | .ct ρ st => if (setO ρ o none).all notExc then .ct (setO ρ o none) st else .no
  | .rt d st => .rt d st
  | _ => .no
def setfD (m : Nat) (ρ : Rho) (d : D) : Option Rho := match (ρ[0]? : Option (Option D)) with
  | some (some (.obj c ds)) => (match clsI T c with
    | some C => if C.fields[ds.length]? = some m then some (ρ.set 0 (some (.obj c (ds ++ [d])))) else none
    | none => none)
  | _ => none
def setiD (r : D) (i v : D) (st : Sto) : Option Sto := match r, i with
  | .ref r, .int k => (match st[r]? with
    | some (.lst ds) => (ixN ds.length k).map fun j => st.set r (.lst (ds.set j v))
    | _ => none)
  | _, _ => none
def ownAt (ρ : Rho) (x : Nat) : Option (List D) := match (ρ[x]? : Option (Option D)) with
  | some (some (.own ds)) => some ds
  | _ => none
def insAt (ds : List D) (j : Nat) (d : D) : List D := ds.take j ++ d :: ds.drop j
def exS : S → Rho → Sto → F
  | .skip, ρ, st => .nx ρ st
  | .seq a b, ρ, st => (exS a ρ st).then fun ρ st => exS b ρ st
  | .expr a, ρ, st => (evE T cf a ρ st).f ρ fun _ st => .nx ρ st
  | .set i a, ρ, st => (evE T cf a ρ st).f ρ fun d st => .nx (ρ.set i (some (fz d))) st
  | .own i a, ρ, st => (evE T cf a ρ st).f ρ fun d st => (match d with
    | .own ds => .nx (ρ.set i (some (.own ds))) st
    | _ => .no)
  | .unp is a, ρ, st => (evE T cf a ρ st).f ρ fun d st => (match seqOf d with
    | some ds => F.of (setAll ρ is ds) st
    | none => .no)
  | .frz i, ρ, st => (match ownAt ρ i with
    | some ds => .nx (ρ.set i (some (.lst ds))) st
    | none => .no)
  | .setf m a, ρ, st => (evE T cf a ρ st).f ρ fun d st => F.of (setfD T m ρ (fz d)) st
  | .seti a i v, ρ, st => (evE T cf v ρ st).f ρ fun d st => (evE T cf a ρ st).f ρ fun x st => (evE T cf i ρ st).f ρ fun y st => (match setiD x y (fz d) st with
    | some st => .nx ρ st
    | none => .no)
  | .ownseti x i v, ρ, st => (evE T cf v ρ st).f ρ fun d st => (evE T cf i ρ st).f ρ fun y st => (match ownAt ρ x, y with
    | some ds, .int k => (match ixN ds.length k with
      | some j => .nx (ρ.set x (some (.own (ds.set j (fz d))))) st
      | none => .no)
    | _, _ => .no)
  | .aug x o a, ρ, st => (match rdV ρ x with
    | some d => (evE T cf a ρ st).f ρ fun e st => (match binD o d e with
      | some r => .nx (ρ.set x (some r)) st
      | none => .no)
    | none => .no)
  | .app x a, ρ, st => (match ownAt ρ x with
    | some ds => if ds.length < LINE then (evE T cf a ρ st).f ρ fun d st => .nx (ρ.set x (some (.own (ds ++ [fz d])))) st else .no
    | none => .no)
  | .insr x i a, ρ, st => (match ownAt ρ x with
    | some ds => if ds.length < LINE then (evE T cf i ρ st).f ρ fun y st => (evE T cf a ρ st).f ρ fun d st => (match y with
      | .int k => if 0 ≤ k ∧ k ≤ ds.length then .nx (ρ.set x (some (.own (insAt ds k.toNat (fz d))))) st else .no
      | _ => .no) else .no
    | none => .no)
  | .ret a, ρ, st => (evE T cf a ρ st).f ρ fun d st => .rt d st
  | .retm i, ρ, st => (match ownAt ρ i with
    | some ds => .rt (.own ds) st
    | none => .no)
  | .ret0, _, st => .rt .non st
  | .ifs t a b, ρ, st => (evT T cf t ρ st).f ρ fun k st => if k then exS a ρ st else exS b ρ st
  | .for_ ts src b, ρ, st => (evI T cf src ρ st).f ρ fun dss st => forL (exS b) ts dss ρ st
  | .while_ t b, ρ, st => whileL (evT T cf t) (exS b) LINE ρ st
  | .brk, ρ, st => .bk ρ st
  | .cnt, ρ, st => .ct ρ st
  | .raise c as, ρ, st => (evA T cf as ρ st).f ρ fun ds st => (match T.cls c with
    | some C => if raisable C ds then .er ⟨c, ds⟩ ρ st else .no
    | none => .no)
  | .try_ b hs, ρ, st => (match exS b ρ st with
    | .er x ρ st => hdS x hs ρ st
    | r => r)
  | .hnd _ _ _ _, _, _ => .no
where
  /-- the clauses, from the first -/
  hdS (x : Xn) : S → Rho → Sto → F
    | .hnd c o h r, ρ, st => if isErr T x.c then (if under T x.c c then (exS h (setO ρ o (some (.exc x.c x.ds))) st).unset o else hdS x r ρ st) else .no
    | _, ρ, st => .er x ρ st
end

/-! ### calls, level by level -/
section
variable (T : Tab)
def start (n : Nat) (ds : List D) : Rho := ds.map some ++ List.replicate (n - ds.length) none
/-- what a body's end means to the caller -/
def fin (ini : Option Nat) : F → R D
  | .nx ρ st => (match ini with
    | none => .ok .non st
    | some c => (match (ρ[0]? : Option (Option D)), T.cls c with
      | some (some (.obj k ds)), some C => if k = c ∧ ds.length = C.fields.length then .ok (.ins c ds) st else .no
      | _, _ => .no))
  | .rt d st => (match ini with
    | none => .ok d st
    | some _ => .no)
  | .er x _ st => .er x st
  | _ => .no
/-- a function's body over what is called -/
def runB (cf : Nat → List D → Sto → R D) (f : Fn) (ds : List D) (st : Sto) : R D :=
  if ds.length = f.np then fin T f.ini (exS T cf f.body (match f.ini with
    | none => start f.nl ds
    | some c => start f.nl (.obj c [] :: ds)) st) else .no
def tbl : Nat → Nat → List D → Sto → R D
  | 0 => fun _ _ _ => .no
  | l + 1 => fun f ds st => match T.fn f with
    | some fn => if fn.lv = l then runB T (tbl l) fn ds st else tbl l f ds st
    | none => .no
def call (f : Nat) (ds : List D) (st : Sto) : R D := match T.fn f with
  | some fn => runB T (tbl T fn.lv) fn ds st
  | none => .no
theorem tbl_eq {l f : Nat} {fn : Fn} (h : T.fn f = some fn) (hl : fn.lv < l) : tbl T l f = call T f := by
  induction l with
  | zero => omega
  | succ l ih =>
    funext ds st
    show (match T.fn f with
      | some fn => if fn.lv = l then runB T (tbl T l) fn ds st else tbl T l f ds st
      | none => .no) = _
    rw [h]
    by_cases e : fn.lv = l
    · unfold call
      rw [h]
      simp only [e, if_true]
    · simp only [e, if_false]
      rw [ih (by omega)]
end
end Ev
set_option Elab.async false
set_option linter.all false
set_option maxRecDepth 100000
/-! Snd: the evaluator's answers are the machine's. -/
namespace Snd
open PySem PySem.Spec PyProof.Rows L2 Ev

/-! ### names, ghosts -/
/-- the names of the text: attributes, classes, functions, constants -/
structure Nm where
  attr : Nat → Str
  cls : Nat → Str
  fn : Nat → (Str × Option Str) × Bool
  con : Nat → Str
  /-- the error that is handled: its address, its class, its own dict -/
  ex : Option (Addr × Value × Option Addr) := none
  /-- the instance that is being made: its address, its dict's -/
  me : Option (Addr × Addr) := none
/-- what is fixed through the law -/
structure Core where
  prog : Program
  w : World
  K : PySem.W.Frag
  mg : Str → Option Value
  base : Heap
abbrev co (X : Cx) : Core := ⟨X.prog, X.w, X.K, X.mg, X.base⟩
def strOf (l : List Nat) : Str := ⟨l.toArray⟩
theorem strOf_len (l : List Nat) : (strOf l).length = l.length := by simp [strOf, Str.length]
theorem strOf_cps (l : List Nat) : (strOf l).cps.toList = l := by simp [strOf]
theorem strOf_inj {a b : List Nat} : strOf a = strOf b ↔ a = b := ⟨fun h => by rw [← strOf_cps a, h, strOf_cps], fun h => by rw [h]⟩
theorem strOf_app (a b : List Nat) : strOf a ++ strOf b = strOf (a ++ b) := by
  show Str.append _ _ = _
  simp [strOf, Str.append]
/-- what is known of an address: an object that stays; one that others hold; a name's own list; an object of the store -/
inductive Tag where
  | imm (o : HO) | held (o : HO) | slot (i : Nat) | sto (k : Nat)
abbrev Gh := Addr → Option Tag
def Le (g g' : Gh) : Prop := ∀ a t, g a = some t → g' a = some t
theorem Le.refl (g : Gh) : Le g g := fun _ _ h => h
theorem Le.trans {g g1 g2 : Gh} (a : Le g g1) (b : Le g1 g2) : Le g g2 := fun x t h => b x t (a x t h)
/-- what data lean on -/
def Lim (g g' : Gh) : Prop := (∀ a o, g a = some (.imm o) → g' a = some (.imm o)) ∧ ∀ a k, g a = some (.sto k) → g' a = some (.sto k)
theorem Le.lim {g g' : Gh} (h : Le g g') : Lim g g' := ⟨fun a o e => h a _ e, fun a k e => h a _ e⟩
theorem Lim.refl (g : Gh) : Lim g g := ⟨fun _ _ h => h, fun _ _ h => h⟩
theorem Lim.trans {g g1 g2 : Gh} (a : Lim g g1) (b : Lim g1 g2) : Lim g g2 := ⟨fun x t h => b.1 x t (a.1 x t h), fun x t h => b.2 x t (a.2 x t h)⟩
def imH (g : Gh) : Hp := fun a => match g a with
  | some (.imm o) => some o
  | _ => none
theorem imH_of {g : Gh} {a : Addr} {o : HO} (h : g a = some (.imm o)) : imH g a = some o := by
  unfold imH
  rw [h]
theorem of_imH {g : Gh} {a : Addr} {o : HO} (h : imH g a = some o) : g a = some (.imm o) := by
  unfold imH at h
  split at h
  · rename_i o' e
    rw [e, Option.some.inj h]
  · cases h
theorem imH_same {g g' : Gh} (h : Lim g g') : Same (imH g) (imH g') := fun b o e => imH_of (h.1 b o (of_imH e))
theorem same_seqT {K : PySem.W.Frag} {H H' : Hp} {a : Addr} {xs : List V} (e : Same H H') (h : SqT K H a xs) : SqT K H' a xs := by
  rcases h with (h | ⟨o, h⟩) | h
  · exact .inl (.inl (e _ _ h))
  · exact .inl (.inr ⟨o, e _ _ h⟩)
  · exact .inr h

section
variable (T : Tab) (nm : Nm) (K : PySem.W.Frag)
def cad (c : Nat) : Addr := He.ga K (nm.cls c)
/-- a property's function -/
def propFn (K : PySem.W.Frag) (p : Addr) : Addr := match PySem.W.recIn K p "property" with
  | some (.ref g :: _) => g
  | _ => 0
def fpA (K : PySem.W.Frag) (q : (Str × Option Str) × Bool) : Addr := if q.2 then propFn K (He.fAd K q.1) else He.fAd K q.1
def fad (f : Nat) : Addr := fpA K (nm.fn f)
/-- the names of a class's fields -/
def fnames (c : Nat) : List Str := match T.cls c with
  | some C => C.fields.map nm.attr
  | none => []
mutual
inductive Rep (g : Gh) : D → V → Prop where
  | non : Rep g .non .non
  | bl (b : Bool) : Rep g (.bl b) (.bl b)
  | int (i : Int) : Rep g (.int i) (.int i)
  | str (s : List Nat) : Rep g (.str s) (.str (strOf s))
  | tup {p : Addr} {ds : List D} {vs : List V} : SqT K (imH g) p vs → Reps g ds vs → Rep g (.tup ds) (.ref p)
  | lst {p : Addr} {ds : List D} {vs : List V} : g p = some (.imm (.lst vs)) → Reps g ds vs → Rep g (.lst ds) (.ref p)
  | scr {p : Addr} {ns : List Int} : SqL K (imH g) p (ns.map V.int) → Rep g (.scr ns) (.ref p)
  | ins {p dx : Addr} {c : Nat} {ds : List D} {vs : List V} : g p = some (.imm (.ins (cad nm K c) dx ((fnames T nm c).zip vs))) → vs.length = (fnames T nm c).length → Reps g ds vs → Rep g (.ins c ds) (.ref p)
  | ref {p : Addr} {k : Nat} : g p = some (.sto k) → Rep g (.ref k) (.ref p)
inductive Reps (g : Gh) : List D → List V → Prop where
  | nil : Reps g [] []
  | cons {d : D} {v : V} {ds : List D} {vs : List V} : Rep g d v → Reps g ds vs → Reps g (d :: ds) (v :: vs)
end
end
section
variable {T : Tab} {nm : Nm} {K : PySem.W.Frag} {g g' : Gh}
mutual
theorem Rep.mono (h : Lim g g') : ∀ {d : D} {v : V}, Rep T nm K g d v → Rep T nm K g' d v
  | _, _, .non => .non
  | _, _, .bl b => .bl b
  | _, _, .int i => .int i
  | _, _, .str s => .str s
  | _, _, .tup s r => .tup (same_seqT (imH_same h) s) (Reps.mono h r)
  | _, _, .lst s r => .lst (h.1 _ _ s) (Reps.mono h r)
  | _, _, .scr s => .scr ((imH_same h).seq s)
  | _, _, .ins e l r => .ins (h.1 _ _ e) l (Reps.mono h r)
  | _, _, .ref e => .ref (h.2 _ _ e)
theorem Reps.mono (h : Lim g g') : ∀ {ds : List D} {vs : List V}, Reps T nm K g ds vs → Reps T nm K g' ds vs
  | _, _, .nil => .nil
  | _, _, .cons a r => .cons (Rep.mono h a) (Reps.mono h r)
end
theorem Reps.len : ∀ {ds : List D} {vs : List V}, Reps T nm K g ds vs → ds.length = vs.length
  | _, _, .nil => rfl
  | _, _, .cons _ r => by simp [Reps.len r]
theorem Reps.at : ∀ {ds : List D} {vs : List V} {i : Nat} {d : D}, Reps T nm K g ds vs → ds[i]? = some d → ∃ v, vs[i]? = some v ∧ Rep T nm K g d v
  | _, _, _, _, .nil, e => by simp at e
  | _, _, 0, _, .cons r _, e => by simp at e; subst e; exact ⟨_, rfl, r⟩
  | _, _, i + 1, _, .cons _ t, e => by
    obtain ⟨v, h1, h2⟩ := Reps.at (i := i) t (by simpa using e)
    exact ⟨v, by simpa using h1, h2⟩
theorem Reps.append : ∀ {ds es : List D} {vs ws : List V}, Reps T nm K g ds vs → Reps T nm K g es ws → Reps T nm K g (ds ++ es) (vs ++ ws)
  | _, _, _, _, .nil, s => s
  | _, _, _, _, .cons r t, s => .cons r (Reps.append t s)
theorem Reps.take : ∀ {ds : List D} {vs : List V} (n : Nat), Reps T nm K g ds vs → Reps T nm K g (ds.take n) (vs.take n)
  | _, _, 0, _ => .nil
  | _, _, _ + 1, .nil => .nil
  | _, _, n + 1, .cons r t => .cons r (Reps.take n t)
theorem Reps.drop : ∀ {ds : List D} {vs : List V} (n : Nat), Reps T nm K g ds vs → Reps T nm K g (ds.drop n) (vs.drop n)
  | _, _, 0, r => r
  | _, _, _ + 1, .nil => .nil
  | _, _, n + 1, .cons _ t => Reps.drop n t
theorem Reps.set {d : D} {v : V} (r : Rep T nm K g d v) : ∀ {ds : List D} {vs : List V} (i : Nat), Reps T nm K g ds vs → Reps T nm K g (ds.set i d) (vs.set i v)
  | _, _, _, .nil => .nil
  | _, _, 0, .cons _ t => .cons r t
  | _, _, i + 1, .cons q t => .cons q (Reps.set r i t)
end

section
variable (T : Tab) (nm : Nm) (K : PySem.W.Frag)
/-- an object of the store at an address -/
def ObR (g : Gh) : Ob → HO → Prop
  | .lst ds, o => ∃ vs, o = .lst vs ∧ Reps T nm K g ds vs
  | .ins c ds, o => ∃ dx vs, o = .ins (cad nm K c) dx ((fnames T nm c).zip vs) ∧ vs.length = (fnames T nm c).length ∧ Reps T nm K g ds vs
  | .dct _, _ => False
/-- the ghost, the store, the heap -/
structure Mt0 (g : Gh) (st : Sto) (H : Hp) : Prop where
  imm : ∀ a o, g a = some (.imm o) → H a = some o
  held : ∀ a o, g a = some (.held o) → H a = some o
  sto : ∀ k ob, st[k]? = some ob → ∃ a o, g a = some (.sto k) ∧ H a = some o ∧ ObR T nm K g ob o
  stl : ∀ a k, g a = some (.sto k) → k < st.length
  uniq : ∀ a b k, g a = some (.sto k) → g b = some (.sto k) → a = b
  trk : ∀ a t, g a = some t → ∃ o, H a = some o
/-- an error -/
def XnR (g : Gh) (x : Xn) (cv : Value) (dd : Option Addr) : Prop := cv = .ref (cad nm K x.c) ∧
  ((x.ds = [] ∧ dd = none) ∨ ∃ d vs, dd = some d ∧ g d = some (.imm (.xd ((fnames T nm x.c).zip vs))) ∧ vs.length = (fnames T nm x.c).length ∧ Reps T nm K g x.ds vs)
/-- a name's value -/
def SlR (g : Gh) (H : Hp) (i : Nat) : D → V → Prop
  | .own ds, v => ∃ p vs, v = .ref p ∧ g p = some (.slot i) ∧ H p = some (.lst vs) ∧ Reps T nm K g ds vs
  | .obj c ds, v => ∃ p dx vs, (nm.me = some (p, dx) ∧ v = .ref p) ∧ g p = some (.slot i) ∧ H p = some (.ins (cad nm K c) dx ((fnames T nm c).zip vs)) ∧ vs.length = ds.length ∧ ds.length ≤ (fnames T nm c).length ∧ Reps T nm K g ds vs
  | .exc c ds, v => ∃ a cv dd, nm.ex = some (a, cv, dd) ∧ v = .ref a ∧ XnR T nm K g ⟨c, ds⟩ cv dd
  | d, v => Rep T nm K g d v
structure Mt (g : Gh) (ρ : Rho) (st : Sto) (σ : L2.St) (H : Hp) : Prop extends Mt0 T nm K g st H where
  len : ρ.length = σ.length
  slots : ∀ i d, ρ[i]? = some (some d) → ∃ v, σ[i]? = some (some v) ∧ SlR T nm K g H i d v
/-- an expression's value; g0: the ghost ahead of it -/
def RepR (g0 g : Gh) : D → V → Prop
  | .own ds, v => ∃ p vs, v = .ref p ∧ g p = some (.held (.lst vs)) ∧ g0 p = none ∧ Reps T nm K g ds vs
  | d, v => Rep T nm K g d v
/-- what is wanted behind a step of an expression: P of the answer, the store, the ghost, the heap -/
def Out {α : Type} (W : WX) (g : Gh) (ρ : Rho) (σ : L2.St) (P : α → Sto → Gh → Hp → Prop) : R α → Prop
  | .ok a st => ∀ g' H', Le g g' → Mt T nm K g' ρ st σ H' → P a st g' H'
  | .er x st => ∀ g' cv dd H', Le g g' → Mt T nm K g' ρ st σ H' → XnR T nm K g' x cv dd → W cv dd σ H'
  | .no => False
/-- a value that is looked at -/
def LkR (g : Gh) (ρ : Rho) (σ : L2.St) (d : D) (v : V) : Prop := (∃ i : Nat, ρ[i]? = some (some d) ∧ σ[i]? = some (some v)) ∨
  match d with
  | .own ds => ∃ p vs, v = .ref p ∧ g p = some (.held (.lst vs)) ∧ Reps T nm K g ds vs
  | d => Rep T nm K g d v
variable (cf : Nat → List D → Sto → R D)
def tE (W : WX) (e : E) : TE := fun σ H Q => ∃ g ρ st, Mt T nm K g ρ st σ H ∧ Out T nm K W g ρ σ (fun d _ g' H' => ∀ v, RepR T nm K g g' d v → Q v H') (evE T cf e ρ st)
def tB (W : WX) (e : E) : TE := fun σ H Q => ∃ g ρ st, Mt T nm K g ρ st σ H ∧ Out T nm K W g ρ σ (fun d _ g' H' => ∀ v, LkR T nm K g' ρ σ d v → Q v H') (bor e ρ st (evE T cf e ρ st))
def tT (W : WX) (e : Tt) : TT := fun σ H Q => ∃ g ρ st, Mt T nm K g ρ st σ H ∧ Out T nm K W g ρ σ (fun b _ _ H' => Q b H') (evT T cf e ρ st)
def tA (W : WX) (es : Es) : TA := fun σ H Q => ∃ g ρ st, Mt T nm K g ρ st σ H ∧ Out T nm K W g ρ σ (fun ds _ g' H' => ∀ vs, Reps T nm K g' ds vs → Q vs H') (evA T cf es ρ st)
def LkRs (g : Gh) (ρ : Rho) (σ : L2.St) : List D → List V → Prop
  | [], [] => True
  | d :: ds, v :: vs => LkR T nm K g ρ σ d v ∧ LkRs g ρ σ ds vs
  | _, _ => False
def tL (W : WX) (es : Es) : TA := fun σ H Q => ∃ g ρ st, Mt T nm K g ρ st σ H ∧ Out T nm K W g ρ σ (fun ds _ g' H' => ∀ vs, LkRs T nm K g' ρ σ ds vs → Q vs H') (evL T cf es ρ st)
end
section
variable {T : Tab} {nm : Nm} {K : PySem.W.Frag} {W : WX} {g g0 g1 : Gh} {ρ : Rho} {σ : L2.St} {H : Hp} {st : Sto}
theorem Out.imp {α : Type} {P P' : α → Sto → Gh → Hp → Prop} {r : R α} (h : Out T nm K W g ρ σ P r) (i : ∀ a st g' H', Le g g' → Mt T nm K g' ρ st σ H' → P a st g' H' → P' a st g' H') : Out T nm K W g ρ σ P' r := by
  cases r with
  | ok a st => exact fun g' H' l m => i a st g' H' l m (h g' H' l m)
  | er x st => exact h
  | no => exact h
theorem Out.le {α : Type} {P : α → Sto → Gh → Hp → Prop} {r : R α} (h : Out T nm K W g ρ σ P r) (l : Le g g1) : Out T nm K W g1 ρ σ P r := by
  cases r with
  | ok a st => exact fun g' H' l' m => h g' H' (l.trans l') m
  | er x st => exact fun g' cv dd H' l' m => h g' cv dd H' (l.trans l') m
  | no => exact h
theorem Out.bind {α β : Type} {P : β → Sto → Gh → Hp → Prop} {r : R α} {k : α → Sto → R β} (h : Out T nm K W g ρ σ P (r.bind k)) :
    Out T nm K W g ρ σ (fun a st g' _ => Out T nm K W g' ρ σ P (k a st)) r := by
  cases r with
  | ok a st => exact fun g' H' l m => Out.le h l
  | er x st => exact h
  | no => exact h
theorem Out.of {α : Type} {P : α → Sto → Gh → Hp → Prop} {o : Option α} (h : Out T nm K W g ρ σ P (R.of o st)) (m : Mt T nm K g ρ st σ H) : ∃ a, o = some a ∧ P a st g H := by
  cases o with
  | none => exact h.elim
  | some a => exact ⟨a, rfl, h g H (Le.refl g) m⟩
theorem Out.ok {α : Type} {P : α → Sto → Gh → Hp → Prop} {a : α} (h : Out T nm K W g ρ σ P (.ok a st)) (m : Mt T nm K g ρ st σ H) : P a st g H := h g H (Le.refl g) m

theorem Out.bind0 {α β : Type} {P : β → Sto → Gh → Hp → Prop} {r : R α} {k : α → Sto → R β} (h : Out T nm K W g ρ σ P (r.bind k)) :
    Out T nm K W g ρ σ (fun a st _ _ => Out T nm K W g ρ σ P (k a st)) r := by
  cases r with
  | ok a st => exact fun g' H' l m => h
  | er x st => exact h
  | no => exact h

/-! ### looking -/
theorem LkR.of_rep {d : D} {v : V} (h : RepR T nm K g0 g d v) : LkR T nm K g ρ σ d v := by
  refine .inr ?_
  cases d with
  | own ds =>
    obtain ⟨p, vs, e, h1, _, h2⟩ := h
    exact ⟨p, vs, e, h1, h2⟩
  | _ => exact h
theorem LkR.le {d : D} {v : V} (h : LkR T nm K g ρ σ d v) (l : Le g g1) : LkR T nm K g1 ρ σ d v := by
  rcases h with h | h
  · exact .inl h
  · refine .inr ?_
    cases d with
    | own ds =>
      obtain ⟨p, vs, e, h1, h2⟩ := h
      exact ⟨p, vs, e, l _ _ h1, h2.mono l.lim⟩
    | _ => exact Rep.mono l.lim h
theorem LkRs.le : ∀ {ds : List D} {vs : List V}, LkRs T nm K g ρ σ ds vs → Le g g1 → LkRs T nm K g1 ρ σ ds vs
  | [], [], h, _ => h
  | _ :: _, _ :: _, ⟨a, r⟩, l => ⟨a.le l, LkRs.le r l⟩
/-- no own list, no self: it may be kept -/
def plain : D → Bool
  | .own _ => false
  | .obj _ _ => false
  | .exc _ _ => false
  | _ => true
theorem LkR.rep {d : D} {v : V} (h : LkR T nm K g ρ σ d v) (m : Mt T nm K g ρ st σ H) (p : plain d = true) : Rep T nm K g d v := by
  rcases h with ⟨i, h1, h2⟩ | h
  · obtain ⟨w, e, r⟩ := m.slots i d h1
    rw [h2] at e
    cases e
    cases d with
    | own ds => cases p
    | obj c ds => cases p
    | exc c ds => cases p
    | _ => exact r
  · cases d with
    | own ds => cases p
    | _ => exact h
/-- an own list, looked at -/
theorem LkR.own {ds : List D} {v : V} (h : LkR T nm K g ρ σ (.own ds) v) (m : Mt T nm K g ρ st σ H) : ∃ p vs, v = .ref p ∧ H p = some (.lst vs) ∧ Reps T nm K g ds vs := by
  rcases h with ⟨i, h1, h2⟩ | ⟨p, vs, e, h1, h2⟩
  · obtain ⟨w, e, p, vs, ew, _, hp, r⟩ := m.slots i _ h1
    rw [h2] at e
    cases e
    exact ⟨p, vs, ew, hp, r⟩
  · exact ⟨p, vs, e, m.held _ _ h1, h2⟩
theorem RepR.plain {d : D} {v : V} (h : Rep T nm K g d v) (p : Snd.plain d = true) : RepR T nm K g0 g d v := by
  cases d with
  | own ds => cases p
  | _ => exact h
theorem RepR.rep {d : D} {v : V} (h : RepR T nm K g0 g d v) (p : Snd.plain d = true) : Rep T nm K g d v := by
  cases d with
  | own ds => cases p
  | _ => exact h

/-! ### ghosts that change -/
def put (g : Gh) (p : Addr) (t : Tag) : Gh := fun a => if a = p then some t else g a
theorem put_same {g : Gh} {p : Addr} {t : Tag} : put g p t p = some t := if_pos rfl
theorem put_ne {g : Gh} {p a : Addr} {t : Tag} (h : a ≠ p) : put g p t a = g a := if_neg h
theorem le_put {g : Gh} {p : Addr} {t : Tag} (h : g p = none) : Le g (put g p t) := fun a u e => by
  rw [put_ne (fun z => by rw [z, h] at e; cases e)]
  exact e
theorem Mt0.fresh (m : Mt0 T nm K g st H) {p : Addr} (h : H p = none) : g p = none := by
  cases e : g p with
  | none => rfl
  | some t =>
    obtain ⟨o, ho⟩ := m.trk p t e
    rw [h] at ho
    cases ho
theorem XnR.mono {x : Xn} {cv : Value} {dd : Option Addr} (h : XnR T nm K g x cv dd) (l : Lim g g1) : XnR T nm K g1 x cv dd := by
  obtain ⟨e, h⟩ := h
  refine ⟨e, ?_⟩
  rcases h with h | ⟨d, vs, e1, e2, e3, r⟩
  · exact .inl h
  · exact .inr ⟨d, vs, e1, l.1 _ _ e2, e3, r.mono l⟩
theorem SlR.mono {i : Nat} {d : D} {v : V} {H' : Hp} (h : SlR T nm K g H i d v) (l : Lim g g1) (hs : ∀ p, g p = some (.slot i) → g1 p = some (.slot i) ∧ H' p = H p) : SlR T nm K g1 H' i d v := by
  cases d with
  | own ds =>
    obtain ⟨p, vs, e, h1, h2, h3⟩ := h
    obtain ⟨a, b⟩ := hs p h1
    exact ⟨p, vs, e, a, b.trans h2, h3.mono l⟩
  | obj c ds =>
    obtain ⟨p, dx, vs, e, h1, h2, h3, h4, h5⟩ := h
    obtain ⟨a, b⟩ := hs p h1
    exact ⟨p, dx, vs, e, a, b.trans h2, h3, h4, h5.mono l⟩
  | exc c ds =>
    obtain ⟨a, cv, dd, h1, h2, h3⟩ := h
    exact ⟨a, cv, dd, h1, h2, h3.mono l⟩
  | _ => exact Rep.mono l h
/-- a new object, known to be o, tagged t (it is no object of the store) -/
theorem Mt0.new (m : Mt0 T nm K g st H) {p : Addr} {o : HO} (h : H p = none) {t : Tag} (ht : (t = .imm o ∨ t = .held o) ∨ ∃ i, t = .slot i) : Mt0 T nm K (put g p t) st (upd H p o) := by
  have gp := m.fresh h
  have l : Le g (put g p t) := le_put gp
  have nh : ∀ a o', H a = some o' → a ≠ p := fun a o' e z => by rw [z, h] at e; cases e
  have old : ∀ a u, a ≠ p → put g p t a = some u → g a = some u := fun a u n e => by rw [put_ne n] at e; exact e
  refine ⟨fun a o' e => ?_, fun a o' e => ?_, fun k ob e => ?_, fun a k e => ?_, fun a b k e1 e2 => ?_, fun a u e => ?_⟩
  · by_cases n : a = p
    · subst n
      rw [put_same] at e
      rw [upd_same]
      rcases ht with (z | z) | ⟨i, z⟩ <;> rw [z] at e <;> cases e
      rfl
    · rw [upd_ne n]
      exact m.imm a o' (old a _ n e)
  · by_cases n : a = p
    · subst n
      rw [put_same] at e
      rw [upd_same]
      rcases ht with (z | z) | ⟨i, z⟩ <;> rw [z] at e <;> cases e
      rfl
    · rw [upd_ne n]
      exact m.held a o' (old a _ n e)
  · obtain ⟨a, o', e1, e2, r⟩ := m.sto k ob e
    refine ⟨a, o', l _ _ e1, by rw [upd_ne (nh a _ e2)]; exact e2, ?_⟩
    cases ob with
    | lst ds =>
      obtain ⟨vs, e3, r⟩ := r
      exact ⟨vs, e3, r.mono l.lim⟩
    | ins c ds =>
      obtain ⟨dx, vs, e3, e4, r⟩ := r
      exact ⟨dx, vs, e3, e4, r.mono l.lim⟩
    | dct kvs => exact r
  · by_cases n : a = p
    · subst n
      rw [put_same] at e
      rcases ht with (z | z) | ⟨i, z⟩ <;> rw [z] at e <;> cases e
    · exact m.stl a k (old a _ n e)
  · have na : a ≠ p := fun z => by
      rw [z, put_same] at e1
      rcases ht with (z | z) | ⟨i, z⟩ <;> rw [z] at e1 <;> cases e1
    have nb : b ≠ p := fun z => by
      rw [z, put_same] at e2
      rcases ht with (z | z) | ⟨i, z⟩ <;> rw [z] at e2 <;> cases e2
    exact m.uniq a b k (old a _ na e1) (old b _ nb e2)
  · by_cases n : a = p
    · subst n
      exact ⟨o, upd_same⟩
    · obtain ⟨o', e'⟩ := m.trk a u (old a _ n e)
      exact ⟨o', by rw [upd_ne n]; exact e'⟩
theorem Mt.new (m : Mt T nm K g ρ st σ H) {p : Addr} {o : HO} (h : H p = none) {t : Tag} (ht : t = .imm o ∨ t = .held o) : Mt T nm K (put g p t) ρ st σ (upd H p o) := by
  have l : Le g (put g p t) := le_put (m.fresh h)
  refine ⟨m.toMt0.new h (.inl ht), m.len, fun i d e => ?_⟩
  obtain ⟨v, e1, r⟩ := m.slots i d e
  refine ⟨v, e1, r.mono l.lim fun q e2 => ⟨l _ _ e2, ?_⟩⟩
  obtain ⟨o', e'⟩ := m.trk q _ e2
  exact upd_ne fun z => by rw [z, h] at e'; cases e'
/-- another word about an address that no name and no object of the store has -/
theorem Mt.retag (m : Mt T nm K g ρ st σ H) {p : Addr} {o : HO} (h : g p = some (.held o)) {t : Tag} (ht : t = .imm o ∨ t = .held o) : Mt T nm K (put g p t) ρ st σ H ∧ Lim g (put g p t) := by
  have lm : Lim g (put g p t) := ⟨fun a o e => by rw [put_ne (fun z => by rw [z, h] at e; cases e)]; exact e, fun a k e => by rw [put_ne (fun z => by rw [z, h] at e; cases e)]; exact e⟩
  have old : ∀ a u, a ≠ p → put g p t a = some u → g a = some u := fun a u n e => by rw [put_ne n] at e; exact e
  refine ⟨⟨⟨fun a o' e => ?_, fun a o' e => ?_, fun k ob e => ?_, fun a k e => ?_, fun a b k e1 e2 => ?_, fun a u e => ?_⟩, m.len, fun i d e => ?_⟩, lm⟩
  · by_cases n : a = p
    · subst n
      rw [put_same] at e
      rcases ht with z | z <;> rw [z] at e <;> cases e
      exact m.held _ _ h
    · exact m.imm a o' (old a _ n e)
  · by_cases n : a = p
    · subst n
      rw [put_same] at e
      rcases ht with z | z <;> rw [z] at e <;> cases e
      exact m.held _ _ h
    · exact m.held a o' (old a _ n e)
  · obtain ⟨a, o', e1, e2, r⟩ := m.sto k ob e
    refine ⟨a, o', lm.2 _ _ e1, e2, ?_⟩
    cases ob with
    | lst ds =>
      obtain ⟨vs, e3, r⟩ := r
      exact ⟨vs, e3, r.mono lm⟩
    | ins c ds =>
      obtain ⟨dx, vs, e3, e4, r⟩ := r
      exact ⟨dx, vs, e3, e4, r.mono lm⟩
    | dct kvs => exact r
  · by_cases n : a = p
    · subst n
      rw [put_same] at e
      rcases ht with z | z <;> rw [z] at e <;> cases e
    · exact m.stl a k (old a _ n e)
  · have na : a ≠ p := fun z => by
      rw [z, put_same] at e1
      rcases ht with z | z <;> rw [z] at e1 <;> cases e1
    have nb : b ≠ p := fun z => by
      rw [z, put_same] at e2
      rcases ht with z | z <;> rw [z] at e2 <;> cases e2
    exact m.uniq a b k (old a _ na e1) (old b _ nb e2)
  · by_cases n : a = p
    · subst n
      exact ⟨o, m.held _ _ h⟩
    · exact m.trk a u (old a _ n e)
  · obtain ⟨v, e1, r⟩ := m.slots i d e
    refine ⟨v, e1, r.mono lm fun q e2 => ⟨?_, rfl⟩⟩
    rw [put_ne (fun z => by rw [z, h] at e2; cases e2)]
    exact e2
theorem Le.retag {p : Addr} {t : Tag} (l : Le g g1) (n : g p = none) : Le g (put g1 p t) := fun a u e => by
  rw [put_ne (fun z => by rw [z, n] at e; cases e)]
  exact l a u e
/-- a value that is kept: an own list is not changed any more -/
theorem kept {d : D} {v : V} (r : RepR T nm K g g1 d v) (m : Mt T nm K g1 ρ st σ H) (l : Le g g1) : ∃ g2, Le g g2 ∧ Mt T nm K g2 ρ st σ H ∧ Rep T nm K g2 (fz d) v := by
  cases d with
  | own ds =>
    obtain ⟨p, vs, e, h1, h2, h3⟩ := r
    obtain ⟨m2, lm⟩ := m.retag h1 (t := .imm (.lst vs)) (.inl rfl)
    subst e
    exact ⟨_, l.retag h2, m2, .lst put_same (h3.mono lm)⟩
  | _ => exact ⟨g1, l, m, r⟩
end

/-! ### readings that are weaker -/
section
variable {X : Cx}
theorem PE.imp {e : Expr} {t t' : TE} (h : PE X e t) (i : ∀ σ H Q, t' σ H Q → t σ H Q) : PE X e t' := ⟨fun pins s σ H Q I q => h.run pins s σ H Q I (i σ H Q q)⟩
theorem PT.imp {e : Expr} {t t' : TT} (h : PT X e t) (i : ∀ σ H Q, t' σ H Q → t σ H Q) : PT X e t' := ⟨fun pins s σ H Q I q => h.run pins s σ H Q I (i σ H Q q)⟩
theorem PA.imp {e : List Expr} {t t' : TA} (h : PA X e t) (i : ∀ σ H Q, t' σ H Q → t σ H Q) : PA X e t' := ⟨fun pos pins s σ H Q I q => h.run pos pins s σ H Q I (i σ H Q q)⟩
theorem PS.imp {e : Stmt} {t t' : TS} (h : PS X e t) (i : ∀ D σ H, t' D σ H → t D σ H) : PS X e t' := ⟨fun pins s σ H D I q => h.run pins s σ H D I (i D σ H q)⟩
theorem PSs.imp {e : List Stmt} {t t' : TS} (h : PSs X e t) (i : ∀ D σ H, t' D σ H → t D σ H) : PSs X e t' := ⟨fun pins s σ H D I q => h.run pins s σ H D I (i D σ H q)⟩
end

/-! ### expressions -/
section
variable {X : Cx} {T : Tab} {nm : Nm} {W : WX} {cf : Nat → List D → Sto → R D} {pos : Pos}
theorem se_non {j} : PE X (.Constant .none j pos) (tE T nm X.K cf W .non) := PE.imp pe_non fun σ H Q ⟨g, ρ, st, m, o⟩ => Out.ok o m _ .non
theorem se_bl {b j} : PE X (.Constant (.bool b) j pos) (tE T nm X.K cf W (.bl b)) := PE.imp pe_bl fun σ H Q ⟨g, ρ, st, m, o⟩ => Out.ok o m _ (.bl b)
theorem se_int {i j} : PE X (.Constant (.int i) j pos) (tE T nm X.K cf W (.int i)) := PE.imp pe_int fun σ H Q ⟨g, ρ, st, m, o⟩ => Out.ok o m _ (.int i)
theorem se_str {x : Str} {s : List Nat} {j} (h : x = strOf s) : PE X (.Constant (.str x) j pos) (tE T nm X.K cf W (.str s)) := PE.imp pe_str fun σ H Q ⟨g, ρ, st, m, o⟩ => by
  subst h
  exact Out.ok o m _ (.str s)
theorem rdV_some {ρ : Rho} {i : Nat} {d : D} (h : rdV ρ i = some d) : ρ[i]? = some (some d) ∧ plain d = true := by
  unfold rdV at h
  split at h
  · cases h
  · cases h
  · cases h
  · rename_i d' n1 n2 n3 e
    cases h
    refine ⟨e, ?_⟩
    cases d with
    | own ds => exact (n1 ds rfl).elim
    | obj c ds => exact (n2 c ds rfl).elim
    | exc c ds => exact (n3 c ds rfl).elim
    | _ => rfl
  · cases h
theorem rdB_some {ρ : Rho} {i : Nat} {d : D} (h : rdB ρ i = some d) : ρ[i]? = some (some d) := by
  unfold rdB at h
  split at h
  · rename_i e
    cases h
    exact e
  · cases h
theorem se_var {i : Nat} {x : Str} (hN : X.N[i]? = some x) (hv : Vis X.env.scope x) (hd : (x == ("__debug__" : Str)) = false) (hcd : (x == ("__classdict__" : Str)) = false) : PE X (.Name x pos) (tE T nm X.K cf W (.var i)) :=
  PE.imp (pe_var hN hv hd hcd) fun σ H Q ⟨g, ρ, st, m, o⟩ => by
    obtain ⟨d, e, q⟩ := Out.of o m
    obtain ⟨e1, p⟩ := rdV_some e
    obtain ⟨v, e2, r⟩ := m.slots i d e1
    refine ⟨v, e2, q v (RepR.plain ?_ p)⟩
    cases d with
    | own ds => cases p
    | obj c ds => cases p
    | exc c ds => cases p
    | _ => exact r
theorem sb_var {i : Nat} {x : Str} (hN : X.N[i]? = some x) (hv : Vis X.env.scope x) (hd : (x == ("__debug__" : Str)) = false) (hcd : (x == ("__classdict__" : Str)) = false) : PE X (.Name x pos) (tB T nm X.K cf W (.var i)) :=
  PE.imp (pe_var hN hv hd hcd) fun σ H Q ⟨g, ρ, st, m, o⟩ => by
    obtain ⟨d, e, q⟩ := Out.of (o := rdB ρ i) o m
    have e1 := rdB_some e
    obtain ⟨v, e2, r⟩ := m.slots i d e1
    exact ⟨v, e2, q v (.inl ⟨i, e1, e2⟩)⟩
/-- what is evaluated may be looked at -/
theorem sb_of {e : Expr} {a : E} (h : PE X e (tE T nm X.K cf W a)) (n : ∀ i, a ≠ .var i) : PE X e (tB T nm X.K cf W a) :=
  PE.imp h fun σ H Q ⟨g, ρ, st, m, o⟩ => ⟨g, ρ, st, m, by
    have e : bor a ρ st (evE T cf a ρ st) = evE T cf a ρ st := by
      cases a with
      | var i => exact absurd rfl (n i)
      | _ => rfl
    rw [e] at o
    exact Out.imp o fun d st g' H' l m' q v r => q v (LkR.of_rep r)⟩
end

section
variable {X : Cx} {T : Tab} {nm : Nm} {W : WX} {cf : Nat → List D → Sto → R D} {pos : Pos}
/-! ### arguments -/
theorem sa_nil : PA X [] (tA T nm X.K cf W .nil) := PA.imp pa_nil fun σ H Q ⟨g, ρ, st, m, o⟩ => Out.ok o m [] .nil
theorem sa_cons {e : Expr} {es : List Expr} {a : E} {as : Es} (ha : PE X e (tE T nm X.K cf W a)) (hr : PA X es (tA T nm X.K cf W as)) (hs : starEach (e :: es) X.env = (false, eval e X.env) :: starEach es X.env) : PA X (e :: es) (tA T nm X.K cf W (.cons a as)) :=
  PA.imp (pa_cons ha hr hs) fun σ H Q ⟨g, ρ, st, m, o⟩ => ⟨g, ρ, st, m, Out.imp (Out.bind0 o) fun d st1 g1 H1 l1 m1 o1 v r => by
    obtain ⟨g2, l2, m2, r2⟩ := kept r m1 l1
    exact ⟨g2, ρ, st1, m2, Out.imp (Out.bind0 (o1.le l2)) fun ds st2 g3 H3 l3 m3 o3 vs rs => (o3.le l3).ok m3 (v :: vs) (.cons (r2.mono l3.lim) rs)⟩⟩
theorem sl_nil : PA X [] (tL T nm X.K cf W .nil) := PA.imp pa_nil fun σ H Q ⟨g, ρ, st, m, o⟩ => Out.ok o m [] trivial
theorem sl_cons {e : Expr} {es : List Expr} {a : E} {as : Es} (ha : PE X e (tB T nm X.K cf W a)) (hr : PA X es (tL T nm X.K cf W as)) (hs : starEach (e :: es) X.env = (false, eval e X.env) :: starEach es X.env) : PA X (e :: es) (tL T nm X.K cf W (.cons a as)) :=
  PA.imp (pa_cons ha hr hs) fun σ H Q ⟨g, ρ, st, m, o⟩ => ⟨g, ρ, st, m, Out.imp (Out.bind o) fun d st1 g1 H1 l1 m1 o1 v r =>
    ⟨g1, ρ, st1, m1, Out.imp (Out.bind o1) fun ds st2 g2 H2 l2 m2 o2 vs rs => Out.ok o2 m2 (v :: vs) ⟨r.le l2, rs⟩⟩⟩
/-! ### tests -/
theorem st_not {e : Expr} {a : Tt} (ha : PT X e (tT T nm X.K cf W a)) : PT X (.UnaryOp .Not e pos) (tT T nm X.K cf W (.not a)) :=
  PT.imp (pt_not ha) fun σ H Q ⟨g, ρ, st, m, o⟩ => ⟨g, ρ, st, m, Out.imp (Out.bind o) fun b st1 g1 H1 l1 m1 o1 => Out.ok o1 m1⟩
/-- a test whatever its 'whole' is -/
theorem PW.imp {e : Expr} {t t' : TT} (h : PW X e t) (i : ∀ σ H Q, t' σ H Q → t σ H Q) : PW X e t' := ⟨fun wh pins s σ H Q I q => h.run wh pins s σ H Q I (i σ H Q q)⟩
theorem sw_and {a b : Expr} {rest : List Expr} {x y : Tt} (ha : PT X a (tT T nm X.K cf W x)) (hb : PW X (.BoolOp .And (b :: rest) pos) (tT T nm X.K cf W y)) : PW X (.BoolOp .And (a :: b :: rest) pos) (tT T nm X.K cf W (.and x y)) :=
  PW.imp (pw_and ha hb) fun σ H Q ⟨g, ρ, st, m, o⟩ => ⟨g, ρ, st, m, Out.imp (Out.bind o) fun k st1 g1 H1 l1 m1 o1 => by
    cases k with
    | true => exact ⟨g1, ρ, st1, m1, o1⟩
    | false => exact Out.ok o1 m1⟩
theorem sw_or {a b : Expr} {rest : List Expr} {x y : Tt} (ha : PT X a (tT T nm X.K cf W x)) (hb : PW X (.BoolOp .Or (b :: rest) pos) (tT T nm X.K cf W y)) : PW X (.BoolOp .Or (a :: b :: rest) pos) (tT T nm X.K cf W (.or x y)) :=
  PW.imp (pw_or ha hb) fun σ H Q ⟨g, ρ, st, m, o⟩ => ⟨g, ρ, st, m, Out.imp (Out.bind o) fun k st1 g1 H1 l1 m1 o1 => by
    cases k with
    | true => exact Out.ok o1 m1
    | false => exact ⟨g1, ρ, st1, m1, o1⟩⟩
theorem str_ne0 {s : Str} : (s.length == 0) = s.cps.toList.isEmpty := by
  cases s with
  | mk a =>
    cases a with
    | mk l => cases l <;> simp [Str.length]
/-- how a value looks as a test -/
theorem tru_of {g : Gh} {ρ : Rho} {σ : L2.St} {H : Hp} {st : Sto} {d : D} {v : V} {b : Bool} (m : Mt T nm X.K g ρ st σ H) (l : LkR T nm X.K g ρ σ d v) (h : truth d = some b) : TruV X.K v H b := by
  cases d with
  | non =>
    cases l.rep m rfl
    exact (Option.some.inj h).symm
  | bl k =>
    cases l.rep m rfl
    exact (Option.some.inj h).symm
  | int i =>
    cases l.rep m rfl
    exact (Option.some.inj h).symm
  | tup ds =>
    cases l.rep m rfl with
    | tup s r =>
      refine .inr (.inl ⟨_, same_seqT (fun a o e => m.imm a o (of_imH e)) s, ?_⟩)
      rw [← Option.some.inj h]
      cases r <;> rfl
  | lst ds =>
    cases l.rep m rfl with
    | lst s r =>
      refine .inl ⟨_, .of (m.imm _ _ s), ?_⟩
      rw [← Option.some.inj h]
      cases r <;> rfl
  | own ds =>
    obtain ⟨p, vs, e, hp, r⟩ := l.own m
    subst e
    refine .inl ⟨_, .of hp, ?_⟩
    rw [← Option.some.inj h]
    cases r <;> rfl
  | _ => cases h
theorem st_e {e : Expr} {a : E} (ha : PE X e (tB T nm X.K cf W a)) (he : ∀ whole, isTrue e X.env whole = (do let v ← whole; standAt e.pos; holding [v] (truthy v))) : PT X e (tT T nm X.K cf W (.e a)) :=
  PT.imp (pt_truth ha he) fun σ H Q ⟨g, ρ, st, m, o⟩ => ⟨g, ρ, st, m, Out.imp (Out.bind o) fun d st1 g1 H1 l1 m1 o1 v r => by
    obtain ⟨b, e, q⟩ := Out.of o1 m1
    exact ⟨b, tru_of m1 r e, q⟩⟩
/-! ### and, or, not, if as values -/
theorem RepR.back {g0 g1 g : Gh} {K : PySem.W.Frag} {d : D} {v : V} (h : RepR T nm K g1 g d v) (l : Le g0 g1) : RepR T nm K g0 g d v := by
  cases d with
  | own ds =>
    obtain ⟨p, vs, e, h1, h2, h3⟩ := h
    refine ⟨p, vs, e, h1, ?_, h3⟩
    cases q : g0 p with
    | none => rfl
    | some t =>
      rw [l _ _ q] at h2
      cases h2
  | _ => exact h
/-- go on with another expression -/
theorem tE_go {g0 g : Gh} {ρ : Rho} {σ : L2.St} {H : Hp} {st : Sto} {Q : VK} {a : E} (m : Mt T nm X.K g ρ st σ H) (l : Le g0 g) (o : Out T nm X.K W g0 ρ σ (fun d _ g' H' => ∀ v, RepR T nm X.K g0 g' d v → Q v H') (evE T cf a ρ st)) : tE T nm X.K cf W a σ H Q :=
  ⟨g, ρ, st, m, Out.imp (o.le l) fun _ _ _ _ _ _ q v r => q v (r.back l)⟩
theorem se_not {e : Expr} {a : E} (ha : PE X e (tB T nm X.K cf W a)) : PE X (.UnaryOp .Not e pos) (tE T nm X.K cf W (.not a)) :=
  PE.imp (pe_notT ha) fun σ H Q ⟨g, ρ, st, m, o⟩ => ⟨g, ρ, st, m, Out.imp (Out.bind o) fun d st1 g1 H1 l1 m1 o1 v r => by
    obtain ⟨b, e, q⟩ := Out.of o1 m1
    cases h : truth d with
    | none =>
      rw [h] at e
      cases e
    | some k =>
      rw [h] at e
      cases e
      exact ⟨k, tru_of m1 r h, q _ (.bl _)⟩⟩
theorem se_ite {c x y : Expr} {t : Tt} {a b : E} (hc : PT X c (tT T nm X.K cf W t)) (ha : PE X x (tE T nm X.K cf W a)) (hb : PE X y (tE T nm X.K cf W b)) : PE X (.IfExp c x y pos) (tE T nm X.K cf W (.ite t a b)) :=
  PE.imp (pe_ifExp hc ha hb) fun σ H Q ⟨g, ρ, st, m, o⟩ => ⟨g, ρ, st, m, Out.imp (Out.bind0 o) fun k st1 g1 H1 l1 m1 o1 => by
    cases k with
    | true => exact tE_go m1 l1 o1
    | false => exact tE_go m1 l1 o1⟩
theorem se_and {a b : Expr} {rest : List Expr} {x y : E} (ha : PE X a (tE T nm X.K cf W x)) (hb : PE X (.BoolOp .And (b :: rest) pos) (tE T nm X.K cf W y)) : PE X (.BoolOp .And (a :: b :: rest) pos) (tE T nm X.K cf W (.and x y)) :=
  PE.imp (pe_and ha hb) fun σ H Q ⟨g, ρ, st, m, o⟩ => ⟨g, ρ, st, m, Out.imp (Out.bind0 o) fun d st1 g1 H1 l1 m1 o1 v r => by
    cases d with
    | bl k =>
      cases r
      refine ⟨k, rfl, ?_⟩
      cases k with
      | true => exact tE_go m1 l1 o1
      | false => exact (o1.le l1).ok m1 _ (.bl _)
    | _ => exact o1.elim⟩
theorem se_or {a b : Expr} {rest : List Expr} {x y : E} (ha : PE X a (tE T nm X.K cf W x)) (hb : PE X (.BoolOp .Or (b :: rest) pos) (tE T nm X.K cf W y)) : PE X (.BoolOp .Or (a :: b :: rest) pos) (tE T nm X.K cf W (.or x y)) :=
  PE.imp (pe_or ha hb) fun σ H Q ⟨g, ρ, st, m, o⟩ => ⟨g, ρ, st, m, Out.imp (Out.bind0 o) fun d st1 g1 H1 l1 m1 o1 v r => by
    cases d with
    | bl k =>
      cases r
      refine ⟨k, rfl, ?_⟩
      cases k with
      | true => exact (o1.le l1).ok m1 _ (.bl _)
      | false => exact tE_go m1 l1 o1
    | _ => exact o1.elim⟩

/-! ### displays -/
theorem reps_len {g : Gh} {K : PySem.W.Frag} {ds : List D} {vs : List V} (r : Reps T nm K g ds vs) (h : ds.length ≤ LINE) : vs.length ≤ sizeLine := by
  rw [← r.len]
  exact Nat.le_trans h (by decide)
theorem se_tup {es : List Expr} {as : Es} {k} (h : PA X es (tA T nm X.K cf W as)) : PE X (.Tuple es k pos) (tE T nm X.K cf W (.tup as)) :=
  PE.imp (pe_tup h) fun σ H Q ⟨g, ρ, st, m, o⟩ => ⟨g, ρ, st, m, Out.imp (Out.bind0 o) fun ds st1 g1 H1 l1 m1 o1 vs r => by
    by_cases z : ds.length ≤ LINE
    · rw [if_pos z] at o1
      refine ⟨reps_len r z, fun p hp => ?_⟩
      have l2 : Le g1 (put g1 p (.imm (.tup vs))) := le_put (m1.fresh hp)
      exact o1 _ _ (l1.trans l2) (m1.new hp (.inl rfl)) _ (.tup (.inl (.inl (imH_of put_same))) (r.mono l2.lim))
    · rw [if_neg z] at o1
      exact o1.elim⟩
/-- a new list -/
theorem new_own {g0 g1 : Gh} {ρ : Rho} {σ : L2.St} {H : Hp} {st : Sto} {Q : VK} {ds : List D} {vs : List V} (l1 : Le g0 g1) (m1 : Mt T nm X.K g1 ρ st σ H) (r : Reps T nm X.K g1 ds vs) (o : Out T nm X.K W g0 ρ σ (fun d _ g' H' => ∀ v, RepR T nm X.K g0 g' d v → Q v H') (.ok (.own ds) st)) {p : Addr} (hp : H p = none) : Q (.ref p) (upd H p (.lst vs)) := by
  have l2 : Le g1 (put g1 p (.held (.lst vs))) := le_put (m1.fresh hp)
  refine o _ _ (l1.trans l2) (m1.new hp (.inr rfl)) _ ⟨p, vs, rfl, put_same, ?_, r.mono l2.lim⟩
  cases q : g0 p with
  | none => rfl
  | some t =>
    have z := m1.fresh hp
    rw [l1 _ _ q] at z
    cases z
theorem se_lst {es : List Expr} {as : Es} (h : PA X es (tA T nm X.K cf W as)) : PE X (.List es pos) (tE T nm X.K cf W (.lst as)) :=
  PE.imp (pe_lst h) fun σ H Q ⟨g, ρ, st, m, o⟩ => ⟨g, ρ, st, m, Out.imp (Out.bind0 o) fun ds st1 g1 H1 l1 m1 o1 vs r => by
    by_cases z : ds.length ≤ LINE
    · rw [if_pos z] at o1
      exact ⟨reps_len r z, fun p hp => new_own l1 m1 r o1 hp⟩
    · rw [if_neg z] at o1
      exact o1.elim⟩
end

/-! ### calls -/
/-- the caller's own lists and selves are held by others meanwhile -/
def hold (g : Gh) (H : Hp) : Gh := fun a => match g a with
  | some (.slot _) => (H a).map Tag.held
  | t => t
/-- behind a call they are the caller's again -/
def back (g g' : Gh) : Gh := fun a => match g a with
  | some (.slot i) => some (.slot i)
  | _ => g' a
theorem hold_slot {g : Gh} {H : Hp} {a : Addr} {i : Nat} (h : g a = some (.slot i)) : hold g H a = (H a).map Tag.held := by
  unfold hold
  rw [h]
theorem hold_of {g : Gh} {H : Hp} {a : Addr} (h : ∀ i, g a ≠ some (.slot i)) : hold g H a = g a := by
  unfold hold
  split
  · rename_i i e
    exact absurd e (h i)
  · rfl
theorem back_slot {g g' : Gh} {a : Addr} {i : Nat} (h : g a = some (.slot i)) : back g g' a = some (.slot i) := by
  unfold back
  rw [h]
theorem back_of {g g' : Gh} {a : Addr} (h : ∀ i, g a ≠ some (.slot i)) : back g g' a = g' a := by
  unfold back
  split
  · rename_i i e
    exact absurd e (h i)
  · rfl
def isSlot (g : Gh) (a : Addr) : Prop := ∃ i, g a = some (.slot i)
def NoSlot (g : Gh) : Prop := ∀ a i, g a ≠ some (.slot i)
theorem noSlot_hold {g : Gh} {H : Hp} : NoSlot (hold g H) := fun a i e => by
  unfold hold at e
  split at e
  · cases q : H a with
    | none => rw [q] at e; cases e
    | some o => rw [q] at e; cases e
  · rename_i n
    exact n i e
theorem slot_em (g : Gh) (a : Addr) : (∃ i, g a = some (.slot i)) ∨ ∀ i, g a ≠ some (.slot i) := by
  by_cases h : ∃ i, g a = some (.slot i)
  · exact .inl h
  · exact .inr fun i e => h ⟨i, e⟩
section
variable {T : Tab} {nm : Nm} {K : PySem.W.Frag} {W : WX} {g g0 g1 g' : Gh} {ρ : Rho} {σ : L2.St} {H H' : Hp} {st st' : Sto}
theorem ObR.mono {ob : Ob} {o : HO} (h : ObR T nm K g ob o) (l : Lim g g1) : ObR T nm K g1 ob o := by
  cases ob with
  | lst ds =>
    obtain ⟨vs, e3, r⟩ := h
    exact ⟨vs, e3, r.mono l⟩
  | ins c ds =>
    obtain ⟨dx, vs, e3, e4, r⟩ := h
    exact ⟨dx, vs, e3, e4, r.mono l⟩
  | dct kvs => exact h
theorem lim_hold : Lim g (hold g H) := ⟨fun a o e => by
    rw [hold_of fun i z => by rw [z] at e; cases e]
    exact e, fun a k e => by
    rw [hold_of fun i z => by rw [z] at e; cases e]
    exact e⟩
theorem mt_hold (m : Mt0 T nm K g st H) : Mt0 T nm K (hold g H) st H := by
  have sl : ∀ a t, hold g H a = some t → (∃ o, t = .held o ∧ H a = some o) ∨ g a = some t := fun a t e => by
    rcases slot_em g a with ⟨i, z⟩ | z
    · rw [hold_slot z] at e
      cases q : H a with
      | none => rw [q] at e; cases e
      | some o => rw [q] at e; exact .inl ⟨o, (Option.some.inj e).symm, rfl⟩
    · rw [hold_of z] at e
      exact .inr e
  refine ⟨fun a o e => ?_, fun a o e => ?_, fun k ob e => ?_, fun a k e => ?_, fun a b k e1 e2 => ?_, fun a t e => ?_⟩
  · rcases sl _ _ e with ⟨o', z, _⟩ | z
    · cases z
    · exact m.imm a o z
  · rcases sl _ _ e with ⟨o', z, q⟩ | z
    · cases z
      exact q
    · exact m.held a o z
  · obtain ⟨a, o, e1, e2, r⟩ := m.sto k ob e
    exact ⟨a, o, lim_hold.2 _ _ e1, e2, r.mono lim_hold⟩
  · rcases sl _ _ e with ⟨o', z, q⟩ | z
    · cases z
    · exact m.stl a k z
  · rcases sl _ _ e1 with ⟨o', z, q⟩ | z1
    · cases z
    · rcases sl _ _ e2 with ⟨o', z, q⟩ | z2
      · cases z
      · exact m.uniq a b k z1 z2
  · rcases sl _ _ e with ⟨o', z, q⟩ | z
    · exact ⟨o', q⟩
    · exact m.trk a t z
theorem le_back (m : Mt0 T nm K g st H) (l : Le (hold g H) g') : Le g (back g g') := fun a t e => by
  rcases slot_em g a with ⟨i, z⟩ | z
  · rw [z] at e
    cases e
    exact back_slot z
  · rw [back_of z]
    exact l a t (by rw [hold_of z]; exact e)
/-- where the caller has a name's own thing, the callee's ghost says held -/
theorem held_there (m : Mt0 T nm K g st H) (l : Le (hold g H) g') {a : Addr} {i : Nat} (z : g a = some (.slot i)) : ∃ o, H a = some o ∧ g' a = some (.held o) := by
  obtain ⟨o, e⟩ := m.trk a _ z
  exact ⟨o, e, l a _ (by rw [hold_slot z, e]; rfl)⟩
theorem lim_back (m : Mt0 T nm K g st H) (l : Le (hold g H) g') : Lim g' (back g g') := ⟨fun a o e => by
    rw [back_of fun i z => by
      obtain ⟨o', _, e'⟩ := held_there m l z
      rw [e'] at e
      cases e]
    exact e, fun a k e => by
    rw [back_of fun i z => by
      obtain ⟨o', _, e'⟩ := held_there m l z
      rw [e'] at e
      cases e]
    exact e⟩
theorem mt_back (m : Mt T nm K g ρ st σ H) (l : Le (Snd.hold g H) g') (m' : Mt0 T nm K g' st' H') : Mt T nm K (back g g') ρ st' σ H' := by
  have lb := lim_back m.toMt0 l
  have sl : ∀ a t, back g g' a = some t → (∃ i, t = .slot i ∧ g a = some (.slot i)) ∨ ((∀ i, g a ≠ some (.slot i)) ∧ g' a = some t) := fun a t e => by
    rcases slot_em g a with ⟨i, z⟩ | z
    · rw [back_slot z] at e
      exact .inl ⟨i, (Option.some.inj e).symm, z⟩
    · rw [back_of z] at e
      exact .inr ⟨z, e⟩
  refine ⟨⟨fun a o e => ?_, fun a o e => ?_, fun k ob e => ?_, fun a k e => ?_, fun a b k e1 e2 => ?_, fun a t e => ?_⟩, m.len, fun i d e => ?_⟩
  · rcases sl _ _ e with ⟨i, z, _⟩ | ⟨_, z⟩
    · cases z
    · exact m'.imm a o z
  · rcases sl _ _ e with ⟨i, z, _⟩ | ⟨_, z⟩
    · cases z
    · exact m'.held a o z
  · obtain ⟨a, o, e1, e2, r⟩ := m'.sto k ob e
    exact ⟨a, o, lb.2 _ _ e1, e2, r.mono lb⟩
  · rcases sl _ _ e with ⟨i, z, _⟩ | ⟨_, z⟩
    · cases z
    · exact m'.stl a k z
  · rcases sl _ _ e1 with ⟨i, z, _⟩ | ⟨_, z1⟩
    · cases z
    · rcases sl _ _ e2 with ⟨i, z, _⟩ | ⟨_, z2⟩
      · cases z
      · exact m'.uniq a b k z1 z2
  · rcases sl _ _ e with ⟨i, z, q⟩ | ⟨_, z⟩
    · obtain ⟨o, _, h⟩ := held_there m.toMt0 l q
      exact m'.trk a _ h
    · exact m'.trk a t z
  · obtain ⟨v, e1, r⟩ := m.slots i d e
    refine ⟨v, e1, r.mono (le_back m.toMt0 l).lim fun p q => ⟨back_slot q, ?_⟩⟩
    obtain ⟨o, h1, h2⟩ := held_there m.toMt0 l q
    rw [h1]
    exact m'.held _ _ h2
theorem repR_back {d : D} {v : V} (m : Mt T nm K g ρ st σ H) (l : Le (Snd.hold g H) g') (r : RepR T nm K (Snd.hold g H) g' d v) (l0 : Le g0 g) : RepR T nm K g0 (Snd.back g g') d v := by
  have lb := lim_back m.toMt0 l
  cases d with
  | own ds =>
    obtain ⟨p, vs, e, h1, h2, h3⟩ := r
    have np : ∀ i, g p ≠ some (.slot i) := fun i z => by
      obtain ⟨o, ho⟩ := m.trk p _ z
      rw [hold_slot z, ho] at h2
      cases h2
    refine ⟨p, vs, e, by rw [Snd.back_of np]; exact h1, ?_, h3.mono lb⟩
    rw [hold_of np] at h2
    cases q : g0 p with
    | none => rfl
    | some t =>
      rw [l0 _ _ q] at h2
      cases h2
  | _ => exact Rep.mono lb r
end
section
variable (T : Tab) (nm : Nm) (K : PySem.W.Frag) (cf : Nat → List D → Sto → R D)
def OutC (g : Gh) (Q : VK) (E : XK) : R D → Prop
  | .ok d st => ∀ g' v H', Le g g' → Mt0 T nm K g' st H' → RepR T nm K g g' d v → Q v H'
  | .er x st => ∀ g' cv dd H', Le g g' → Mt0 T nm K g' st H' → XnR T nm K g' x cv dd → E cv dd H'
  | .no => False
/-- what a function promises: what the evaluator says of it -/
def SP (np f : Nat) : Sp := fun vs H Q E => vs.length = np ∧ ∃ g ds st, NoSlot g ∧ Mt0 T nm K g st H ∧ Reps T nm K g ds vs ∧ OutC T nm K g Q E (cf f ds st)
/-- .. an __init__: the new instance stands at x -/
def SPI (np f c : Nat) : Sp := fun vs H Q E => vs.length = np + 1 ∧ ∃ x dx g ds st ws, vs = .ref x :: ws ∧ H x = some (.ins (cad nm K c) dx []) ∧ g x = none ∧ NoSlot g ∧ Mt0 T nm K g st H ∧ Reps T nm K g ds ws ∧ (match cf f ds st with
  | .ok d st => ∀ es g' H' us, d = .ins c es → Le g g' → Mt0 T nm K g' st H' → g' x = none → H' x = some (.ins (cad nm K c) dx ((fnames T nm c).zip us)) → us.length = (fnames T nm c).length → Reps T nm K g' es us → Q .non H'
  | .er x st => ∀ g' cv dd H', Le g g' → Mt0 T nm K g' st H' → XnR T nm K g' x cv dd → E cv dd H'
  | .no => False)
end
section
variable {T : Tab} {nm : Nm} {K : PySem.W.Frag} {W : WX} {g g0 : Gh} {ρ : Rho} {σ : L2.St} {H : Hp} {st : Sto} {cf : Nat → List D → Sto → R D}
theorem sp_of {f np : Nat} {ds : List D} {vs : List V} {Q : VK} (m : Mt T nm K g ρ st σ H) (r : Reps T nm K g ds vs) (l0 : Le g0 g) (hn : vs.length = np)
    (o : Out T nm K W g0 ρ σ (fun d _ g' H' => ∀ v, RepR T nm K g0 g' d v → Q v H') (cf f ds st)) : SP T nm K cf np f vs H Q (fun cv dd H' => W cv dd σ H') := by
  refine ⟨hn, hold g H, ds, st, noSlot_hold, mt_hold m.toMt0, r.mono lim_hold, ?_⟩
  cases q : cf f ds st with
  | no =>
    rw [q] at o
    exact o.elim
  | er x st' =>
    rw [q] at o
    exact fun g' cv dd H' l m' x' => o (back g g') cv dd H' (l0.trans (le_back m.toMt0 l)) (mt_back m l m') (x'.mono (lim_back m.toMt0 l))
  | ok d st' =>
    rw [q] at o
    exact fun g' v H' l m' r' => o (back g g') H' (l0.trans (le_back m.toMt0 l)) (mt_back m l m') v (repR_back m l r' l0)
end
/-- what is known of a function -/
structure FnI (X : Core) (T : Tab) (nm : Nm) (cf : Nat → List D → Sto → R D) (k f np : Nat) : Prop where
  kp : PySem.W.keepIn X.K (.ref (fad nm X.K f)) = true
  ok : ∃ fd ps, FnOk X.prog X.w X.K X.mg X.base (L2.CX X.prog X.w) k (fad nm X.K f) fd ps (SP T nm X.K cf np f) ∧ Binds X.K fd ps [] ∧ ps.length = np
section
variable {X : Cx} {T : Tab} {nm : Nm} {W : WX} {cf : Nat → List D → Sto → R D} {pos : Pos} {k : Nat}
/-- the function is called -/
theorem run_call {f np : Nat} {pins : List (Addr × Obj)} {σ : L2.St} {H : Hp} {s : Shared} {Q : VK} {g g0 : Gh} {ρ : Rho} {st : Sto} {ds : List D} {vs : List V} {us : List Value} (F : FnI (co X) T nm cf k f np) (hr : Room k X.A) (tk : Takes X W)
    (I : Inv X pins σ H s) (rv : Vals vs us) (hn : vs.length = np) (m : Mt T nm X.K g ρ st σ H) (r : Reps T nm X.K g ds vs) (l0 : Le g0 g)
    (o : Out T nm X.K W g0 ρ σ (fun d _ g' H' => ∀ v, RepR T nm X.K g0 g' d v → Q v H') (cf f ds st)) : wpAny (model X.prog X.w) X.A (call (.ref (fad nm X.K f)) us) (EP X pins σ Q) X.xe s := by
  obtain ⟨fd, ps, F1, b, e⟩ := F.ok
  exact run_fnS (E := WE W) F1 hr b (passAt tk σ) I rv (sp_of m r l0 hn o)
theorem evA_len : ∀ {as : Es} {ρ : Rho} {st st' : Sto} {ds : List D}, evA T cf as ρ st = .ok ds st' → ds.length = as.len
  | .nil, ρ, st, st', ds, h => by
    unfold evA at h
    cases h
    rfl
  | .cons a as, ρ, st, st', ds, h => by
    unfold evA at h
    cases q : evE T cf a ρ st with
    | no => rw [q] at h; cases h
    | er x s => rw [q] at h; cases h
    | ok d s =>
      rw [q] at h
      have h1 : ((evA T cf as ρ s).bind fun ds st => R.ok (fz d :: ds) st) = .ok ds st' := h
      cases q1 : evA T cf as ρ s with
      | no => rw [q1] at h1; cases h1
      | er x s => rw [q1] at h1; cases h1
      | ok ds1 s1 =>
        rw [q1] at h1
        have ih := evA_len q1
        have h2 : R.ok (fz d :: ds1) s1 = .ok ds st' := h1
        cases h2
        show ds1.length + 1 = as.len + 1
        rw [ih]
/-- the arguments of a call, then the call -/
theorem args_go {as : Es} {es : List Expr} {pins : List (Addr × Obj)} {σ : L2.St} {H : Hp} {s : Shared} {g : Gh} {ρ : Rho} {st : Sto} {α : Type} {P : α → Sto → Gh → Hp → Prop} {k : List D → Sto → R α} (ha : PA X es (tA T nm X.K cf W as))
    (I : Inv X pins σ H s) (m : Mt T nm X.K g ρ st σ H) (o : Out T nm X.K W g ρ σ P ((evA T cf as ρ st).bind k)) (pos : Pos) :
    wpAny (model X.prog X.w) X.A (spliced (backTo pos (starEach es X.env))) (fun us s' => ∃ vs H' ds st' g', Inv X pins σ H' s' ∧ Vals vs us ∧ Reps T nm X.K g' ds vs ∧ Le g g' ∧ ds.length = as.len ∧ Mt T nm X.K g' ρ st' σ H' ∧ Out T nm X.K W g ρ σ P (k ds st')) X.xe s := by
  have o2 : Out T nm X.K W g ρ σ (fun ds st1 g1 H1 => ∀ vs, Reps T nm X.K g1 ds vs → ∃ ds' st' g', Reps T nm X.K g' ds' vs ∧ Le g g' ∧ ds'.length = as.len ∧ Mt T nm X.K g' ρ st' σ H1 ∧ Out T nm X.K W g ρ σ P (k ds' st')) (evA T cf as ρ st) := by
    have o' := Out.bind0 o
    cases q : evA T cf as ρ st with
    | ok ds st1 =>
      rw [q] at o'
      exact fun g' H' l m' vs r => ⟨ds, st1, g', r, l, evA_len q, m', o' g' H' l m'⟩
    | er x st1 =>
      rw [q] at o'
      exact o'
    | no =>
      rw [q] at o'
      exact o'
  exact thn (ha.run pos pins s σ H _ I ⟨g, ρ, st, m, o2⟩) fun us s1 ⟨vs, H1, I1, rv, ds, st1, g1, r, l1, hn, m1, q⟩ => ⟨vs, H1, ds, st1, g1, I1, rv, r, l1, hn, m1, q⟩
theorem se_call {f np : Nat} {x : Str} {p : Pos} {e : Expr} {es : List Expr} {as : Es} (F : FnI (co X) T nm cf k f np) (hr : Room k X.A) (tk : Takes X W) (hg : Gl X x) (hm : X.mg x = some (.ref (fad nm X.K f))) (hl : as.len = np)
    (ha : PA X (e :: es) (tA T nm X.K cf W as)) (hdb : (x == ("__debug__" : Str)) = false) (he : starEach (e :: es) X.env = (false, eval e X.env) :: starEach es X.env) (hpl : (backTo pos (starEach es X.env)).any (·.1) = false) :
    PE X (.Call (.Name x p) (e :: es) [] pos) (tE T nm X.K cf W (.call f as)) := by
  refine ⟨fun pins s σ H Q I ⟨g, ρ, st, m, o⟩ => ?_⟩
  refine wpAny_Call_Name_kw (ld_glob I hg hm ?_ hdb)
  refine PySem.W.callWith_K (h₀ := X.base) I.ok.mod.kin F.kp (thn (args_go ha I m o pos) fun us s1 ⟨vs, H1, ds, st1, g1, I1, rv, r, l1, hn, m1, q⟩ => ⟨I1.kIn, ?_⟩) he hpl
  exact run_call F hr tk I1 rv (by rw [← r.len, hn, hl]) m1 r l1 q
/-- no argument -/
theorem se_call0 {f : Nat} {x : Str} {p : Pos} (F : FnI (co X) T nm cf k f 0) (hr : Room k X.A) (tk : Takes X W) (hg : Gl X x) (hm : X.mg x = some (.ref (fad nm X.K f))) (hdb : (x == ("__debug__" : Str)) = false) :
    PE X (.Call (.Name x p) [] [] pos) (tE T nm X.K cf W (.call f .nil)) := by
  refine ⟨fun pins s σ H Q I ⟨g, ρ, st, m, o⟩ => ?_⟩
  refine wpAny_Call_Name_kw (ld_glob I hg hm ?_ hdb)
  exact PySem.W.callWith_K0 I.kIn F.kp (run_call (us := []) F hr tk I .nil rfl m .nil (Le.refl g) o)
/-! ### instances -/
/-- what is known of a class that is made -/
structure MkI (X : Core) (T : Tab) (nm : Nm) (cf : Nat → List D → Sto → R D) (k c : Nat) (C : Ev.Cls) : Prop where
  made : Mk X.K (cad nm X.K c) (fad nm X.K C.init)
  ok : ∃ fd ps, FnOk X.prog X.w X.K X.mg X.base (L2.CX X.prog X.w) k (fad nm X.K C.init) fd ps (SPI T nm X.K cf C.np C.init c) ∧
    ∀ n, n + (mis C n).length = C.np → ∃ dvs ds, Binds X.K fd ps ds ∧ Vals dvs ds ∧ ∀ g, Reps T nm X.K g (mis C n) dvs
/-- the promise of __init__ at a new instance -/
theorem spi_of {c : Nat} {C : Ev.Cls} {σ : L2.St} {H : Hp} {Q : VK} {vs dvs : List V} {g g0 : Gh} {ρ : Rho} {st : Sto} {ds : List D} {x dx : Addr} (hC : clsI T c = some C) (m : Mt T nm X.K g ρ st σ H) (rr : Reps T nm X.K g ds vs) (l0 : Le g0 g) (hn : ds.length + (mis C ds.length).length = C.np)
    (hdr : ∀ g, Reps T nm X.K g (mis C ds.length) dvs) (f1 : H dx = none) (f2 : H x = none) (ne : dx ≠ x)
    (o : Out T nm X.K W g0 ρ σ (fun d _ g' H' => ∀ v, RepR T nm X.K g0 g' d v → Q v H') (makeE T cf c ds st)) :
    SPI T nm X.K cf C.np C.init c (V.ref x :: (vs ++ dvs)) (upd (upd H dx (.own x)) x (.ins (cad nm X.K c) dx [])) (fun v H' => v = .non ∧ Q (.ref x) H') (fun cv d H' => W cv d σ H') := by
  have m0 := mt_hold m.toMt0
  have gx : hold g H x = none := m0.fresh f2
  have gx0 : g x = none := m.toMt0.fresh f2
  have mm : Mt0 T nm X.K (hold g H) st (upd (upd H dx (.own x)) x (.ins (cad nm X.K c) dx [])) := by
    have nn : ∀ a t, hold g H a = some t → upd (upd H dx (.own x)) x (.ins (cad nm X.K c) dx []) a = H a := fun a t e => by
      obtain ⟨ob, ho⟩ := m0.trk a t e
      rw [upd_ne (ne_of_none ho f2), upd_ne (ne_of_none ho f1)]
    exact ⟨fun a ob e => by rw [nn a _ e]; exact m0.imm a ob e, fun a ob e => by rw [nn a _ e]; exact m0.held a ob e, fun j ob e => by
      obtain ⟨a, ho, e1, e2, r⟩ := m0.sto j ob e
      exact ⟨a, ho, e1, by rw [nn a _ e1]; exact e2, r⟩, m0.stl, m0.uniq, fun a t e => by rw [nn a _ e]; exact m0.trk a t e⟩
  refine ⟨?_, x, dx, hold g H, ds ++ mis C ds.length, st, vs ++ dvs, rfl, upd_same, gx, noSlot_hold, mm, (rr.mono lim_hold).append (hdr _), ?_⟩
  · rw [List.length_cons, List.length_append, ← rr.len, ← (hdr g).len, hn]
  · unfold makeE at o
    rw [hC] at o
    have o' : Out T nm X.K W g0 ρ σ (fun d _ g' H' => ∀ v, RepR T nm X.K g0 g' d v → Q v H') (cf C.init (ds ++ mis C ds.length) st) := o
    cases q : cf C.init (ds ++ mis C ds.length) st with
    | no =>
      rw [q] at o'
      exact o'.elim
    | er xn st' =>
      rw [q] at o'
      exact fun g' cv dd H' l m' x' => o' (back g g') cv dd H' (l0.trans (le_back m.toMt0 l)) (mt_back m l m') (x'.mono (lim_back m.toMt0 l))
    | ok d st' =>
      rw [q] at o'
      intro es g' H' us e l m' gn hx hl r
      subst e
      have mb := mt_back m l m'
      have bx : back g g' x = none := by rw [back_of fun i z => by rw [gx0] at z; cases z]; exact gn
      have l3 : Le (back g g') (put (back g g') x (.imm (.ins (cad nm X.K c) dx ((fnames T nm c).zip us)))) := le_put bx
      refine ⟨rfl, o' _ H' ((l0.trans (le_back m.toMt0 l)).trans l3) ?_ _ (.ins put_same hl ((r.mono (lim_back m.toMt0 l)).mono l3.lim))⟩
      have keep : ∀ a u, a ≠ x → put (back g g') x (.imm (.ins (cad nm X.K c) dx ((fnames T nm c).zip us))) a = some u → back g g' a = some u := fun a u n e => by rw [put_ne n] at e; exact e
      refine ⟨⟨fun a o' e => ?_, fun a o' e => ?_, fun k ob e => ?_, fun a k e => ?_, fun a b k e1 e2 => ?_, fun a u e => ?_⟩, mb.len, fun i d e => ?_⟩
      · by_cases n : a = x
        · subst n
          rw [put_same] at e
          cases e
          exact hx
        · exact mb.imm a o' (keep a _ n e)
      · by_cases n : a = x
        · subst n
          rw [put_same] at e
          cases e
        · exact mb.held a o' (keep a _ n e)
      · obtain ⟨a, o', e1, e2, r⟩ := mb.sto k ob e
        exact ⟨a, o', l3 _ _ e1, e2, r.mono l3.lim⟩
      · by_cases n : a = x
        · subst n
          rw [put_same] at e
          cases e
        · exact mb.stl a k (keep a _ n e)
      · have na : a ≠ x := fun z => by rw [z, put_same] at e1; cases e1
        have nb : b ≠ x := fun z => by rw [z, put_same] at e2; cases e2
        exact mb.uniq a b k (keep a _ na e1) (keep b _ nb e2)
      · by_cases n : a = x
        · subst n
          exact ⟨_, hx⟩
        · exact mb.trk a u (keep a _ n e)
      · obtain ⟨v, e1, r⟩ := mb.slots i d e
        exact ⟨v, e1, r.mono l3.lim fun p e2 => ⟨l3 _ _ e2, rfl⟩⟩
theorem run_mk {c : Nat} {C : Ev.Cls} {pins : List (Addr × Obj)} {σ : L2.St} {H : Hp} {s : Shared} {Q : VK} {us : List Value} {vs : List V} {g g0 : Gh} {ρ : Rho} {st : Sto} {ds : List D} (hC : clsI T c = some C) (M : MkI (co X) T nm cf k c C) (hr : Room (k + 1) X.A) (tk : Takes X W)
    (I : Inv X pins σ H s) (r : Vals vs us) (m : Mt T nm X.K g ρ st σ H) (rr : Reps T nm X.K g ds vs) (l0 : Le g0 g) (hn : ds.length + (mis C ds.length).length = C.np)
    (o : Out T nm X.K W g0 ρ σ (fun d _ g' H' => ∀ v, RepR T nm X.K g0 g' d v → Q v H') (makeE T cf c ds st)) :
    wpAny (model X.prog X.w) X.A (call (.ref (cad nm X.K c)) us) (EP X pins σ Q) X.xe s := by
  obtain ⟨fd, ps, F, hb⟩ := M.ok
  obtain ⟨dvs, dd, hb, hd, hdr⟩ := hb ds.length hn
  have I2 := Inv.made (C := cad nm X.K c) I
  have f1 : H s.heap.objs.size = none := I.hok.fresh (Nat.le_refl _)
  have f2 : H (s.heap.objs.size + 1) = none := I.hok.fresh (Nat.le_succ _)
  have hq := spi_of (X := X) hC m rr l0 hn hdr f1 f2 (Nat.ne_of_lt (Nat.lt_succ_self _)) o
  have r2 : Vals (V.ref (s.heap.objs.size + 1) :: (vs ++ dvs)) (Value.ref (s.heap.objs.size + 1) :: (us ++ dd)) := .cons rfl (r.append hd)
  have hl : (Value.ref (s.heap.objs.size + 1) :: us ++ dd).length = ps.length := (r2.length.symm.trans (F.len _ _ _ _ hq))
  refine wpAny_call (make_map (f := fad nm X.K C.init) I.kIn M.made.makes M.made.init (beq_iff_eq.mp M.made.fn) (codeAny_mono (F.run _ X.stack _ _ ⟨Value.ref (s.heap.objs.size + 1) :: us, []⟩ (Value.ref (s.heap.objs.size + 1) :: (us ++ dd)) _ _ _ (hr.make _ us [])
    (I2.env0.make _ us []) (hb _ (Value.ref (s.heap.objs.size + 1) :: us) I2.kIn hl) r2 hq) fun re s' hq' => ?_))
  cases re with
  | error e => exact passAt tk σ pins _ _ e s' I2 hq'
  | ok fl =>
    cases fl with
    | ret u =>
      obtain ⟨v, H', I3, rv, ev, q3⟩ := I2.after hq'
      subst ev
      exact ⟨rv, ⟨V.ref (s.heap.objs.size + 1), H', I3, rfl, q3⟩⟩
    | next => exact hq'.elim
    | brk => exact hq'.elim
    | cont => exact hq'.elim
theorem se_make {c : Nat} {C : Ev.Cls} {x : Str} {p : Pos} {e : Expr} {es : List Expr} {as : Es} (hC : clsI T c = some C) (M : MkI (co X) T nm cf k c C) (hr : Room (k + 1) X.A) (tk : Takes X W) (hg : Gl X x) (hm : X.mg x = some (.ref (cad nm X.K c))) (hl : as.len + (mis C as.len).length = C.np)
    (ha : PA X (e :: es) (tA T nm X.K cf W as)) (hdb : (x == ("__debug__" : Str)) = false) (he : starEach (e :: es) X.env = (false, eval e X.env) :: starEach es X.env) (hpl : (backTo pos (starEach es X.env)).any (·.1) = false) :
    PE X (.Call (.Name x p) (e :: es) [] pos) (tE T nm X.K cf W (.make c as)) := by
  refine ⟨fun pins s σ H Q I ⟨g, ρ, st, m, o⟩ => ?_⟩
  refine wpAny_Call_Name_kw (ld_glob I hg hm ?_ hdb)
  refine PySem.W.callWith_K (h₀ := X.base) I.ok.mod.kin M.made.kp (thn (args_go ha I m o pos) fun us s1 ⟨vs, H1, ds, st1, g1, I1, rv, r, l1, hn, m1, q⟩ => ⟨I1.kIn, ?_⟩) he hpl
  exact run_mk hC M hr tk I1 rv m1 r l1 (by rw [hn]; exact hl) q
/-- what is known of a class: its fields, methods, properties -/
structure ClI (X : Core) (T : Tab) (nm : Nm) (cf : Nat → List D → Sto → R D) (k c : Nat) (C : Ev.Cls) : Prop where
  cl : L2.Cls X.K (cad nm X.K c)
  ta : PySem.W.findIn X.K (.ref (cad nm X.K c)) "__class__" = some (some (.builtin "object.__class__"))
  tn : PySem.W.specialIn X.K (.builtin "object.__class__") "__get__" = some (some (.builtin "getset_descriptor.__get__"))
  tt : PySem.W.takesIn X.K (.builtin "object.__class__") = some true
  tm : PySem.W.mroIn X.K (cad nm X.K c) (.type "object") = some true
  nd : (C.fields.map nm.attr).Nodup
  few : C.fields.length ≤ 100
  noat : ∀ m ∈ C.fields, NoAttr X.K (cad nm X.K c) (nm.attr m)
  mt : ∀ m f, nameOf m C.meths = some f → Meth X.K (cad nm X.K c) (nm.attr m) (fad nm X.K f) ∧ nm.attr m ∉ C.fields.map nm.attr ∧ ∃ np, FnI X T nm cf k f np
  pr : ∀ m f, nameOf m C.props = some f → (∃ p, PropOf X.K (cad nm X.K c) (nm.attr m) p (fad nm X.K f)) ∧ FnI X T nm cf k f 1
theorem posOf_at {m : Nat} : ∀ {l : List Nat} {j : Nat}, posOf m l = some j → l[j]? = some m
  | [], _, h => by cases h
  | x :: r, j, h => by
    by_cases e : x = m
    · have h' : (if x = m then some 0 else (posOf m r).map (· + 1)) = some j := h
      rw [if_pos e] at h'
      cases h'
      rw [e]
      rfl
    · have h' : (if x = m then some 0 else (posOf m r).map (· + 1)) = some j := h
      rw [if_neg e] at h'
      cases q : posOf m r with
      | none => rw [q] at h'; cases h'
      | some i =>
        rw [q] at h'
        cases h'
        have ih := posOf_at q
        rw [List.getElem?_cons_succ]
        exact ih
theorem lookup_zip : ∀ {ns : List Str} {vs : List V} {j : Nat} {x : Str} {v : V}, ns.Nodup → ns[j]? = some x → vs[j]? = some v → (ns.zip vs).lookup x = some v
  | [], _, _, _, _, _, h, _ => by simp at h
  | _ :: _, [], _, _, _, _, _, h => by simp at h
  | n :: ns, w :: vs, 0, x, v, _, h, h2 => by
    simp at h h2
    subst h h2
    simp [List.zip, List.lookup]
  | n :: ns, w :: vs, j + 1, x, v, nd, h, h2 => by
    have hx : ns[j]? = some x := by simpa using h
    have hne : (x == n) = false := by
      have hm : x ∈ ns := List.mem_of_getElem? hx
      exact beq_eq_false_iff_ne.mpr fun z => (List.nodup_cons.mp nd).1 (z ▸ hm)
    show (match x == n with | true => some w | false => (ns.zip vs).lookup x) = some v
    rw [hne]
    exact lookup_zip (List.nodup_cons.mp nd).2 hx (by simpa using h2)
theorem lookup_zip_none : ∀ {ns : List Str} {vs : List V} {x : Str}, x ∉ ns → (ns.zip vs).lookup x = none
  | [], _, _, _ => rfl
  | _ :: _, [], _, _ => rfl
  | n :: ns, w :: vs, x, h => by
    have hne : (x == n) = false := beq_eq_false_iff_ne.mpr fun z => h (z ▸ List.mem_cons_self)
    show (match x == n with | true => some w | false => (ns.zip vs).lookup x) = none
    rw [hne]
    exact lookup_zip_none fun z => h (List.mem_cons_of_mem _ z)
theorem Reps.getI : ∀ {g : Gh} {ds : List D} {vs : List V} {i : Nat} {d : D}, Reps T nm X.K g ds vs → ds[i]? = some d → ∃ v, vs[i]? = some v ∧ Rep T nm X.K g d v := fun r e => r.at e
/-- a field -/
theorem field_at {c m : Nat} {C : Ev.Cls} {ds : List D} {vs : List V} {d : D} {g : Gh} (hC : T.cls c = some C) (nd : (C.fields.map nm.attr).Nodup) (r : Reps T nm X.K g ds vs) (h : fieldD T c m ds = some d) :
    ∃ v, ((fnames T nm c).zip vs).lookup (nm.attr m) = some v ∧ Rep T nm X.K g d v ∧ m ∈ C.fields := by
  unfold fieldD at h
  rw [hC] at h
  have h1 : (posOf m C.fields).bind (fun j => ds[j]?) = some d := h
  cases q : posOf m C.fields with
  | none => rw [q] at h1; cases h1
  | some j =>
    rw [q] at h1
    have h2 : ds[j]? = some d := h1
    have h3 := posOf_at q
    obtain ⟨v, e, rv⟩ := r.at h2
    refine ⟨v, ?_, rv, List.mem_of_getElem? h3⟩
    unfold fnames
    rw [hC]
    exact lookup_zip nd (by rw [List.getElem?_map, h3]; rfl) e
theorem LkR.obj {c : Nat} {ds : List D} {v : V} {g : Gh} {ρ : Rho} {σ : L2.St} {H : Hp} {st : Sto} (h : LkR T nm X.K g ρ σ (.obj c ds) v) (m : Mt T nm X.K g ρ st σ H) :
    ∃ p dx vs, v = .ref p ∧ H p = some (.ins (cad nm X.K c) dx ((fnames T nm c).zip vs)) ∧ vs.length = ds.length ∧ Reps T nm X.K g ds vs := by
  rcases h with ⟨i, h1, h2⟩ | h
  · obtain ⟨w, e, p, dx, vs, ⟨_, ew⟩, _, hp, hl, _, r⟩ := m.slots i _ h1
    rw [h2] at e
    cases e
    exact ⟨p, dx, vs, ew, hp, hl, r⟩
  · cases h
theorem Rep.plain {d : D} {v : V} {g : Gh} (h : Rep T nm X.K g d v) : Snd.plain d = true := by
  cases h <;> rfl
theorem clsI_some {c : Nat} {C : Ev.Cls} (h : clsI T c = some C) : T.cls c = some C ∧ C.exc = false := by
  unfold clsI at h
  cases q : T.cls c with
  | none => rw [q] at h; cases h
  | some C' =>
    rw [q] at h
    have h1 : (if C'.exc then none else some C') = some C := h
    by_cases e : C'.exc = true
    · rw [if_pos e] at h1
      cases h1
    · rw [if_neg e] at h1
      cases h1
      exact ⟨rfl, by simpa using e⟩
/-- a look, then what is done with it -/
theorem look_go {a : E} {e : Expr} {pins : List (Addr × Obj)} {σ : L2.St} {H : Hp} {s : Shared} {g0 g : Gh} {ρ : Rho} {st : Sto} {α : Type} {P : α → Sto → Gh → Hp → Prop} {kk : D → Sto → R α} (ha : PE X e (tB T nm X.K cf W a)) (I : Inv X pins σ H s) (m : Mt T nm X.K g ρ st σ H) (l0 : Le g0 g)
    (o : Out T nm X.K W g0 ρ σ P ((bor a ρ st (evE T cf a ρ st)).bind kk)) :
    wpAny (model X.prog X.w) X.A (eval e X.env) (fun u s' => ∃ v H' d st' g', Inv X pins σ H' s' ∧ RelV v u ∧ Le g g' ∧ Mt T nm X.K g' ρ st' σ H' ∧ LkR T nm X.K g' ρ σ d v ∧ Out T nm X.K W g0 ρ σ P (kk d st')) X.xe s :=
  thn (ha.run pins s σ H (fun v H1 => ∃ d st1 g1, Le g g1 ∧ Mt T nm X.K g1 ρ st1 σ H1 ∧ LkR T nm X.K g1 ρ σ d v ∧ Out T nm X.K W g0 ρ σ P (kk d st1)) I
    ⟨g, ρ, st, m, Out.imp ((Out.bind0 o).le l0) fun d st1 g1 H1 l1 m1 q v r => ⟨d, st1, g1, l1, m1, r, q⟩⟩) fun u s1 ⟨v, H1, I1, rv, d, st1, g1, l1, m1, lk, q⟩ => ⟨v, H1, d, st1, g1, I1, rv, l1, m1, lk, q⟩
/-- a value, then what is done with it -/
theorem val_go {a : E} {e : Expr} {pins : List (Addr × Obj)} {σ : L2.St} {H : Hp} {s : Shared} {g0 g : Gh} {ρ : Rho} {st : Sto} {α : Type} {P : α → Sto → Gh → Hp → Prop} {kk : D → Sto → R α} (ha : PE X e (tE T nm X.K cf W a)) (I : Inv X pins σ H s) (m : Mt T nm X.K g ρ st σ H) (l0 : Le g0 g)
    (o : Out T nm X.K W g0 ρ σ P ((evE T cf a ρ st).bind kk)) :
    wpAny (model X.prog X.w) X.A (eval e X.env) (fun u s' => ∃ v H' d st' g', Inv X pins σ H' s' ∧ RelV v u ∧ Le g g' ∧ Mt T nm X.K g' ρ st' σ H' ∧ RepR T nm X.K g g' d v ∧ Out T nm X.K W g0 ρ σ P (kk d st')) X.xe s :=
  thn (ha.run pins s σ H (fun v H1 => ∃ d st1 g1, Le g g1 ∧ Mt T nm X.K g1 ρ st1 σ H1 ∧ RepR T nm X.K g g1 d v ∧ Out T nm X.K W g0 ρ σ P (kk d st1)) I
    ⟨g, ρ, st, m, Out.imp ((Out.bind0 o).le l0) fun d st1 g1 H1 l1 m1 q v r => ⟨d, st1, g1, l1, m1, r, q⟩⟩) fun u s1 ⟨v, H1, I1, rv, d, st1, g1, l1, m1, lk, q⟩ => ⟨v, H1, d, st1, g1, I1, rv, l1, m1, lk, q⟩
/-- what may be said of the error that is handled -/
def ExI (X : Cx) (T : Tab) (nm : Nm) : Prop := nm.ex = none
theorem se_attr {e : Expr} {a : E} {m : Nat} {x : Str} (ha : PE X e (tB T nm X.K cf W a)) (hx : x = nm.attr m) (hcl : ∀ c C, T.cls c = some C → C.exc = false → ClI (co X) T nm cf k c C) (hex : ExI X T nm) (hr : Room (k + 1) X.A)
    (hb : attributeBase e x X.env (eval e X.env) = eval e X.env) : PE X (.Attribute e x pos) (tE T nm X.K cf W (.attr a m)) := by
  subst hx
  refine ⟨fun pins s σ H Q I ⟨g, ρ, st, mt, o⟩ => ?_⟩
  refine attr_of hb (thn (look_go ha I mt (Le.refl g) o) fun u s1 ⟨v, H1, d, st1, g1, I1, rv, l1, m1, lk, q⟩ => ?_)
  cases d with
  | ins c ds =>
    have lr := lk.rep m1 rfl
    unfold attrE at q
    cases hI : clsI T c with
    | none =>
      simp only [hI, prop, Option.bind_none] at q
      exact q.elim
    | some C =>
      obtain ⟨hC, ne⟩ := clsI_some hI
      have cI := hcl c C hC ne
      cases lr with
      | @ins p dx _ _ vs e1 e2 r =>
        have hp := m1.imm _ _ e1
        obtain rfl : u = Value.ref p := rv
        cases hf : fieldD T c m ds with
        | some d =>
          simp only [hI, Option.bind_some, hf] at q
          obtain ⟨w, h1, h2, h3⟩ := field_at hC cI.nd r hf
          exact getattr_ok I1 hp cI.cl (cI.noat m h3) h1 fun u' s2 I2 ru => ⟨w, H1, I2, ru, (q.le l1).ok m1 w (RepR.plain h2 h2.plain)⟩
        | none =>
          cases hp2 : prop T c m with
          | none =>
            simp only [hI, Option.bind_some, hf, hp2] at q
            exact q.elim
          | some f =>
            simp only [hI, Option.bind_some, hf, hp2] at q
            have hn : nameOf m C.props = some f := by
              unfold prop at hp2
              rw [hI] at hp2
              exact hp2
            obtain ⟨⟨pp, hpp⟩, F⟩ := cI.pr m f hn
            obtain ⟨fd, ps, F1, b, ep⟩ := F.ok
            have q2 : Out T nm X.K (fun _ _ _ _ => False) g ρ σ (fun d _ g' H' => ∀ v, RepR T nm X.K g g' d v → Q v H') (cf f [.ins c ds] st1) := by
              cases z : cf f [.ins c ds] st1 with
              | ok d st' => rw [z] at q; exact q
              | er x st' => rw [z] at q; exact q.elim
              | no => rw [z] at q; exact q.elim
            exact getprop_ok (dvs := []) (ds := []) I1 hp cI.cl hpp F1 hr b .nil (passL (X := X.nox)) (sp_of (vs := [.ref p]) m1 (.cons (.ins e1 e2 r) .nil) l1 rfl q2)
  | obj c ds =>
    obtain ⟨p, dx, vs, ev, hp, hl, r⟩ := lk.obj m1
    subst ev
    obtain rfl : u = Value.ref p := rv
    unfold attrE at q
    cases hI : clsI T c with
    | none =>
      simp only [hI, Option.bind_none] at q
      exact q.elim
    | some C =>
      obtain ⟨hC, ne⟩ := clsI_some hI
      have cI := hcl c C hC ne
      simp only [hI, Option.bind_some] at q
      obtain ⟨d, hf, q'⟩ := Out.of (q.le l1) m1
      obtain ⟨w, h1, h2, h3⟩ := field_at hC cI.nd r hf
      exact getattr_ok I1 hp cI.cl (cI.noat m h3) h1 fun u' s2 I2 ru => ⟨w, H1, I2, ru, q' w (RepR.plain h2 h2.plain)⟩
  | exc c ds =>
    rcases lk with ⟨i, h1, h2⟩ | h
    · obtain ⟨w, e, a', cv, dd, h3, _⟩ := m1.slots i _ h1
      rw [hex] at h3
      cases h3
    · cases h
  | _ => exact q.elim
/-! ### operators -/
def opOf : BO → Operator
  | .add => .Add | .sub => .Sub | .mul => .Mult | .fdv => .FloorDiv | .mod => .Mod | .pow => .Pow | .band => .BitAnd | .shr => .RShift
def copOf : CO → CmpOp
  | .eq => .Eq | .ne => .NotEq | .lt => .Lt | .le => .LtE | .gt => .Gt | .ge => .GtE | .is_ => .Is | .isn => .IsNot | .in_ => .In | .nin => .NotIn
theorem LkR.int {i : Int} {v : V} {g : Gh} {ρ : Rho} {σ : L2.St} {H : Hp} {st : Sto} (h : LkR T nm X.K g ρ σ (.int i) v) (m : Mt T nm X.K g ρ st σ H) : v = .int i := by
  cases h.rep m rfl
  rfl
theorem LkR.bl {i : Bool} {v : V} {g : Gh} {ρ : Rho} {σ : L2.St} {H : Hp} {st : Sto} (h : LkR T nm X.K g ρ σ (.bl i) v) (m : Mt T nm X.K g ρ st σ H) : v = .bl i := by
  cases h.rep m rfl
  rfl
theorem LkR.non {v : V} {g : Gh} {ρ : Rho} {σ : L2.St} {H : Hp} {st : Sto} (h : LkR T nm X.K g ρ σ .non v) (m : Mt T nm X.K g ρ st σ H) : v = .non := by
  cases h.rep m rfl
  rfl
theorem LkR.str {s : List Nat} {v : V} {g : Gh} {ρ : Rho} {σ : L2.St} {H : Hp} {st : Sto} (h : LkR T nm X.K g ρ σ (.str s) v) (m : Mt T nm X.K g ρ st σ H) : v = .str (strOf s) := by
  cases h.rep m rfl
  rfl
theorem small_ok {i : Int} (h : small i = true) : -(2 ^ 64) < i ∧ i < 2 ^ 64 := by
  unfold small at h
  rw [Bool.and_eq_true, decide_eq_true_iff, decide_eq_true_iff] at h
  have e : (2 : Int) ^ 64 = 18446744073709551616 := by decide
  rw [e]
  exact h
theorem small_nat {i : Int} (h : small i = true) : i.natAbs < 2 ^ 64 := by
  obtain ⟨a, b⟩ := small_ok h
  have e : (2 : Int) ^ 64 = 18446744073709551616 := by decide
  have e2 : (2 : Nat) ^ 64 = 18446744073709551616 := by decide
  rw [e] at a b
  rw [e2]
  omega
/-- * of ints -/
theorem op_mulG : OpR X (binaryOp .Mult) (rI (fun i j => mulOk i j = true) fun i j => .int (i * j)) := fun pins s σ H x y v u Q I rx ry ⟨i, j, ex, ey, h, q⟩ => by
  have h' : (small i || small j || decide (i.natAbs.log2 + j.natAbs.log2 < 1000000)) = true := h
  rw [Bool.or_eq_true, Bool.or_eq_true, decide_eq_true_iff] at h'
  replace h := h'
  rcases h with (h | h) | h
  · exact op_mul pins s σ H x y v u Q I rx ry ⟨i, j, ex, ey, .inl (small_ok h), q⟩
  · exact op_mul pins s σ H x y v u Q I rx ry ⟨i, j, ex, ey, .inr (small_ok h), q⟩
  · exact op_mulW pins s σ H x y v u Q I rx ry ⟨i, j, ex, ey, h, q⟩
theorem op_fdivG : OpR X (binaryOp .FloorDiv) (rI (fun _ j => divOk j = true) fun i j => .int (i.fdiv j)) := opI fun i j _ _ _ _ _ hc q => by
  unfold divOk at hc
  rw [Bool.and_eq_true, decide_eq_true_iff, decide_eq_true_iff] at hc
  exact floordiv_int hc.1 q (.inl (PyProof.noPylong_of_log2 hc.2))
theorem line_le {n : Nat} (h : n ≤ LINE) : n ≤ sizeLine := Nat.le_trans h (by decide)
theorem line_lt {n : Nat} (h : n < LINE) : n < sizeLine := Nat.lt_of_lt_of_le h (by decide)
/-- an answer that is no object -/
theorem flat_out {g0 g : Gh} {ρ : Rho} {σ : L2.St} {H : Hp} {st : Sto} {Q : VK} {d : D} {v : V} (o : Out T nm X.K W g0 ρ σ (fun d _ g' H' => ∀ v, RepR T nm X.K g0 g' d v → Q v H') (.ok d st)) (l : Le g0 g) (m : Mt T nm X.K g ρ st σ H) (r : Rep T nm X.K g d v) : Q v H :=
  (o.le l).ok m v (RepR.plain r r.plain)
/-- what instances do with an operator -/
def InsOps (X : Cx) (T : Tab) (nm : Nm) (W : WX) (cf : Nat → List D → Sto → R D) : Prop :=
  ∀ (op : BO) (pins : List (Addr × Obj)) (s : Shared) (σ : L2.St) (H : Hp) (g0 g : Gh) (ρ : Rho) (st : Sto) (d e : D) (x y : V) (u w : Value) (Q : VK), ((∃ c ds, d = .ins c ds) ∨ ∃ i c ds, d = .int i ∧ e = .ins c ds) →
    Inv X pins σ H s → Mt T nm X.K g ρ st σ H → LkR T nm X.K g ρ σ d x → LkR T nm X.K g ρ σ e y → RelV x u → RelV y w → Le g0 g →
    Out T nm X.K W g0 ρ σ (fun d _ g' H' => ∀ v, RepR T nm X.K g0 g' d v → Q v H') (binE T cf op d e st) → wpAny (model X.prog X.w) X.A (binaryOp (opOf op) u w) (EP X pins σ Q) X.xe s
theorem flat_bin {op : BO} {pins : List (Addr × Obj)} {s : Shared} {σ : L2.St} {H : Hp} {g0 g : Gh} {ρ : Rho} {st : Sto} {d e : D} {x y : V} {u w : Value} {Q : VK}
    (I : Inv X pins σ H s) (m : Mt T nm X.K g ρ st σ H) (ld : LkR T nm X.K g ρ σ d x) (le : LkR T nm X.K g ρ σ e y) (rx : RelV x u) (ry : RelV y w) (l0 : Le g0 g)
    (o : Out T nm X.K W g0 ρ σ (fun d _ g' H' => ∀ v, RepR T nm X.K g0 g' d v → Q v H') (R.of (binD op d e) st)) : wpAny (model X.prog X.w) X.A (binaryOp (opOf op) u w) (EP X pins σ Q) X.xe s := by
  cases d with
  | int i =>
    have ex := ld.int m
    cases e with
    | int j =>
      have ey := le.int m
      cases op with
      | add => exact op_add pins s σ H x y u w Q I rx ry ⟨i, j, ex, ey, flat_out o l0 m (.int _)⟩
      | sub => exact op_sub pins s σ H x y u w Q I rx ry ⟨i, j, ex, ey, flat_out o l0 m (.int _)⟩
      | mul =>
        have o' : Out T nm X.K W g0 ρ σ (fun d _ g' H' => ∀ v, RepR T nm X.K g0 g' d v → Q v H') (R.of (if mulOk i j then some (.int (i * j)) else none) st) := o
        by_cases h : mulOk i j = true
        · rw [if_pos h] at o'
          exact op_mulG pins s σ H x y u w Q I rx ry ⟨i, j, ex, ey, h, flat_out o' l0 m (.int _)⟩
        · rw [if_neg h] at o'
          exact o'.elim
      | fdv =>
        have o' : Out T nm X.K W g0 ρ σ (fun d _ g' H' => ∀ v, RepR T nm X.K g0 g' d v → Q v H') (R.of (if divOk j then some (.int (i.fdiv j)) else none) st) := o
        by_cases h : divOk j = true
        · rw [if_pos h] at o'
          exact op_fdivG pins s σ H x y u w Q I rx ry ⟨i, j, ex, ey, h, flat_out o' l0 m (.int _)⟩
        · rw [if_neg h] at o'
          exact o'.elim
      | mod =>
        have o' : Out T nm X.K W g0 ρ σ (fun d _ g' H' => ∀ v, RepR T nm X.K g0 g' d v → Q v H') (R.of (if j ≠ 0 then some (.int (i.fmod j)) else none) st) := o
        by_cases h : j ≠ 0
        · rw [if_pos h] at o'
          exact op_modN pins s σ H x y u w Q I rx ry ⟨i, j, ex, ey, h, flat_out o' l0 m (.int _)⟩
        · rw [if_neg h] at o'
          exact o'.elim
      | pow =>
        have o' : Out T nm X.K W g0 ρ σ (fun d _ g' H' => ∀ v, RepR T nm X.K g0 g' d v → Q v H') (R.of (if 0 ≤ j ∧ j ≤ 1000000 ∧ small i then some (.int (i ^ j.toNat)) else none) st) := o
        by_cases h : 0 ≤ j ∧ j ≤ 1000000 ∧ small i = true
        · rw [if_pos h] at o'
          exact op_pow pins s σ H x y u w Q I rx ry ⟨i, j, ex, ey, ⟨h.1, h.2.1, small_nat h.2.2⟩, flat_out o' l0 m (.int _)⟩
        · rw [if_neg h] at o'
          exact o'.elim
      | band => exact o.elim
      | shr => exact o.elim
    | _ => cases op <;> exact o.elim
  | str a =>
    have ex := ld.str m
    cases e with
    | str b =>
      have ey := le.str m
      cases op with
      | add =>
        have o' : Out T nm X.K W g0 ρ σ (fun d _ g' H' => ∀ v, RepR T nm X.K g0 g' d v → Q v H') (R.of (if a.length + b.length ≤ LINE then some (.str (a ++ b)) else none) st) := o
        by_cases h : a.length + b.length ≤ LINE
        · rw [if_pos h] at o'
          refine op_add_str pins s σ H x y u w Q I rx ry ⟨_, _, ex, ey, by rw [strOf_len, strOf_len]; exact line_le h, ?_⟩
          rw [strOf_app]
          exact flat_out o' l0 m (.str _)
        · rw [if_neg h] at o'
          exact o'.elim
      | _ => exact o.elim
    | _ => cases op <;> exact o.elim
  | _ => cases op <;> exact o.elim
theorem bin_ok {op : BO} {pins : List (Addr × Obj)} {s : Shared} {σ : L2.St} {H : Hp} {g0 g : Gh} {ρ : Rho} {st : Sto} {d e : D} {x y : V} {u w : Value} {Q : VK} (hi : InsOps X T nm W cf)
    (I : Inv X pins σ H s) (m : Mt T nm X.K g ρ st σ H) (ld : LkR T nm X.K g ρ σ d x) (le : LkR T nm X.K g ρ σ e y) (rx : RelV x u) (ry : RelV y w) (l0 : Le g0 g)
    (o : Out T nm X.K W g0 ρ σ (fun d _ g' H' => ∀ v, RepR T nm X.K g0 g' d v → Q v H') (binE T cf op d e st)) : wpAny (model X.prog X.w) X.A (binaryOp (opOf op) u w) (EP X pins σ Q) X.xe s := by
  cases d with
  | ins c ds => exact hi op pins s σ H g0 g ρ st _ e x y u w Q (.inl ⟨c, ds, rfl⟩) I m ld le rx ry l0 o
  | int i =>
    cases e with
    | ins c ds => exact hi op pins s σ H g0 g ρ st _ _ x y u w Q (.inr ⟨i, c, ds, rfl, rfl⟩) I m ld le rx ry l0 o
    | _ => exact flat_bin I m ld le rx ry l0 o
  | _ => exact flat_bin I m ld le rx ry l0 o
theorem se_bin {op : BO} {e1 e2 : Expr} {a b : E} (hi : InsOps X T nm W cf) (ha : PE X e1 (tB T nm X.K cf W a)) (hb : PE X e2 (tB T nm X.K cf W b)) : PE X (.BinOp e1 (opOf op) e2 pos) (tE T nm X.K cf W (.bin op a b)) := by
  refine ⟨fun pins s σ H Q I ⟨g, ρ, st, m, o⟩ => ?_⟩
  refine wpAny_BinOp (thn (look_go ha I m (Le.refl g) o) fun u s1 ⟨v, H1, d, st1, g1, I1, rv, l1, m1, lk, q⟩ => ?_)
  refine thn (look_go hb I1 m1 l1 q) fun w s2 ⟨y, H2, e, st2, g2, I2, rw2, l2, m2, lk2, q2⟩ => ?_
  exact bin_ok hi I2 m2 (lk.le l2) lk2 rv rw2 (l1.trans l2) q2
/-! ### comparisons -/
/-- == of flat data -/
theorem eqF_ok {d e : D} {x y : V} {b : Bool} {g : Gh} {K : PySem.W.Frag} (rd : Rep T nm K g d x) (re : Rep T nm K g e y) (h : eqF d e = some b) : scal x y = true ∧ decide (x = y) = b := by
  cases rd <;> cases re <;> first
    | (cases h; done)
    | (cases h; exact ⟨rfl, rfl⟩)
    | (cases h; refine ⟨rfl, ?_⟩; simp [strOf_inj])
theorem eqF_plain {d e : D} {b : Bool} (h : eqF d e = some b) : plain d = true ∧ plain e = true := by
  cases d <;> cases e <;> first | exact ⟨rfl, rfl⟩ | cases h
/-- what instances do with a comparison -/
def InsCmp (X : Cx) (T : Tab) (nm : Nm) (W : WX) (cf : Nat → List D → Sto → R D) : Prop :=
  ∀ (op : CO) (pins : List (Addr × Obj)) (s : Shared) (σ : L2.St) (H : Hp) (g0 g : Gh) (ρ : Rho) (st : Sto) (c : Nat) (ds : List D) (e : D) (x y : V) (u w : Value) (Q : Bool → Hp → Prop), (∃ f, T.cop c op = some f) →
    Inv X pins σ H s → Mt T nm X.K g ρ st σ H → LkR T nm X.K g ρ σ (.ins c ds) x → LkR T nm X.K g ρ σ e y → RelV x u → RelV y w → Le g0 g →
    Out T nm X.K W g0 ρ σ (fun b _ _ H' => Q b H') (cmpE T cf op (.ins c ds) e st) → wpAny (model X.prog X.w) X.A (compareOp (copOf op) u w) (EP X pins σ fun v H' => ∃ b, v = .bl b ∧ Q b H') X.xe s
theorem isNon_ok {d : D} {x : V} {g : Gh} {ρ : Rho} {σ : L2.St} {H : Hp} {st : Sto} (h : LkR T nm X.K g ρ σ d x) (m : Mt T nm X.K g ρ st σ H) : decide (x = .non) = isNon d := by
  cases d with
  | own ds =>
    obtain ⟨p, vs, e, _⟩ := h.own m
    rw [e]
    rfl
  | obj c ds =>
    obtain ⟨p, dx, vs, e, _⟩ := h.obj m
    rw [e]
    rfl
  | exc c ds =>
    rcases h with ⟨i, h1, h2⟩ | h
    · obtain ⟨w, e, a', cv, dd, h3, h4, _⟩ := m.slots i _ h1
      rw [h2] at e
      cases e
      rw [h4]
      rfl
    · cases h
  | _ => cases h.rep m rfl <;> rfl
/-- a row, looked at -/
theorem seqOf_ok {d : D} {ds : List D} {x : V} {g : Gh} {ρ : Rho} {σ : L2.St} {H : Hp} {st : Sto} (h : LkR T nm X.K g ρ σ d x) (m : Mt T nm X.K g ρ st σ H) (e : seqOf d = some ds) :
    ∃ p vs, x = .ref p ∧ (SqL X.K H p vs ∨ SqT X.K H p vs) ∧ Reps T nm X.K g ds vs := by
  cases d with
  | own es =>
    cases e
    obtain ⟨p, vs, e, hp, r⟩ := h.own m
    exact ⟨p, vs, e, .inl (.of hp), r⟩
  | lst es =>
    cases e
    cases h.rep m rfl with
    | lst s r => exact ⟨_, _, rfl, .inl (.of (m.imm _ _ s)), r⟩
  | tup es =>
    cases e
    cases h.rep m rfl with
    | tup s r => exact ⟨_, _, rfl, .inr (same_seqT (fun a o e => m.imm a o (of_imH e)) s), r⟩
  | _ => cases e
theorem leaf_V {d e : D} {v w : V} {g : Gh} (rd : Rep T nm X.K g d v) (re : Rep T nm X.K g e w) (p : noBl d = true) (q : noBl e = true) : flatV v = true ∧ eqV v w = leafEq d e := by
  cases rd <;> first | (cases p; done) | (cases re <;> first | (cases q; done) | exact ⟨rfl, rfl⟩ | (refine ⟨rfl, ?_⟩; simp [eqV, leafEq, strOf_inj, Bool.beq_eq_decide_eq]))
theorem leaf_Vs {e : D} {w : V} {g : Gh} (re : Rep T nm X.K g e w) (q : noBl e = true) : ∀ {ds : List D} {vs : List V}, Reps T nm X.K g ds vs → ds.all noBl = true → vs.all flatV = true ∧ (vs.any fun y => eqV y w) = ds.any fun d => leafEq d e
  | _, _, .nil, _ => ⟨rfl, rfl⟩
  | _, _, .cons r t, h => by
    rw [List.all_cons, Bool.and_eq_true] at h
    obtain ⟨h1, h2⟩ := leaf_V r re h.1 q
    obtain ⟨h3, h4⟩ := leaf_Vs re q t h.2
    exact ⟨by rw [List.all_cons, h1, h3]; rfl, by rw [List.any_cons, List.any_cons, h2, h4]⟩
theorem noBl_plain {d : D} (h : noBl d = true) : plain d = true := by
  cases d <;> first | rfl | cases h
theorem inF_ok {d e : D} {x y : V} {b : Bool} {g : Gh} {ρ : Rho} {σ : L2.St} {H : Hp} {st : Sto} (ld : LkR T nm X.K g ρ σ d x) (le : LkR T nm X.K g ρ σ e y) (m : Mt T nm X.K g ρ st σ H) (h : (seqOf e).bind (inF d) = some b) :
    ∃ p vs, y = .ref p ∧ (SqL X.K H p vs ∨ SqT X.K H p vs) ∧ flatV x = true ∧ vs.all flatV = true ∧ inV x vs = b := by
  cases h1 : seqOf e with
  | none => rw [h1] at h; cases h
  | some ds =>
    rw [h1] at h
    have h2 : (if (noBl d && ds.all noBl) = true then some (ds.any fun z => leafEq z d) else none) = some b := h
    by_cases c : (noBl d && ds.all noBl) = true
    · rw [if_pos c] at h2
      cases h2
      rw [Bool.and_eq_true] at c
      obtain ⟨p, vs, ey, hs, r⟩ := seqOf_ok le m h1
      have rd := ld.rep m (noBl_plain c.1)
      obtain ⟨f2, f3⟩ := leaf_Vs rd c.1 r c.2
      exact ⟨p, vs, ey, hs, (leaf_V rd rd c.1 c.1).1, f2, f3⟩
    · rw [if_neg c] at h2
      cases h2
theorem flat_cmp {op : CO} {pins : List (Addr × Obj)} {s : Shared} {σ : L2.St} {H : Hp} {g0 g : Gh} {ρ : Rho} {st : Sto} {d e : D} {x y : V} {u w : Value} {Q : Bool → Hp → Prop}
    (I : Inv X pins σ H s) (m : Mt T nm X.K g ρ st σ H) (ld : LkR T nm X.K g ρ σ d x) (le : LkR T nm X.K g ρ σ e y) (rx : RelV x u) (ry : RelV y w) (l0 : Le g0 g)
    (o : Out T nm X.K W g0 ρ σ (fun b _ _ H' => Q b H') (R.of (cmpD op d e) st)) : wpAny (model X.prog X.w) X.A (compareOp (copOf op) u w) (EP X pins σ fun v H' => ∃ b, v = .bl b ∧ Q b H') X.xe s := by
  obtain ⟨b, e1, q⟩ := Out.of (o.le l0) m
  cases op with
  | eq =>
    have h : eqF d e = some b := e1
    obtain ⟨p1, p2⟩ := eqF_plain h
    obtain ⟨h1, h2⟩ := eqF_ok (ld.rep m p1) (le.rep m p2) h
    exact op_eq pins s σ H x y u w _ I rx ry ⟨h1, _, by rw [h2], q⟩
  | ne =>
    cases h : eqF d e with
    | none =>
      have e2 : (eqF d e).map (!·) = some b := e1
      rw [h] at e2
      cases e2
    | some k =>
      have e2 : (eqF d e).map (!·) = some b := e1
      rw [h] at e2
      cases e2
      obtain ⟨p1, p2⟩ := eqF_plain h
      obtain ⟨h1, h2⟩ := eqF_ok (ld.rep m p1) (le.rep m p2) h
      exact op_ne pins s σ H x y u w _ I rx ry ⟨h1, _, by rw [h2], q⟩
  | lt =>
    cases d <;> cases e <;> first | (cases e1; done) | (cases e1; exact op_lt pins s σ H x y u w _ I rx ry ⟨_, _, ld.int m, le.int m, _, rfl, q⟩)
  | le =>
    cases d <;> cases e <;> first | (cases e1; done) | (cases e1; exact op_le pins s σ H x y u w _ I rx ry ⟨_, _, ld.int m, le.int m, _, rfl, q⟩)
  | gt =>
    cases d <;> cases e <;> first | (cases e1; done) | (cases e1; exact op_gt pins s σ H x y u w _ I rx ry ⟨_, _, ld.int m, le.int m, _, rfl, q⟩)
  | ge =>
    cases d <;> cases e <;> first | (cases e1; done) | (cases e1; exact op_ge pins s σ H x y u w _ I rx ry ⟨_, _, ld.int m, le.int m, _, rfl, q⟩)
  | is_ =>
    cases e with
    | non =>
      have e2 : some (isNon d) = some b := by cases d <;> exact e1
      cases e2
      rw [le.non m] at ry
      exact op_isN pins s σ H x .non u w _ I rx ry ⟨rfl, _, by rw [isNon_ok ld m], q⟩
    | bl k =>
      cases d with
      | bl j =>
        cases e1
        exact op_isBl pins s σ H x y u w _ I rx ry ⟨_, _, ld.bl m, le.bl m, _, rfl, q⟩
      | _ => cases e1
    | _ => cases d <;> cases e1
  | isn =>
    cases e with
    | non =>
      have e2 : some (!isNon d) = some b := by cases d <;> exact e1
      cases e2
      rw [le.non m] at ry
      exact op_notN pins s σ H x .non u w _ I rx ry ⟨rfl, _, by rw [isNon_ok ld m], q⟩
    | _ => cases d <;> cases e1
  | in_ =>
    have e2 : (seqOf e).bind (inF d) = some b := by cases d <;> cases e <;> exact e1
    obtain ⟨p, vs, ey, hs, f1, f2, f3⟩ := inF_ok ld le m e2
    exact op_in_seq pins s σ H x y u w _ I rx ry ⟨p, vs, ey, hs, f1, f2, _, by rw [f3]; rfl, q⟩
  | nin =>
    cases h : (seqOf e).bind (inF d) with
    | none =>
      have e2 : ((seqOf e).bind (inF d)).map (!·) = some b := by cases d <;> cases e <;> exact e1
      rw [h] at e2
      cases e2
    | some k =>
      have e2 : ((seqOf e).bind (inF d)).map (!·) = some b := by cases d <;> cases e <;> exact e1
      rw [h] at e2
      cases e2
      obtain ⟨p, vs, ey, hs, f1, f2, f3⟩ := inF_ok ld le m h
      exact op_notIn_seq pins s σ H x y u w _ I rx ry ⟨p, vs, ey, hs, f1, f2, _, by rw [f3]; rfl, q⟩
theorem cmp_ok {op : CO} {pins : List (Addr × Obj)} {s : Shared} {σ : L2.St} {H : Hp} {g0 g : Gh} {ρ : Rho} {st : Sto} {d e : D} {x y : V} {u w : Value} {Q : Bool → Hp → Prop} (hi : InsCmp X T nm W cf)
    (I : Inv X pins σ H s) (m : Mt T nm X.K g ρ st σ H) (ld : LkR T nm X.K g ρ σ d x) (le : LkR T nm X.K g ρ σ e y) (rx : RelV x u) (ry : RelV y w) (l0 : Le g0 g)
    (o : Out T nm X.K W g0 ρ σ (fun b _ _ H' => Q b H') (cmpE T cf op d e st)) : wpAny (model X.prog X.w) X.A (compareOp (copOf op) u w) (EP X pins σ fun v H' => ∃ b, v = .bl b ∧ Q b H') X.xe s := by
  cases d with
  | ins c ds =>
    cases h : T.cop c op with
    | some f => exact hi op pins s σ H g0 g ρ st c ds e x y u w Q ⟨f, h⟩ I m ld le rx ry l0 o
    | none =>
      have o' : Out T nm X.K W g0 ρ σ (fun b _ _ H' => Q b H') (R.of (cmpD op (.ins c ds) e) st) := by
        have z : cmpE T cf op (.ins c ds) e st = R.of (cmpD op (.ins c ds) e) st := by
          simp only [cmpE, h]
        rw [z] at o
        exact o
      exact flat_cmp I m ld le rx ry l0 o'
  | _ => exact flat_cmp I m ld le rx ry l0 o
theorem cop_mark (b : Expr) (op : CO) (hb : ∀ es k p, b ≠ .Set es k p) : behindInMarks (copOf op) b = false := by
  cases b <;> first | rfl | exact absurd rfl (hb _ _ _)
theorem se_cmp {op : CO} {e1 e2 : Expr} {a b : E} (hi : InsCmp X T nm W cf) (ha : PE X e1 (tB T nm X.K cf W a)) (hb : PE X e2 (tB T nm X.K cf W b)) (hs : ∀ es k p, e2 ≠ .Set es k p) : PE X (.Compare e1 [copOf op] [e2] pos) (tE T nm X.K cf W (.cmp op a b)) := by
  refine ⟨fun pins s σ H Q I ⟨g, ρ, st, m, o⟩ => ?_⟩
  refine wpAny_Compare1 (thn (look_go ha I m (Le.refl g) o) fun u s1 ⟨v, H1, d, st1, g1, I1, rv, l1, m1, lk, q⟩ => ?_) (cop_mark e2 op hs)
  refine thn (look_go hb I1 m1 l1 q) fun w s2 ⟨y, H2, e, st2, g2, I2, rw2, l2, m2, lk2, q2⟩ => ?_
  refine thn (cmp_ok (g0 := g) (Q := fun b H' => ∀ v, v = V.bl b → Q v H') hi I2 m2 (lk.le l2) lk2 rv rw2 (l1.trans l2) (Out.imp (Out.bind0 q2) fun b st3 g3 H3 l3 m3 q3 v e => by
    subst e
    exact flat_out q3 l3 m3 (.bl b))) fun c s3 ⟨z, H3, I3, r3, k, ez, q3⟩ => ⟨z, H3, I3, r3, q3 z ez⟩
theorem st_cmp {op : CO} {e1 e2 : Expr} {a b : E} (hi : InsCmp X T nm W cf) (ha : PE X e1 (tB T nm X.K cf W a)) (hb : PE X e2 (tB T nm X.K cf W b)) (hs : ∀ es k p, e2 ≠ .Set es k p) : PT X (.Compare e1 [copOf op] [e2] pos) (tT T nm X.K cf W (.e (.cmp op a b))) := by
  refine ⟨fun pins s σ H Q I ⟨g, ρ, st, m, o⟩ => ?_⟩
  have o1 : Out T nm X.K W g ρ σ (fun b _ _ H' => Q b H') ((bor a ρ st (evE T cf a ρ st)).bind fun x st => (bor b ρ st (evE T cf b ρ st)).bind fun y st => cmpE T cf op x y st) := by
    have e : ∀ r : R D, (((r.bind fun x st => (bor b ρ st (evE T cf b ρ st)).bind fun y st => (cmpE T cf op x y st).bind fun k st => R.ok (D.bl k) st)).bind fun d st => R.of (truth d) st) = r.bind fun x st => (bor b ρ st (evE T cf b ρ st)).bind fun y st => cmpE T cf op x y st := fun r => by
      cases r with
      | ok x st1 =>
        show (((bor b ρ st1 (evE T cf b ρ st1)).bind fun y st => (cmpE T cf op x y st).bind fun k st => R.ok (D.bl k) st).bind fun d st => R.of (truth d) st) = _
        show _ = (bor b ρ st1 (evE T cf b ρ st1)).bind fun y st => cmpE T cf op x y st
        cases bor b ρ st1 (evE T cf b ρ st1) with
        | ok y st2 =>
          show (((cmpE T cf op x y st2).bind fun k st => R.ok (D.bl k) st).bind fun d st => R.of (truth d) st) = cmpE T cf op x y st2
          cases cmpE T cf op x y st2 <;> rfl
        | er x st2 => rfl
        | no => rfl
      | er x st1 => rfl
      | no => rfl
    have o' : Out T nm X.K W g ρ σ (fun b _ _ H' => Q b H') (((bor a ρ st (evE T cf a ρ st)).bind fun x st => (bor b ρ st (evE T cf b ρ st)).bind fun y st => (cmpE T cf op x y st).bind fun k st => R.ok (D.bl k) st).bind fun d st => R.of (truth d) st) := o
    rw [e] at o'
    exact o'
  refine wpAny_isTrue_Compare1 (thn (look_go ha I m (Le.refl g) o1) fun u s1 ⟨v, H1, d, st1, g1, I1, rv, l1, m1, lk, q⟩ => ?_) (cop_mark e2 op hs)
  refine thn (look_go hb I1 m1 l1 q) fun w s2 ⟨y, H2, e, st2, g2, I2, rw2, l2, m2, lk2, q2⟩ => ?_
  refine thn (cmp_ok hi I2 m2 (lk.le l2) lk2 rv rw2 (l1.trans l2) q2) fun c s3 ⟨z, H3, I3, r3, k, ez, q3⟩ => ?_
  subst ez
  cases r3
  exact wpAny_truthy_bool ⟨H3, I3, q3⟩
theorem rep_lk {d : D} {v : V} {g : Gh} {ρ : Rho} {σ : L2.St} {g0 : Gh} (h : RepR T nm X.K g0 g d v) : LkR T nm X.K g ρ σ d v := LkR.of_rep h
/-- a comparison, then what is done with its answer -/
theorem cmp_go {op : CO} {pins : List (Addr × Obj)} {s : Shared} {σ : L2.St} {H : Hp} {g0 g : Gh} {ρ : Rho} {st : Sto} {d e : D} {x y : V} {u w : Value} {α : Type} {P : α → Sto → Gh → Hp → Prop} {kk : Bool → Sto → R α} (hi : InsCmp X T nm W cf)
    (I : Inv X pins σ H s) (m : Mt T nm X.K g ρ st σ H) (ld : LkR T nm X.K g ρ σ d x) (le : LkR T nm X.K g ρ σ e y) (rx : RelV x u) (ry : RelV y w) (l0 : Le g0 g)
    (o : Out T nm X.K W g0 ρ σ P ((cmpE T cf op d e st).bind kk)) : wpAny (model X.prog X.w) X.A (compareOp (copOf op) u w) (fun c s' => ∃ b H' st' g', Inv X pins σ H' s' ∧ c = .bool b ∧ Le g g' ∧ Mt T nm X.K g' ρ st' σ H' ∧ Out T nm X.K W g0 ρ σ P (kk b st')) X.xe s :=
  thn (cmp_ok (g0 := g) (Q := fun b H' => ∃ st' g', Le g g' ∧ Mt T nm X.K g' ρ st' σ H' ∧ Out T nm X.K W g0 ρ σ P (kk b st')) hi I m ld le rx ry (Le.refl g) (Out.imp ((Out.bind0 o).le l0) fun b st' g' H' l m' q => ⟨st', g', l, m', q⟩)) fun c s' ⟨z, H', I', r, b, ez, st', g', l, m', q⟩ => by
    subst ez
    exact ⟨b, H', st', g', I', r, l, m', q⟩
theorem chain_marks (b c : Expr) (op op' : CO) (hc : ∀ es k p, c ≠ .Set es k p) : lastMarks [copOf op, copOf op'] [b, c] = false := cop_mark c op' hc
theorem se_chain {op op' : CO} {e1 e2 e3 : Expr} {a b c : E} (hi : InsCmp X T nm W cf) (ha : PE X e1 (tE T nm X.K cf W a)) (hb : PE X e2 (tE T nm X.K cf W b)) (hc : PE X e3 (tE T nm X.K cf W c)) (hs : ∀ es k p, e3 ≠ .Set es k p) : PE X (.Compare e1 [copOf op, copOf op'] [e2, e3] pos) (tE T nm X.K cf W (.chain op op' a b c)) := by
  refine ⟨fun pins s σ H Q I ⟨g, ρ, st, m, o⟩ => ?_⟩
  refine Compare_chain (thn (val_go ha I m (Le.refl g) o) fun u s1 ⟨v, H1, d, st1, g1, I1, rv, l1, m1, rr, q⟩ => chain_link ?_) (chain_marks e2 e3 op op' hs)
  refine thn (val_go hb I1 m1 l1 q) fun w s2 ⟨y, H2, e, st2, g2, I2, rw2, l2, m2, rr2, q2⟩ => ?_
  refine thn (cmp_go hi I2 m2 ((rep_lk rr).le l2) (rep_lk rr2) rv rw2 (l1.trans l2) q2) fun cc s3 ⟨k, H3, st3, g3, I3, ek, l3, m3, q3⟩ => ?_
  subst ek
  refine wpAny_truthy_bool ?_
  have l03 := (l1.trans l2).trans l3
  cases k with
  | false => exact ite_ff ⟨.bl false, H3, I3, rfl, flat_out q3 l03 m3 (.bl _)⟩
  | true =>
    refine ite_tt (chain_last (thn (val_go hc I3 m3 l03 q3) fun z s4 ⟨v4, H4, d4, st4, g4, I4, rv4, l4, m4, rr4, q4⟩ => ?_))
    refine thn (cmp_go hi I4 m4 (((rep_lk rr2).le l3).le l4) (rep_lk rr4) rw2 rv4 (l03.trans l4) q4) fun c5 s5 ⟨b5, H5, st5, g5, I5, e5, l5, m5, q5⟩ => ?_
    subst e5
    exact ⟨.bl b5, H5, I5, rfl, flat_out q5 ((l03.trans l4).trans l5) m5 (.bl _)⟩
theorem st_chain {op op' : CO} {e1 e2 e3 : Expr} {a b c : E} (hi : InsCmp X T nm W cf) (ha : PE X e1 (tE T nm X.K cf W a)) (hb : PE X e2 (tE T nm X.K cf W b)) (hc : PE X e3 (tE T nm X.K cf W c)) (hs : ∀ es k p, e3 ≠ .Set es k p) : PT X (.Compare e1 [copOf op, copOf op'] [e2, e3] pos) (tT T nm X.K cf W (.e (.chain op op' a b c))) := by
  refine ⟨fun pins s σ H Q I ⟨g, ρ, st, m, o⟩ => ?_⟩
  have o1 : Out T nm X.K W g ρ σ (fun b _ _ H' => Q b H') ((evE T cf a ρ st).bind fun x st => (evE T cf b ρ st).bind fun y st => (cmpE T cf op x y st).bind fun k st => if k then (evE T cf c ρ st).bind fun z st => cmpE T cf op' y z st else .ok false st) := by
    have e : ∀ r : R D, (((r.bind fun x st => (evE T cf b ρ st).bind fun y st => (cmpE T cf op x y st).bind fun k st => if k then (evE T cf c ρ st).bind fun z st => (cmpE T cf op' y z st).bind fun b st => .ok (.bl b) st else .ok (.bl false) st)).bind fun d st => R.of (truth d) st) = r.bind fun x st => (evE T cf b ρ st).bind fun y st => (cmpE T cf op x y st).bind fun k st => if k then (evE T cf c ρ st).bind fun z st => cmpE T cf op' y z st else .ok false st := fun r => by
      cases r with
      | ok x st1 =>
        show (((evE T cf b ρ st1).bind fun y st => (cmpE T cf op x y st).bind fun k st => if k then (evE T cf c ρ st).bind fun z st => (cmpE T cf op' y z st).bind fun b st => R.ok (D.bl b) st else R.ok (D.bl false) st).bind fun d st => R.of (truth d) st) = (evE T cf b ρ st1).bind fun y st => (cmpE T cf op x y st).bind fun k st => if k then (evE T cf c ρ st).bind fun z st => cmpE T cf op' y z st else R.ok false st
        cases evE T cf b ρ st1 with
        | ok y st2 =>
          show (((cmpE T cf op x y st2).bind fun k st => if k then (evE T cf c ρ st).bind fun z st => (cmpE T cf op' y z st).bind fun b st => R.ok (D.bl b) st else R.ok (D.bl false) st).bind fun d st => R.of (truth d) st) = (cmpE T cf op x y st2).bind fun k st => if k then (evE T cf c ρ st).bind fun z st => cmpE T cf op' y z st else R.ok false st
          cases cmpE T cf op x y st2 with
          | ok k st3 =>
            cases k with
            | false => rfl
            | true =>
              show (((evE T cf c ρ st3).bind fun z st => (cmpE T cf op' y z st).bind fun b st => R.ok (D.bl b) st).bind fun d st => R.of (truth d) st) = (evE T cf c ρ st3).bind fun z st => cmpE T cf op' y z st
              cases evE T cf c ρ st3 with
              | ok z st4 =>
                show (((cmpE T cf op' y z st4).bind fun b st => R.ok (D.bl b) st).bind fun d st => R.of (truth d) st) = cmpE T cf op' y z st4
                cases cmpE T cf op' y z st4 <;> rfl
              | er x st => rfl
              | no => rfl
          | er x st => rfl
          | no => rfl
        | er x st2 => rfl
        | no => rfl
      | er x st1 => rfl
      | no => rfl
    have o' : Out T nm X.K W g ρ σ (fun b _ _ H' => Q b H') (((evE T cf a ρ st).bind fun x st => (evE T cf b ρ st).bind fun y st => (cmpE T cf op x y st).bind fun k st => if k then (evE T cf c ρ st).bind fun z st => (cmpE T cf op' y z st).bind fun b st => .ok (.bl b) st else .ok (.bl false) st).bind fun d st => R.of (truth d) st) := o
    rw [e] at o'
    exact o'
  refine isTrue_chain (thn (val_go ha I m (Le.refl g) o1) fun u s1 ⟨v, H1, d, st1, g1, I1, rv, l1, m1, rr, q⟩ => test_link ?_) (chain_marks e2 e3 op op' hs)
  refine thn (val_go hb I1 m1 l1 q) fun w s2 ⟨y, H2, e, st2, g2, I2, rw2, l2, m2, rr2, q2⟩ => ?_
  refine thn (cmp_go hi I2 m2 ((rep_lk rr).le l2) (rep_lk rr2) rv rw2 (l1.trans l2) q2) fun cc s3 ⟨k, H3, st3, g3, I3, ek, l3, m3, q3⟩ => ?_
  subst ek
  refine wpAny_truthy_bool ?_
  have l03 := (l1.trans l2).trans l3
  cases k with
  | false => exact ite_ff ⟨H3, I3, (Out.le q3 l03).ok m3⟩
  | true =>
    refine ite_tt (test_last (thn (val_go hc I3 m3 l03 q3) fun z s4 ⟨v4, H4, d4, st4, g4, I4, rv4, l4, m4, rr4, q4⟩ => ?_))
    refine thn (cmp_ok hi I4 m4 (((rep_lk rr2).le l3).le l4) (rep_lk rr4) rw2 rv4 (l03.trans l4) q4) fun c5 s5 ⟨z5, H5, I5, r5, b5, e5, q5⟩ => ?_
    subst e5
    cases r5
    exact wpAny_truthy_bool ⟨H5, I5, q5⟩
/-! ### isinstance -/
/-- the type of a kind -/
def kdV (nm : Nm) (K : PySem.W.Frag) : Kd → Value
  | .int => .type "int" | .bool => .type "bool" | .str => .type "str" | .non => .type "NoneType" | .tuple => .type "tuple" | .list => .type "list"
  | .ins c => .ref (cad nm K c) | .exc c => .ref (cad nm K c)
def tyV (nm : Nm) (K : PySem.W.Frag) : TY → Value
  | .int => .type "int" | .bool => .type "bool" | .str => .type "str" | .tuple => .type "tuple" | .list => .type "list" | .dict => .type "dict" | .verr => .type "ValueError"
  | .cls c => .ref (cad nm K c)
def tyW (nm : Nm) (K : PySem.W.Frag) : TY → V
  | .int => .ty "int" | .bool => .ty "bool" | .str => .ty "str" | .tuple => .ty "tuple" | .list => .ty "list" | .dict => .ty "dict" | .verr => .ty "ValueError"
  | .cls c => .ref (cad nm K c)
theorem tyW_cls (nm : Nm) (K : PySem.W.Frag) (t : TY) : ClsV (tyW nm K t) (tyV nm K t) := by
  cases t <;> first | exact .ty _ | exact .own _
/-- isinstance's answers are the text's -/
def Kit (X : Core) (T : Tab) (nm : Nm) : Prop := ∀ k t b, T.isi.contains t = true → kdIs T k t = some b → PySem.W.kitOne X.K (kdV nm X.K k) (tyV nm X.K t) = some b
theorem kd_ty {d : D} {kd : Kd} {v : V} {g : Gh} {ρ : Rho} {σ : L2.St} {H : Hp} {st : Sto} (hcl : ∀ c C, T.cls c = some C → C.exc = false → ClI (co X) T nm cf k c C) (h : LkR T nm X.K g ρ σ d v) (m : Mt T nm X.K g ρ st σ H) (e : kdOf d = some kd)
    (hc : ∀ c, kd = .ins c → ∃ C, T.cls c = some C ∧ C.exc = false) (hx : ∀ c, kd ≠ .exc c) : TyX X.K H v (kdV nm X.K kd) := by
  cases d with
  | int i => cases e; rw [h.int m]; exact .base (.int _)
  | bl i => cases e; rw [h.bl m]; exact .base (.bl _)
  | str i => cases e; rw [h.str m]; exact .base (.str _)
  | non => cases e; rw [h.non m]; exact .base .non
  | own ds =>
    cases e
    obtain ⟨p, vs, ev, hp, r⟩ := h.own m
    rw [ev]
    exact .base (.lst hp)
  | lst ds =>
    cases e
    cases h.rep m rfl with
    | lst s r => exact .base (.lst (m.imm _ _ s))
  | tup ds =>
    cases e
    cases h.rep m rfl with
    | tup s r =>
      rcases same_seqT (fun a o e => m.imm a o (of_imH e)) s with (s | ⟨o, s⟩) | ⟨o, its, n, s, s2, _⟩
      · exact .base (.tup s)
      · exact .fTuple s
      · exact .kTuple s s2
  | ins c ds =>
    cases e
    obtain ⟨C, hC, ne⟩ := hc c rfl
    have cI := hcl c C hC ne
    cases h.rep m rfl with
    | ins e1 e2 r => exact .base (.ins (m.imm _ _ e1) cI.cl cI.ta cI.tn cI.tt cI.tm)
  | exc c ds =>
    cases e
    exact absurd rfl (hx c)
  | _ => cases e
theorem isInst_k {d : D} {t : TY} {b : Bool} (h0 : isInst T d t = some b) : ∃ kd, kdOf d = some kd ∧ (T.isi.contains t = true ∧ kdIs T kd t = some b) ∧ ∀ c, kd = .ins c → ∃ C, T.cls c = some C ∧ C.exc = false := by
  unfold isInst at h0
  by_cases hin : T.isi.contains t = true
  rotate_left
  · rw [if_neg hin] at h0
    cases h0
  rw [if_pos hin] at h0
  have h := h0
  cases q : kdOf d with
  | none => rw [q] at h; cases h
  | some kd =>
    rw [q] at h
    have h1 : kdIs T kd t = some b := h
    refine ⟨kd, rfl, ⟨hin, h1⟩, fun c e => ?_⟩
    subst e
    cases hC : T.cls c with
    | none =>
      cases t <;> simp only [kdIs, hC] at h1 <;> first | (cases h1; done) | (split at h1 <;> cases h1)
    | some C =>
      cases hx : C.exc with
      | false => exact ⟨C, rfl, hx⟩
      | true => cases t <;> simp only [kdIs, hC, hx, if_true] at h1 <;> first | (cases h1; done) | (split at h1 <;> cases h1)
theorem kdOf_exc {d : D} {c : Nat} {v : V} {g : Gh} {ρ : Rho} {σ : L2.St} {H : Hp} {st : Sto} (hex : ExI X T nm) (h : LkR T nm X.K g ρ σ d v) (m : Mt T nm X.K g ρ st σ H) : kdOf d ≠ some (.exc c) := fun e => by
  cases d with
  | exc c ds =>
    rcases h with ⟨i, h1, h2⟩ | h
    · obtain ⟨w, e, a', cv, dd, h3, _⟩ := m.slots i _ h1
      rw [hex] at h3
      cases h3
    · cases h
  | _ => cases e
/-- isinstance(x, T) -/
theorem se_isi1 {p : Pos} {e1 e2 : Expr} {a : E} {t : TY} (hcl : ∀ c C, T.cls c = some C → C.exc = false → ClI (co X) T nm cf k c C) (hex : ExI X T nm) (hk : Kit (co X) T nm) (hg : Gl X "isinstance") (hm : X.mg "isinstance" = none) (ha : PE X e1 (tB T nm X.K cf W a)) (ht : PE X e2 (tC (tyW nm X.K t)))
    (h1 : starEach [e1, e2] X.env = (false, eval e1 X.env) :: starEach [e2] X.env) (h2 : starEach [e2] X.env = (false, eval e2 X.env) :: starEach [] X.env) : PE X (.Call (.Name "isinstance" p) [e1, e2] [] pos) (tE T nm X.K cf W (.isi a [t])) :=
  PE.imp (pe_callB call_isi hg hm (by decide +kernel) (pa_cons ha (pa_cons ht pa_nil h2) h1) (by decide) (by decide) h1 (by rw [h2]; rfl)) fun σ H Q ⟨g, ρ, st, m, o⟩ => ⟨g, ρ, st, m, Out.imp (Out.bind o) fun d st1 g1 H1 l1 m1 o1 v lk => by
    obtain ⟨r, e, q⟩ := Out.of o1 m1
    cases h : isInst T d t with
    | none => simp [isAny, h] at e
    | some b =>
      have e' : r = .bl b := by
        simp only [isAny, h] at e
        cases b <;> simp at e <;> exact e.symm
      subst e'
      obtain ⟨kd, k1, k2, k3⟩ := isInst_k h
      exact ⟨v, _, _, _, b, rfl, tyW_cls nm X.K t, kd_ty hcl lk m1 k1 k3 (fun c z => kdOf_exc hex lk m1 (z ▸ k1)), hk kd t b k2.1 k2.2, q _ (.bl b)⟩⟩
/-- isinstance(x, (T1, T2)) -/
theorem se_isi2 {p pt : Pos} {e1 e2 e3 : Expr} {a : E} {t u : TY} {kk} (hcl : ∀ c C, T.cls c = some C → C.exc = false → ClI (co X) T nm cf k c C) (hex : ExI X T nm) (hk : Kit (co X) T nm) (hg : Gl X "isinstance") (hm : X.mg "isinstance" = none) (ha : PE X e1 (tB T nm X.K cf W a)) (ht : PE X e2 (tC (tyW nm X.K t))) (hu : PE X e3 (tC (tyW nm X.K u)))
    (h1 : starEach [e1, .Tuple [e2, e3] kk pt] X.env = (false, eval e1 X.env) :: starEach [.Tuple [e2, e3] kk pt] X.env) (h2 : starEach [e2, e3] X.env = (false, eval e2 X.env) :: starEach [e3] X.env) (h3 : starEach [e3] X.env = (false, eval e3 X.env) :: starEach [] X.env) :
    PE X (.Call (.Name "isinstance" p) [e1, .Tuple [e2, e3] kk pt] [] pos) (tE T nm X.K cf W (.isi a [t, u])) :=
  PE.imp (pe_callB call_isiT hg hm (by decide +kernel) (pa_cons ha (pa_cons (pe_tup (pa_cons ht (pa_cons hu pa_nil h3) h2)) pa_nil rfl) h1) (by decide) (by decide) h1 rfl) fun σ H Q ⟨g, ρ, st, m, o⟩ => ⟨g, ρ, st, m, Out.imp (Out.bind o) fun d st1 g1 H1 l1 m1 o1 v lk => by
    refine ⟨by show 2 ≤ sizeLine; decide, fun tp htp => ?_⟩
    have l2 : Le g1 (put g1 tp (.imm (.tup [tyW nm X.K t, tyW nm X.K u]))) := le_put (m1.fresh htp)
    have m2 := m1.new (o := .tup [tyW nm X.K t, tyW nm X.K u]) htp (.inl rfl)
    obtain ⟨r, e, q⟩ := Out.of (o1.le l2) m2
    cases h : isInst T d t with
    | none => simp [isAny, h] at e
    | some b =>
      obtain ⟨kd, k1, k2, k3⟩ := isInst_k h
      have ty := kd_ty hcl (lk.le l2) m2 k1 k3 (fun c z => kdOf_exc hex lk m1 (z ▸ k1))
      have pr : Paired ClsV [tyW nm X.K t, tyW nm X.K u] [tyV nm X.K t, tyV nm X.K u] := .cons (tyW_cls nm X.K t) (.cons (tyW_cls nm X.K u) .nil)
      cases b with
      | true =>
        have e' : r = .bl true := by
          simp only [isAny, h] at e
          simpa using e.symm
        subst e'
        exact ⟨v, tp, _, _, _, true, rfl, upd_same, pr, ty, kitAny_cons (hk kd t true k2.1 k2.2) (fun z => nomatch z) (fun _ => rfl), q _ (.bl true)⟩
      | false =>
        cases h' : isInst T d u with
        | none => simp [isAny, h, h'] at e
        | some b' =>
          obtain ⟨kd', k1', k2', k3'⟩ := isInst_k h'
          rw [k1] at k1'
          cases k1'
          have e' : r = .bl b' := by
            simp only [isAny, h, h'] at e
            cases b' <;> simp at e <;> exact e.symm
          subst e'
          exact ⟨v, tp, _, _, _, b', rfl, upd_same, pr, ty, kitAny_cons (hk kd t false k2.1 k2.2) (fun _ => kitAny_cons (hk kd u b' k2'.1 k2'.2) (fun z => by rw [z]; exact kitAny_nil) (fun z => by rw [z])) (fun z => nomatch z), q _ (.bl b')⟩⟩
/-! ### items, slices -/
theorem ixN_eq (n : Nat) (i : Int) : Ev.ixN n i = L2.ixN n i := rfl
theorem atI_rep {g : Gh} {ds : List D} {vs : List V} {i : Int} {d : D} (r : Reps T nm X.K g ds vs) (h : Ev.atI ds i = some d) : ∃ v, L2.atI vs i = some v ∧ Rep T nm X.K g d v := by
  unfold Ev.atI at h
  unfold L2.atI
  rw [← r.len]
  cases q : Ev.ixN ds.length i with
  | none => rw [q] at h; cases h
  | some j =>
    rw [q] at h
    obtain ⟨v, e, rv⟩ := r.at (show ds[j]? = some d from h)
    rw [← ixN_eq, q]
    exact ⟨v, e, rv⟩
theorem atI_map {α β : Type} (f : α → β) (xs : List α) (i : Int) : L2.atI (xs.map f) i = (Ev.atI xs i).map f := by
  unfold L2.atI Ev.atI
  rw [List.length_map, ← ixN_eq]
  cases Ev.ixN xs.length i with
  | none => rfl
  | some j =>
    show (xs.map f)[j]? = _
    rw [List.getElem?_map]
    rfl
theorem atI_nats (s : List Nat) (i : Int) : L2.atI s i = Ev.atI s i := rfl
/-- a list of the store -/
theorem sto_lst {r : Nat} {ds : List D} {x : V} {g : Gh} {ρ : Rho} {σ : L2.St} {H : Hp} {st : Sto} (h : LkR T nm X.K g ρ σ (.ref r) x) (m : Mt T nm X.K g ρ st σ H) (e : st[r]? = some (.lst ds)) : ∃ p vs, x = .ref p ∧ g p = some (.sto r) ∧ H p = some (.lst vs) ∧ Reps T nm X.K g ds vs := by
  cases h.rep m rfl with
  | @ref p _ gp =>
    obtain ⟨a, o, ga, ha, vs, eo, rr⟩ := m.sto r _ e
    have z := m.uniq _ _ _ ga gp
    subst z
    subst eo
    exact ⟨a, vs, rfl, gp, ha, rr⟩
/-- what instances do with [..] -/
def InsIx (X : Cx) (T : Tab) (nm : Nm) (W : WX) (cf : Nat → List D → Sto → R D) : Prop :=
  ∀ (value slice : Expr) (pins : List (Addr × Obj)) (s : Shared) (σ : L2.St) (H : Hp) (g0 g : Gh) (ρ : Rho) (st : Sto) (c : Nat) (ds : List D) (e : D) (x y : V) (u w : Value) (Q : VK),
    Inv X pins σ H s → Mt T nm X.K g ρ st σ H → LkR T nm X.K g ρ σ (.ins c ds) x → Rep T nm X.K g e y → RelV x u → RelV y w → Le g0 g →
    Out T nm X.K W g0 ρ σ (fun d _ g' H' => ∀ v, RepR T nm X.K g0 g' d v → Q v H') (ixE T cf (.ins c ds) e st) → wpAny (model X.prog X.w) X.A (subscriptTail value slice u w) (EP X pins σ Q) X.xe s
theorem ix_ok {value slice : Expr} {pins : List (Addr × Obj)} {s : Shared} {σ : L2.St} {H : Hp} {g0 g g1 : Gh} {ρ : Rho} {st : Sto} {d e : D} {x y : V} {u w : Value} {Q : VK} (hi : InsIx X T nm W cf)
    (I : Inv X pins σ H s) (m : Mt T nm X.K g ρ st σ H) (ld : LkR T nm X.K g ρ σ d x) (le : RepR T nm X.K g1 g e y) (rx : RelV x u) (ry : RelV y w) (l0 : Le g0 g) (hs : subscripted slice false u w = operate [u, w] (getItem u w))
    (o : Out T nm X.K W g0 ρ σ (fun d _ g' H' => ∀ v, RepR T nm X.K g0 g' d v → Q v H') (ixE T cf d e st)) : wpAny (model X.prog X.w) X.A (subscriptTail value slice u w) (EP X pins σ Q) X.xe s := by
  cases e with
  | int i =>
    have ey : y = .int i := by cases le; rfl
    cases d with
    | tup ds =>
      obtain ⟨d, h, q⟩ := Out.of (o.le l0) m
      cases ld.rep m rfl with
      | tup sq r =>
        obtain ⟨v, e2, rv⟩ := atI_rep r h
        exact ix_tup value slice pins s σ H _ y u w Q I rx ry ⟨_, _, i, v, rfl, ey, same_seqT (fun a o e => m.imm a o (of_imH e)) sq, e2, q v (RepR.plain rv rv.plain)⟩ hs
    | lst ds =>
      obtain ⟨d, h, q⟩ := Out.of (o.le l0) m
      cases ld.rep m rfl with
      | lst sq r =>
        obtain ⟨v, e2, rv⟩ := atI_rep r h
        exact ix_list value slice pins s σ H _ y u w Q I rx ry ⟨_, _, i, v, rfl, ey, .of (m.imm _ _ sq), e2, q v (RepR.plain rv rv.plain)⟩ hs
    | own ds =>
      obtain ⟨d, h, q⟩ := Out.of (o.le l0) m
      obtain ⟨p, vs, ex, hp, r⟩ := ld.own m
      obtain ⟨v, e2, rv⟩ := atI_rep r h
      exact ix_list value slice pins s σ H _ y u w Q I rx ry ⟨_, _, i, v, ex, ey, .of hp, e2, q v (RepR.plain rv rv.plain)⟩ hs
    | scr ns =>
      obtain ⟨d, h, q⟩ := Out.of (o.le l0) m
      cases ld.rep m rfl with
      | scr sq =>
        cases h' : Ev.atI ns i with
        | none => rw [h'] at h; cases h
        | some n =>
          rw [h'] at h
          cases h
          exact ix_list value slice pins s σ H _ y u w Q I rx ry ⟨_, _, i, .int n, rfl, ey, Same.seq (fun a o e => m.imm a o (of_imH e)) sq, by rw [atI_map, h']; rfl, q _ (.int n)⟩ hs
    | str z =>
      have o' : Out T nm X.K W g0 ρ σ (fun d _ g' H' => ∀ v, RepR T nm X.K g0 g' d v → Q v H') (if z.length ≤ LINE then R.of ((Ev.atI z i).map fun c => D.str [c]) st else .no) := o
      by_cases hl : z.length ≤ LINE
      · rw [if_pos hl] at o'
        obtain ⟨d, h, q⟩ := Out.of (o'.le l0) m
        cases h' : Ev.atI z i with
        | none => rw [h'] at h; cases h
        | some c =>
          rw [h'] at h
          cases h
          exact ix_str value slice pins s σ H _ y u w Q I rx ry ⟨_, i, c, ld.str m, ey, by rw [strOf_len]; exact line_le hl, by rw [strOf_cps, atI_nats, h'], q _ (.str [c])⟩ hs
      · rw [if_neg hl] at o'
        exact o'.elim
    | ref r =>
      cases h1 : st[r]? with
      | none =>
        simp only [ixE, h1] at o
        exact o.elim
      | some ob =>
        cases ob with
        | lst ds =>
          simp only [ixE, h1] at o
          obtain ⟨d, h, q⟩ := Out.of (o.le l0) m
          obtain ⟨p, vs, ex, gp, hp, rr⟩ := sto_lst ld m h1
          obtain ⟨v, e2, rv⟩ := atI_rep rr h
          exact ix_list value slice pins s σ H _ y u w Q I rx ry ⟨_, _, i, v, ex, ey, .of hp, e2, q v (RepR.plain rv rv.plain)⟩ hs
        | ins c ds =>
          simp only [ixE, h1] at o
          exact o.elim
        | dct kvs =>
          simp only [ixE, h1] at o
          exact o.elim
    | ins c ds =>
      cases le with
      | int i => exact hi value slice pins s σ H g0 g ρ st c ds _ x _ u w Q I m ld (.int i) rx ry l0 o
    | _ => exact o.elim
  | own es =>
    cases d <;> exact o.elim
  | _ =>
    cases d with
    | ins c ds => exact hi value slice pins s σ H g0 g ρ st c ds _ x _ u w Q I m ld le rx ry l0 o
    | _ => exact o.elim
theorem se_ix {e1 e2 : Expr} {a b : E} (hi : InsIx X T nm W cf) (ha : PE X e1 (tB T nm X.K cf W a)) (hb : PE X e2 (tE T nm X.K cf W b)) (hs : ∀ l h p, e2 ≠ .Slice l h none p) : PE X (.Subscript e1 e2 pos) (tE T nm X.K cf W (.ix a b)) := by
  refine ⟨fun pins s σ H Q I ⟨g, ρ, st, m, o⟩ => ?_⟩
  refine Subscript_ (thn (look_go ha I m (Le.refl g) o) fun u s1 ⟨v, H1, d, st1, g1, I1, rv, l1, m1, lk, q⟩ => ?_)
  refine thn (val_go hb I1 m1 l1 q) fun w s2 ⟨y, H2, e, st2, g2, I2, rw2, l2, m2, rr, q2⟩ => ?_
  exact ix_ok hi I2 m2 (lk.le l2) rr rv rw2 (l1.trans l2) (by cases e2 <;> first | rfl | (rename_i l h z p; cases z <;> first | rfl | exact absurd rfl (hs _ _ _))) q2
/-! ### built-in functions -/
theorem bi_len {pins : List (Addr × Obj)} {s : Shared} {σ : L2.St} {H : Hp} {g0 g : Gh} {ρ : Rho} {st : Sto} {ds : List D} {vs : List V} {us : List Value} {Q : VK} (I : Inv X pins σ H s) (m : Mt T nm X.K g ρ st σ H) (l : LkRs T nm X.K g ρ σ ds vs) (rv : Vals vs us) (l0 : Le g0 g)
    (o : Out T nm X.K W g0 ρ σ (fun d _ g' H' => ∀ v, RepR T nm X.K g0 g' d v → Q v H') (biE T cf .len ds st)) : wpAny (model X.prog X.w) X.A (call (.builtin "len") us) (EP X pins σ Q) X.xe s := by
  match ds, vs, l with
  | [], [], _ => exact o.elim
  | _ :: _ :: _, _ :: _ :: _, _ =>
    rename_i d e _ _ _ _ _
    cases d <;> exact o.elim
  | [d], [v], ⟨lk, _⟩ =>
    refine call_len pins s σ H _ us Q I rv ⟨v, ?_⟩
    cases d with
    | tup ds =>
      cases lk.rep m rfl with
      | tup sq r => exact ⟨_, rfl, .inr ⟨_, same_seqT (fun a o e => m.imm a o (of_imH e)) sq, rfl⟩, by rw [← r.len]; exact flat_out o l0 m (.int _)⟩
    | lst ds =>
      cases lk.rep m rfl with
      | lst sq r => exact ⟨_, rfl, .inl ⟨_, .of (m.imm _ _ sq), rfl⟩, by rw [← r.len]; exact flat_out o l0 m (.int _)⟩
    | own ds =>
      obtain ⟨p, vs, ex, hp, r⟩ := lk.own m
      subst ex
      exact ⟨_, rfl, .inl ⟨_, .of hp, rfl⟩, by rw [← r.len]; exact flat_out o l0 m (.int _)⟩
    | scr ns =>
      cases lk.rep m rfl with
      | scr sq =>
        refine ⟨_, rfl, .inl ⟨_, Same.seq (fun a o e => m.imm a o (of_imH e)) sq, rfl⟩, ?_⟩
        rw [List.length_map]
        exact flat_out o l0 m (.int _)
    | str z =>
      have o' : Out T nm X.K W g0 ρ σ (fun d _ g' H' => ∀ v, RepR T nm X.K g0 g' d v → Q v H') (R.of (if z.length ≤ LINE then some (.int z.length) else none) st) := o
      by_cases hl : z.length ≤ LINE
      · rw [if_pos hl] at o'
        refine ⟨_, rfl, ?_, flat_out o' l0 m (.int _)⟩
        rw [lk.str m]
        exact ⟨by rw [strOf_len]; exact line_le hl, by rw [strOf_len]⟩
      · rw [if_neg hl] at o'
        exact o'.elim
    | ref r =>
      cases h1 : st[r]? with
      | none =>
        simp only [biE, h1] at o
        exact o.elim
      | some ob =>
        cases ob with
        | lst ds =>
          simp only [biE, h1] at o
          obtain ⟨p, vs, ex, gp, hp, rr⟩ := sto_lst lk m h1
          subst ex
          exact ⟨_, rfl, .inl ⟨_, .of hp, rfl⟩, by rw [← rr.len]; exact flat_out o l0 m (.int _)⟩
        | ins c ds =>
          simp only [biE, h1] at o
          exact o.elim
        | dct kvs =>
          simp only [biE, h1] at o
          exact o.elim
    | _ => exact o.elim
theorem bi_int {pins : List (Addr × Obj)} {s : Shared} {σ : L2.St} {H : Hp} {g0 g : Gh} {ρ : Rho} {st : Sto} {ds : List D} {vs : List V} {us : List Value} {Q : VK} (I : Inv X pins σ H s) (m : Mt T nm X.K g ρ st σ H) (l : LkRs T nm X.K g ρ σ ds vs) (rv : Vals vs us) (l0 : Le g0 g)
    (o : Out T nm X.K W g0 ρ σ (fun d _ g' H' => ∀ v, RepR T nm X.K g0 g' d v → Q v H') (biE T cf .int ds st)) : wpAny (model X.prog X.w) X.A (call (.type "int") us) (EP X pins σ Q) X.xe s := by
  match ds, vs, l with
  | [], [], _ => exact o.elim
  | _ :: _ :: _, _ :: _ :: _, _ =>
    rename_i d e _ _ _ _ _
    cases d <;> exact o.elim
  | [d], [v], ⟨lk, _⟩ =>
    refine call_int1 pins s σ H _ us Q I rv ?_
    cases d with
    | int i => exact .inl ⟨i, by rw [lk.int m], flat_out o l0 m (.int _)⟩
    | bl b => exact .inr ⟨b, by rw [lk.bl m], flat_out o l0 m (.int _)⟩
    | _ => exact o.elim
theorem bi_list {pins : List (Addr × Obj)} {s : Shared} {σ : L2.St} {H : Hp} {g0 g : Gh} {ρ : Rho} {st : Sto} {ds : List D} {vs : List V} {us : List Value} {Q : VK} (I : Inv X pins σ H s) (m : Mt T nm X.K g ρ st σ H) (l : LkRs T nm X.K g ρ σ ds vs) (rv : Vals vs us) (l0 : Le g0 g)
    (o : Out T nm X.K W g0 ρ σ (fun d _ g' H' => ∀ v, RepR T nm X.K g0 g' d v → Q v H') (biE T cf .list ds st)) : wpAny (model X.prog X.w) X.A (call (.type "list") us) (EP X pins σ Q) X.xe s := by
  match ds, vs, l with
  | [], [], _ => exact o.elim
  | _ :: _ :: _, _ :: _ :: _, _ =>
    rename_i d e _ _ _ _ _
    cases d <;> exact o.elim
  | [d], [v], ⟨lk, _⟩ =>
    cases h : seqOf d with
    | none =>
      have e : biE T cf .list [d] st = R.of (match seqOf d with
        | some ds => some (.own ds)
        | none => none) st := rfl
      rw [e, h] at o
      exact o.elim
    | some es =>
      have e : biE T cf .list [d] st = R.of (match seqOf d with
        | some ds => some (.own ds)
        | none => none) st := rfl
      rw [e, h] at o
      obtain ⟨p, ws, ex, hs, r⟩ := seqOf_ok lk m h
      subst ex
      exact call_list_of pins s σ H _ us Q I rv ⟨p, ws, rfl, hs, fun q hq => new_own l0 m r o hq⟩
theorem bi_tuple {pins : List (Addr × Obj)} {s : Shared} {σ : L2.St} {H : Hp} {g0 g : Gh} {ρ : Rho} {st : Sto} {ds : List D} {vs : List V} {us : List Value} {Q : VK} (I : Inv X pins σ H s) (m : Mt T nm X.K g ρ st σ H) (l : LkRs T nm X.K g ρ σ ds vs) (rv : Vals vs us) (l0 : Le g0 g)
    (o : Out T nm X.K W g0 ρ σ (fun d _ g' H' => ∀ v, RepR T nm X.K g0 g' d v → Q v H') (biE T cf .tuple ds st)) : wpAny (model X.prog X.w) X.A (call (.type "tuple") us) (EP X pins σ Q) X.xe s := by
  match ds, vs, l with
  | [], [], _ => exact o.elim
  | _ :: _ :: _, _ :: _ :: _, _ =>
    rename_i d e _ _ _ _ _
    cases d <;> exact o.elim
  | [d], [v], ⟨lk, _⟩ =>
    have ee : biE T cf .tuple [d] st = R.of (match seqOf d with
        | some ds => some (.tup ds)
        | none => none) st := rfl
    rw [ee] at o
    have make : ∀ {es : List D} {ws : List V}, Reps T nm X.K g es ws → Out T nm X.K W g0 ρ σ (fun d _ g' H' => ∀ v, RepR T nm X.K g0 g' d v → Q v H') (.ok (.tup es) st) → ∀ p, H p = none → Q (.ref p) (upd H p (.tup ws)) := fun {es ws} r o p hp => by
      have l2 : Le g (put g p (.imm (.tup ws))) := le_put (m.fresh hp)
      exact o _ _ (l0.trans l2) (m.new hp (.inl rfl)) _ (.tup (.inl (.inl (imH_of put_same))) (r.mono l2.lim))
    cases d with
    | tup es =>
      cases lk.rep m rfl with
      | tup sq r => exact call_tuple_of pins s σ H _ us Q I rv ⟨_, _, rfl, .inr ⟨same_seqT (fun a o e => m.imm a o (of_imH e)) sq, flat_out o l0 m (.tup sq r)⟩⟩
    | lst es =>
      cases lk.rep m rfl with
      | lst sq r => exact call_tuple_of pins s σ H _ us Q I rv ⟨_, _, rfl, .inl ⟨.of (m.imm _ _ sq), make r o⟩⟩
    | own es =>
      obtain ⟨p, ws, ex, hp, r⟩ := lk.own m
      subst ex
      exact call_tuple_of pins s σ H _ us Q I rv ⟨_, _, rfl, .inl ⟨.of hp, make r o⟩⟩
    | _ => exact o.elim
/-- looked-at arguments, then what is done with them -/
theorem looks_go {as : Es} {es : List Expr} {pins : List (Addr × Obj)} {σ : L2.St} {H : Hp} {s : Shared} {g : Gh} {ρ : Rho} {st : Sto} {α : Type} {P : α → Sto → Gh → Hp → Prop} {kk : List D → Sto → R α} (ha : PA X es (tL T nm X.K cf W as))
    (I : Inv X pins σ H s) (m : Mt T nm X.K g ρ st σ H) (o : Out T nm X.K W g ρ σ P ((evL T cf as ρ st).bind kk)) (pos : Pos) :
    wpAny (model X.prog X.w) X.A (spliced (backTo pos (starEach es X.env))) (fun us s' => ∃ vs H' ds st' g', Inv X pins σ H' s' ∧ Vals vs us ∧ LkRs T nm X.K g' ρ σ ds vs ∧ Le g g' ∧ Mt T nm X.K g' ρ st' σ H' ∧ Out T nm X.K W g ρ σ P (kk ds st')) X.xe s :=
  thn (ha.run pos pins s σ H (fun vs H1 => ∃ ds st1 g1, LkRs T nm X.K g1 ρ σ ds vs ∧ Le g g1 ∧ Mt T nm X.K g1 ρ st1 σ H1 ∧ Out T nm X.K W g ρ σ P (kk ds st1)) I
    ⟨g, ρ, st, m, Out.imp (Out.bind0 o) fun ds st1 g1 H1 l1 m1 q vs r => ⟨ds, st1, g1, r, l1, m1, q⟩⟩) fun us s1 ⟨vs, H1, I1, rv, ds, st1, g1, r, l1, m1, q⟩ => ⟨vs, H1, ds, st1, g1, I1, rv, r, l1, m1, q⟩
/-- a built-in function called -/
theorem se_biB {b : BI} {id : String} {x : Str} {p : Pos} {e : Expr} {es : List Expr} {as : Es} (hx : bootBuiltins x = some (.builtin id)) (hg : Gl X x) (hm : X.mg x = none) (ha : PA X (e :: es) (tL T nm X.K cf W as)) (hn : x ≠ "__name__") (hdb : (x == ("__debug__" : Str)) = false)
    (he : starEach (e :: es) X.env = (false, eval e X.env) :: starEach es X.env) (hpl : (backTo pos (starEach es X.env)).any (·.1) = false)
    (hr : ∀ {pins : List (Addr × Obj)} {s : Shared} {σ : L2.St} {H : Hp} {g0 g : Gh} {ρ : Rho} {st : Sto} {ds : List D} {vs : List V} {us : List Value} {Q : VK}, Inv X pins σ H s → Mt T nm X.K g ρ st σ H → LkRs T nm X.K g ρ σ ds vs → Vals vs us → Le g0 g →
      Out T nm X.K W g0 ρ σ (fun d _ g' H' => ∀ v, RepR T nm X.K g0 g' d v → Q v H') (biE T cf b ds st) → wpAny (model X.prog X.w) X.A (call (.builtin id) us) (EP X pins σ Q) X.xe s) :
    PE X (.Call (.Name x p) (e :: es) [] pos) (tE T nm X.K cf W (.bi b as)) := by
  refine ⟨fun pins s σ H Q I ⟨g, ρ, st, m, o⟩ => ?_⟩
  refine wpAny_Call_Name_kw (ld_blt I hg hm hx ?_ hn hdb)
  exact PyProof.Rows.callWith_builtin1 (thn (looks_go ha I m o pos) fun us s1 ⟨vs, H1, ds, st1, g1, I1, rv, r, l1, m1, q⟩ => hr I1 m1 r rv l1 q) he hpl
theorem se_biT {b : BI} {id : String} {x : Str} {p : Pos} {e : Expr} {es : List Expr} {as : Es} (hx : bootBuiltins x = some (.type id)) (hg : Gl X x) (hm : X.mg x = none) (ha : PA X (e :: es) (tL T nm X.K cf W as)) (hn : x ≠ "__name__") (hdb : (x == ("__debug__" : Str)) = false)
    (he : starEach (e :: es) X.env = (false, eval e X.env) :: starEach es X.env) (hpl : (backTo pos (starEach es X.env)).any (·.1) = false)
    (hr : ∀ {pins : List (Addr × Obj)} {s : Shared} {σ : L2.St} {H : Hp} {g0 g : Gh} {ρ : Rho} {st : Sto} {ds : List D} {vs : List V} {us : List Value} {Q : VK}, Inv X pins σ H s → Mt T nm X.K g ρ st σ H → LkRs T nm X.K g ρ σ ds vs → Vals vs us → Le g0 g →
      Out T nm X.K W g0 ρ σ (fun d _ g' H' => ∀ v, RepR T nm X.K g0 g' d v → Q v H') (biE T cf b ds st) → wpAny (model X.prog X.w) X.A (call (.type id) us) (EP X pins σ Q) X.xe s) :
    PE X (.Call (.Name x p) (e :: es) [] pos) (tE T nm X.K cf W (.bi b as)) := by
  refine ⟨fun pins s σ H Q I ⟨g, ρ, st, m, o⟩ => ?_⟩
  refine wpAny_Call_Name_kw (ld_blt I hg hm hx ?_ hn hdb)
  exact PyProof.Rows.callWith_type1 (thn (looks_go ha I m o pos) fun us s1 ⟨vs, H1, ds, st1, g1, I1, rv, r, l1, m1, q⟩ => hr I1 m1 r rv l1 q) he hpl
end

/-! ### statements -/
section
variable (T : Tab) (nm : Nm) (K : PySem.W.Frag)
/-- what is wanted behind a statement; gb: the ghost at the frame's entry -/
def OutS (W : WX) (gb : Gh) (D : Ends) : F → Prop
  | .nx ρ st => ∀ g' σ' H', Le gb g' → Mt T nm K g' ρ st σ' H' → D.nx σ' H'
  | .rt d st => ∀ g' v H', Le gb g' → Mt0 T nm K g' st H' → RepR T nm K gb g' d v → D.rt v H'
  | .bk ρ st => ∀ g' σ' H', Le gb g' → Mt T nm K g' ρ st σ' H' → D.bk σ' H'
  | .ct ρ st => ∀ g' σ' H', Le gb g' → Mt T nm K g' ρ st σ' H' → D.ct σ' H'
  | .er x ρ st => ∀ g' cv dd σ' H', Le gb g' → Mt T nm K g' ρ st σ' H' → XnR T nm K g' x cv dd → W cv dd σ' H'
  | .no => False
variable (cf : Nat → List D → Sto → R D)
def tS (W : WX) (s : S) : TS := fun D σ H => ∃ gb g ρ st, Mt T nm K g ρ st σ H ∧ Le gb g ∧ NoSlot gb ∧ OutS T nm K W gb D (exS T cf s ρ st)
end
section
variable {T : Tab} {nm : Nm} {K : PySem.W.Frag} {W : WX} {g g0 g1 gb : Gh} {ρ : Rho} {σ : L2.St} {H : Hp} {st : Sto} {D : Ends}
/-- an expression within a statement -/
theorem OutS.go {α : Type} {r : R α} {k : α → Sto → F} (o : OutS T nm K W gb D (r.f ρ k)) (l : Le gb g) : Out T nm K W g ρ σ (fun a st _ _ => OutS T nm K W gb D (k a st)) r := by
  cases r with
  | ok a st => exact fun _ _ _ _ => o
  | er x st => exact fun g' cv dd H' l' m x' => o g' cv dd σ H' (l.trans l') m x'
  | no => exact o
theorem getElem_set {α : Type} {xs : List α} {i j : Nat} {a b : α} (h : (xs.set i a)[j]? = some b) : (i = j ∧ i < xs.length ∧ a = b) ∨ (i ≠ j ∧ xs[j]? = some b) := by
  by_cases e : i = j
  · subst e
    by_cases hl : i < xs.length
    · rw [List.getElem?_set_self hl] at h
      exact .inl ⟨rfl, hl, Option.some.inj h⟩
    · rw [List.getElem?_eq_none (by rw [List.length_set]; omega)] at h
      cases h
  · rw [List.getElem?_set_ne e] at h
    exact .inr ⟨e, h⟩
theorem SlR.rep {i : Nat} {d : Ev.D} {v : V} (h : Rep T nm K g d v) : SlR T nm K g H i d v := by
  cases h <;> first
    | exact .non
    | exact .bl _
    | exact .int _
    | exact .str _
    | (rename_i a b; exact .tup a b)
    | (rename_i a b; exact .lst a b)
    | (rename_i a; exact .scr a)
    | (rename_i a b c; exact .ins a b c)
    | (rename_i a; exact .ref a)
/-- a name's new value -/
theorem Mt.set (m : Mt T nm K g ρ st σ H) {i : Nat} {d : Ev.D} {v : V} (r : SlR T nm K g H i d v) : Mt T nm K g (ρ.set i (some d)) st (σ.set i (some v)) H := by
  refine ⟨m.toMt0, by rw [List.length_set, List.length_set]; exact m.len, fun j e h => ?_⟩
  rcases getElem_set h with ⟨e1, e2, e3⟩ | ⟨e1, e2⟩
  · subst e1
    cases e3
    exact ⟨v, by rw [List.getElem?_set_self (by rw [← m.len]; exact e2)], r⟩
  · obtain ⟨w, h1, h2⟩ := m.slots j e e2
    exact ⟨w, by rw [List.getElem?_set_ne e1]; exact h1, h2⟩
/-- a name whose value is forgotten -/
theorem Mt.drop (m : Mt T nm K g ρ st σ H) {i : Nat} {x : Option V} : Mt T nm K g (ρ.set i none) st (σ.set i x) H := by
  refine ⟨m.toMt0, by rw [List.length_set, List.length_set]; exact m.len, fun j e h => ?_⟩
  rcases getElem_set h with ⟨e1, e2, e3⟩ | ⟨e1, e2⟩
  · cases e3
  · obtain ⟨w, h1, h2⟩ := m.slots j e e2
    exact ⟨w, by rw [List.getElem?_set_ne e1]; exact h1, h2⟩
/-- an address's word changes where neither data nor other names lean on it -/
theorem Mt0.word (m : Mt0 T nm K g st H) {p : Addr} {o : HO} {t : Tag} (hp : H p = some o) (h : (∃ i, g p = some (.slot i)) ∨ ∃ u, g p = some (.held u)) (ht : (t = .imm o ∨ t = .held o) ∨ ∃ i, t = .slot i) : Mt0 T nm K (put g p t) st H ∧ Lim g (put g p t) := by
  have nl : (∀ u, g p ≠ some (.imm u)) ∧ ∀ k, g p ≠ some (.sto k) := by
    rcases h with ⟨i, h⟩ | ⟨u, h⟩ <;> rw [h] <;> exact ⟨(fun _ z => nomatch z), (fun _ z => nomatch z)⟩
  have lm : Lim g (put g p t) := ⟨fun a o e => by rw [put_ne (fun z => by rw [z] at e; exact nl.1 _ e)]; exact e, fun a k e => by rw [put_ne (fun z => by rw [z] at e; exact nl.2 _ e)]; exact e⟩
  have old : ∀ a u, a ≠ p → put g p t a = some u → g a = some u := fun a u n e => by rw [put_ne n] at e; exact e
  have ns : ∀ k, t ≠ .sto k := fun k z => by rcases ht with (y | y) | ⟨i, y⟩ <;> rw [y] at z <;> cases z
  refine ⟨⟨fun a o' e => ?_, fun a o' e => ?_, fun k ob e => ?_, fun a k e => ?_, fun a b k e1 e2 => ?_, fun a u e => ?_⟩, lm⟩
  · by_cases n : a = p
    · subst n
      rw [put_same] at e
      rcases ht with (z | z) | ⟨i, z⟩ <;> rw [z] at e <;> cases e
      exact hp
    · exact m.imm a o' (old a _ n e)
  · by_cases n : a = p
    · subst n
      rw [put_same] at e
      rcases ht with (z | z) | ⟨i, z⟩ <;> rw [z] at e <;> cases e
      exact hp
    · exact m.held a o' (old a _ n e)
  · obtain ⟨a, o', e1, e2, r⟩ := m.sto k ob e
    exact ⟨a, o', lm.2 _ _ e1, e2, r.mono lm⟩
  · by_cases n : a = p
    · subst n
      rw [put_same] at e
      exact absurd (Option.some.inj e) (ns k)
    · exact m.stl a k (old a _ n e)
  · have na : a ≠ p := fun z => by
      rw [z, put_same] at e1
      exact absurd (Option.some.inj e1) (ns k)
    have nb : b ≠ p := fun z => by
      rw [z, put_same] at e2
      exact absurd (Option.some.inj e2) (ns k)
    exact m.uniq a b k (old a _ na e1) (old b _ nb e2)
  · by_cases n : a = p
    · subst n
      exact ⟨o, hp⟩
    · exact m.trk a u (old a _ n e)
theorem Le.word {p : Addr} {t : Tag} (l : Le gb g) (n : gb p = none) : Le gb (put g p t) := fun a u e => by
  rw [put_ne (fun z => by rw [z, n] at e; cases e)]
  exact l a u e
/-- nothing of the frame's own stood at its entry -/
theorem gb_none (l : Le gb g) (n : NoSlot gb) {p : Addr} {i : Nat} (h : g p = some (.slot i)) : gb p = none := by
  cases q : gb p with
  | none => rfl
  | some t =>
    have e := l _ _ q
    rw [h] at e
    cases e
    exact absurd q (n p i)
/-- a fresh list becomes a name's own -/
theorem Mt.take (m : Mt T nm K g ρ st σ H) {p : Addr} {vs : List V} {ds : List Ev.D} {i : Nat} (h : g p = some (.held (.lst vs))) (r : Reps T nm K g ds vs) : Mt T nm K (put g p (.slot i)) (ρ.set i (some (.own ds))) st (σ.set i (some (.ref p))) H := by
  have hp := m.held _ _ h
  obtain ⟨m0, lm⟩ := m.toMt0.word hp (.inr ⟨_, h⟩) (t := .slot i) (.inr ⟨i, rfl⟩)
  have m1 : Mt T nm K (put g p (.slot i)) ρ st σ H := ⟨m0, m.len, fun j e z => by
    obtain ⟨w, h1, h2⟩ := m.slots j e z
    exact ⟨w, h1, h2.mono lm fun q e2 => ⟨by rw [put_ne (fun z => by rw [z, h] at e2; cases e2)]; exact e2, rfl⟩⟩⟩
  exact m1.set ⟨p, vs, rfl, put_same, hp, r.mono lm⟩
/-- a name's own list is not changed any more: it stays (imm), or is handed on (held) -/
theorem Mt.give (m : Mt T nm K g ρ st σ H) {i : Nat} {ds : List Ev.D} (e : ρ[i]? = some (some (.own ds))) : ∃ p vs, σ[i]? = some (some (.ref p)) ∧ g p = some (.slot i) ∧ H p = some (.lst vs) ∧ Reps T nm K g ds vs ∧
    ∀ t, (t = .imm (.lst vs) ∨ t = .held (.lst vs)) → Mt T nm K (put g p t) (ρ.set i none) st σ H ∧ Lim g (put g p t) := by
  obtain ⟨v, e1, p, vs, ev, h1, h2, r⟩ := m.slots i _ e
  subst ev
  refine ⟨p, vs, e1, h1, h2, r, fun t ht => ?_⟩
  obtain ⟨m0, lm⟩ := m.toMt0.word h2 (.inl ⟨i, h1⟩) (t := t) (.inl ht)
  refine ⟨⟨m0, by rw [List.length_set]; exact m.len, fun j d z => ?_⟩, lm⟩
  rcases getElem_set z with ⟨_, _, z3⟩ | ⟨z1, z2⟩
  · cases z3
  · obtain ⟨w, h3, h4⟩ := m.slots j d z2
    exact ⟨w, h3, h4.mono lm fun q e2 => ⟨by rw [put_ne (fun y => by rw [y, h1] at e2; cases e2; exact z1 rfl)]; exact e2, rfl⟩⟩
/-- a name's own list is changed -/
theorem Mt.own_upd (m : Mt T nm K g ρ st σ H) {i : Nat} {es : List Ev.D} {p : Addr} {ws : List V} (e2 : σ[i]? = some (some (.ref p))) (h1 : g p = some (.slot i)) (r : Reps T nm K g es ws) : Mt T nm K g (ρ.set i (some (.own es))) st σ (upd H p (.lst ws)) := by
  have nn : ∀ a t, g a = some t → (∀ j, t ≠ .slot j) → upd H p (.lst ws) a = H a := fun a t e n => upd_ne fun z => by
    rw [z, h1] at e
    cases e
    exact n i rfl
  refine ⟨⟨fun a o e => by rw [nn a _ e (fun _ z => nomatch z)]; exact m.imm a o e, fun a o e => by rw [nn a _ e (fun _ z => nomatch z)]; exact m.held a o e, fun k ob e => ?_, m.stl, m.uniq, fun a t e => ?_⟩, by rw [List.length_set]; exact m.len, fun j d z => ?_⟩
  · obtain ⟨a, o, e1, e2, rr⟩ := m.sto k ob e
    exact ⟨a, o, e1, by rw [nn a _ e1 (fun _ z => nomatch z)]; exact e2, rr⟩
  · by_cases n : a = p
    · rw [n, upd_same]
      exact ⟨_, rfl⟩
    · rw [upd_ne n]
      exact m.trk a t e
  · rcases getElem_set z with ⟨z1, z2, z3⟩ | ⟨z1, z2⟩
    · subst z1
      cases z3
      exact ⟨.ref p, e2, p, ws, rfl, h1, upd_same, r⟩
    · obtain ⟨w, h3, h4⟩ := m.slots j d z2
      exact ⟨w, h3, h4.mono (Lim.refl g) fun q e3 => ⟨e3, upd_ne fun y => by rw [y, h1] at e3; cases e3; exact z1 rfl⟩⟩
/-- a list of the store is changed -/
theorem Mt.sto_upd (m : Mt T nm K g ρ st σ H) {k : Nat} {p : Addr} {es : List Ev.D} {ws : List V} (h1 : g p = some (.sto k)) (r : Reps T nm K g es ws) : Mt T nm K g ρ (st.set k (.lst es)) σ (upd H p (.lst ws)) := by
  have nn : ∀ a t, g a = some t → t ≠ .sto k → upd H p (.lst ws) a = H a := fun a t e n => upd_ne fun z => by
    rw [z, h1] at e
    cases e
    exact n rfl
  refine ⟨⟨fun a o e => by rw [nn a _ e (fun z => nomatch z)]; exact m.imm a o e, fun a o e => by rw [nn a _ e (fun z => nomatch z)]; exact m.held a o e, fun j ob e => ?_, fun a j e => by rw [List.length_set]; exact m.stl a j e, m.uniq, fun a t e => ?_⟩, m.len, fun j d z => ?_⟩
  · rcases getElem_set e with ⟨z1, z2, z3⟩ | ⟨z1, z2⟩
    · subst z1
      subst z3
      exact ⟨p, _, h1, upd_same, ws, rfl, r⟩
    · obtain ⟨a, o, e1, e2, rr⟩ := m.sto j ob z2
      refine ⟨a, o, e1, by rw [nn a _ e1 (fun z => z1 (by cases z; rfl))]; exact e2, rr⟩
  · by_cases n : a = p
    · rw [n, upd_same]
      exact ⟨_, rfl⟩
    · rw [upd_ne n]
      exact m.trk a t e
  · obtain ⟨w, h3, h4⟩ := m.slots j d z
    exact ⟨w, h3, h4.mono (Lim.refl g) fun q e3 => ⟨e3, nn q _ e3 (fun z => nomatch z)⟩⟩
end

section
variable {X : Cx} {T : Tab} {nm : Nm} {W : WX} {cf : Nat → List D → Sto → R D} {pos : Pos} {k : Nat}
theorem ss_skip : PSs X [] (tS T nm X.K cf W .skip) := PSs.imp pss_nil fun D σ H ⟨gb, g, ρ, st, m, l, n, o⟩ => o g σ H l m
theorem ss_pass : PS X (.Pass pos) (tS T nm X.K cf W .skip) := PS.imp ps_pass fun D σ H ⟨gb, g, ρ, st, m, l, n, o⟩ => o g σ H l m
theorem out_then {gb : Gh} {D : Ends} {r : F} {s2 : S} (n : NoSlot gb) (o : OutS T nm X.K W gb D (r.then fun ρ st => exS T cf s2 ρ st)) : OutS T nm X.K W gb { D with nx := tS T nm X.K cf W s2 D } r := by
  cases r with
  | nx ρ st => exact fun g' σ' H' l m => ⟨gb, g', ρ, st, m, l, n, o⟩
  | rt d st => exact o
  | bk ρ st => exact o
  | ct ρ st => exact o
  | er x ρ st => exact o
  | no => exact o
theorem ss_cons {st : Stmt} {rest : List Stmt} {a b : S} (h1 : PS X st (tS T nm X.K cf W a)) (h2 : PSs X rest (tS T nm X.K cf W b)) : PSs X (st :: rest) (tS T nm X.K cf W (.seq a b)) :=
  PSs.imp (pss_cons h1 h2) fun D σ H ⟨gb, g, ρ, st, m, l, n, o⟩ => ⟨gb, g, ρ, st, m, l, n, out_then n o⟩
theorem ss_expr {e : Expr} {a : E} (h : PE X e (tE T nm X.K cf W a)) (hs : swapsWith e none pos.line X.env = pure false) : PS X (.Expr e pos) (tS T nm X.K cf W (.expr a)) :=
  PS.imp (ps_expr h hs) fun D σ H ⟨gb, g, ρ, st, m, l, n, o⟩ => ⟨g, ρ, st, m, Out.imp (OutS.go o l) fun d st1 g1 H1 l1 m1 q v r => q g1 σ H1 (l.trans l1) m1⟩
theorem ss_set {e : Expr} {a : E} {i : Nat} {x : Str} {p : Pos} (hN : X.N.Nodup) (hi : X.N[i]? = some x) (hx : Loc X.env.scope x) (h : PE X e (tE T nm X.K cf W a)) (hs : swapsWith e (some (.Name x p)) pos.line X.env = pure false) (hf : X.fn x = true ∨ X.env.scope.names.lookup x = some .local) :
    PS X (.Assign [.Name x p] e pos) (tS T nm X.K cf W (.set i a)) :=
  PS.imp (ps_set hN hi hx h hs hf) fun D σ H ⟨gb, g, ρ, st, m, l, n, o⟩ => ⟨g, ρ, st, m, Out.imp (OutS.go o l) fun d st1 g1 H1 l1 m1 q v r => by
    obtain ⟨g2, l2, m2, r2⟩ := kept r m1 l1
    exact q g2 _ H1 (l.trans l2) (m2.set (SlR.rep r2))⟩
theorem ss_own {e : Expr} {a : E} {i : Nat} {x : Str} {p : Pos} (hN : X.N.Nodup) (hi : X.N[i]? = some x) (hx : Loc X.env.scope x) (h : PE X e (tE T nm X.K cf W a)) (hs : swapsWith e (some (.Name x p)) pos.line X.env = pure false) (hf : X.fn x = true ∨ X.env.scope.names.lookup x = some .local) :
    PS X (.Assign [.Name x p] e pos) (tS T nm X.K cf W (.own i a)) :=
  PS.imp (ps_set hN hi hx h hs hf) fun D σ H ⟨gb, g, ρ, st, m, l, n, o⟩ => ⟨g, ρ, st, m, Out.imp (OutS.go o l) fun d st1 g1 H1 l1 m1 q v r => by
    cases d with
    | own ds =>
      obtain ⟨p, vs, ev, h1, h2, h3⟩ := r
      subst ev
      have gn : gb p = none := by
        cases z : gb p with
        | none => rfl
        | some t =>
          rw [l _ _ z] at h2
          cases h2
      exact q _ _ H1 (Le.word (l.trans l1) gn) (m1.take h1 h3)
    | _ => exact q.elim⟩
theorem ownAt_some {ρ : Rho} {x : Nat} {ds : List D} (h : ownAt ρ x = some ds) : ρ[x]? = some (some (.own ds)) := by
  unfold ownAt at h
  split at h
  · rename_i e
    cases h
    exact e
  · cases h
theorem set_none_set {α : Type} (ρ : List (Option α)) (i : Nat) (d : Option α) : (ρ.set i none).set i d = ρ.set i d := by
  rw [List.set_set]
/-- a name's list is not changed any more; nothing is run -/
theorem ss_frz {rest : List Stmt} {i : Nat} {b : S} (h2 : PSs X rest (tS T nm X.K cf W b)) : PSs X rest (tS T nm X.K cf W (.seq (.frz i) b)) :=
  PSs.imp h2 fun D σ H ⟨gb, g, ρ, st, m, l, n, o⟩ => by
    have o' : OutS T nm X.K W gb D ((match ownAt ρ i with
      | some ds => F.nx (ρ.set i (some (.lst ds))) st
      | none => .no).then fun ρ st => exS T cf b ρ st) := o
    cases q : ownAt ρ i with
    | none =>
      rw [q] at o'
      exact o'.elim
    | some ds =>
      rw [q] at o'
      have e := ownAt_some q
      obtain ⟨p, vs, e1, h1, h2', r, hg⟩ := m.give e
      obtain ⟨m1, lm⟩ := hg (.imm (.lst vs)) (.inl rfl)
      have m2 := m1.set (i := i) (d := .lst ds) (v := .ref p) (.lst put_same (r.mono lm))
      rw [set_none_set] at m2
      have es : σ.set i (some (V.ref p)) = σ := by
        refine List.ext_getElem? fun j => ?_
        by_cases ej : i = j
        · subst ej
          rw [e1, List.getElem?_set_self (List.getElem?_eq_some_iff.mp e1).1]
        · rw [List.getElem?_set_ne ej]
      rw [es] at m2
      exact ⟨gb, _, _, st, m2, Le.word l (gb_none l n h1), n, o'⟩
theorem ss_ret {e : Expr} {a : E} (h : PE X e (tE T nm X.K cf W a)) : PS X (.Return (some e) pos) (tS T nm X.K cf W (.ret a)) :=
  PS.imp (ps_ret h) fun D σ H ⟨gb, g, ρ, st, m, l, n, o⟩ => ⟨g, ρ, st, m, Out.imp (OutS.go o l) fun d st1 g1 H1 l1 m1 q v r => q g1 v H1 (l.trans l1) m1.toMt0 (r.back l)⟩
theorem ss_ret0 : PS X (.Return none pos) (tS T nm X.K cf W .ret0) := PS.imp ps_retN fun D σ H ⟨gb, g, ρ, st, m, l, n, o⟩ => o g .non H l m.toMt0 .non
theorem ss_retm {i : Nat} {x : Str} {p : Pos} (hN : X.N[i]? = some x) (hv : Vis X.env.scope x) (hd : (x == ("__debug__" : Str)) = false) (hcd : (x == ("__classdict__" : Str)) = false) : PS X (.Return (some (.Name x p)) pos) (tS T nm X.K cf W (.retm i)) :=
  PS.imp (ps_ret (pe_var hN hv hd hcd)) fun D σ H ⟨gb, g, ρ, st, m, l, n, o⟩ => by
    have o' : OutS T nm X.K W gb D (match ownAt ρ i with
      | some ds => F.rt (.own ds) st
      | none => .no) := o
    cases q : ownAt ρ i with
    | none =>
      rw [q] at o'
      exact o'.elim
    | some ds =>
      rw [q] at o'
      obtain ⟨p, vs, e1, h1, h2, r, hg⟩ := m.give (ownAt_some q)
      obtain ⟨m1, lm⟩ := hg (.held (.lst vs)) (.inr rfl)
      have gn := gb_none l n h1
      exact ⟨.ref p, e1, o' _ _ H (Le.word l gn) m1.toMt0 ⟨p, vs, rfl, put_same, gn, r.mono lm⟩⟩
theorem ss_if {c : Expr} {a b : List Stmt} {t : Tt} {s1 s2 : S} (hc : PT X c (tT T nm X.K cf W t)) (ha : PSs X a (tS T nm X.K cf W s1)) (hb : PSs X b (tS T nm X.K cf W s2)) : PS X (.If c a b pos) (tS T nm X.K cf W (.ifs t s1 s2)) :=
  PS.imp (ps_if hc ha hb) fun D σ H ⟨gb, g, ρ, st, m, l, n, o⟩ => ⟨g, ρ, st, m, Out.imp (OutS.go o l) fun b st1 g1 H1 l1 m1 q => by
    cases b with
    | true => exact ⟨gb, g1, ρ, st1, m1, l.trans l1, n, q⟩
    | false => exact ⟨gb, g1, ρ, st1, m1, l.trans l1, n, q⟩⟩
theorem ss_brk : PS X (.Break pos) (tS T nm X.K cf W .brk) := PS.imp ps_break fun D σ H ⟨gb, g, ρ, st, m, l, n, o⟩ => o g σ H l m
theorem ss_cnt : PS X (.Continue pos) (tS T nm X.K cf W .cnt) := PS.imp ps_continue fun D σ H ⟨gb, g, ρ, st, m, l, n, o⟩ => o g σ H l m
/-- x.append(e) -/
theorem ss_app {e : Expr} {a : E} {i : Nat} {x : Str} {p p2 p3 : Pos} (hN : X.N[i]? = some x) (hv : Vis X.env.scope x) (hd : (x == ("__debug__" : Str)) = false) (hcd : (x == ("__classdict__" : Str)) = false) (h : PE X e (tE T nm X.K cf W a)) (hst : starEach [e] X.env = (false, eval e X.env) :: starEach [] X.env)
    (hm : PE X (.Call (.Attribute (.Name x p) "append" p2) [e] [] p3) (tBM X.K "list" rAppend (tVar i) (tCons (tE T nm X.K cf W a) tNil))) : PS X (.Expr (.Call (.Attribute (.Name x p) "append" p2) [e] [] p3) pos) (tS T nm X.K cf W (.app i a)) :=
  PS.imp (ps_expr hm rfl) fun D σ H ⟨gb, g, ρ, st, m, l, n, o⟩ => by
    have o' : OutS T nm X.K W gb D (match ownAt ρ i with
      | some ds => if ds.length < LINE then (evE T cf a ρ st).f ρ fun d st => .nx (ρ.set i (some (.own (ds ++ [fz d])))) st else .no
      | none => .no) := o
    cases q : ownAt ρ i with
    | none =>
      rw [q] at o'
      exact o'.elim
    | some ds =>
      rw [q] at o'
      have o2 : OutS T nm X.K W gb D (if ds.length < LINE then (evE T cf a ρ st).f ρ fun d st => .nx (ρ.set i (some (.own (ds ++ [fz d])))) st else .no) := o'
      by_cases hl : ds.length < LINE
      · rw [if_pos hl] at o2
        have e := ownAt_some q
        obtain ⟨v, e1, p, vs, ev, h1, h2, r⟩ := m.slots i _ e
        subst ev
        refine ⟨.ref p, e1, .inl ⟨rfl, vs, .of h2⟩, g, ρ, st, m, Out.imp (OutS.go o2 l) fun d st1 g1 H1 l1 m1 q1 w rw1 => ?_⟩
        obtain ⟨g2, l2, m2, r2⟩ := kept rw1 m1 l1
        obtain ⟨v', e1', p', vs', ev', h1', h2', r'⟩ := m2.slots i _ e
        subst ev'
        rw [e1] at e1'
        cases e1'
        refine ⟨p, vs', w, rfl, rfl, h2', by rw [← r'.len]; exact line_lt hl, ?_⟩
        exact q1 g2 σ _ (l.trans l2) (m2.own_upd e1 h1' (r'.append (.cons r2 .nil)))
      · rw [if_neg hl] at o2
        exact o2.elim
/-- a[i] = e, a list of the store -/
theorem ss_seti {e1 e2 e3 : Expr} {a b c : E} {p : Pos} (ha : PE X e1 (tE T nm X.K cf W a)) (hb : PE X e2 (tE T nm X.K cf W b)) (hc : PE X e3 (tE T nm X.K cf W c)) (hns : ∀ l h s q, e2 ≠ .Slice l h s q) (hsw : swapsWithSole [.Subscript e1 e2 p] e3 pos.line X.env = pure false) (hst : swappedStores [.Subscript e1 e2 p] e3 X.env = pure none) :
    PS X (.Assign [.Subscript e1 e2 p] e3 pos) (tS T nm X.K cf W (.seti a b c)) :=
  PS.imp (ps_asg hc (pg_sub ha hb set_list (by cases e2 <;> first | (intro v; rfl) | exact absurd rfl (hns _ _ _ _))) hsw hst) fun D σ H ⟨gb, g, ρ, st, m, l, n, o⟩ => ⟨g, ρ, st, m, Out.imp (OutS.go o l) fun d st1 g1 H1 l1 m1 q v r => by
    obtain ⟨g2, l2, m2, r2⟩ := kept r m1 l1
    refine ⟨g2, ρ, st1, m2, Out.imp (OutS.go q (l.trans l2)) fun x st3 g3 H3 l3 m3 q3 w rx => ?_⟩
    refine ⟨g3, ρ, st3, m3, Out.imp (OutS.go q3 ((l.trans l2).trans l3)) fun y st4 g4 H4 l4 m4 q4 z ry => ?_⟩
    have q5 : OutS T nm X.K W gb D (match setiD x y (fz d) st4 with
      | some st => F.nx ρ st
      | none => .no) := q4
    unfold setiD at q5
    cases x with
    | ref k =>
      cases y with
      | int j =>
        cases h1 : st4[k]? with
        | none =>
          simp only [h1] at q5
          exact q5.elim
        | some ob =>
          cases ob with
          | lst ds =>
            simp only [h1] at q5
            cases h2 : Ev.ixN ds.length j with
            | none =>
              rw [h2] at q5
              exact q5.elim
            | some jj =>
              rw [h2] at q5
              obtain ⟨pp, vs, ex, gp, hp, rr⟩ := sto_lst (ρ := ρ) (σ := σ) (LkR.le (LkR.of_rep rx) l4) m4 h1
              subst ex
              have ez : z = .int j := by cases ry; rfl
              subst ez
              refine ⟨pp, vs, j, jj, rfl, rfl, hp, by rw [← rr.len, ← ixN_eq]; exact h2, ?_⟩
              exact q5 g4 σ _ (((l.trans l2).trans l3).trans l4) (m4.sto_upd gp (Reps.set ((r2.mono l3.lim).mono l4.lim) jj rr))
          | ins c ds =>
            simp only [h1] at q5
            exact q5.elim
          | dct kvs =>
            simp only [h1] at q5
            exact q5.elim
      | _ => exact q5.elim
    | _ => cases y <;> exact q5.elim⟩
end
end Snd
set_option Elab.async false
set_option linter.all false
set_option maxRecDepth 100000
/-! SndA: own errors whose __init__ says super().__init__(text), then sets its fields. -/
namespace PySem
namespace OwnX
open PySem.W PySem.Calls PyProof.Rows PySem.HandSPX
/-- the text that super().__init__ is given -/
inductive TextE : Bool → List Str → Expr → Prop where
  | con (x : Str) (k : Nat) (p : Pos) (fs : List Str) (h : x.length ≤ 1000) : TextE false fs (.Constant (.str x) k p)
  | cat (x : Str) (k : Nat) (p p2 p3 : Pos) (f : Str) (fs : List Str) (h : x.length ≤ 1000) : TextE true (f :: fs) (.BinOp (.Constant (.str x) k p) .Add (.Name f p2) p3)
/-- self.f = f, one behind another -/
inductive Asg : List Str → List Stmt → Prop where
  | nil : Asg [] []
  | cons (f : Str) (p1 p2 p3 p4 : Pos) {fs : List Str} {b : List Stmt} (h : Asg fs b) : Asg (f :: fs) (.Assign [.Attribute (.Name "self" p1) f p2] (.Name f p3) p4 :: b)
theorem TextE.star {c : Bool} {fs : List Str} {e : Expr} (h : TextE c fs e) (env : Env) : starEach [e] env = [(false, eval e env)] := by
  cases h <;> rfl
theorem super_call {p0 p1 p2 p3 : Pos} {e : Expr} {env : Env} (hl : (p2.endLine == p3.line) = true) (hs : ∀ env, starEach [e] env = [(false, eval e env)]) : eval (.Call (.Attribute (.Call (.Name "super" p0) [] [] p1) "__init__" p2) [e] [] p3) env = (do
    let ov ← attributeBase (.Call (.Name "super" p0) [] [] p1) "__init__" env (eval (.Call (.Name "super" p0) [] [] p1) env)
    standAt p2.atName
    let (f, first) ← holding [ov] (getMethod ov "__init__" (L2.plainOf (.Call (.Name "super" p0) [] [] p1) env))
    callWith p3 f first (backTo p3 (starEach [e] env)) []) := by
  rw [arm_eval_Call]
  have hf : methodCallForm [e].length (backTo p3 (starEach [e] env)) (backToKw p3 (keywordEach [] env)) = true := by
    rw [hs]
    rfl
  refine congrArg _ (funext fun ov => ?_)
  refine congrArg _ (funext fun _ => ?_)
  exact L2.mcall_line hf hl
structure Scp (fs : List Str) (scope : Scope) : Prop where
  kind : scope.kind = .function
  self : scope.names.lookup ("self" : Str) = some .local
  fld : ∀ f ∈ fs, scope.names.lookup f = some .local
  sup : scope.names.lookup ("super" : Str) = some .globalImplicit
  cls : scope.names.lookup ("__class__" : Str) = some .free
  nocell : ∀ x ∈ scope.names, x.2 ≠ .cell
  co : scope.isCoroutine = false
  gen : scope.isGenerator = false
structure OwnX (prog : Program) (K : Frag) (C fI : Addr) (cat : Bool) (fs : List Str) : Prop where
  cls : ∃ nm q N bs bm sn sub ab col dd k0 k1 k2 k3 k5, K.lookup C = some (excClassObj nm q C N bs bm true sn sub ab col dd k0 k1 k2 k3 k5 "ValueError.__new__") ∧ refsVE bm = true ∧ alongIn K "__init__" bm = some (some (.builtin "ValueError.__init__"))
  sa : findIn K (.ref C) "__setattr__" = some (some (.builtin "object.__setattr__"))
  iC : findIn K (.ref C) "__init__" = some (some (.ref fI))
  tC : typeIn K (.ref fI) = some (.type "function")
  kC : keepIn K (.ref C) = true
  exC : subIn K (.ref C) (.type "BaseException") = some true
  veC : subIn K (.ref C) (.type "ValueError") = some true
  meC : mroIn K C (.ref C) = some true
  tyC : typeIn K (.ref C) = some (.type "type")
  noN : ∀ f ∈ fs, findIn K (.ref C) f = some none
  nd : fs.Nodup
  few : fs.length ≤ 20
  nsf : ("self" : Str) ∉ fs
  dbg : ∀ f ∈ fs, (f == ("__debug__" : Str)) = false
  any : nsIn K cStatics "thirdparty.any" = some none
  sup : nsIn K mainGlobals "super" = some none
  top : (prog.main.scope.names.lookup ("super" : Str)).isSome = false
  fn : ∃ (oc : Value) (od : Option Addr) (osl : Array (Option Value)) (qual : Str) (params : Arguments) (te : Expr) (b : List Stmt) (scope : Scope) (dV kV doc pm : Value) (an : Option Addr) (cda : Addr) (ct : Value) (cc : Addr) (p0 p1 p2 p3 p4 : Pos)
    (ccl : Value) (cdd : Option Addr) (cvs : Array Value) (ccs : Array (Option Value)) (file : Str) (tf : Tok) (cl : Value) (cld : Option Addr) (csl : Array (Option Value)) (cdD : ClassData) (ar : Arg),
    K.lookup fI = some ⟨oc, od, .func (ksFn "__init__" qual params (.Expr (.Call (.Attribute (.Call (.Name "super" p0) [] [] p1) "__init__" p2) [te] [] p3) p4 :: b) scope dV kV doc pm an (.ref cda) ct cc), osl⟩ ∧
    codeIn K (.ref cda) qual = true ∧ TextE cat fs te ∧ Asg fs b ∧ Scp fs scope ∧ K.lookup cda = some ⟨ccl, cdd, .fields cvs, ccs⟩ ∧ cvs[2]? = some (.str file tf) ∧ ((prog.main.file : Str) == file) = true ∧
    K.lookup cc = some ⟨cl, cld, .cell (some (.ref C)), csl⟩ ∧ clsIn K C = some cdD ∧ (params.posonlyargs ++ params.args).head? = some ar ∧ ar.arg = ("self" : Str) ∧ (p2.endLine == p3.line) = true ∧
    (∀ us : List Value, us.length = fs.length + 1 → bindArgs (ksFn "__init__" qual params (.Expr (.Call (.Attribute (.Call (.Name "super" p0) [] [] p1) "__init__" p2) [te] [] p3) p4 :: b) scope dV kV doc pm an (.ref cda) ct cc) ⟨us, []⟩ = pure ((("self" : Str) :: fs).zip us))
/-- what __init__ leaves of a fresh exception at x -/
structure InitEnd (h h' : Heap) (x C dx t1 : Addr) (m : Str → Option Value) : Prop where
  keep : ∀ b o, b ≠ x → h.get? b = some o → h'.get? b = some o
  obj : h'.get? x = some { cls := .ref C, dict := some dx, data := .fields #[.ref t1, .none, .none, .none, .bool false, .none] }
  dbig : h.objs.size ≤ dx
  dne : dx ≠ x
  ns : h'.Ns1 dx m
section
variable {prog : Program} {w : World} {A : Around} {E : Value → Shared → Prop} {h : Heap} {g : Array GenState} {d : Drawn} {t : Nat} {os : OsState}
variable {nm q : Str} {C N : Addr} {bs bm : List Value} {hdct : Bool} {sn : List Str} {sub : List Value} {ab : Bool} {col : Option Bool} {dd : Option Addr} {k0 k1 k2 k3 k5 : Option Value}
theorem call_mw {u e t0 : Addr} {rest : List Value} {Q : Value → Shared → Prop}
    (hC : h.get? C = some (excClassObj nm q C N bs bm hdct sn sub ab col dd k0 k1 k2 k3 k5 "ValueError.__new__")) (he : h.get? e = some (excO C t0)) (hu : KxsAt "ValueError.__init__" u e h) (hrest : rest.length ≤ sizeLine)
    (hq : ∀ h' t1, (∀ b o, b ≠ e → h.get? b = some o → h'.get? b = some o) → h'.get? e = some (excO C t1) → Q .none ⟨h', g, d, t, os⟩) :
    wpAny (model prog w) A (call (.ref u) rest) Q E ⟨h, g, d, t, os⟩ := by
  unfold KxsAt at hu
  refine wpAny_call (codeAny_of_tree ?_)
  show wpAny _ A.in1 (callAny (.ref u) ⟨rest, []⟩) _ _ _
  simp only [callAny]
  refine wpAny_bind (wpAny_load hu ?_)
  simp only [kxs_mw, show (Value.type "method-wrapper" == Value.type "method" || Value.type "method-wrapper" == Value.type "builtin_function_or_method" || Value.type "method-wrapper" == Value.type "method-wrapper") = true by decide, if_true]
  refine W.KFB.if_so (by decide) ?_
  refine wpAny_bind (ESX.check_bound F.excBase_ValueError hC he rfl ?_)
  refine wpAny_bind (wpAny_pure (wpAny_pure ?_))
  refine ⟨Code.quiet_builtin _ (by decide +kernel), codeAny_builtin F.excBase_ValueError.initEntry ?_⟩
  rw [Around.under_plainId F.excBase_ValueError.init.plain _]
  wp_walk
  refine hq _ h.objs.size (fun b o hb ho => ?_) ?_
  · rw [Heap.get?_update_other _ _ (Ne.symm hb)]
    exact Heap.get?_push_of_some _ ho
  · rw [Heap.get?_update_self _ (Heap.get?_push_of_some _ he) rfl]
    rfl
end
section
variable {prog : Program} {w : World} {A : Around} {R : Result → Shared → Prop} {s : Shared} {K : Frag} {C fI : Addr} {cat : Bool} {fs : List Str}
theorem ns1_ns {h : Heap} {a : Addr} {m : Str → Option Value} (n : h.Ns1 a m) : h.Ns a m := n.ns
/-- one field behind another, the dict stands -/
theorem asgs_old {env : Env} {E : Value → Shared → Prop} {x dx t1 : Addr} {L : Addr} {mL : Str → Option Value} {bm : List Value} {nm q : Str} {N : Addr} {bs : List Value} {sn : List Str} {sub : List Value} {ab : Bool} {col : Option Bool} {dd : Option Addr} {k0 k1 k2 k3 k5 : Option Value} {Q : Flow → Shared → Prop}
    (hC : K.lookup C = some (excClassObj nm q C N bs bm true sn sub ab col dd k0 k1 k2 k3 k5 "ValueError.__new__")) (hbm : refsVE bm = true) (sa : findIn K (.ref C) "__setattr__" = some (some (.builtin "object.__setattr__")))
    (hk : env.scope.kind = .function) (hself : env.kindOf ("self" : Str) = some .local) (eL : env.locals = L) (hms : mL "self" = some (.ref x)) (hnx : K.lookup x = none) (hLx : L ≠ x) :
    ∀ (fs : List Str) (b : List Stmt) (us : List Value) (s : Shared) (m : Str → Option Value) (nl : List Str), Asg fs b → (∀ f ∈ fs, env.kindOf f = some .local) → (∀ f ∈ fs, (f == ("__debug__" : Str)) = false) → (∀ f ∈ fs, findIn K (.ref C) f = some none) → fs.length = us.length → (∀ p ∈ fs.zip us, mL p.1 = some p.2) → fs.Nodup → nl.length + fs.length ≤ 1000 →
      K.In s.heap → s.heap.Ns L mL → s.heap.get? x = some { cls := .ref C, dict := some dx, data := .fields #[.ref t1, .none, .none, .none, .bool false, .none] } → s.heap.Ns1 dx m → Within m nl → dx ≠ x → dx ≠ L → K.lookup dx = none →
      (∀ h' tk, (∀ b o, b ≠ dx → s.heap.get? b = some o → h'.get? b = some o) → h'.get? x = some { cls := .ref C, dict := some dx, data := .fields #[.ref t1, .none, .none, .none, .bool false, .none] } → h'.Ns1 dx (fun y => match (fs.zip us).reverse.lookup y with | some v => some v | none => m y) → Q .next { s with heap := h', toks := tk }) →
      wpAny (model prog w) A (execs b env) Q E s
  | [], _, us, s, m, nl, .nil, _, _, _, _, _, _, _, X, hn, hx, hd, _, _, _, _, hq => by
    refine wpAny_execs_nil ?_
    obtain ⟨hp, g, d, t, os⟩ := s
    exact hq hp t (fun _ _ _ e => e) hx hd
  | f :: fs, _, [], s, m, nl, .cons _ p1 p2 p3 p4 hb, _, _, _, hl, _, _, _, X, hn, hx, hd, _, _, _, _, hq => by cases hl
  | f :: fs, _, u :: us, s, m, nl, .cons _ p1 p2 p3 p4 (b := b) hb, hloc, hdb, hno, hl, hm, nd, hz, X, hn, hx, hd, hw, ne, neL, hnd, hq => by
    refine wpAny_execs_cons (plainObj_wpAny_Assign_Attribute ?_)
    refine wpAny_Name (wpAny_loadName_local hk (hloc f List.mem_cons_self) (by rw [eL]; exact hn) (hm (f, u) List.mem_cons_self) ?_) (hdb f List.mem_cons_self)
    refine wpAny_Name (wpAny_loadName_local hk hself (by rw [eL]; exact hn) hms ?_)
    have hcl : clsIn K C = some { name := nm, bases := bs, mro := .ref C :: bm, ns := N, qualname := q, hasDict := true, slotNames := sn, subclasses := sub, abstract := ab, collection := col, hasDel := false } := by unfold clsIn; rw [hC] <;> rfl
    obtain ⟨oD, _, _, hoD, _, _⟩ := hd.count hw
    obtain ⟨hp, g, d, t, os⟩ := s
    refine set_plain X (ox := { cls := .ref C, dict := some dx, data := .fields #[.ref t1, .none, .none, .none, .bool false, .none] }) (od := some oD) ⟨hx, rfl, rfl, hoD⟩ sa ?_
    refine PySem.OEX.osa_old X hx hd hw (by simp at hz; omega) hcl (show refsVE (.ref C :: bm) = true from hbm) rfl (hno f List.mem_cons_self) fun h' tk' k hn' => ?_
    have keepN : ∀ {a : Addr} {o : Obj}, a ≠ dx → hp.get? a = some o → h'.get? a = some o := fun n e => k _ _ n e
    refine asgs_old hC hbm sa hk hself eL hms hnx hLx fs b us ⟨h', g, d, tk', os⟩ (fun y => if y = f then some u else m y) (f :: nl) hb (fun f hf => hloc f (List.mem_cons_of_mem _ hf)) (fun f hf => hdb f (List.mem_cons_of_mem _ hf)) (fun f hf => hno f (List.mem_cons_of_mem _ hf)) (by simpa using hl) (fun p hp => hm p (List.mem_cons_of_mem _ hp)) (List.nodup_cons.mp nd).2 (by simp at hz ⊢; omega)
      (fun a o e => k _ _ (fun z => by rw [z, hnd] at e; cases e) (X a o e)) (hn.at fun o e => k _ _ (Ne.symm neL) e) (k _ _ (Ne.symm ne) hx) hn' (Within.cons f u hw) ne neL hnd fun h2 tk2 k2 hx2 hd2 => ?_
    refine hq h2 tk2 (fun b o n e => k2 b o n (k b o n e)) hx2 ?_
    have e : (fun y => match ((f :: fs).zip (u :: us)).reverse.lookup y with | some v => some v | none => m y) = fun y => match (fs.zip us).reverse.lookup y with | some v => some v | none => if y = f then some u else m y := by
      funext y
      show (match List.lookup y ((f, u) :: fs.zip us).reverse with | some v => some v | none => m y) = _
      rw [List.reverse_cons, List.lookup_append]
      cases List.lookup y (fs.zip us).reverse with
      | some v => rfl
      | none =>
        by_cases z : y = f
        · subst z
          simp [List.lookup]
        · have z2 : (y == f) = false := by simpa using z
          simp [List.lookup, z2, z]
    rw [e]
    exact hd2
theorem zip_mem_look : ∀ {fs : List Str} {us : List Value} {p : Str × Value}, fs.Nodup → p ∈ fs.zip us → (fs.zip us).reverse.lookup p.1 = some p.2
  | [], _, _, _, h => by simp at h
  | _ :: _, [], _, _, h => by simp at h
  | f :: fs, u :: us, p, nd, h => by
    show List.lookup p.1 ((f, u) :: fs.zip us).reverse = some p.2
    rw [List.reverse_cons, List.lookup_append]
    rcases List.mem_cons.mp (show p ∈ (f, u) :: fs.zip us from h) with e | h
    · subst e
      have z : List.lookup f (fs.zip us).reverse = none := by
        rw [List.lookup_eq_none_iff]
        intro q hq
        have h2 := List.of_mem_zip (List.mem_reverse.mp hq)
        exact bne_iff_ne.mpr (fun e : f = q.1 => (List.nodup_cons.mp nd).1 (e ▸ h2.1))
      rw [show List.lookup (f, u).1 (fs.zip us).reverse = none from z]
      simp [List.lookup]
    · have z2 := zip_mem_look (List.nodup_cons.mp nd).2 h
      simp only [z2, Option.some_or]
theorem interactive_fn {env : Env} (h : env.scope.kind = .function) : interactive env = false := by
  unfold interactive
  rw [h]
  rfl
theorem own_init (T : OwnX prog K C fI cat fs) {mg mb : Str → Option Value} {x t0 : Addr} {us : List Value} (X : K.In s.heap) (hlim : s.heap.NoLimit) (G : s.heap.Ns mainGlobals mg) (hb : s.heap.Ns builtinsNs mb) (hbs : ∀ x : Str, x ≠ "__name__" → mb x = bootBuiltins x)
    (hx : s.heap.get? x = some (excO C t0)) (hnx : K.lookup x = none) (hroom : A.depth < recursionLimit) (hl : us.length = fs.length) (hne : fs ≠ []) (hcat : cat = true → ∃ z tk r, us = .str z tk :: r ∧ z.length ≤ 10000000)
    (hq : ∀ h' tk dx t1, InitEnd s.heap h' x C dx t1 (fun y => (fs.zip us).reverse.lookup y) → R (.ok (.ret .none)) { s with heap := h', toks := tk }) :
    codeAny (model prog w) A (.call (.ref fI) ⟨.ref x :: us, []⟩) R s := by
  obtain ⟨oc, od, osl, qual, params, te, b, scope, dV, kV, doc, pm, an, cda, ct, cc, p0, p1, p2, p3, p4, ccl, cdd, cvs, ccs, file, tf, cl, cld, csl, cdD, ar, ho, hcd, hte, hasg, hsc, hcda, hfile, hfe, hcell, hclsD, har, hare, hln, hbind⟩ := T.fn
  obtain ⟨nm, q, N, bs, bm, sn, sub, ab, col, dd, k0, k1, k2, k3, k5, hC, hbm, hal⟩ := T.cls
  have hcl : clsIn K C = some { name := nm, bases := bs, mro := .ref C :: bm, ns := N, qualname := q, hasDict := true, slotNames := sn, subclasses := sub, abstract := ab, collection := col, hasDel := false } := by unfold clsIn; rw [hC] <;> rfl
  refine ks_codeAny_call_defAt (binds := (("self" : Str), Value.ref x) :: fs.zip us) hroom (X _ _ ho) rfl hlim (codeRec_of X hcd) rfl (BindsTo.of_eq (by
    have z := hbind (.ref x :: us) (by simp [hl])
    exact z)) hsc.nocell (fun y hy => ?_) (fun h₁ hns k => ?_) hsc.co hsc.gen hsc.kind
  · rcases List.mem_cons.mp hy with e | hy
    · rw [e]
      exact hsc.self
    · exact hsc.fld _ (List.of_mem_zip hy).1
  have X1 : K.In h₁ := X.keeps k
  have hx1 := k _ _ hx
  have nd1 : ((("self" : Str)) :: fs).Nodup := List.nodup_cons.mpr ⟨T.nsf, T.nd⟩
  have look : ∀ p ∈ (("self" : Str) :: fs).zip (.ref x :: us), ((("self" : Str), Value.ref x) :: fs.zip us).reverse.lookup p.1 = some p.2 := fun p hp => zip_mem_look (us := .ref x :: us) nd1 hp
  have lself : ((("self" : Str), Value.ref x) :: fs.zip us).reverse.lookup ("self" : Str) = some (.ref x) := look (("self" : Str), .ref x) List.mem_cons_self
  have hxL : s.heap.objs.size ≠ x := Nat.ne_of_gt (Heap.lt_size hx)
  -- super().__init__(text)
  refine ks_wpAt_execs_cons (ks_wpAt_Expr_any (ks_wpAt_MethodCall ?_ (super_call hln hte.star)) (interactive_fn hsc.kind) rfl)
  obtain ⟨oD, hD1, hD2⟩ : ∃ oD, h₁.get? C = some oD ∧ oD.data = .cls { name := nm, bases := bs, mro := .ref C :: bm, ns := N, qualname := q, hasDict := true, slotNames := sn, subclasses := sub, abstract := ab, collection := col, hasDel := false } := ⟨_, X1 _ _ hC, rfl⟩
  refine ks_wpAt_super_base hsc.sup hsc.cls (by decide) rfl (X1 _ _ ho) rfl har rfl (X1 _ _ hcda) rfl hfile hfe T.top ?_
  refine ks_loadName_global hsc.kind hsc.sup (loadGlobal_builtin (G.keeps k) (mg_none_of X1 (G.keeps k) T.sup) (hb.keeps k) ((hbs _ (by decide)).trans PyProof.Rows.Boot.«super») ⟨rfl, ?_⟩)
  refine wpAny_loadName_free hsc.kind hsc.cls rfl ⟨_, X1 _ _ hcell, rfl⟩ ?_
  rw [hare]
  refine wpAny_loadName_local hsc.kind hsc.self hns lself ?_
  refine ks_wpAny_isType_cls hD1 hD2 ⟨rfl, ?_⟩
  have I1 : PySem.W.InstAt h₁ x (excO C t0) C none := ⟨hx1, rfl, rfl, trivial⟩
  refine ks_wpAny_call_super hD1 hD2 hx1 rfl (fun c e => by cases e) (looks_mroIn X1 T.meC) fun h2 hso k2 => ?_
  have X2 : K.In h2 := X1.keeps k2
  have hx2 := k2 _ _ hx1
  have I2 : PySem.W.InstAt h2 x (excO C t0) C none := ⟨hx2, rfl, rfl, trivial⟩
  have hmr : Looks (model prog w) h2 (mroOf (.ref C)) (.ref C :: bm) := (looks_clsIn X2 hcl).andThen .now
  refine kxs_getMethod kxs_ValueError hso (looks_opaque X2 T.any) hmr (ESX.drop_own C bm) X2 hal (I2.type.andThen (looks_subIn X2 T.veC)) (fun z => by rw [z] at hx1; rw [X1 _ _ hC] at hx1; cases hx1) (by decide) ?_
  have ns2 : Heap.Ns (h2.push (kxs_mw "ValueError.__init__" x)) s.heap.objs.size _ := (hns.keeps k2).keeps fun b o e => Heap.get?_push_of_some _ e
  have k3 : ∀ b o, h2.get? b = some o → (h2.push (kxs_mw "ValueError.__init__" x)).get? b = some o := fun b o e => Heap.get?_push_of_some _ e
  have hu : (h2.push (kxs_mw "ValueError.__init__" x)).get? h2.objs.size = some (kxs_mw "ValueError.__init__" x) := Heap.get?_push_at rfl rfl
  have hx3 := k3 _ _ hx2
  -- the rest, behind it
  have rest : ∀ (h4 : Heap) (t1 : Addr) (tk : Tok), (∀ b o, b ≠ x → (h2.push (kxs_mw "ValueError.__init__" x)).get? b = some o → h4.get? b = some o) → h4.get? x = some (excO C t1) → wpAny (model prog w) (A.deeper (callEnv (ksFn "__init__" qual params (.Expr (.Call (.Attribute (.Call (.Name "super" p0) [] [] p1) "__init__" p2) [te] [] p3) p4 :: b) scope dV kV doc pm an (.ref cda) ct cc) s.heap.objs.size fI))
      (execs b (callEnv (ksFn "__init__" qual params (.Expr (.Call (.Attribute (.Call (.Name "super" p0) [] [] p1) "__init__" p2) [te] [] p3) p4 :: b) scope dV kV doc pm an (.ref cda) ct cc) s.heap.objs.size fI)) (fun f s' => R (.ok (.ret (match f with | .ret v => v | _ => .none))) s')
      (fun e s' => wpAny (model prog w) (A.deeper (callEnv (ksFn "__init__" qual params (.Expr (.Call (.Attribute (.Call (.Name "super" p0) [] [] p1) "__init__" p2) [te] [] p3) p4 :: b) scope dV kV doc pm an (.ref cda) ct cc) s.heap.objs.size fI)) (leaving (callEnv (ksFn "__init__" qual params (.Expr (.Call (.Attribute (.Call (.Name "super" p0) [] [] p1) "__init__" p2) [te] [] p3) p4 :: b) scope dV kV doc pm an (.ref cda) ct cc) s.heap.objs.size fI) e) (fun _ s'' => R (.error e) s'') (fun e' s'' => R (.error e') s'') s') ⟨h4, s.gens, s.drawn, tk, s.os⟩ := fun h4 t1 tk k4 hx4 => by
    have X4 : K.In h4 := fun a o e => k4 a o (fun z => by rw [z, hnx] at e; cases e) (k3 _ _ (X2 a o e))
    have ns4 : Heap.Ns h4 s.heap.objs.size _ := ns2.at fun o e => k4 _ _ hxL e
    cases hasg with
    | nil => exact absurd rfl hne
    | @cons f q1 q2 q3 q4 fs' b' hb' =>
      cases us with
      | nil => simp at hl
      | cons u us' =>
        refine wpAny_execs_cons (plainObj_wpAny_Assign_Attribute ?_)
        refine wpAny_Name (wpAny_loadName_local hsc.kind (hsc.fld f List.mem_cons_self) ns4 (look (f, u) (List.mem_cons_of_mem _ List.mem_cons_self)) ?_) (T.dbg f List.mem_cons_self)
        refine wpAny_Name (wpAny_loadName_local hsc.kind hsc.self ns4 lself ?_)
        refine set_plain X4 (ox := excO C t1) (od := none) ⟨hx4, rfl, rfl, trivial⟩ T.sa ?_
        refine exc_osa X4 hx4 hcl (show refsVE (.ref C :: bm) = true from hbm) rfl (T.noN f List.mem_cons_self) fun h5 tk5 dx k5 dn dne hx5 hn5 => ?_
        have hs4 : s.heap.objs.size < h4.objs.size := ns4.lt
        have X5 : K.In h5 := fun a o e => k5 a o (fun z => by rw [z, hnx] at e; cases e) (X4 a o e)
        have ndx : K.lookup dx = none := by
          cases e : K.lookup dx with
          | none => rfl
          | some o => exact absurd (Heap.lt_size (X4 _ _ e)) (Nat.not_lt.mpr dn)
        refine asgs_old (K := K) (t1 := t1) hC hbm T.sa (by exact hsc.kind) (by exact hsc.self) rfl lself hnx hxL fs' b' us' ⟨h5, s.gens, s.drawn, tk5, s.os⟩ (fun y => if y = f then some u else none) [f] hb' (fun g hg => hsc.fld g (List.mem_cons_of_mem _ hg)) (fun g hg => T.dbg g (List.mem_cons_of_mem _ hg)) (fun g hg => T.noN g (List.mem_cons_of_mem _ hg)) (by simpa using hl.symm) (fun p hp => look p (List.mem_cons_of_mem _ (List.mem_cons_of_mem _ hp))) (List.nodup_cons.mp T.nd).2 (by have := T.few; simp at this ⊢; omega)
          X5 (ns4.at fun o e => k5 _ _ hxL e) hx5 hn5 (Within.cons f u Within.nil) dne (Nat.ne_of_gt (Nat.lt_of_lt_of_le hs4 dn)) ndx fun h6 tk6 k6 hx6 hn6 => ?_
        refine hq h6 tk6 dx t1 ⟨fun b o hb e => ?_, hx6, Nat.le_of_lt (Nat.lt_of_lt_of_le hs4 dn), dne, ?_⟩
        · have h4b := k4 b o hb (k3 _ _ (k2 _ _ (k _ _ e)))
          exact k6 b o (Nat.ne_of_lt (Nat.lt_of_lt_of_le (Heap.lt_size h4b) dn)) (k5 b o hb h4b)
        · have e : (fun y => match (fs'.zip us').reverse.lookup y with | some v => some v | none => if y = f then some u else none) = fun y => ((f :: fs').zip (u :: us')).reverse.lookup y := by
            funext y
            show _ = List.lookup y ((f, u) :: fs'.zip us').reverse
            rw [List.reverse_cons, List.lookup_append]
            cases List.lookup y (fs'.zip us').reverse with
            | some v => rfl
            | none =>
              by_cases z : y = f
              · subst z
                simp [List.lookup]
              · have z2 : (y == f) = false := by simpa using z
                simp [List.lookup, z2, z]
          rw [← e]
          exact hn6
  -- the text, the call
  have after : ∀ (v : Value) (tk : Tok), wpAny (model prog w) (A.deeper (callEnv (ksFn "__init__" qual params (.Expr (.Call (.Attribute (.Call (.Name "super" p0) [] [] p1) "__init__" p2) [te] [] p3) p4 :: b) scope dV kV doc pm an (.ref cda) ct cc) s.heap.objs.size fI)) (call (.ref h2.objs.size) [v])
      (fun _ s' => PySem.wpAt (model prog w) (A.deeper (callEnv (ksFn "__init__" qual params (.Expr (.Call (.Attribute (.Call (.Name "super" p0) [] [] p1) "__init__" p2) [te] [] p3) p4 :: b) scope dV kV doc pm an (.ref cda) ct cc) s.heap.objs.size fI)) (.func (.Expr (.Call (.Attribute (.Call (.Name "super" p0) [] [] p1) "__init__" p2) [te] [] p3) p4 :: b) (callEnv (ksFn "__init__" qual params (.Expr (.Call (.Attribute (.Call (.Name "super" p0) [] [] p1) "__init__" p2) [te] [] p3) p4 :: b) scope dV kV doc pm an (.ref cda) ct cc) s.heap.objs.size fI)) (execs b (callEnv (ksFn "__init__" qual params (.Expr (.Call (.Attribute (.Call (.Name "super" p0) [] [] p1) "__init__" p2) [te] [] p3) p4 :: b) scope dV kV doc pm an (.ref cda) ct cc) s.heap.objs.size fI)) (fun f s' => R (.ok (.ret (match f with | .ret v => v | _ => .none))) s')
        (fun e s' => wpAny (model prog w) (A.deeper (callEnv (ksFn "__init__" qual params (.Expr (.Call (.Attribute (.Call (.Name "super" p0) [] [] p1) "__init__" p2) [te] [] p3) p4 :: b) scope dV kV doc pm an (.ref cda) ct cc) s.heap.objs.size fI)) (leaving (callEnv (ksFn "__init__" qual params (.Expr (.Call (.Attribute (.Call (.Name "super" p0) [] [] p1) "__init__" p2) [te] [] p3) p4 :: b) scope dV kV doc pm an (.ref cda) ct cc) s.heap.objs.size fI) e) (fun _ s'' => R (.error e) s'') (fun e' s'' => R (.error e') s'') s') s')
      (fun e s' => wpAny (model prog w) (A.deeper (callEnv (ksFn "__init__" qual params (.Expr (.Call (.Attribute (.Call (.Name "super" p0) [] [] p1) "__init__" p2) [te] [] p3) p4 :: b) scope dV kV doc pm an (.ref cda) ct cc) s.heap.objs.size fI)) (leaving (callEnv (ksFn "__init__" qual params (.Expr (.Call (.Attribute (.Call (.Name "super" p0) [] [] p1) "__init__" p2) [te] [] p3) p4 :: b) scope dV kV doc pm an (.ref cda) ct cc) s.heap.objs.size fI) e) (fun _ s'' => R (.error e) s'') (fun e' s'' => R (.error e') s'') s')
      ⟨h2.push (kxs_mw "ValueError.__init__" x), s.gens, s.drawn, tk, s.os⟩ := fun v tk =>
    call_mw ((X2.keeps k3) _ _ hC) hx3 hu (by rw [sizeLine_eq]; exact (by decide : 1 ≤ 16777216)) fun h4 t1 k4 hx4 => wpAt_of_wpAny (rest h4 t1 tk k4 hx4)
  refine kxs_callWith (i := "ValueError.__init__") (x := x) (by cases hte <;> rfl) ?_
  cases hte with
  | con z kk pp _ hz => exact evalArgs_plain (spliced_cons (Constant_str (k := kk) (pos := pp) (spliced_nil ⟨hu, after _ _⟩)))
  | @cat z kk pp pp2 pp3 f fs' hz =>
    obtain ⟨y, ty, r, eu, hy⟩ := hcat rfl
    subst eu
    refine evalArgs_plain (spliced_cons (wpAny_BinOp (pos := pp3) (Constant_str (k := kk) (pos := pp) (wpAny_Name (pos := pp2) (wpAny_loadName_local hsc.kind (hsc.fld f List.mem_cons_self) ns2 (look (f, .str y ty) (List.mem_cons_of_mem _ List.mem_cons_self)) ?_) (T.dbg f List.mem_cons_self)))))
    exact add_str (fun t' tk => spliced_nil ⟨hu, after _ _⟩) (by rw [sizeLine_eq]; omega)
end
end OwnX
end PySem

namespace PySem
namespace OwnX
open PySem.W PySem.Calls PyProof.Rows PySem.HandSPX
/-- a made error -/
structure OwnMade (h h' : Heap) (e C d : Addr) (m : Str → Option Value) : Prop where
  keep : ∀ b o, h.get? b = some o → h'.get? b = some o
  new : h.objs.size ≤ e
  obj : ∃ oe vs, h'.get? e = some oe ∧ oe.cls = .ref C ∧ oe.dict = some d ∧ oe.data = .fields vs ∧ vs[1]? = some .none
  dbig : h.objs.size ≤ d
  dne : d ≠ e
  ns : h'.Ns1 d m
section
variable {prog : Program} {w : World} {A : Around} {R : Result → Shared → Prop} {s : Shared} {K : Frag} {C fI : Addr} {cat : Bool} {fs : List Str}
theorem own_made (T : OwnX prog K C fI cat fs) {mg mb : Str → Option Value} {us : List Value} (X : K.In s.heap) (hlim : s.heap.NoLimit) (G : s.heap.Ns mainGlobals mg) (hb : s.heap.Ns builtinsNs mb) (hbs : ∀ x : Str, x ≠ "__name__" → mb x = bootBuiltins x)
    (hroom : A.depth + 1 < recursionLimit) (hl : us.length = fs.length) (hne : fs ≠ []) (hcat : cat = true → ∃ z tk r, us = .str z tk :: r ∧ z.length ≤ 10000000)
    (hq : ∀ h' tk e d, OwnMade s.heap h' e C d (fun y => (fs.zip us).reverse.lookup y) → R (.ok (.ret (.ref e))) { s with heap := h', toks := tk }) :
    codeAny (model prog w) A (.call (.ref C) ⟨us, []⟩) R s := by
  obtain ⟨nm, q, N, bs, bm, sn, sub, ab, col, dd, k0, k1, k2, k3, k5, hC, hbm, _⟩ := T.cls
  obtain ⟨hp, g, dr, tk, os⟩ := s
  have k : ∀ b o, hp.get? b = some o → ((hp.push (kdv_tup us)).push (excO C hp.objs.size)).get? b = some o := fun b o e => Heap.get?_push_of_some _ (Heap.get?_push_of_some _ e)
  have hget : ((hp.push (kdv_tup us)).push (excO C hp.objs.size)).get? (hp.objs.size + 1) = some (excO C hp.objs.size) := by heap_get
  have hnx : K.lookup (hp.objs.size + 1) = none := by
    cases e : K.lookup (hp.objs.size + 1) with
    | none => rfl
    | some o =>
      have z : hp.get? (hp.objs.size + 1) = some o := X _ _ e
      exact absurd (Nat.lt_of_succ_lt (Heap.lt_size z)) (Nat.lt_irrefl _)
  refine call_own F.excBase_ValueError (fun X => refsVE_contains X bm hbm) (X _ _ hC) (looks_findIn X T.iC) (fun self => bind_fn X self T.tC) (by have := T.few; rw [sizeLine_eq]; omega) ?_
  refine own_init (s := ⟨(hp.push (kdv_tup us)).push (excO C hp.objs.size), g, dr, tk, os⟩) T (X.keeps k) (hlim.keeps k) (G.keeps k) (hb.keeps k) hbs hget hnx ?_ hl hne hcat fun h' tk' dx t1 ⟨k', hx, dn, dne, hns⟩ => ?_
  · show A.depth + 1 < recursionLimit
    exact hroom
  · have old : ∀ b o, hp.get? b = some o → h'.get? b = some o := fun b o e => k' b o (Nat.ne_of_lt (Nat.lt_succ_of_lt (Heap.lt_size e))) (k b o e)
    have z : hp.objs.size + 1 + 1 ≤ dx := by
      first
        | (simpa only [Heap.size_push] using dn)
        | exact dn
        | (have q := dn; rw [Heap.size_push, Heap.size_push] at q; exact q)
    exact ⟨rfl, hq h' tk' (hp.objs.size + 1) dx ⟨old, Nat.le_succ _, ⟨_, _, hx, rfl, rfl, rfl, rfl⟩, Nat.le_trans (Nat.le_trans (Nat.le_succ _) (Nat.le_succ _)) z, dne, hns⟩⟩
end
end OwnX
end PySem
namespace Snd
open PySem PySem.Spec PyProof.Rows L2 Ev
theorem look_rev {β : Type} : ∀ {fs : List Str} {us : List β} (y : Str), fs.Nodup → (fs.zip us).reverse.lookup y = (fs.zip us).lookup y
  | [], _, _, _ => rfl
  | _ :: _, [], _, _ => rfl
  | f :: fs, u :: us, y, nd => by
    show List.lookup y ((f, u) :: fs.zip us).reverse = List.lookup y ((f, u) :: fs.zip us)
    rw [List.reverse_cons, List.lookup_append, look_rev y (List.nodup_cons.mp nd).2]
    by_cases e : y = f
    · subst e
      have z : List.lookup y (fs.zip us) = none := by
        rw [List.lookup_eq_none_iff]
        intro q hq
        exact bne_iff_ne.mpr (fun e : y = q.1 => (List.nodup_cons.mp nd).1 (e ▸ (List.of_mem_zip hq).1))
      rw [z]
      simp [List.lookup]
    · have z2 : (y == f) = false := by simpa using e
      show _ = (match y == f with | true => some u | false => List.lookup y (fs.zip us))
      rw [z2]
      cases List.lookup y (fs.zip us) <;> simp [List.lookup, z2]
theorem relO_zip : ∀ {fs : List Str} {vs : List V} {us : List Value}, Vals vs us → ∀ y, RelO ((fs.zip vs).lookup y) ((fs.zip us).lookup y)
  | [], _, _, _, _ => trivial
  | _ :: _, [], [], .nil, _ => trivial
  | f :: fs, v :: vs, u :: us, .cons r t, y => by
    show RelO (match y == f with | true => some v | false => List.lookup y (fs.zip vs)) (match y == f with | true => some u | false => List.lookup y (fs.zip us))
    cases y == f with
    | true => exact r
    | false => exact relO_zip t y
/-- the classes of the errors -/
structure ErC (X : Core) (T : Tab) (nm : Nm) (c : Nat) (C : Ev.Cls) : Prop where
  keep : PySem.W.keepIn X.K (.ref (cad nm X.K c)) = true
  r1 : PySem.W.subIn X.K (.ref (cad nm X.K c)) (.type "BaseException") = some true
  r2 : PySem.W.typeIn X.K (.ref (cad nm X.K c)) = some (.type "type")
  made : (C.fields = [] ∧ PySem.W.excIn X.K (cad nm X.K c) He.veBase "ValueError.__new__" = true) ∨
    (C.fields ≠ [] ∧ ∃ fI, PySem.OwnX.OwnX X.prog X.K (cad nm X.K c) fI C.cat (fnames T nm c))
section
variable {X : Cx} {T : Tab} {nm : Nm} {W : WX} {cf : Nat → List D → Sto → R D} {pos : Pos} {k : Nat}
theorem ErC.r {c : Nat} {C : Ev.Cls} (E : ErC (co X) T nm c C) : Raises X (.ref (cad nm X.K c)) := raises_own E.r1 E.r2
def tMk (W : WX) (c : Nat) (C : Ev.Cls) (as : Es) : L2.St → Hp → XK → Prop := fun σ H Q => ∃ g ρ st, Mt T nm X.K g ρ st σ H ∧ Out T nm X.K W g ρ σ (fun ds st' g' _ => raisable C ds = true ∧ ∀ cv dd g'' H'', Le g' g'' → Mt T nm X.K g'' ρ st' σ H'' → XnR T nm X.K g'' ⟨c, ds⟩ cv dd → Q cv dd H'') (evA T cf as ρ st)
theorem fnames_len {c : Nat} {C : Ev.Cls} (hC : T.cls c = some C) : (fnames T nm c).length = C.fields.length := by
  unfold fnames
  rw [hC]
  exact List.length_map ..
/-- an own error with fields is made -/
theorem mk_own {c : Nat} {C : Ev.Cls} {x : Str} {p : Pos} {e : Expr} {es : List Expr} {as : Es} (hC : T.cls c = some C) (E : ErC (co X) T nm c C) (hf : C.fields ≠ []) (hr : Room k X.A) (hg : Gl X x) (hm : X.mg x = some (.ref (cad nm X.K c)))
    (ha : PA X (e :: es) (tA T nm X.K cf W as)) (hdb : (x == ("__debug__" : Str)) = false) (he : starEach (e :: es) X.env = (false, eval e X.env) :: starEach es X.env) (hpl : (backTo pos (starEach es X.env)).any (·.1) = false) :
    PMk X (.Call (.Name x p) (e :: es) [] pos) (tMk (X := X) (T := T) (nm := nm) (cf := cf) W c C as) := by
  intro pins s σ H Q I ⟨g, ρ, st, m, o⟩
  rcases E.made with ⟨z, _⟩ | ⟨_, fI, OX⟩
  · exact absurd z hf
  refine wpAny_Call_Name_kw (ld_glob I hg hm ?_ hdb)
  refine PySem.W.callWith_K (h₀ := X.base) I.ok.mod.kin E.keep (thn (ha.run pos pins s σ H (fun vs H1 => ∃ ds st1 g1, Reps T nm X.K g1 ds vs ∧ Mt T nm X.K g1 ρ st1 σ H1 ∧ raisable C ds = true ∧ ∀ cv dd g'' H'', Le g1 g'' → Mt T nm X.K g'' ρ st1 σ H'' → XnR T nm X.K g'' ⟨c, ds⟩ cv dd → Q cv dd H'') I
    ⟨g, ρ, st, m, Out.imp o fun ds st1 g1 H1 l1 m1 q vs r => ⟨ds, st1, g1, r, m1, q.1, q.2⟩⟩) fun us s1 ⟨vs, H1, I1, rv, ds, st1, g1, r, m1, ok, q⟩ => ⟨I1.kIn, ?_⟩) he hpl
  show wpAny _ _ (call (.ref (cad nm X.K c)) us) _ _ _
  have hlim := I1.nolimit
  obtain ⟨mb, hb1, hb2⟩ := I1.mod.blt
  obtain ⟨hp, gg, dr, tk, os⟩ := s1
  have hn : ds.length = (fnames T nm c).length := by
    have z : ds.length == C.fields.length := by
      unfold raisable at ok
      simp only [Bool.and_eq_true] at ok
      exact ok.1.2
    rw [fnames_len hC]
    exact beq_iff_eq.mp z
  have hus : us.length = (fnames T nm c).length := by rw [← rv.length, ← r.len, hn]
  refine wpAny_call (PySem.OwnX.own_made OX I1.kIn hlim (I1.mod.glob.keeps I1.bk) (hb1.keeps I1.bk) hb2 (by have := hr.dp; omega) hus ?_ ?_ fun h' tk' e d M => ?_)
  · intro z
    exact hf (List.eq_nil_of_length_eq_zero (by rw [← fnames_len (nm := nm) hC, z]; rfl))
  · intro hcat
    unfold raisable at ok
    simp only [Bool.and_eq_true, hcat, Bool.not_true, Bool.false_or] at ok
    cases ds with
    | nil => exact (by cases ok.2)
    | cons d0 ds' =>
      cases d0 with
      | str z =>
        have hz : z.length ≤ LINE := by simpa [isTxt] using ok.2
        cases r with
        | cons r0 rr =>
          cases r0
          cases rv with
          | cons u0 ur =>
            obtain ⟨t, rfl⟩ := u0
            exact ⟨_, _, _, rfl, by rw [strOf_len]; exact Nat.le_trans hz (by decide)⟩
      | _ => cases ok.2
  show MkP X pins σ Q (.ref e) ⟨h', gg, dr, tk', os⟩
  obtain ⟨oe, fv, hoe, hc, hd, hdat, h1⟩ := M.obj
  have hns := M.ns
  obtain ⟨G', g1', g2'⟩ := restrict h' fun b => decide (b ≠ e)
  have gk : ∀ b, b ≠ e → G'.get? b = h'.get? b := fun b hb => g1' b (decide_eq_true hb)
  have ge : G'.get? e = none := g2' e (by simp)
  have old : ∀ b o, hp.get? b = some o → G'.get? b = some o := fun b o q => (gk b (Nat.ne_of_lt (Nat.lt_of_lt_of_le (Heap.lt_size q) M.new))).trans (M.keep b o q)
  have ob : ObjOk X.prog X.w (upd H1 d (.xd ((fnames T nm c).zip vs))) G' d (.xd ((fnames T nm c).zip vs)) :=
    ⟨_, hns.at (fun o q => (gk d M.dne).trans q), fun f => by
      rw [look_rev f OX.nd]
      exact relO_zip rv f⟩
  have J : Inv X pins σ (upd H1 d (.xd ((fnames T nm c).zip vs))) ⟨G', gg, dr, tk', os⟩ := I1.laid (t' := tk') old M.dbig ob
  have hdn : H1 d = none := I1.hok.fresh M.dbig
  have l2 : Le g1 (put g1 d (.imm (.xd ((fnames T nm c).zip vs)))) := le_put (m1.fresh hdn)
  refine ⟨e, oe, fv, ⟨G', gg, dr, tk', os⟩, _, .ref (cad nm X.K c), some d, rfl, J, fun b o q => ?_, ge, hoe, ⟨hc, hd⟩, hdat, h1, ?_, rfl, I1.bare, E.r, ?_⟩
  · by_cases hb : b = e
    · have q' : G'.get? b = some o := q
      rw [hb, ge] at q'; cases q'
    · exact (gk b hb).symm.trans q
  · rw [upd_ne (Ne.symm M.dne)]
    exact I1.hok.fresh M.new
  · exact q _ _ _ _ l2 (m1.new hdn (.inl rfl)) ⟨rfl, .inr ⟨d, vs, rfl, put_same, by rw [← r.len, hn], r.mono l2.lim⟩⟩
/-- an error without fields -/
theorem mk_pass0 {c : Nat} {C : Ev.Cls} {x : Str} {p : Pos} (E : ErC (co X) T nm c C) (hf : C.fields = []) (hcat : C.cat = false) (hex : C.exc = true) (hg : Gl X x) (hm : X.mg x = some (.ref (cad nm X.K c))) (hdb : (x == ("__debug__" : Str)) = false) :
    PMk X (.Call (.Name x p) [] [] pos) (tMk (X := X) (T := T) (nm := nm) (cf := cf) W c C .nil) := by
  intro pins s σ H Q I ⟨g, ρ, st, m, o⟩
  rcases E.made with ⟨_, ex⟩ | ⟨z, _⟩
  · refine wpAny_Call_Name_kw (ld_glob I hg hm ?_ hdb)
    refine PySem.W.callWith_K0 I.kIn E.keep ?_
    obtain ⟨bm, N, nm', qn, bs, hdct, sn, sub, ab, col, dd, k0, k1, k2, k3, k5, mN, hC, hN, hni, TT⟩ := exc_obj I.kIn ex
    have q := Out.ok o m
    refine wpAny_call_exc_subT F.excBase_ValueError TT hC hN hni (fun h' e hm' => ?_) (by rw [sizeLine_eq]; exact (by decide : 0 ≤ 16777216))
    exact mk_of I hm' E.r (q.2 _ none g H (Le.refl g) m ⟨rfl, .inl ⟨rfl, rfl⟩⟩) (I.hok.gone hm'.new)
  · exact absurd hf z
theorem mk_pass1 {c : Nat} {C : Ev.Cls} {x y : Str} {j : Nat} {p p2 : Pos} (E : ErC (co X) T nm c C) (hf : C.fields = []) (hg : Gl X x) (hm : X.mg x = some (.ref (cad nm X.K c))) (hdb : (x == ("__debug__" : Str)) = false) :
    PMk X (.Call (.Name x p) [.Constant (.str y) j p2] [] pos) (tMk (X := X) (T := T) (nm := nm) (cf := cf) W c C .nil) := by
  rcases E.made with ⟨_, ex⟩ | ⟨z, _⟩
  · exact fun pins s σ H Q I ⟨g, ρ, st, m, o⟩ => pmk_own F.excBase_ValueError ex hm E.keep E.r hg hdb pins s σ H Q I ((Out.ok o m).2 _ none g H (Le.refl g) m ⟨rfl, .inl ⟨rfl, rfl⟩⟩)
  · exact absurd hf z
theorem ss_raise {c : Nat} {C : Ev.Cls} {e : Expr} {as : Es} (hC : T.cls c = some C) (hc : X.calm = true) (tk : Takes X W) (he : PMk X e (tMk (X := X) (T := T) (nm := nm) (cf := cf) W c C as)) : PS X (.Raise (some e) none pos) (tS T nm X.K cf W (.raise c as)) :=
  PS.imp (ps_raise hc tk he) fun D σ H ⟨gb, g, ρ, st, m, l, n, o⟩ => ⟨g, ρ, st, m, Out.imp (OutS.go o l) fun ds st1 g1 H1 l1 m1 q => by
    have q' : OutS T nm X.K W gb D (match T.cls c with
      | some C => if raisable C ds then .er ⟨c, ds⟩ ρ st1 else .no
      | none => .no) := q
    rw [hC] at q'
    by_cases z : raisable C ds = true
    · have q2 : OutS T nm X.K W gb D (if raisable C ds then .er ⟨c, ds⟩ ρ st1 else .no) := q'
      rw [if_pos z] at q2
      exact ⟨z, fun cv dd g2 H2 l2 m2 x2 => q2 g2 cv dd σ H2 ((l.trans l1).trans l2) m2 x2⟩
    · have q2 : OutS T nm X.K W gb D (if raisable C ds then .er ⟨c, ds⟩ ρ st1 else .no) := q'
      rw [if_neg z] at q2
      exact q2.elim⟩
end
end Snd
set_option Elab.async false
set_option linter.all false
set_option maxRecDepth 100000
/-! SndB: try, except; the error that a suite holds. -/
namespace PySem.W
open PySem PySem.Spec PySem.Calls PyProof.Rows
section
variable {prog : Program} {w : World} {A : Around} {E : Value → Shared → Prop} {s : Shared} {K : Frag} {x D : Addr} {ox : Obj} {od : Option Obj}
theorem findObj_dataX {C : Addr} {name : Str} {a g : Value} (hc : (clsIn K C).isSome = true) (ha : findIn K (.ref C) name = some (some a)) (hg : specialIn K a "__get__" = some (some g)) (ht : takesIn K a = some true) : findObj K C od name = some (.bind g a) := by
  obtain ⟨cd, hc⟩ := Option.isSome_iff_exists.mp hc
  unfold findObj
  rw [hc, Option.bind_some, ha, Option.bind_some]
  simp [hg, ht]
theorem kin_classX {Q : Option Value → Shared → Prop} (C : L2.ExcC K D) (X : K.In s.heap) (I : InstAt s.heap x ox D od) (h : Q (some (.ref D)) { s with toks := s.toks + 1 }) : wpAny (model prog w) A (getAttr? (.ref x) "__class__") Q E s := by
  have hf : findObj K D od "__class__" = some (.bind (.builtin "getset_descriptor.__get__") (.builtin "object.__class__")) := findObj_dataX (by obtain ⟨cd, hc, _⟩ := any_some C.hd; rw [hc]; rfl) C.ha C.hn C.ht
  obtain ⟨hp, g, d, t, os⟩ := s
  have L0 := I.type (M := model prog w)
  have L1 := looks_findIn (M := model prog w) X C.hg
  have L2 := looks_findIn (M := model prog w) X C.hk
  have L3 := looks_find (M := model prog w) X I hf
  have sub : Looks (model prog w) hp (isInstance (.ref x) (.type "BaseException")) true := L0.andThen (looks_subIn X C.hs)
  have hx0 : (false && onTheHeap (Value.builtin "BaseException.__getattribute__")) = false := rfl
  have hx2 : (Value.builtin "BaseException.__getattribute__" == Value.builtin "object.__getattribute__") = false := by decide +kernel
  have hx1 : (onTheHeap (Value.ref D) && Value.builtin "BaseException.__getattribute__" == Value.builtin "object.__getattribute__") = false := by rw [hx2]; rfl
  unfold getAttr? getAttrBy? getAttrBy
  refine wpAny_bind (wpAny_mkText (wpAny_bind (wpAny_attempt (wpAny_holding (wpAny_bind (L0.at (wpAny_bind (L1.at ?_))))))))
  show wpAny _ _ (if (onTheHeap (Value.ref D) && Value.builtin "BaseException.__getattribute__" == Value.builtin "object.__getattribute__") = true then _ else _) _ _ _
  rw [hx1, if_neg Bool.false_ne_true]
  unfold getAttrByItsOwn hookBefore
  refine wpAny_bind ?_
  rw [if_pos (show onTheHeap (Value.ref D) = true from rfl)]
  refine L2.at ?_
  refine wpAny_bind (wpAny_attempt (wpAny_holding ?_))
  unfold callGetattribute
  rw [hx0, if_neg Bool.false_ne_true]
  unfold boundAndCalled
  rw [PySem.F.excAttr_ValueError.ga.bind (.ref x)]
  refine wpAny_bind (wpAny_pure ?_)
  show wpAny _ _ (call (.builtin "BaseException.__getattribute__") [.ref x, .str "__class__" t]) _ _ _
  refine wpAny_call (codeAny_call_builtin PySem.F.excAttr_ValueError.ga.plain PySem.F.entry_bexc_ga ?_)
  refine @check_slot (model prog w) _ _ ⟨hp, g, d, t + 1, os⟩ "BaseException.__getattribute__" "BaseException" "__getattribute__" (.ref x) [.str "__class__" t] [] _ (by decide +kernel) (by decide +kernel) sub (PySem.F.args_bexc_ga (.ref x) (.str "__class__" t)) ?_
  unfold Builtin.«object.__getattribute__»
  refine wpAny_bind (wpAny_of_eq (a := ((Value.ref x : Value), [Value.str "__class__" t])) (by first | rfl | (simp only [slotArgs]; rfl)) ?_)
  refine wpAny_bind (wpAny_pure (wpAny_bind (L0.at (wpAny_bind (L3.at ?_)))))
  show wpAny _ _ (holding [Value.builtin "object.__class__"] (call (.builtin "getset_descriptor.__get__") [.builtin "object.__class__", .ref x, .ref D]) >>= ret) _ _ _
  refine wpAny_bind (wpAny_holding (wpAny_call (class_get (s := ⟨hp, g, d, t + 1, os⟩) (ox := ox) (od := od) X I C.hm ?_)))
  refine wpAny_pure ?_
  show wpAny _ _ (handedOut (.ref D)) _ _ _
  rw [handedOut_of (v := .ref D) rfl]
  first
    | exact wpAny_pure (wpAny_pure h)
    | exact wpAny_pure h
    | exact wpAny_pure (wpAny_bind (wpAny_pure (wpAny_pure h)))
theorem kitx_excX (C : L2.ExcC K D) : KitX K (.ref x) (.ref D) (fun h => InstAt h x ox D od) where
  ty := fun _ _ _ I => I.type
  it := fun _ _ X _ => by
    obtain ⟨cdD, hcD, _⟩ := any_some C.hd
    unfold clsIn at hcD
    split at hcD
    · rename_i c' d' cd' sl' ho
      intro A' Q' E' s' k q
      unfold isType loadHead
      exact wpAny_bind (wpAny_loadPart (k _ _ (X _ _ ho)) (wpAny_pure q))
    · cases hcD
  ne := fun h tp dd its n sl X htp => by
    obtain ⟨cdD, hcD, _⟩ := any_some C.hd
    refine Bool.eq_false_iff.mpr fun q => ?_
    have e : D = tp := Value.ref.inj (beq_iff_eq.mp q)
    subst e
    unfold clsIn at hcD
    split at hcD
    · rename_i c' d' cd' sl' ho
      have z := (X _ _ ho).symm.trans htp
      cases z
    · cases hcD
  ca := fun X I k => kin_classX C X I k
end
end PySem.W
namespace Snd
open PySem PySem.Spec PyProof.Rows L2 Ev
section
variable {T : Tab} {nm nm' : Nm} {K : PySem.W.Frag} {W : WX} {g g0 g1 gb : Gh} {ρ : Rho} {σ : L2.St} {H : Hp} {st : Sto} {D : Ends}
/-- the same names, another handled error -/
structure SameN (nm nm' : Nm) : Prop where
  cls : nm'.cls = nm.cls
  attr : nm'.attr = nm.attr
theorem SameN.symm (h : SameN nm nm') : SameN nm' nm := ⟨h.cls.symm, h.attr.symm⟩
theorem SameN.cad (h : SameN nm nm') (c : Nat) : Snd.cad nm' K c = Snd.cad nm K c := by
  unfold Snd.cad
  rw [h.cls]
theorem SameN.fn (h : SameN nm nm') (c : Nat) : fnames T nm' c = fnames T nm c := by
  unfold fnames
  rw [h.attr]
mutual
theorem Rep.cast (h : SameN nm nm') : ∀ {d : Ev.D} {v : V}, Rep T nm K g d v → Rep T nm' K g d v
  | _, _, .non => .non
  | _, _, .bl b => .bl b
  | _, _, .int i => .int i
  | _, _, .str s => .str s
  | _, _, .tup s r => .tup s (Reps.cast h r)
  | _, _, .lst s r => .lst s (Reps.cast h r)
  | _, _, .scr s => .scr s
  | _, _, .ins e l r => .ins (by rw [h.cad, h.fn]; exact e) (by rw [h.fn]; exact l) (Reps.cast h r)
  | _, _, .ref e => .ref e
theorem Reps.cast (h : SameN nm nm') : ∀ {ds : List Ev.D} {vs : List V}, Reps T nm K g ds vs → Reps T nm' K g ds vs
  | _, _, .nil => .nil
  | _, _, .cons a r => .cons (Rep.cast h a) (Reps.cast h r)
end
theorem RepR.cast {d : Ev.D} {v : V} (h : SameN nm nm') (r : RepR T nm K g0 g d v) : RepR T nm' K g0 g d v := by
  cases d with
  | own ds =>
    obtain ⟨p, vs, e, h1, h2, h3⟩ := r
    exact ⟨p, vs, e, h1, h2, h3.cast h⟩
  | _ => exact Rep.cast h r
theorem ObR.cast {ob : Ob} {o : HO} (h : SameN nm nm') (r : ObR T nm K g ob o) : ObR T nm' K g ob o := by
  cases ob with
  | lst ds =>
    obtain ⟨vs, e, r⟩ := r
    exact ⟨vs, e, r.cast h⟩
  | ins c ds =>
    obtain ⟨dx, vs, e, l, r⟩ := r
    exact ⟨dx, vs, by rw [h.cad, h.fn]; exact e, by rw [h.fn]; exact l, r.cast h⟩
  | dct kvs => exact r
theorem Mt0.cast (h : SameN nm nm') (m : Mt0 T nm K g st H) : Mt0 T nm' K g st H :=
  ⟨m.imm, m.held, fun k ob e => by
    obtain ⟨a, o, e1, e2, r⟩ := m.sto k ob e
    exact ⟨a, o, e1, e2, r.cast h⟩, m.stl, m.uniq, m.trk⟩
theorem XnR.cast {x : Xn} {cv : Value} {dd : Option Addr} (h : SameN nm nm') (r : XnR T nm K g x cv dd) : XnR T nm' K g x cv dd := by
  obtain ⟨e, r⟩ := r
  refine ⟨by rw [h.cad]; exact e, ?_⟩
  rcases r with r | ⟨d, vs, e1, e2, e3, r⟩
  · exact .inl r
  · exact .inr ⟨d, vs, e1, by rw [h.fn]; exact e2, by rw [h.fn]; exact e3, r.cast h⟩
theorem SlR.cast {i : Nat} {d : Ev.D} {v : V} (h : SameN nm nm') (hme : nm'.me = nm.me) (n : notExc (some d) = true) (r : SlR T nm K g H i d v) : SlR T nm' K g H i d v := by
  cases d with
  | own ds =>
    obtain ⟨p, vs, e, h1, h2, h3⟩ := r
    exact ⟨p, vs, e, h1, h2, h3.cast h⟩
  | obj c ds =>
    obtain ⟨p, dx, vs, e, h1, h2, h3, h4, h5⟩ := r
    exact ⟨p, dx, vs, by rw [hme]; exact e, h1, by rw [h.cad, h.fn]; exact h2, h3, by rw [h.fn]; exact h4, h5.cast h⟩
  | exc c ds => cases n
  | _ => exact Rep.cast h r
theorem Mt.cast (h : SameN nm nm') (hme : nm'.me = nm.me) (n : ρ.all notExc = true) (m : Mt T nm K g ρ st σ H) : Mt T nm' K g ρ st σ H :=
  ⟨m.toMt0.cast h, m.len, fun i d e => by
    obtain ⟨v, e1, r⟩ := m.slots i d e
    exact ⟨v, e1, r.cast h hme (List.all_eq_true.mp n _ (List.mem_of_getElem? e))⟩⟩
/-- where no error is handled no name stands for one -/
theorem Mt.noExc (hn : nm.ex = none) (m : Mt T nm K g ρ st σ H) : ρ.all notExc = true := by
  refine List.all_eq_true.mpr fun o ho => ?_
  obtain ⟨i, hi, e⟩ := List.mem_iff_getElem.mp ho
  cases o with
  | none => rfl
  | some d =>
    cases d with
    | exc c ds =>
      obtain ⟨v, _, r⟩ := m.slots i _ (by rw [List.getElem?_eq_getElem hi, e])
      obtain ⟨a, cv, dd, h1, _⟩ := r
      rw [hn] at h1
      cases h1
    | _ => rfl
end
/-- the names within a suite -/
def nmX (nm : Nm) (a : Addr) (cls : Value) (d : Option Addr) : Nm := { nm with ex := some (a, cls, d) }
theorem sameX (nm : Nm) (a : Addr) (cls : Value) (d : Option Addr) : SameN nm (nmX nm a cls d) := ⟨rfl, rfl⟩
def WF : WX := fun _ _ _ _ => False
section
variable {X : Cx} {T : Tab} {nm : Nm} {W : WX} {cf : Nat → List D → Sto → R D} {pos : Pos} {k : Nat}
/-- what except clauses ask -/
def ErI (X : Core) (T : Tab) (nm : Nm) (c : Nat) : Prop := ∀ j, isErr T j = true → PySem.W.exmOne X.K (.ref (cad nm X.K j)) (.ref (cad nm X.K c)) = some (under T j c)
theorem takes_suite {a : Addr} {pn : List (Addr × Obj)} : Takes (X.suite a pn) WF := fun u s' ⟨_, _, _, _, _, _, _, _, _, _, _, _, _, _, _, _, z⟩ => z.elim
theorem setO_some {ρ : Rho} {i : Nat} {d : Option D} : setO ρ (some i) d = ρ.set i d := rfl
/-- an except suite's end -/
theorem out_suite {nm' : Nm} (hs : SameN nm nm') (hme : nm'.me = nm.me) {gb : Gh} {D : Ends} {i : Nat} {r : F} (o : OutS T nm X.K W gb D (r.unset (some i))) :
    OutS T nm' X.K WF gb { nx := fun σ' H' => D.nx (σ'.set i none) H', rt := D.rt, bk := fun σ' H' => D.bk (σ'.set i none) H', ct := fun σ' H' => D.ct (σ'.set i none) H' } r := by
  have key : ∀ {ρ : Rho} {st : Sto} {g' : Gh} {σ' : L2.St} {H' : Hp}, (ρ.set i none).all notExc = true → Mt T nm' X.K g' ρ st σ' H' → Mt T nm X.K g' (ρ.set i none) st (σ'.set i none) H' := fun n m => (m.drop (x := none)).cast hs.symm hme.symm n
  cases r with
  | nx ρ st =>
    by_cases n : (ρ.set i none).all notExc = true
    · have o' : OutS T nm X.K W gb D (if (ρ.set i none).all notExc then .nx (ρ.set i none) st else .no) := o
      rw [if_pos n] at o'
      exact fun g' σ' H' l m => o' g' _ H' l (key n m)
    · have o' : OutS T nm X.K W gb D (if (ρ.set i none).all notExc then .nx (ρ.set i none) st else .no) := o
      rw [if_neg n] at o'
      exact o'.elim
  | bk ρ st =>
    by_cases n : (ρ.set i none).all notExc = true
    · have o' : OutS T nm X.K W gb D (if (ρ.set i none).all notExc then .bk (ρ.set i none) st else .no) := o
      rw [if_pos n] at o'
      exact fun g' σ' H' l m => o' g' _ H' l (key n m)
    · have o' : OutS T nm X.K W gb D (if (ρ.set i none).all notExc then .bk (ρ.set i none) st else .no) := o
      rw [if_neg n] at o'
      exact o'.elim
  | ct ρ st =>
    by_cases n : (ρ.set i none).all notExc = true
    · have o' : OutS T nm X.K W gb D (if (ρ.set i none).all notExc then .ct (ρ.set i none) st else .no) := o
      rw [if_pos n] at o'
      exact fun g' σ' H' l m => o' g' _ H' l (key n m)
    · have o' : OutS T nm X.K W gb D (if (ρ.set i none).all notExc then .ct (ρ.set i none) st else .no) := o
      rw [if_neg n] at o'
      exact o'.elim
  | rt d st => exact fun g' v H' l m r => o g' v H' l (m.cast hs.symm) (r.cast hs.symm)
  | er x ρ st => exact o.elim
  | no => exact o
theorem out_suite0 {nm' : Nm} (hs : SameN nm nm') (hme : nm'.me = nm.me) {gb : Gh} {D : Ends} {r : F} (o : OutS T nm X.K W gb D (r.unset none)) : OutS T nm' X.K WF gb D r := by
  cases r with
  | nx ρ st =>
    have o' : OutS T nm X.K W gb D (if ρ.all notExc then .nx ρ st else .no) := o
    by_cases n : ρ.all notExc = true
    · rw [if_pos n] at o'
      exact fun g' σ' H' l m => o' g' _ H' l (m.cast hs.symm hme.symm n)
    · rw [if_neg n] at o'
      exact o'.elim
  | bk ρ st =>
    have o' : OutS T nm X.K W gb D (if ρ.all notExc then .bk ρ st else .no) := o
    by_cases n : ρ.all notExc = true
    · rw [if_pos n] at o'
      exact fun g' σ' H' l m => o' g' _ H' l (m.cast hs.symm hme.symm n)
    · rw [if_neg n] at o'
      exact o'.elim
  | ct ρ st =>
    have o' : OutS T nm X.K W gb D (if ρ.all notExc then .ct ρ st else .no) := o
    by_cases n : ρ.all notExc = true
    · rw [if_pos n] at o'
      exact fun g' σ' H' l m => o' g' _ H' l (m.cast hs.symm hme.symm n)
    · rw [if_neg n] at o'
      exact o'.elim
  | rt d st => exact fun g' v H' l m r => o g' v H' l (m.cast hs.symm) (r.cast hs.symm)
  | er x ρ st => exact o.elim
  | no => exact o
theorem ss_tryAs {c i : Nat} {x n : Str} {np pos' : Pos} {body suite : List Stmt} {b₀ : Stmt} {b h : S} (hs : X.stack = X.env :: X.outer) (hf : X.env.frame = some X.env.locals) (hN : X.N.Nodup) (hi : X.N[i]? = some n) (hln : X.env.kindOf n = some .local) (tk : Takes X W) (hex : nm.ex = none)
    (hg : Gl X x) (hdb : (x == ("__debug__" : Str)) = false) (hm : X.mg x = some (.ref (cad nm X.K c))) (hE : ErI (co X) T nm c)
    (hb : ∀ (W : WX) (pn : List (Addr × Obj)) (xe : Value → Shared → Prop), Takes (X.tr pn xe) W → PSs (X.tr pn xe) body (tS T nm X.K cf W b))
    (hsu : ∀ (a : Addr) (oe : Obj) (cls : Value) (d : Option Addr) (pn : List (Addr × Obj)), Zc cls d oe → (∃ vs, oe.data = .fields vs) → PSs (X.suite a ((a, oe) :: pn)) (b₀ :: suite) (tS T (nmX nm a cls d) X.K cf WF h)) :
    PS X (.Try body [.ExceptHandler (some (.Name x np)) (some n) (b₀ :: suite) pos'] [] [] pos) (tS T nm X.K cf W (.try_ b (.hnd c (some i) h .skip))) := by
  refine PS.imp (ps_try_as hs hf hN hi hln (c := .ref (cad nm X.K c)) ⟨hg, hdb, .inl hm⟩ tk (tb := fun W => tS T nm X.K cf W b) (ts := fun a cls d => tS T (nmX nm a cls d) X.K cf WF h) (fun W pn xe t _ => hb W pn xe t) hsu) fun D σ H ⟨gb, g, ρ, st, m, l, n, o⟩ => ⟨gb, g, ρ, st, m, l, n, ?_⟩
  have o' : OutS T nm X.K W gb D (match exS T cf b ρ st with
    | .er x ρ st => exS.hdS T cf x (.hnd c (some i) h .skip) ρ st
    | r => r) := o
  cases q : exS T cf b ρ st with
  | er xx ρ1 st1 =>
    rw [q] at o'
    intro g1 cv dd σ1 H1 l1 m1 xr
    have o2 : OutS T nm X.K W gb D (if isErr T xx.c then (if under T xx.c c then (exS T cf h (ρ1.set i (some (.exc xx.c xx.ds))) st1).unset (some i) else .er xx ρ1 st1) else .no) := o'
    cases e1 : isErr T xx.c with
    | false =>
      rw [e1] at o2
      exact o2.elim
    | true =>
      rw [e1] at o2
      have o3 : OutS T nm X.K W gb D (if under T xx.c c then (exS T cf h (ρ1.set i (some (.exc xx.c xx.ds))) st1).unset (some i) else .er xx ρ1 st1) := o2
      refine ⟨under T xx.c c, by rw [xr.1]; exact hE xx.c e1, fun e2 a na => ?_, fun e2 => ?_⟩
      · rw [e2] at o3
        have o4 : OutS T nm X.K W gb D ((exS T cf h (ρ1.set i (some (.exc xx.c xx.ds))) st1).unset (some i)) := o3
        have sx := sameX nm a cv dd
        have m2 : Mt T (nmX nm a cv dd) X.K g1 ρ1 st1 σ1 H1 := m1.cast sx rfl (m1.noExc hex)
        have m3 : Mt T (nmX nm a cv dd) X.K g1 (ρ1.set i (some (.exc xx.c xx.ds))) st1 (σ1.set i (some (.ref a))) H1 := m2.set (d := .exc xx.c xx.ds) ⟨a, cv, dd, rfl, rfl, xr.cast sx⟩
        exact ⟨gb, g1, _, st1, m3, l1, n, out_suite sx rfl o4⟩
      · rw [e2] at o3
        exact o3 g1 cv dd σ1 H1 l1 m1 xr
  | nx ρ1 st1 => rw [q] at o'; exact o'
  | rt d st1 => rw [q] at o'; exact o'
  | bk ρ1 st1 => rw [q] at o'; exact o'
  | ct ρ1 st1 => rw [q] at o'; exact o'
  | no => rw [q] at o'; exact o'
theorem ss_tryOnly {c : Nat} {x : Str} {np pos' : Pos} {body suite : List Stmt} {b₀ : Stmt} {b h : S} (hs : X.stack = X.env :: X.outer) (hf : X.env.frame = some X.env.locals) (tk : Takes X W) (hex : nm.ex = none)
    (hg : Gl X x) (hdb : (x == ("__debug__" : Str)) = false) (hm : X.mg x = some (.ref (cad nm X.K c))) (hE : ErI (co X) T nm c)
    (hb : ∀ (W : WX) (pn : List (Addr × Obj)) (xe : Value → Shared → Prop), Takes (X.tr pn xe) W → PSs (X.tr pn xe) body (tS T nm X.K cf W b))
    (hsu : ∀ (a : Addr) (oe : Obj) (cls : Value) (d : Option Addr) (pn : List (Addr × Obj)), Zc cls d oe → (∃ vs, oe.data = .fields vs) → PSs (X.suite a ((a, oe) :: pn)) (b₀ :: suite) (tS T (nmX nm a cls d) X.K cf WF h)) :
    PS X (.Try body [.ExceptHandler (some (.Name x np)) none (b₀ :: suite) pos'] [] [] pos) (tS T nm X.K cf W (.try_ b (.hnd c none h .skip))) := by
  refine PS.imp (ps_try_only hs hf (c := .ref (cad nm X.K c)) ⟨hg, hdb, .inl hm⟩ tk (tb := fun W => tS T nm X.K cf W b) (ts := fun a cls d => tS T (nmX nm a cls d) X.K cf WF h) (fun W pn xe t _ => hb W pn xe t) hsu) fun D σ H ⟨gb, g, ρ, st, m, l, n, o⟩ => ⟨gb, g, ρ, st, m, l, n, ?_⟩
  have o' : OutS T nm X.K W gb D (match exS T cf b ρ st with
    | .er x ρ st => exS.hdS T cf x (.hnd c none h .skip) ρ st
    | r => r) := o
  cases q : exS T cf b ρ st with
  | er xx ρ1 st1 =>
    rw [q] at o'
    intro g1 cv dd σ1 H1 l1 m1 xr
    have o2 : OutS T nm X.K W gb D (if isErr T xx.c then (if under T xx.c c then (exS T cf h ρ1 st1).unset none else .er xx ρ1 st1) else .no) := o'
    cases e1 : isErr T xx.c with
    | false =>
      rw [e1] at o2
      exact o2.elim
    | true =>
      rw [e1] at o2
      have o3 : OutS T nm X.K W gb D (if under T xx.c c then (exS T cf h ρ1 st1).unset none else .er xx ρ1 st1) := o2
      refine ⟨under T xx.c c, by rw [xr.1]; exact hE xx.c e1, fun e2 a na => ?_, fun e2 => ?_⟩
      · rw [e2] at o3
        have o4 : OutS T nm X.K W gb D ((exS T cf h ρ1 st1).unset none) := o3
        have sx := sameX nm a cv dd
        exact ⟨gb, g1, _, st1, m1.cast sx rfl (m1.noExc hex), l1, n, out_suite0 sx rfl o4⟩
      · rw [e2] at o3
        exact o3 g1 cv dd σ1 H1 l1 m1 xr
  | nx ρ1 st1 => rw [q] at o'; exact o'
  | rt d st1 => rw [q] at o'; exact o'
  | bk ρ1 st1 => rw [q] at o'; exact o'
  | ct ρ1 st1 => rw [q] at o'; exact o'
  | no => rw [q] at o'; exact o'
/-- the classes of the errors, as suites read them -/
structure XcI (X : Core) (T : Tab) (nm : Nm) (c : Nat) (C : Ev.Cls) : Prop where
  x : ExcC X.K (cad nm X.K c)
  nd : (C.fields.map nm.attr).Nodup
  noat : ∀ m ∈ C.fields, PySem.W.findIn X.K (.ref (cad nm X.K c)) (nm.attr m) = some none
theorem XcI.xf {c : Nat} {C : Ev.Cls} (h : XcI (co X) T nm c C) : XfC X.K (cad nm X.K c) := ⟨h.x.hg, h.x.hk, h.x.hs, h.x.hd⟩
theorem isErr_some {c : Nat} (h : isErr T c = true) : ∃ C, T.cls c = some C ∧ C.exc = true := by
  unfold isErr at h
  cases q : T.cls c with
  | none => rw [q] at h; cases h
  | some C => rw [q] at h; exact ⟨C, rfl, h⟩
/-- e.f in a suite -/
theorem se_xat {a : Addr} {oe : Obj} {cls : Value} {d : Option Addr} {pn : List (Addr × Obj)} {i m : Nat} {x n : Str} {p : Pos} (hz : Zc cls d oe) (hf : ∃ vs, oe.data = .fields vs) (hN : X.N[i]? = some n) (hv : Vis X.env.scope n) (hd : (n == ("__debug__" : Str)) = false) (hcd : (n == ("__classdict__" : Str)) = false)
    (hx : x = nm.attr m) (hX : ∀ c C, T.cls c = some C → C.exc = true → XcI (co X) T nm c C) (hb : attributeBase (.Name n p) x X.env (eval (.Name n p) X.env) = eval (.Name n p) X.env) :
    PE (X.suite a ((a, oe) :: pn)) (.Attribute (.Name n p) x pos) (tE T (nmX nm a cls d) X.K cf W (.xat i m)) := by
  refine ⟨fun pins s σ H Q I ⟨g, ρ, st, mt, o⟩ => ?_⟩
  obtain ⟨dv, e, q⟩ := Out.of (o := xatD T ρ i m) o mt
  unfold xatD at e
  cases e1 : rdB ρ i with
  | none => rw [e1] at e; cases e
  | some dx =>
    rw [e1] at e
    cases dx with
    | exc c ds =>
      have e2 : (if isErr T c = true then fieldD T c m ds else none) = some dv := e
      by_cases ec : isErr T c = true
      · rw [if_pos ec] at e2
        obtain ⟨C, hC, hce⟩ := isErr_some ec
        have xi := hX c C hC hce
        obtain ⟨v, s1, a', cv, dd, h1, h2, xr⟩ := mt.slots i _ (rdB_some e1)
        have h3 : (some (a, cls, d) : Option (Addr × Value × Option Addr)) = some (a', cv, dd) := h1
        cases h3
        obtain ⟨ec', xr⟩ := xr
        have hfm := e2
        rcases xr with ⟨z, _⟩ | ⟨d0, vs, z1, z2, z3, z4⟩
        · have z' : ds = [] := z
          subst z'
          unfold fieldD at e2
          rw [hC] at e2
          cases q : posOf m C.fields with
          | none => simp [q] at e2
          | some j => simp [q] at e2
        · obtain ⟨vv, l1, rv, hm⟩ := field_at (X := X) (g := g) (vs := vs) hC xi.nd (z4.cast (sameX nm a cls d).symm) hfm
          subst hx
          subst h2
          exact (pe_xf xi.xf (xi.noat m hm) hz hf (pe_var hN hv hd hcd) hb).run pins s σ H Q I ⟨_, s1, rfl, ec', d0, _, vv, z1, mt.imm _ _ z2, l1, q _ (RepR.plain (rv.cast (sameX nm a cls d)) rv.plain)⟩
      · rw [if_neg ec] at e2
        cases e2
    | _ => cases e
/-- isinstance(e, c), e the exception that the suite holds -/
def rIsX (K : PySem.W.Frag) (D a : Addr) (d : Option Addr) : List V → Hp → VK → Prop := fun xs H Q => ∃ (c : V) (cv : Value) (b : Bool), xs = [.ref a, c] ∧ (∀ u, RelV c u → u = cv) ∧ (d = none ∨ ∃ dd fs, d = some dd ∧ H dd = some (.xd fs)) ∧ PySem.W.kitOne K (.ref D) cv = some b ∧ Q (.bl b) H
theorem call_isX {a D : Addr} {oe : Obj} {d : Option Addr} {pn : List (Addr × Obj)} (C : ExcC X.K D) (hz : Zc (.ref D) d oe) (hf : ∃ vs, oe.data = .fields vs) : CallR (X.suite a ((a, oe) :: pn)) (.builtin "isinstance") (rIsX X.K D a d) := by
  intro pins s σ H xs us Q I r h
  obtain ⟨c, cv, b, rfl, hcv, hdd, e, q⟩ := h
  cases r with
  | cons rx rr =>
    cases rr with
    | cons rt rr =>
      cases rr
      cases rx
      have ec := hcv _ rt
      subst ec
      obtain ⟨hget, _⟩ := I.pin (a, oe) (List.mem_append.mpr (.inl List.mem_cons_self))
      obtain ⟨vs, hv⟩ := hf
      have J : ∃ od, PySem.W.InstAt s.heap a oe D od := by
        obtain ⟨oc, od, oda, osl⟩ := oe
        obtain ⟨h1, h2⟩ := hz
        dsimp only at h1 h2 hv
        subst h1 h2 hv
        rcases hdd with z | ⟨dd, fs, z, ez⟩
        · subst z
          exact ⟨none, hget, rfl, rfl, trivial⟩
        · subst z
          have hx : ObjOk X.prog X.w H s.heap dd (.xd fs) := I.hok dd _ ez
          obtain ⟨mA, hns, hr⟩ := hx
          obtain ⟨od, ho, hl⟩ := lookIn_ns hns
          exact ⟨some od, hget, rfl, rfl, ho⟩
      obtain ⟨od, J⟩ := J
      exact PySem.W.kia_one (PySem.W.kitx_excX C) I.kIn J e (fun z => nomatch z) fun tk => ⟨.bl b, H, I.kept (t' := tk) fun _ _ z => z, rfl, q⟩
theorem tyW_only (nm : Nm) (K : PySem.W.Frag) (t : TY) (u : Value) (r : RelV (tyW nm K t) u) : u = tyV nm K t := by
  cases t <;> exact r
theorem se_xis {a : Addr} {oe : Obj} {cls : Value} {d : Option Addr} {pn : List (Addr × Obj)} {i : Nat} {t : TY} {n : Str} {p p2 : Pos} {e2 : Expr} (hz : Zc cls d oe) (hf : ∃ vs, oe.data = .fields vs) (hN : X.N[i]? = some n) (hv : Vis X.env.scope n) (hd : (n == ("__debug__" : Str)) = false) (hcd : (n == ("__classdict__" : Str)) = false)
    (hX : ∀ c C, T.cls c = some C → C.exc = true → XcI (co X) T nm c C) (hk : Kit (co X) T nm) (hg : Gl X "isinstance") (hm : X.mg "isinstance" = none) (ht : PE (X.suite a ((a, oe) :: pn)) e2 (tC (tyW nm X.K t)))
    (h1 : starEach [.Name n p, e2] X.env = (false, eval (.Name n p) X.env) :: starEach [e2] X.env) (h2 : starEach [e2] X.env = (false, eval e2 X.env) :: starEach [] X.env) :
    PE (X.suite a ((a, oe) :: pn)) (.Call (.Name "isinstance" p2) [.Name n p, e2] [] pos) (tE T (nmX nm a cls d) X.K cf W (.xis i t)) := by
  refine ⟨fun pins s σ H Q I ⟨g, ρ, st, mt, o⟩ => ?_⟩
  obtain ⟨dv, e, q⟩ := Out.of (o := xisD T ρ i t) o mt
  unfold xisD at e
  cases e1 : rdB ρ i with
  | none => rw [e1] at e; cases e
  | some dx =>
    rw [e1] at e
    cases dx with
    | exc c ds =>
      have e3 : (if (isErr T c && T.isi.contains t) = true then (kdIs T (.exc c) t).map D.bl else none) = some dv := e
      by_cases ec0 : (isErr T c && T.isi.contains t) = true
      · rw [if_pos ec0] at e3
        obtain ⟨ec, hin⟩ := Bool.and_eq_true_iff.mp ec0
        obtain ⟨C, hC, hce⟩ := isErr_some ec
        have xi := hX c C hC hce
        obtain ⟨v, s1, a', cv, dd, h1', h2', xr⟩ := mt.slots i _ (rdB_some e1)
        have h3 : (some (a, cls, d) : Option (Addr × Value × Option Addr)) = some (a', cv, dd) := h1'
        cases h3
        obtain ⟨ec', xr⟩ := xr
        have ec2 : cls = .ref (cad nm X.K c) := ec'
        subst ec2
        subst h2'
        cases hb : kdIs T (.exc c) t with
        | none => rw [hb] at e3; cases e3
        | some b =>
          rw [hb] at e3
          cases e3
          have hdd : d = none ∨ ∃ dd fs, d = some dd ∧ H dd = some (.xd fs) := by
            rcases xr with ⟨_, z⟩ | ⟨d0, vs, z1, z2, _, _⟩
            · exact .inl z
            · exact .inr ⟨d0, _, z1, mt.imm _ _ z2⟩
          exact (pe_callB (X := X.suite a ((a, oe) :: pn)) (call_isX xi.x hz hf) hg hm (by decide +kernel) (pa_cons (pe_var hN hv hd hcd) (pa_cons ht pa_nil h2) h1) (by decide) (by decide) h1 (by rw [show starEach [e2] (X.suite a ((a, oe) :: pn)).env = (false, eval e2 X.env) :: starEach [] X.env from h2]; rfl)).run pins s σ H Q I
            ⟨_, s1, _, _, b, rfl, tyW_only nm X.K t, hdd, hk _ _ b hin hb, q _ (.bl b)⟩
      · rw [if_neg ec0] at e3
        cases e3
    | _ => cases e
end
end Snd
set_option Elab.async false
set_option linter.all false
set_option maxRecDepth 100000
/-! SndC: constants, lists of the store, fields set, the theorem of a function. -/
namespace Snd
open PySem PySem.Spec PyProof.Rows L2 Ev
section
variable {T : Tab} {nm : Nm} {K : PySem.W.Frag} {W : WX} {g g0 g1 gb : Gh} {ρ : Rho} {σ : L2.St} {H : Hp} {st : Sto}
/-- a name's own list (or self) is changed -/
theorem Mt.slot_upd (m : Mt T nm K g ρ st σ H) {i : Nat} {d : Ev.D} {p : Addr} {o : HO} (e2 : σ[i]? = some (some (.ref p))) (h1 : g p = some (.slot i)) (r : SlR T nm K g (upd H p o) i d (.ref p)) : Mt T nm K g (ρ.set i (some d)) st σ (upd H p o) := by
  have nn : ∀ a t, g a = some t → (∀ j, t ≠ .slot j) → upd H p o a = H a := fun a t e n => upd_ne fun z => by
    rw [z, h1] at e
    cases e
    exact n i rfl
  refine ⟨⟨fun a o e => by rw [nn a _ e (fun _ z => nomatch z)]; exact m.imm a o e, fun a o e => by rw [nn a _ e (fun _ z => nomatch z)]; exact m.held a o e, fun k ob e => ?_, m.stl, m.uniq, fun a t e => ?_⟩, by rw [List.length_set]; exact m.len, fun j d z => ?_⟩
  · obtain ⟨a, o, e1, e2, rr⟩ := m.sto k ob e
    exact ⟨a, o, e1, by rw [nn a _ e1 (fun _ z => nomatch z)]; exact e2, rr⟩
  · by_cases n : a = p
    · rw [n, upd_same]
      exact ⟨_, rfl⟩
    · rw [upd_ne n]
      exact m.trk a t e
  · rcases getElem_set z with ⟨z1, z2, z3⟩ | ⟨z1, z2⟩
    · subst z1
      cases z3
      exact ⟨.ref p, e2, r⟩
    · obtain ⟨w, h3, h4⟩ := m.slots j d z2
      exact ⟨w, h3, h4.mono (Lim.refl g) fun q e3 => ⟨e3, upd_ne fun y => by rw [y, h1] at e3; cases e3; exact z1 rfl⟩⟩
/-- a new object of the store -/
theorem Mt.stored (m : Mt T nm K g ρ st σ H) {p : Addr} {vs : List V} {ds : List Ev.D} (h : g p = some (.held (.lst vs))) (r : Reps T nm K g ds vs) : Mt T nm K (put g p (.sto st.length)) ρ (st ++ [.lst ds]) σ H ∧ Lim g (put g p (.sto st.length)) := by
  have hp := m.held _ _ h
  have lm : Lim g (put g p (.sto st.length)) := ⟨fun a o e => by rw [put_ne (fun z => by rw [z, h] at e; cases e)]; exact e, fun a k e => by rw [put_ne (fun z => by rw [z, h] at e; cases e)]; exact e⟩
  have old : ∀ a u, a ≠ p → put g p (.sto st.length) a = some u → g a = some u := fun a u n e => by rw [put_ne n] at e; exact e
  refine ⟨⟨⟨fun a o' e => ?_, fun a o' e => ?_, fun k ob e => ?_, fun a k e => ?_, fun a b k e1 e2 => ?_, fun a u e => ?_⟩, m.len, fun i d e => ?_⟩, lm⟩
  · by_cases n : a = p
    · subst n
      rw [put_same] at e
      cases e
    · exact m.imm a o' (old a _ n e)
  · by_cases n : a = p
    · subst n
      rw [put_same] at e
      cases e
    · exact m.held a o' (old a _ n e)
  · by_cases n : k < st.length
    · rw [List.getElem?_append_left n] at e
      obtain ⟨a, o', e1, e2, r⟩ := m.sto k ob e
      exact ⟨a, o', lm.2 _ _ e1, e2, r.mono lm⟩
    · rw [List.getElem?_append_right (by omega)] at e
      have hk : k = st.length := by
        cases q : k - st.length with
        | zero => omega
        | succ j => rw [q] at e; simp at e
      subst hk
      simp at e
      subst e
      exact ⟨p, _, put_same, hp, vs, rfl, r.mono lm⟩
  · rw [List.length_append]
    by_cases n : a = p
    · subst n
      rw [put_same] at e
      cases e
      exact Nat.lt_succ_self _
    · exact Nat.lt_succ_of_lt (m.stl a k (old a _ n e))
  · by_cases na : a = p
    · by_cases nb : b = p
      · rw [na, nb]
      · subst na
        rw [put_same] at e1
        cases e1
        have z := m.stl b _ (old b _ nb e2)
        exact absurd z (Nat.lt_irrefl _)
    · by_cases nb : b = p
      · subst nb
        rw [put_same] at e2
        cases e2
        have z := m.stl a _ (old a _ na e1)
        exact absurd z (Nat.lt_irrefl _)
      · exact m.uniq a b k (old a _ na e1) (old b _ nb e2)
  · by_cases n : a = p
    · subst n
      exact ⟨_, hp⟩
    · exact m.trk a u (old a _ n e)
  · obtain ⟨v, e1, r⟩ := m.slots i d e
    refine ⟨v, e1, r.mono lm fun q e2 => ⟨?_, rfl⟩⟩
    rw [put_ne (fun z => by rw [z, h] at e2; cases e2)]
    exact e2
end
section
variable {X : Cx} {T : Tab} {nm : Nm} {W : WX} {cf : Nat → List D → Sto → R D} {pos : Pos} {k : Nat}
/-- a constant of the module -/
def ConI (X : Core) (T : Tab) (nm : Nm) (j : Nat) : Prop := ∃ u v, X.mg (nm.con j) = some u ∧ RelV v u ∧ ∀ g, Rep T nm X.K g (T.con j) v
theorem se_con {j : Nat} {x : Str} (C : ConI (co X) T nm j) (hx : x = nm.con j) (hg : Gl X x) (hd : (x == ("__debug__" : Str)) = false) : PE X (.Name x pos) (tE T nm X.K cf W (.con j)) := by
  obtain ⟨u, v, hm, r, h⟩ := C
  subst hx
  exact PE.imp (pe_glob hg hm r hd) fun σ H Q ⟨g, ρ, st, m, o⟩ => Out.ok o m v (RepR.plain (h g) (h g).plain)
theorem se_negc {i : Int} {j : Nat} {p : Pos} : PE X (.UnaryOp .USub (.Constant (.int i) j p) pos) (tE T nm X.K cf W (.int (-i))) :=
  PE.imp (pe_un un_neg pe_int) fun σ H Q ⟨g, ρ, st, m, o⟩ => ⟨i, rfl, Out.ok o m _ (.int (-i))⟩
theorem se_sto {es : List Expr} {as : Es} (h : PA X es (tA T nm X.K cf W as)) : PE X (.List es pos) (tE T nm X.K cf W (.sto (.lst as))) :=
  PE.imp (se_lst h) fun σ H Q ⟨g, ρ, st, m, o⟩ => ⟨g, ρ, st, m, by
    have o1 := Out.bind0 (r := evE T cf (.lst as) ρ st) o
    refine Out.imp o1 fun d st1 g1 H1 l1 m1 q v r => ?_
    cases d with
    | own ds =>
      obtain ⟨p, vs, ev, h1, h2, h3⟩ := r
      subst ev
      obtain ⟨m2, lm⟩ := m1.stored h1 h3
      have l2 : Le g (put g1 p (.sto st1.length)) := fun a t e => by
        rw [put_ne (fun z => by rw [z, h2] at e; cases e)]
        exact l1 a t e
      exact q _ H1 l2 m2 _ (.ref put_same)
    | _ => exact q.elim⟩
theorem putF_zip : ∀ {ns : List Str} {vs : List V} {x : Str} {v : V}, ns[vs.length]? = some x → ns.Nodup → putF x v (ns.zip vs) = ns.zip (vs ++ [v])
  | [], vs, x, v, h, _ => by simp at h
  | n :: ns, [], x, v, h, _ => by
    simp at h
    subst h
    cases ns <;> rfl
  | n :: ns, w :: vs, x, v, h, nd => by
    have h2 : ns[vs.length]? = some x := by simpa using h
    have ne : n ≠ x := fun z => (List.nodup_cons.mp nd).1 (z ▸ List.mem_of_getElem? h2)
    show (if n = x then (n, v) :: ns.zip vs else (n, w) :: putF x v (ns.zip vs)) = (n, w) :: ns.zip (vs ++ [v])
    rw [if_neg ne, putF_zip h2 (List.nodup_cons.mp nd).2]
/-- self.f = e, in __init__ -/
theorem ss_setf {e : Expr} {a : E} {m : Nat} {x f : Str} {p p' : Pos} (hN : X.N[0]? = some x) (hv : Vis X.env.scope x) (hd : (x == ("__debug__" : Str)) = false) (hcd : (x == ("__classdict__" : Str)) = false) (hf : f = nm.attr m) (hcl : ∀ c C, T.cls c = some C → C.exc = false → ClI (co X) T nm cf k c C)
    (h : PE X e (tE T nm X.K cf W a)) (hs : swapsWith e (some (.Attribute (.Name x p) f p')) pos.line X.env = pure false) : PS X (.Assign [.Attribute (.Name x p) f p'] e pos) (tS T nm X.K cf W (.setf m a)) := by
  subst hf
  refine PS.imp (ps_fld (pe_var hN hv hd hcd) h hs) fun D σ H ⟨gb, g, ρ, st, mt, l, n, o⟩ => ⟨g, ρ, st, mt, Out.imp (OutS.go o l) fun d st1 g1 H1 l1 m1 q v r => ?_⟩
  obtain ⟨g2, l2, m2, r2⟩ := kept r m1 l1
  have q' : OutS T nm X.K W gb D (F.of (setfD T m ρ (fz d)) st1) := q
  unfold setfD at q'
  cases e0 : ρ[0]? with
  | none => rw [e0] at q'; exact q'.elim
  | some o0 =>
    rw [e0] at q'
    cases o0 with
    | none => exact q'.elim
    | some d0 =>
      cases d0 with
      | obj c ds =>
        obtain ⟨w, e1, pp, dx, vs, ⟨hme, ev⟩, gp, hp, hl, hlf, rr⟩ := m2.slots 0 _ e0
        subst ev
        cases hI : clsI T c with
        | none =>
          simp only [hI] at q'
          exact q'.elim
        | some C =>
          simp only [hI] at q'
          obtain ⟨hC, hex⟩ := clsI_some hI
          have cI := hcl c C hC hex
          by_cases z : C.fields[ds.length]? = some m
          · rw [if_pos z] at q'
            have q2 : OutS T nm X.K W gb D (.nx (ρ.set 0 (some (.obj c (ds ++ [fz d])))) st1) := q'
            have hfn : fnames T nm c = C.fields.map nm.attr := by unfold fnames; rw [hC]
            have hat : (fnames T nm c)[vs.length]? = some (nm.attr m) := by rw [hl, hfn, List.getElem?_map, z]; rfl
            have hz : ((fnames T nm c).zip vs).length < 1000 := by
              rw [List.length_zip, hfn, List.length_map]
              have := cI.few
              omega
            refine ⟨_, e1, pp, _, dx, _, rfl, hp, cI.cl, cI.noat m (List.mem_of_getElem? z), hz, ?_⟩
            rw [putF_zip hat (by rw [hfn]; exact cI.nd)]
            refine q2 g2 σ _ (l.trans l2) (m2.slot_upd e1 gp ⟨pp, dx, vs ++ [v], ⟨hme, rfl⟩, gp, upd_same, ?_, ?_, rr.append (.cons r2 .nil)⟩)
            · rw [List.length_append, List.length_append, hl]
              rfl
            · rw [List.length_append]
              have := (List.getElem?_eq_some_iff.mp z).1
              rw [hfn, List.length_map]
              exact this
          · rw [if_neg z] at q'
            exact q'.elim
      | _ => exact q'.elim
end
/-! ### the theorem of a function -/
section
variable {T : Tab} {nm : Nm} {K : PySem.W.Frag} {g gb : Gh} {st : Sto} {H : Hp}
/-- a def's context -/
abbrev cxF (Y : Core) (N : List Str) (qual : Str) (scope : Scope) (f : Addr) (cd : Value) (A : Around) (outer : List Env) (s : Shared) (H : Hp) (E : XK) : Cx := cxOf (L2.CX Y.prog Y.w) Y.prog Y.w Y.K Y.mg Y.base N qual scope f cd A outer s H E
/-- a def's wish -/
abbrev wF (E : XK) : WX := fun cls d _ H => E cls d H
theorem start_at {n i : Nat} {ds : List Ev.D} {d : Ev.D} (h : (Ev.start n ds)[i]? = some (some d)) : ds[i]? = some d := by
  unfold Ev.start at h
  by_cases hi : i < ds.length
  · rw [List.getElem?_append_left (by simpa using hi), List.getElem?_map] at h
    cases e : ds[i]? with
    | none => rw [e] at h; cases h
    | some a => rw [e] at h; cases h; rfl
  · rw [List.getElem?_append_right (by simpa using hi), List.getElem?_replicate] at h
    split at h <;> cases h
theorem mt_start {N : List Str} {n : Nat} {ds : List Ev.D} {vs : List V} (m : Mt0 T nm K g st H) (r : Reps T nm K g ds vs) (hn : N.length = n) (hl : ds.length ≤ n) : Mt T nm K g (Ev.start n ds) st (L2.start N vs) H := by
  refine ⟨m, ?_, fun i d e => ?_⟩
  · unfold Ev.start L2.start
    simp only [List.length_append, List.length_map, List.length_replicate]
    rw [← r.len, hn]
  · obtain ⟨v, e1, rv⟩ := r.at (start_at e)
    refine ⟨v, ?_, SlR.rep rv⟩
    unfold L2.start
    rw [List.getElem?_append_left (by rw [List.length_map]; exact (List.getElem?_eq_some_iff.mp e1).1), List.getElem?_map, e1]
    rfl
/-- a function of the text -/
theorem fn_sp {Y : Core} {k f : Nat} {fn : Fn} {x qual : Str} {params : Arguments} {body : List Stmt} {scope : Scope} {dvs : List V} {kws : List (Str × V)} {fa : Addr} {fd : FuncData} {N ps : List Str} {cf cf' : Nat → List Ev.D → Sto → R Ev.D} (F : FunD Y.K x qual params body scope dvs kws fa fd) (S : FnScope N ps scope)
    (hcf : cf f = runB T cf' fn) (hi : fn.ini = none) (hps : ps.length = fn.np) (hN : N.length = fn.nl) (hle : fn.np ≤ fn.nl)
    (hb : ∀ (cdv : Value) (A : Around) (outer : List Env) (s : Shared) (H : Hp) (E : XK), Room k (A.deeper (envOfC qual scope s.heap.objs.size fa cdv)) → PSs (cxF Y N qual scope fa cdv A outer s H E) body (tS T nm Y.K cf' (wF E) fn.body)) :
    FnOk Y.prog Y.w Y.K Y.mg Y.base (L2.CX Y.prog Y.w) (k + 1) fa fd ps (SP T nm Y.K cf fn.np f) := by
  refine F.ok S (fun vs H Q E h => h.1.trans hps.symm) fun cdv A outer s H vs Q E hr h => ⟨_, hb cdv A outer s H E hr, ?_⟩
  obtain ⟨hl, g, ds, st, ns, m, r, o⟩ := h
  have hdl : ds.length = fn.np := r.len.trans hl
  refine ⟨g, g, Ev.start fn.nl ds, st, mt_start m r hN (by rw [hdl]; exact hle), Le.refl g, ns, ?_⟩
  rw [hcf] at o
  unfold runB at o
  rw [if_pos hdl, hi] at o
  have o' : OutC T nm Y.K g Q E (fin T none (exS T cf' fn.body (Ev.start fn.nl ds) st)) := o
  cases q : exS T cf' fn.body (Ev.start fn.nl ds) st with
  | nx ρ st1 =>
    rw [q] at o'
    exact fun g' σ' H' l m => o' g' .non H' l m.toMt0 .non
  | rt d st1 =>
    rw [q] at o'
    exact fun g' v H' l m r => o' g' v H' l m r
  | er xx ρ st1 =>
    rw [q] at o'
    exact fun g' cv dd σ' H' l m x => o' g' cv dd H' l m.toMt0 x
  | bk ρ st1 => rw [q] at o'; exact o'.elim
  | ct ρ st1 => rw [q] at o'; exact o'.elim
  | no => rw [q] at o'; exact o'.elim
/-- the names within an __init__ -/
def nmM (nm : Nm) (x dx : Addr) : Nm := { nm with me := some (x, dx) }
theorem sameM (nm : Nm) (x dx : Addr) : SameN nm (nmM nm x dx) := ⟨rfl, rfl⟩
def without (g : Gh) (x : Addr) : Gh := fun a => if a = x then none else g a
theorem without_ne {x a : Addr} (h : a ≠ x) : without g x a = g a := if_neg h
theorem without_same {x : Addr} : without g x x = none := if_pos rfl
theorem lim_without {x : Addr} {i : Nat} (h : g x = some (.slot i)) : Lim g (without g x) := ⟨fun a o e => by rw [without_ne (fun z => by rw [z, h] at e; cases e)]; exact e, fun a k e => by rw [without_ne (fun z => by rw [z, h] at e; cases e)]; exact e⟩
theorem Mt0.without (m : Mt0 T nm K g st H) {x : Addr} {i : Nat} (h : g x = some (.slot i)) : Mt0 T nm K (without g x) st H := by
  have old : ∀ a t, Snd.without g x a = some t → g a = some t := fun a t e => by
    by_cases n : a = x
    · rw [n, without_same] at e
      cases e
    · rw [without_ne n] at e
      exact e
  exact ⟨fun a o e => m.imm a o (old _ _ e), fun a o e => m.held a o (old _ _ e), fun k ob e => by
    obtain ⟨a, o, e1, e2, r⟩ := m.sto k ob e
    exact ⟨a, o, (lim_without h).2 _ _ e1, e2, r.mono (lim_without h)⟩, fun a k e => m.stl a k (old _ _ e), fun a b k e1 e2 => m.uniq a b k (old _ _ e1) (old _ _ e2), fun a t e => m.trk a t (old _ _ e)⟩
/-- an __init__ of the text -/
theorem fn_spi {Y : Core} {k f c : Nat} {fn : Fn} {x qual : Str} {params : Arguments} {body : List Stmt} {scope : Scope} {dvs : List V} {kws : List (Str × V)} {fa : Addr} {fd : FuncData} {N ps : List Str} {cf cf' : Nat → List Ev.D → Sto → R Ev.D} {C : Ev.Cls} (F : FunD Y.K x qual params body scope dvs kws fa fd) (S : FnScope N ps scope)
    (hcf : cf f = runB T cf' fn) (hi : fn.ini = some c) (hC : T.cls c = some C) (hps : ps.length = fn.np + 1) (hN : N.length = fn.nl)
    (hb : ∀ (p dx : Addr) (cdv : Value) (A : Around) (outer : List Env) (s : Shared) (H : Hp) (E : XK), Room k (A.deeper (envOfC qual scope s.heap.objs.size fa cdv)) → PSs (cxF Y N qual scope fa cdv A outer s H E) body (tS T (nmM nm p dx) Y.K cf' (wF E) fn.body)) :
    FnOk Y.prog Y.w Y.K Y.mg Y.base (L2.CX Y.prog Y.w) (k + 1) fa fd ps (SPI T nm Y.K cf fn.np f c) := by
  refine F.ok S (fun vs H Q E h => h.1.trans hps.symm) fun cdv A outer s H vs Q E hr h => ?_
  obtain ⟨hl, p, dx, g, ds, st, ws, ev, hx, gx, ns, m, r, o⟩ := h
  subst ev
  refine ⟨_, hb p dx cdv A outer s H E hr, ?_⟩
  have hwl : ws.length = fn.np := by simpa using hl
  have hdl : ds.length = fn.np := r.len.trans hwl
  have l0 : Le g (put g p (.slot 0)) := le_put gx
  have m0 : Mt0 T (nmM nm p dx) Y.K (put g p (.slot 0)) st H := by
    have z := m.cast (sameM nm p dx)
    have old : ∀ a u, a ≠ p → put g p (.slot 0) a = some u → g a = some u := fun a u n e => by rw [put_ne n] at e; exact e
    refine ⟨fun a o e => ?_, fun a o e => ?_, fun j ob e => ?_, fun a j e => ?_, fun a b j e1 e2 => ?_, fun a u e => ?_⟩
    · by_cases n : a = p
      · rw [n, put_same] at e; cases e
      · exact z.imm a o (old a _ n e)
    · by_cases n : a = p
      · rw [n, put_same] at e; cases e
      · exact z.held a o (old a _ n e)
    · obtain ⟨a, o, e1, e2, rr⟩ := z.sto j ob e
      exact ⟨a, o, l0 _ _ e1, e2, rr.mono l0.lim⟩
    · by_cases n : a = p
      · rw [n, put_same] at e; cases e
      · exact z.stl a j (old a _ n e)
    · have na : a ≠ p := fun y => by rw [y, put_same] at e1; cases e1
      have nb : b ≠ p := fun y => by rw [y, put_same] at e2; cases e2
      exact z.uniq a b j (old a _ na e1) (old b _ nb e2)
    · by_cases n : a = p
      · rw [n]
        exact ⟨_, hx⟩
      · exact z.trk a u (old a _ n e)
  have r0 : Reps T (nmM nm p dx) Y.K (put g p (.slot 0)) ds ws := (r.cast (sameM nm p dx)).mono l0.lim
  have mt : Mt T (nmM nm p dx) Y.K (put g p (.slot 0)) (Ev.start fn.nl (.obj c [] :: ds)) st (L2.start N (.ref p :: ws)) H := by
    refine ⟨m0, ?_, fun i d e => ?_⟩
    · unfold Ev.start L2.start
      simp only [List.length_append, List.length_map, List.length_replicate, List.length_cons]
      rw [r.len, hN]
    · have e1 := start_at e
      cases i with
      | zero =>
        simp at e1
        subst e1
        refine ⟨.ref p, rfl, p, dx, [], ⟨rfl, rfl⟩, put_same, ?_, rfl, Nat.zero_le _, .nil⟩
        rw [hx, List.zip_nil_right]
        rfl
      | succ j =>
        obtain ⟨v, e2, rv⟩ := r0.at (show ds[j]? = some d by simpa using e1)
        refine ⟨v, ?_, SlR.rep rv⟩
        unfold L2.start
        rw [List.getElem?_append_left (by rw [List.length_map, List.length_cons]; exact Nat.succ_lt_succ (List.getElem?_eq_some_iff.mp e2).1), List.getElem?_map, List.getElem?_cons_succ, e2]
        rfl
  refine ⟨g, _, _, st, mt, l0, ns, ?_⟩
  rw [hcf] at o
  have o' : (match fin T fn.ini (exS T cf' fn.body (Ev.start fn.nl (.obj c [] :: ds)) st) with
    | .ok d st => ∀ es g' H' us, d = .ins c es → Le g g' → Mt0 T nm Y.K g' st H' → g' p = none → H' p = some (.ins (cad nm Y.K c) dx ((fnames T nm c).zip us)) → us.length = (fnames T nm c).length → Reps T nm Y.K g' es us → Q .non H'
    | .er xx st => ∀ g' cv dd H', Le g g' → Mt0 T nm Y.K g' st H' → XnR T nm Y.K g' xx cv dd → E cv dd H'
    | .no => False) := by
    unfold runB at o
    rw [if_pos hdl] at o
    rw [hi] at o ⊢
    exact o
  rw [hi] at o'
  have sm := sameM nm p dx
  cases q : exS T cf' fn.body (Ev.start fn.nl (.obj c [] :: ds)) st with
  | nx ρ st1 =>
    rw [q] at o'
    intro g1 σ1 H1 l1 m1
    cases e0 : ρ[0]? with
    | none => simp only [fin, e0] at o'
    | some o0 =>
      cases o0 with
      | none => simp only [fin, e0] at o'
      | some d0 =>
        cases d0 with
        | obj c1 ds1 =>
          simp only [fin, e0, hC] at o'
          by_cases z : c1 = c ∧ ds1.length = C.fields.length
          · rw [if_pos z] at o'
            obtain ⟨z1, z2⟩ := z
            subst z1
            obtain ⟨w, e1, pp, dx1, us, ⟨hme, ev⟩, gp, hp, hl1, hlf, rr⟩ := m1.slots 0 _ e0
            cases hme
            have hu : us.length = (fnames T nm c1).length := by
              rw [hl1, z2]
              unfold fnames
              rw [hC, List.length_map]
            have lx : Le g (without g1 p) := fun a t e => by
              rw [without_ne (fun y => by rw [y, gx] at e; cases e)]
              exact l1 a t e
            exact o' ds1 (without g1 p) H1 us rfl lx ((m1.toMt0.without gp).cast sm.symm) without_same hp hu ((rr.mono (lim_without gp)).cast sm.symm)
          · rw [if_neg z] at o'
            exact o'.elim
        | _ => simp only [fin, e0] at o'
  | rt d st1 => rw [q] at o'; exact o'.elim
  | er xx ρ st1 =>
    rw [q] at o'
    exact fun g' cv dd σ' H' l m xr => o' g' cv dd H' l (m.toMt0.cast sm.symm) (xr.cast sm.symm)
  | bk ρ st1 => rw [q] at o'; exact o'.elim
  | ct ρ st1 => rw [q] at o'; exact o'.elim
  | no => rw [q] at o'; exact o'.elim
end
end Snd
set_option Elab.async false
set_option linter.all false
set_option maxRecDepth 100000
/-! SndH: what the head tells, the theorem of all functions. -/
namespace Snd
open PySem PySem.Spec PyProof.Rows L2 Ev
/-! ### the head's Hook -/
abbrev FnM : Type := Option (Str × Str × Arguments × FuncBody × Scope × Addr × List Str × Addr)
def fnM (K : PySem.W.Frag) (a : Addr) : FnM := match K.lookup a with
  | some ⟨_, _, .func fd, _⟩ => some (fd.name, fd.qualname, fd.params, fd.body, fd.scope, fd.globals, fd.closure.map (·.1), fd.builtins)
  | _ => none
def asM (g : Addr → Option Obj) : Nat → List Addr
  | 0 => [mainGlobals, cStatics]
  | n + 1 => He.growD g (asM g n)
abbrev AlM : Type := Bool × List FnM
def obsK (ck : PySem.W.Frag → Bool) (fas : PySem.W.Frag → List Addr) (K : PySem.W.Frag) : AlM := (ck K, (fas K).map (fnM K))
def obsM (n : Nat) (ck : PySem.W.Frag → Bool) (fas : PySem.W.Frag → List Addr) (g : Addr → Option Obj) : AlM := obsK ck fas (He.frG g (asM g n))
def hookM (n : Nat) (ck : PySem.W.Frag → Bool) (fas : PySem.W.Frag → List Addr) (val : List FnM) : PySem.W.Hook where
  α := AlM
  obs := fun s => obsM n ck fas s.heap.get?
  val := fun _ => (true, val)
  says := fun _ h => ∃ K : PySem.W.Frag, K.In h ∧ ck K = true ∧ (fas K).map (fnM K) = val
  of := fun _ _ e => ⟨_, He.frG_in, congrArg (fun z : AlM => z.1) e, congrArg (fun z : AlM => z.2) e⟩
  keeps := fun _ _ _ ⟨K, hK, c⟩ k => ⟨K, PySem.W.Frag.In.keeps hK k, c⟩
theorem obsM_eq {n : Nat} {ck : PySem.W.Frag → Bool} {fas : PySem.W.Frag → List Addr} {val : List FnM} {g : Addr → Option Obj} {s : Shared} (h : ∀ a, g a = s.heap.get? a) : obsM n ck fas g = (hookM n ck fas val).obs s := by
  have e : g = s.heap.get? := funext h
  rw [e] <;> rfl
/-! ### functions -/
def defM (d : He.DefD) (cl : List Str) : FnM := some (d.name, d.qual, d.params, .stmts d.body, d.scope, mainGlobals, cl, builtinsNs)
def defOk (K : PySem.W.Frag) (a : Addr) (d : He.DefD) : Bool := PySem.W.keepIn K (.ref a) && (match K.lookup a with
  | some ⟨_, _, .func fd, _⟩ => PySem.W.codeIn K fd.code d.qual && (He.dflB K fd.defaults (d.dvs K) && He.kwdB K fd.kwdefaults (d.kws K))
  | _ => false)
theorem funD_of {K : PySem.W.Frag} {a : Addr} {d : He.DefD} (e : fnM K a = defM d []) (c : defOk K a d = true) : ∃ fd, FunD K d.name d.qual d.params d.body d.scope (d.dvs K) (d.kws K) a fd := by
  obtain ⟨kp, c2⟩ := He.ba c
  unfold fnM at e
  cases q : K.lookup a with
  | none =>
    rw [q] at c2
    cases c2
  | some o =>
    obtain ⟨oc, od, dt, osl⟩ := o
    rw [q] at c2 e
    cases dt with
    | func fd =>
      obtain ⟨n1, n2, n3, n4, n5, n6, n7, n8, n9, n10, n11, n12, n13, n14, n15⟩ := fd
      have e2 : (some (n1, n2, n3, n4, n5, n6, n7.map (·.1), n15) : FnM) = some (d.name, d.qual, d.params, .stmts d.body, d.scope, mainGlobals, [], builtinsNs) := e
      simp only [Option.some.injEq, Prod.mk.injEq, List.map_eq_nil_iff] at e2
      obtain ⟨h1, h2, h3, h4, h5, h6, h7, h8⟩ := e2
      subst h1 h2 h3 h4 h5 h6 h7 h8
      have c3 : (PySem.W.codeIn K n13 d.qual && (He.dflB K n8 (d.dvs K) && He.kwdB K n9 (d.kws K))) = true := c2
      obtain ⟨k1, k2⟩ := He.ba c3
      obtain ⟨k3, k4⟩ := He.ba k2
      exact ⟨_, ⟨oc, od, n8, n9, n10, n11, n12, n13, n14, osl, rfl, q, k1, He.dflB_ok k3, He.kwdB_ok k4⟩, kp⟩
    | _ => cases c2
/-! ### the text of a law -/
structure FnS where
  fn : Ev.Fn
  prop : Bool := false
  /-- an error's __init__ (it closes over __class__) -/
  err : Bool := false
  d : He.DefD
  N : List Str
  ps : List Str
structure Src where
  prog : Program
  fns : List FnS
  cls : List Ev.Cls
  cn : List Str
  at_ : List Str
  con : List (Str × D) := []
  free : List Str := []
  isi : List TY := []
  caught : List Nat := []
  bop : List (Nat × BO × Nat) := []
  rop : List (Nat × BO × Nat) := []
  cop : List (Nat × CO × Nat) := []
  neg : List (Nat × Nat) := []
  abs : List (Nat × Nat) := []
  str : List (Nat × Nat) := []
  get : List (Nat × Nat) := []
/-- the error's __init__, by its class -/
def look2 {α : Type} [DecidableEq α] (c : Nat) (o : α) : List (Nat × α × Nat) → Option Nat
  | [] => none
  | (k, p, f) :: r => if k = c ∧ p = o then some f else look2 c o r
def Src.T (S : Src) : Ev.Tab where
  cls := fun c => S.cls[c]?
  con := fun j => match S.con[j]? with
    | some q => q.2
    | none => .non
  fn := fun f => match S.fns[f]? with
    | some F => if F.err then none else some F.fn
    | none => none
  bop := fun c o => look2 c o S.bop
  rop := fun c o => look2 c o S.rop
  cop := fun c o => look2 c o S.cop
  neg := fun c => nameOf c S.neg
  abs := fun c => nameOf c S.abs
  str := fun c => nameOf c S.str
  get := fun c => nameOf c S.get
  isi := S.isi
def Src.nm (S : Src) : Nm where
  attr := fun m => S.at_.getD m "?"
  cls := fun c => S.cn.getD c "?"
  fn := fun f => match S.fns[f]? with
    | some F => (F.d.at_, F.prop)
    | none => (("?", none), false)
  con := fun j => match S.con[j]? with
    | some q => q.1
    | none => "?"
def Src.val (S : Src) : List FnM := S.fns.map fun F => defM F.d (if F.err then ["__class__"] else [])
def Src.fas (S : Src) (K : PySem.W.Frag) : List Addr := S.fns.map fun F => fpA K (F.d.at_, F.prop)
/-! ### checks -/
def dvOf : D → He.Dv
  | .bl b => .bl b
  | .int i => .int i
  | .str s => .str (strOf s)
  | _ => .non
def conB (K : PySem.W.Frag) (x : Str) (d : D) : Bool := match d with
  | .tup ds => ds.all flat && (He.tupB K x (ds.map dvOf) && (He.Fa.glo x).ok K)
  | d => flat d && (match PySem.W.nsIn K mainGlobals x with
    | some (some u) => He.relB ((dvOf d).v K) u
    | _ => false)
/-- a class of instances -/
def clsB (S : Src) (K : PySem.W.Frag) (c : Nat) (C : Ev.Cls) : Bool :=
  (He.Fa.glo (S.nm.cls c)).ok K && ((He.Fa.cls (S.nm.cls c)).ok K && (He.eqO (PySem.W.findIn K (.ref (cad S.nm K c)) "__class__") (some (some (.builtin "object.__class__"))) && (decide (PySem.W.mroIn K (cad S.nm K c) (.type "object") = some true) &&
    (decide (C.fields.map S.nm.attr).Nodup && (decide (C.fields.length ≤ 100) && (C.fields.all (fun m => He.eqO (PySem.W.findIn K (.ref (cad S.nm K c)) (S.nm.attr m)) (some none)) &&
      (C.meths.all (fun q => He.eqO (PySem.W.findIn K (.ref (cad S.nm K c)) (S.nm.attr q.1)) (some (some (.ref (fad S.nm K q.2)))) && (PySem.W.isFn K (.ref (fad S.nm K q.2)) && (PySem.W.keepIn K (.ref (fad S.nm K q.2)) && decide (S.nm.attr q.1 ∉ C.fields.map S.nm.attr)))) &&
        (C.props.all (fun q => (match PySem.W.findIn K (.ref (cad S.nm K c)) (S.nm.attr q.1) with
          | some (some (.ref p)) => He.eqO (PySem.W.specialIn K (.ref p) "__get__") (some (some (.builtin "property.__get__"))) && (decide (PySem.W.takesIn K (.ref p) = some true) && (match PySem.W.recIn K p "property" with
            | some (.ref g :: _) => decide (g = fad S.nm K q.2)
            | _ => false))
          | _ => false)) &&
          ((He.Fa.mkr (S.nm.cls c)).ok K && decide (fad S.nm K C.init = He.ma K (He.ga K (S.nm.cls c)) "__init__"))))))))))
/-- an error's class -/
def erB (S : Src) (K : PySem.W.Frag) (c : Nat) (C : Ev.Cls) : Bool :=
  (He.Fa.glo (S.nm.cls c)).ok K && (PySem.W.keepIn K (.ref (cad S.nm K c)) && (decide (PySem.W.subIn K (.ref (cad S.nm K c)) (.type "BaseException") = some true) && (decide (PySem.W.typeIn K (.ref (cad S.nm K c)) = some (.type "type")) &&
    (He.eqO (PySem.W.findIn K (.ref (cad S.nm K c)) "__getattribute__") (some (some (.builtin "BaseException.__getattribute__"))) && (He.eqO (PySem.W.findIn K (.ref (cad S.nm K c)) "__getattr__") (some none) && (PySem.W.hasDictIn K (cad S.nm K c) &&
      (He.eqO (PySem.W.findIn K (.ref (cad S.nm K c)) "__class__") (some (some (.builtin "object.__class__"))) && (decide (PySem.W.mroIn K (cad S.nm K c) (.type "object") = some true) &&
        (decide (C.fields.map S.nm.attr).Nodup && C.fields.all (fun m => He.eqO (PySem.W.findIn K (.ref (cad S.nm K c)) (S.nm.attr m)) (some none)))))))))))
/-- one of its own: with fields, without -/
def noneV : Value → Bool
  | .none => true
  | _ => false
def erM (S : Src) (K : PySem.W.Frag) (c : Nat) (C : Ev.Cls) : Bool := match C.fields with
  | [] => PySem.W.excIn K (cad S.nm K c) He.veBase "ValueError.__new__"
  | _ => (match K.lookup (cad S.nm K c) with
    | some ⟨.type "type", _, .cls cd, sl⟩ => (match cd.mro, sl.toList with
      | .ref C' :: bm, [_, _, _, _, some (.builtin n), _] => C' == cad S.nm K c && (n == "ValueError.__new__" && (!cd.hasDel && (cd.hasDict && (PySem.HandSPX.refsVE bm && He.eqO (PySem.W.alongIn K "__init__" bm) (some (some (.builtin "ValueError.__init__")))))))
      | _, _ => false)
    | _ => false) && (He.eqO (PySem.W.findIn K (.ref (cad S.nm K c)) "__setattr__") (some (some (.builtin "object.__setattr__"))) && (He.eqO (PySem.W.findIn K (.ref (cad S.nm K c)) "__init__") (some (some (.ref (fad S.nm K C.init)))) &&
      (decide (PySem.W.typeIn K (.ref (fad S.nm K C.init)) = some (.type "function")) && (decide (PySem.W.subIn K (.ref (cad S.nm K c)) (.type "ValueError") = some true) && (decide (PySem.W.mroIn K (cad S.nm K c) (.ref (cad S.nm K c)) = some true) &&
        (decide (C.fields.length ≤ 20) && (!(C.fields.map S.nm.attr).contains "self" && ((C.fields.map S.nm.attr).all (fun f => !(f == ("__debug__" : Str))) && (match K.lookup (fad S.nm K C.init) with
          | some ⟨_, _, .func fd, _⟩ => (match fd.closure, fd.code with
            | [(y, cc)], .ref cda => (y == ("__class__" : Str)) && (noneV fd.defaults && ((match K.lookup cc with
              | some ⟨_, _, .cell (some (.ref D)), _⟩ => D == cad S.nm K c
              | _ => false) && (PySem.W.codeIn K (.ref cda) fd.qualname && (match K.lookup cda with
                | some ⟨_, _, .fields cvs, _⟩ => (match (cvs[2]? : Option Value) with
                  | some (.str file _) => (S.prog.main.file : Str) == file
                  | _ => false)
                | _ => false))))
            | _, _ => false)
          | _ => false)))))))))
def kinds (S : Src) : List Kd := [.int, .bool, .str, .non, .tuple, .list] ++ ((List.range S.cls.length).map Kd.ins ++ (List.range S.cls.length).map Kd.exc)
def kitB (S : Src) (K : PySem.W.Frag) : Bool := S.isi.all fun t => (kinds S).all fun k => (match kdIs S.T k t with
  | some b => decide (PySem.W.kitOne K (kdV S.nm K k) (tyV S.nm K t) = some b)
  | none => true)
def eriB (S : Src) (K : PySem.W.Frag) : Bool := S.caught.all fun c => (List.range S.cls.length).all fun j => !isErr S.T j || decide (PySem.W.exmOne K (.ref (cad S.nm K j)) (.ref (cad S.nm K c)) = some (under S.T j c))
/-- the numbers of a list's places, its entries -/
def allI {α : Type} (p : Nat → α → Bool) : Nat → List α → Bool
  | _, [] => true
  | i, x :: r => p i x && allI p (i + 1) r
theorem allI_at {α : Type} {p : Nat → α → Bool} : ∀ {l : List α} {i j : Nat} {x : α}, allI p i l = true → l[j]? = some x → p (i + j) x = true
  | [], _, _, _, _, h => by simp at h
  | y :: r, i, 0, x, h, e => by
    simp at e
    subst e
    exact (Bool.and_eq_true_iff.mp h).1
  | y :: r, i, j + 1, x, h, e => by
    have z := allI_at (j := j) (Bool.and_eq_true_iff.mp h).2 (by simpa using e)
    rw [show i + (j + 1) = i + 1 + j by omega]
    exact z
def Src.ck (S : Src) (K : PySem.W.Frag) : Bool :=
  S.fns.all (fun F => if F.err then true else defOk K (fpA K (F.d.at_, F.prop)) F.d && (match F.d.at_ with
    | (x, none) => (He.Fa.glo x).ok K
    | _ => true)) &&
  (allI (fun c C => if C.exc then erB S K c C && erM S K c C else clsB S K c C) 0 S.cls && (S.con.all (fun q => conB K q.1 q.2) && (S.free.all (fun x => (He.Fa.free x).ok K) && (kitB S K && (eriB S K &&
    (He.eqO (PySem.W.specialIn K (.builtin "object.__class__") "__get__") (some (some (.builtin "getset_descriptor.__get__"))) && (decide (PySem.W.takesIn K (.builtin "object.__class__") = some true) &&
      (He.eqO (PySem.W.nsIn K cStatics "thirdparty.any") (some none) && He.eqO (PySem.W.nsIn K mainGlobals "super") (some none)))))))))

/-! ### what the checks say -/
def nmE (S : Src) (me : Option (Addr × Addr)) : Nm := { S.nm with me := me }
structure HeadOk (S : Src) (Y : Core) : Prop where
  ck : S.ck Y.K = true
  val : (S.fas Y.K).map (fnM Y.K) = S.val
  kin : Y.K.In Y.base
  glob : Y.base.Ns mainGlobals Y.mg
  prog : Y.prog = S.prog
structure Facts (S : Src) (Y : Core) (nm : Nm) (cf : Nat → List D → Sto → R D) (k : Nat) : Prop where
  fn : ∀ f F, S.fns[f]? = some F → F.err = false → F.fn.ini = none → FnI Y S.T nm cf k f F.fn.np
  mk_ : ∀ c C, clsI S.T c = some C → MkI Y S.T nm cf k c C
  cl : ∀ c C, S.T.cls c = some C → C.exc = false → ClI Y S.T nm cf k c C
  er : ∀ c C, S.T.cls c = some C → C.exc = true → ErC Y S.T nm c C
  xc : ∀ c C, S.T.cls c = some C → C.exc = true → XcI Y S.T nm c C
  eri : ∀ c, c ∈ S.caught → ErI Y S.T nm c
  kit : Kit Y S.T nm
  con : ∀ j q, S.con[j]? = some q → ConI Y S.T nm j
  mgf : ∀ f F x, S.fns[f]? = some F → F.err = false → F.prop = false → F.d.at_ = (x, none) → Y.mg x = some (.ref (fad nm Y.K f))
  mgc : ∀ c C, S.cls[c]? = some C → Y.mg (nm.cls c) = some (.ref (cad nm Y.K c))
  free : ∀ x, x ∈ S.free → Y.mg x = none
/-- the text of an error's __init__ -/
inductive EBody (cat : Bool) (fs : List Str) : List Stmt → Prop where
  | mk (p0 p1 p2 p3 p4 : Pos) {te : Expr} {b : List Stmt} (hl : (p2.endLine == p3.line) = true) (ht : PySem.OwnX.TextE cat fs te) (ha : PySem.OwnX.Asg fs b) : EBody cat fs (.Expr (.Call (.Attribute (.Call (.Name "super" p0) [] [] p1) "__init__" p2) [te] [] p3) p4 :: b)
structure GoodE (fs : List Str) (cat : Bool) (d : He.DefD) : Prop where
  nam : d.name = "__init__"
  body : EBody cat fs d.body
  scp : PySem.OwnX.Scp fs d.scope
  head : ∃ ar, (d.params.posonlyargs ++ d.params.args).head? = some ar ∧ ar.arg = ("self" : Str)
  bind : ∀ (dV kV doc pm : Value) (an : Option Addr) (cdv ct : Value) (cc : Addr) (us : List Value), us.length = fs.length + 1 → dV = .none → bindArgs (PySem.W.ksFn d.name d.qual d.params d.body d.scope dV kV doc pm an cdv ct cc) ⟨us, []⟩ = pure ((("self" : Str) :: fs).zip us)
structure GoodF (S : Src) (Y : Core) (F : FnS) : Prop where
  sc : FnScope F.N F.ps F.d.scope
  n1 : F.ps.length = F.fn.np + (if F.fn.ini.isSome then 1 else 0)
  n2 : F.N.length = F.fn.nl
  n3 : F.fn.np ≤ F.fn.nl
  dfl : F.d.dfl = [] ∧ F.d.kwd = []
  bind : ∀ (kV doc pm : Value) (an : Option Addr) (cdv ct : Value) (us : List Value), us.length = F.ps.length → bindArgs (PySem.W.fnOf F.d.name F.d.qual F.d.params F.d.body F.d.scope .none kV doc pm an cdv ct) ⟨us, []⟩ = pure (F.ps.zip us)
  body : ∀ (me : Option (Addr × Addr)) (cf : Nat → List D → Sto → R D) (k : Nat), Facts S Y (nmE S me) cf k → ∀ (fa : Addr) (cdv : Value) (A : Around) (outer : List Env) (s : Shared) (H : Hp) (E : XK), Room (k + 1) (A.deeper (envOfC F.d.qual F.d.scope s.heap.objs.size fa cdv)) →
    PSs (cxF Y F.N F.d.qual F.d.scope fa cdv A outer s H E) F.d.body (tS S.T (nmE S me) Y.K cf (wF E) F.fn.body)
/-- the text's numbers fit -/
def Src.wf (S : Src) : Bool := allI (fun c C => if C.exc then (match C.fields with
    | [] => !C.cat
    | _ => (match S.fns[C.init]? with
      | some F => F.err && decide (F.d.at_ = (S.nm.cls c, some ("__init__" : Str))) && !F.prop
      | none => false)) else (match S.fns[C.init]? with
      | some F => !F.err && (decide (F.fn.ini = some c) && (decide (F.fn.np = C.np) && C.dfl.isEmpty))
      | none => false) && (C.meths.all (fun q => (match S.fns[q.2]? with
        | some F => !F.err && F.fn.ini.isNone
        | none => false)) && C.props.all (fun q => (match S.fns[q.2]? with
        | some F => !F.err && (F.fn.ini.isNone && decide (F.fn.np = 1))
        | none => false)))) 0 S.cls && !(S.prog.main.scope.names.lookup ("super" : Str)).isSome
section
variable {S : Src} {Y : Core} {me : Option (Addr × Addr)}
theorem HeadOk.parts (h : HeadOk S Y) : (∀ F ∈ S.fns, F.err = false → defOk Y.K (fpA Y.K (F.d.at_, F.prop)) F.d = true ∧ ∀ x, F.d.at_ = (x, none) → (He.Fa.glo x).ok Y.K = true) ∧
    (∀ c C, S.cls[c]? = some C → (if C.exc then erB S Y.K c C && erM S Y.K c C else clsB S Y.K c C) = true) ∧ (∀ q ∈ S.con, conB Y.K q.1 q.2 = true) ∧ (∀ x ∈ S.free, (He.Fa.free x).ok Y.K = true) ∧ kitB S Y.K = true ∧ eriB S Y.K = true ∧
    PySem.W.specialIn Y.K (.builtin "object.__class__") "__get__" = some (some (.builtin "getset_descriptor.__get__")) ∧ PySem.W.takesIn Y.K (.builtin "object.__class__") = some true ∧ PySem.W.nsIn Y.K cStatics "thirdparty.any" = some none ∧ PySem.W.nsIn Y.K mainGlobals "super" = some none := by
  have z := h.ck
  unfold Src.ck at z
  obtain ⟨h1, z⟩ := He.ba z
  obtain ⟨h2, z⟩ := He.ba z
  obtain ⟨h3, z⟩ := He.ba z
  obtain ⟨h4, z⟩ := He.ba z
  obtain ⟨h5, z⟩ := He.ba z
  obtain ⟨h6, z⟩ := He.ba z
  obtain ⟨h7, z⟩ := He.ba z
  obtain ⟨h8, z⟩ := He.ba z
  obtain ⟨h9, h10⟩ := He.ba z
  refine ⟨fun F hF he => ?_, fun c C hc => ?_, List.all_eq_true.mp h3, List.all_eq_true.mp h4, h5, h6, He.eqO_ok h7, of_decide_eq_true h8, He.eqO_ok h9, He.eqO_ok h10⟩
  · have q := List.all_eq_true.mp h1 F hF
    rw [he] at q
    obtain ⟨q1, q2⟩ := He.ba q
    refine ⟨q1, fun x ex => ?_⟩
    rw [ex] at q2
    exact q2
  · have q := allI_at h2 hc
    rw [Nat.zero_add] at q
    exact q
theorem HeadOk.fun_ (h : HeadOk S Y) {f : Nat} {F : FnS} (hf : S.fns[f]? = some F) (he : F.err = false) : ∃ fd, FunD Y.K F.d.name F.d.qual F.d.params F.d.body F.d.scope (F.d.dvs Y.K) (F.d.kws Y.K) (fad S.nm Y.K f) fd := by
  have e : (S.fas Y.K).map (fnM Y.K) = S.val := h.val
  have e2 : ((S.fas Y.K).map (fnM Y.K))[f]? = S.val[f]? := by rw [e]
  unfold Src.fas Src.val at e2
  rw [List.getElem?_map, List.getElem?_map, List.getElem?_map, hf] at e2
  have e3 : fnM Y.K (fpA Y.K (F.d.at_, F.prop)) = defM F.d (if F.err then ["__class__"] else []) := Option.some.inj e2
  rw [he] at e3
  have ea : fad S.nm Y.K f = fpA Y.K (F.d.at_, F.prop) := by
    unfold fad Src.nm
    simp only [hf]
  rw [ea]
  exact funD_of e3 (h.parts.1 F (List.mem_of_getElem? hf) he).1
theorem nameOf_mem {β : Type} {m : Nat} {b : β} : ∀ {l : List (Nat × β)}, nameOf m l = some b → (m, b) ∈ l
  | [], h => by cases h
  | (k, c) :: r, h => by
    have h' : (if k = m then some c else nameOf m r) = some b := h
    by_cases e : k = m
    · rw [if_pos e] at h'
      cases h'
      rw [e]
      exact List.mem_cons_self
    · rw [if_neg e] at h'
      exact List.mem_cons_of_mem _ (nameOf_mem h')
theorem dvOf_rel {K : PySem.W.Frag} {d : D} (h : flat d = true) (g : Gh) (T : Tab) (nm : Nm) : Rep T nm K g d ((dvOf d).v K) := by
  cases d with
  | non => exact .non
  | bl b => exact .bl b
  | int i => exact .int i
  | str z => exact .str z
  | _ => cases h
theorem dvOf_reps {K : PySem.W.Frag} (g : Gh) (T : Tab) (nm : Nm) : ∀ {ds : List D}, ds.all flat = true → Reps T nm K g ds ((ds.map dvOf).map (He.Dv.v K))
  | [], _ => .nil
  | d :: ds, h => by
    obtain ⟨h1, h2⟩ := Bool.and_eq_true_iff.mp (show (flat d && ds.all flat) = true from h)
    exact .cons (dvOf_rel h1 g T nm) (dvOf_reps g T nm h2)
theorem conB_flat {K : PySem.W.Frag} {x : Str} {d : D} (n : ∀ ds, d ≠ .tup ds) (z : conB K x d = true) : flat d = true ∧ (match PySem.W.nsIn K mainGlobals x with
    | some (some u) => He.relB ((dvOf d).v K) u
    | _ => false) = true := by
  cases d with
  | tup ds => exact absurd rfl (n ds)
  | _ => exact He.ba z
theorem HeadOk.con_ (h : HeadOk S Y) {j : Nat} {q : Str × D} (hj : S.con[j]? = some q) : ConI Y S.T (nmE S me) j := by
  have z := h.parts.2.2.1 q (List.mem_of_getElem? hj)
  have ec : (nmE S me).con j = q.1 := by
    show (match S.con[j]? with
      | some q => q.1
      | none => "?") = q.1
    rw [hj]
  have ed : S.T.con j = q.2 := by
    show (match S.con[j]? with
      | some q => q.2
      | none => .non) = q.2
    rw [hj]
  unfold ConI
  rw [ec, ed]
  obtain ⟨x, d⟩ := q
  show ∃ u v, Y.mg x = some u ∧ RelV v u ∧ ∀ g, Rep S.T (nmE S me) Y.K g d v
  have flatc : flat d = true → (match PySem.W.nsIn Y.K mainGlobals x with
    | some (some u) => He.relB ((dvOf d).v Y.K) u
    | _ => false) = true → ∃ u v, Y.mg x = some u ∧ RelV v u ∧ ∀ g, Rep S.T (nmE S me) Y.K g d v := fun fl z => by
    cases e : PySem.W.nsIn Y.K mainGlobals x with
    | none => rw [e] at z; cases z
    | some o =>
      rw [e] at z
      cases o with
      | none => cases z
      | some u => exact ⟨u, _, PySem.W.mg_of h.kin h.glob e, He.relB_ok z, fun g => dvOf_rel fl g _ _⟩
  cases d with
  | tup ds =>
    obtain ⟨z1, z2⟩ := He.ba z
    obtain ⟨z2, z3⟩ := He.ba z2
    exact ⟨_, .ref (He.ga Y.K x), He.glo_ok h.kin h.glob z3, rfl, fun g => .tup (He.tupB_ok z2 _) (dvOf_reps g _ _ z1)⟩
  | non => exact flatc (conB_flat (fun _ y => by cases y) z).1 (conB_flat (fun _ y => by cases y) z).2
  | bl b => exact flatc (conB_flat (fun _ y => by cases y) z).1 (conB_flat (fun _ y => by cases y) z).2
  | int i => exact flatc (conB_flat (fun _ y => by cases y) z).1 (conB_flat (fun _ y => by cases y) z).2
  | str i => exact flatc (conB_flat (fun _ y => by cases y) z).1 (conB_flat (fun _ y => by cases y) z).2
  | _ => cases z
theorem HeadOk.kit_ (h : HeadOk S Y) : Kit Y S.T (nmE S me) := fun k t b hin hk => by
  have z := h.parts.2.2.2.2.1
  unfold kitB at z
  have z1 := List.all_eq_true.mp z t (by simpa using (show S.isi.contains t = true from hin))
  have hm : k ∈ kinds S := by
    unfold kinds
    cases k with
    | int => simp
    | bool => simp
    | str => simp
    | non => simp
    | tuple => simp
    | list => simp
    | ins c =>
      refine List.mem_append_right _ (List.mem_append_left _ (List.mem_map.mpr ⟨c, List.mem_range.mpr ?_, rfl⟩))
      cases e : S.cls[c]? with
      | some C => exact (List.getElem?_eq_some_iff.mp e).1
      | none =>
        have e' : S.T.cls c = none := e
        cases t <;> simp only [kdIs, e'] at hk <;> first | (cases hk; done) | (split at hk <;> cases hk)
    | exc c =>
      refine List.mem_append_right _ (List.mem_append_right _ (List.mem_map.mpr ⟨c, List.mem_range.mpr ?_, rfl⟩))
      cases e : S.cls[c]? with
      | some C => exact (List.getElem?_eq_some_iff.mp e).1
      | none =>
        have e' : S.T.cls c = none := e
        cases t <;> simp only [kdIs, e'] at hk <;> first | (cases hk; done) | (split at hk <;> cases hk)
  have z2 := List.all_eq_true.mp z1 k hm
  rw [hk] at z2
  exact of_decide_eq_true z2
theorem HeadOk.eri_ (h : HeadOk S Y) {c : Nat} (hc : c ∈ S.caught) : ErI Y S.T (nmE S me) c := fun j hj => by
  have z := h.parts.2.2.2.2.2.1
  unfold eriB at z
  obtain ⟨C, hC, _⟩ := isErr_some hj
  have z2 := List.all_eq_true.mp (List.all_eq_true.mp z c hc) j (List.mem_range.mpr (List.getElem?_eq_some_iff.mp (show S.cls[j]? = some C from hC)).1)
  rw [hj] at z2
  exact of_decide_eq_true (show decide (PySem.W.exmOne Y.K (.ref (cad S.nm Y.K j)) (.ref (cad S.nm Y.K c)) = some (under S.T j c)) = true from z2)
theorem HeadOk.clsP (h : HeadOk S Y) {c : Nat} {C : Ev.Cls} (hC : S.cls[c]? = some C) (he : C.exc = false) : clsB S Y.K c C = true := by
  have z := h.parts.2.1 c C hC
  rw [he] at z
  exact z
theorem HeadOk.erP (h : HeadOk S Y) {c : Nat} {C : Ev.Cls} (hC : S.cls[c]? = some C) (he : C.exc = true) : erB S Y.K c C = true ∧ erM S Y.K c C = true := by
  have z := h.parts.2.1 c C hC
  rw [he] at z
  exact He.ba z
theorem HeadOk.mgc_ (h : HeadOk S Y) {c : Nat} {C : Ev.Cls} (hC : S.cls[c]? = some C) : Y.mg (S.nm.cls c) = some (.ref (cad S.nm Y.K c)) := by
  cases he : C.exc with
  | false => exact He.glo_ok h.kin h.glob (He.ba (h.clsP hC he)).1
  | true => exact He.glo_ok h.kin h.glob (He.ba (h.erP hC he).1).1
theorem wf_at (hw : S.wf = true) {c : Nat} {C : Ev.Cls} (hC : S.cls[c]? = some C) : (if C.exc then (match C.fields with
    | [] => !C.cat
    | _ => (match S.fns[C.init]? with
      | some F => F.err && decide (F.d.at_ = (S.nm.cls c, some ("__init__" : Str))) && !F.prop
      | none => false)) else (match S.fns[C.init]? with
      | some F => !F.err && (decide (F.fn.ini = some c) && (decide (F.fn.np = C.np) && C.dfl.isEmpty))
      | none => false) && (C.meths.all (fun q => (match S.fns[q.2]? with
        | some F => !F.err && F.fn.ini.isNone
        | none => false)) && C.props.all (fun q => (match S.fns[q.2]? with
        | some F => !F.err && (F.fn.ini.isNone && decide (F.fn.np = 1))
        | none => false)))) = true := by
  unfold Src.wf at hw
  have z := allI_at (He.ba hw).1 hC
  rw [Nat.zero_add] at z
  exact z
theorem wf_top (hw : S.wf = true) : (S.prog.main.scope.names.lookup ("super" : Str)).isSome = false := by
  unfold Src.wf at hw
  have z := (He.ba hw).2
  simpa using z
end
end Snd
set_option Elab.async false
set_option linter.all false
set_option maxRecDepth 100000
/-! SndI: all functions of a law. -/
namespace Snd
open PySem PySem.Spec PyProof.Rows L2 Ev
section
variable {S : Src} {Y : Core} {me : Option (Addr × Addr)}
theorem HeadOk.cl_ (h : HeadOk S Y) (hw : S.wf = true) {cf : Nat → List D → Sto → R D} {k : Nat} (hfn : ∀ f F, S.fns[f]? = some F → F.err = false → F.fn.ini = none → FnI Y S.T (nmE S me) cf k f F.fn.np) {c : Nat} {C : Ev.Cls} (hC : S.cls[c]? = some C) (he : C.exc = false) : ClI Y S.T (nmE S me) cf k c C := by
  have z := h.clsP hC he
  have wf := wf_at hw hC
  rw [he] at wf
  unfold clsB at z
  obtain ⟨z1, z⟩ := He.ba z
  obtain ⟨z2, z⟩ := He.ba z
  obtain ⟨z3, z⟩ := He.ba z
  obtain ⟨z4, z⟩ := He.ba z
  obtain ⟨z5, z⟩ := He.ba z
  obtain ⟨z6, z⟩ := He.ba z
  obtain ⟨z7, z⟩ := He.ba z
  obtain ⟨z8, z⟩ := He.ba z
  obtain ⟨z9, z10⟩ := He.ba z
  obtain ⟨wf1, wf2⟩ := He.ba wf
  obtain ⟨wf2, wf3⟩ := He.ba wf2
  refine ⟨He.cls_ok z2, He.eqO_ok z3, h.parts.2.2.2.2.2.2.1, h.parts.2.2.2.2.2.2.2.1, of_decide_eq_true z4, of_decide_eq_true z5, of_decide_eq_true z6, fun m hm => He.eqO_ok (List.all_eq_true.mp z7 m hm), fun m f hm => ?_, fun m f hm => ?_⟩
  · have mm := nameOf_mem hm
    have y := List.all_eq_true.mp z8 _ mm
    obtain ⟨y1, y⟩ := He.ba y
    obtain ⟨y2, y⟩ := He.ba y
    obtain ⟨y3, y4⟩ := He.ba y
    refine ⟨⟨He.eqO_ok y1, y2, y3⟩, of_decide_eq_true y4, ?_⟩
    have q := List.all_eq_true.mp wf2 _ mm
    cases e : S.fns[f]? with
    | none => simp only [e] at q; cases q
    | some F =>
      simp only [e] at q
      obtain ⟨q1, q2⟩ := He.ba q
      exact ⟨_, hfn f F e (by simpa using q1) (by simpa using q2)⟩
  · have mm := nameOf_mem hm
    have y := List.all_eq_true.mp z9 _ mm
    have q := List.all_eq_true.mp wf3 _ mm
    refine ⟨?_, ?_⟩
    · cases e : PySem.W.findIn Y.K (.ref (cad S.nm Y.K c)) (S.nm.attr m) with
      | none => simp only [e] at y; cases y
      | some o =>
        cases o with
        | none => simp only [e] at y; cases y
        | some u =>
          cases u with
          | ref p =>
            simp only [e] at y
            obtain ⟨y1, y⟩ := He.ba y
            obtain ⟨y2, y3⟩ := He.ba y
            refine ⟨p, e, He.eqO_ok y1, of_decide_eq_true y2, ?_⟩
            cases e2 : PySem.W.recIn Y.K p "property" with
            | none => simp only [e2] at y3; cases y3
            | some l =>
              simp only [e2] at y3
              cases l with
              | nil => cases y3
              | cons a r =>
                cases a with
                | ref g =>
                  have eg : g = fad S.nm Y.K f := of_decide_eq_true y3
                  exact ⟨r, by rw [eg]; rfl⟩
                | _ => cases y3
          | _ => simp only [e] at y; cases y
    · cases e : S.fns[f]? with
      | none => simp only [e] at q; cases q
      | some F =>
        simp only [e] at q
        obtain ⟨q1, q2⟩ := He.ba q
        obtain ⟨q2, q3⟩ := He.ba q2
        have en : F.fn.np = 1 := of_decide_eq_true q3
        rw [← en]
        exact hfn f F e (by simpa using q1) (by simpa using q2)
theorem HeadOk.made_ (h : HeadOk S Y) {c : Nat} {C : Ev.Cls} (hC : S.cls[c]? = some C) (he : C.exc = false) : Mk Y.K (cad S.nm Y.K c) (fad S.nm Y.K C.init) := by
  have z := h.clsP hC he
  unfold clsB at z
  obtain ⟨z1, z⟩ := He.ba z
  obtain ⟨z2, z⟩ := He.ba z
  obtain ⟨z3, z⟩ := He.ba z
  obtain ⟨z4, z⟩ := He.ba z
  obtain ⟨z5, z⟩ := He.ba z
  obtain ⟨z6, z⟩ := He.ba z
  obtain ⟨z7, z⟩ := He.ba z
  obtain ⟨z8, z⟩ := He.ba z
  obtain ⟨z9, z⟩ := He.ba z
  obtain ⟨z10, z11⟩ := He.ba z
  have e : fad S.nm Y.K C.init = He.ma Y.K (He.ga Y.K (S.nm.cls c)) "__init__" := of_decide_eq_true z11
  rw [e]
  exact He.mkr_ok z10
theorem HeadOk.xc_ (h : HeadOk S Y) {c : Nat} {C : Ev.Cls} (hC : S.cls[c]? = some C) (he : C.exc = true) : XcI Y S.T (nmE S me) c C := by
  have z := (h.erP hC he).1
  unfold erB at z
  obtain ⟨z1, z⟩ := He.ba z
  obtain ⟨z2, z⟩ := He.ba z
  obtain ⟨z3, z⟩ := He.ba z
  obtain ⟨z4, z⟩ := He.ba z
  obtain ⟨z5, z⟩ := He.ba z
  obtain ⟨z6, z⟩ := He.ba z
  obtain ⟨z7, z⟩ := He.ba z
  obtain ⟨z8, z⟩ := He.ba z
  obtain ⟨z9, z⟩ := He.ba z
  obtain ⟨z10, z11⟩ := He.ba z
  exact ⟨⟨He.eqO_ok z5, He.eqO_ok z6, of_decide_eq_true z3, z7, He.eqO_ok z8, h.parts.2.2.2.2.2.2.1, h.parts.2.2.2.2.2.2.2.1, of_decide_eq_true z9⟩, of_decide_eq_true z10, fun m hm => He.eqO_ok (List.all_eq_true.mp z11 m hm)⟩
theorem HeadOk.er_ (h : HeadOk S Y) (hw : S.wf = true) (good : ∀ (c : Nat) (C : Ev.Cls) (F : FnS), S.cls[c]? = some C → C.exc = true → C.fields ≠ [] → S.fns[C.init]? = some F → GoodE (C.fields.map S.nm.attr) C.cat F.d) {c : Nat} {C : Ev.Cls} (hC : S.cls[c]? = some C) (he : C.exc = true) : ErC Y S.T (nmE S me) c C := by
  obtain ⟨z, zm⟩ := h.erP hC he
  unfold erB at z
  obtain ⟨z1, z⟩ := He.ba z
  obtain ⟨z2, z⟩ := He.ba z
  obtain ⟨z3, z⟩ := He.ba z
  obtain ⟨z4, z⟩ := He.ba z
  obtain ⟨z5, z⟩ := He.ba z
  obtain ⟨z6, z⟩ := He.ba z
  obtain ⟨z7, z⟩ := He.ba z
  obtain ⟨z8, z⟩ := He.ba z
  obtain ⟨z9, z⟩ := He.ba z
  obtain ⟨z10, z11⟩ := He.ba z
  refine ⟨z2, of_decide_eq_true z3, of_decide_eq_true z4, ?_⟩
  have wf := wf_at hw hC
  rw [he] at wf
  unfold erM at zm
  cases ef : C.fields with
  | nil =>
    rw [ef] at zm
    exact .inl ⟨rfl, zm⟩
  | cons m0 ms =>
    rw [ef] at zm wf
    have hne : C.fields ≠ [] := by rw [ef]; exact List.cons_ne_nil _ _
    have hfn : fnames S.T (nmE S me) c = C.fields.map S.nm.attr := by
      unfold fnames
      rw [show S.T.cls c = some C from hC]
      rfl
    refine .inr ⟨List.cons_ne_nil _ _, fad S.nm Y.K C.init, ?_⟩
    rw [hfn]
    obtain ⟨y1, y⟩ := He.ba zm
    obtain ⟨y2, y⟩ := He.ba y
    obtain ⟨y3, y⟩ := He.ba y
    obtain ⟨y4, y⟩ := He.ba y
    obtain ⟨y5, y⟩ := He.ba y
    obtain ⟨y6, y⟩ := He.ba y
    obtain ⟨y7, y⟩ := He.ba y
    obtain ⟨y8, y⟩ := He.ba y
    obtain ⟨y9, y10⟩ := He.ba y
    have nd : (C.fields.map S.nm.attr).Nodup := of_decide_eq_true z10
    cases e : S.fns[C.init]? with
    | none => simp only [e] at wf; cases wf
    | some F =>
      simp only [e] at wf
      obtain ⟨w1, w3⟩ := He.ba wf
      obtain ⟨w1, w2⟩ := He.ba w1
      have G := good c C F hC he hne e
      have ev : fnM Y.K (fad S.nm Y.K C.init) = defM F.d ["__class__"] := by
        have e0 : (S.fas Y.K).map (fnM Y.K) = S.val := h.val
        have e2 : ((S.fas Y.K).map (fnM Y.K))[C.init]? = S.val[C.init]? := by rw [e0]
        unfold Src.fas Src.val at e2
        rw [List.getElem?_map, List.getElem?_map, List.getElem?_map, e] at e2
        have e3 : fnM Y.K (fpA Y.K (F.d.at_, F.prop)) = defM F.d (if F.err then ["__class__"] else []) := Option.some.inj e2
        rw [show F.err = true from w1] at e3
        have ea : fad S.nm Y.K C.init = fpA Y.K (F.d.at_, F.prop) := by
          unfold fad Src.nm
          simp only [e]
        rw [ea]
        exact e3
      have cls : ∃ nm q N bs bm sn sub ab col dd k0 k1 k2 k3 k5, Y.K.lookup (cad S.nm Y.K c) = some (excClassObj nm q (cad S.nm Y.K c) N bs bm true sn sub ab col dd k0 k1 k2 k3 k5 "ValueError.__new__") ∧ PySem.HandSPX.refsVE bm = true ∧ PySem.W.alongIn Y.K "__init__" bm = some (some (.builtin "ValueError.__init__")) := by
        split at y1
        · rename_i dd cd sl ho
          split at y1
          · rename_i C' bm k0 k1 k2 k3 n k5 hm hs
            simp only [Bool.and_eq_true, beq_iff_eq, Bool.not_eq_true'] at y1
            obtain ⟨rfl, rfl, hdel, hdict, hrefs, hal⟩ := y1
            obtain ⟨nm, bs, mro, ns, qn, hd, sn, sub, ab, col, del⟩ := cd
            dsimp only at hm hdel hdict
            subst hm hdel hdict
            have hsl : sl = #[k0, k1, k2, k3, some (.builtin "ValueError.__new__"), k5] := by
              obtain ⟨l⟩ := sl
              simp only at hs
              rw [hs]
            subst hsl
            exact ⟨nm, qn, ns, bs, bm, sn, sub, ab, col, dd, k0, k1, k2, k3, k5, ho, hrefs, He.eqO_ok hal⟩
          · cases y1
        · cases y1
      have hclsIn : ∃ cdD, PySem.W.clsIn Y.K (cad S.nm Y.K c) = some cdD := by
        obtain ⟨nm, q, N, bs, bm, sn, sub, ab, col, dd, k0, k1, k2, k3, k5, hl, _⟩ := cls
        exact ⟨_, by unfold PySem.W.clsIn; rw [hl]⟩
      refine ⟨cls, He.eqO_ok y2, He.eqO_ok y3, of_decide_eq_true y4, z2, of_decide_eq_true z3, of_decide_eq_true y5, of_decide_eq_true y6, of_decide_eq_true z4, fun f hf => ?_, nd, ?_, fun hm => ?_, fun f hf => ?_, h.parts.2.2.2.2.2.2.2.2.1, h.parts.2.2.2.2.2.2.2.2.2, ?_, ?_⟩
      · obtain ⟨m, hm, em⟩ := List.mem_map.mp hf
        rw [← em]
        exact He.eqO_ok (List.all_eq_true.mp z11 m hm)
      · rw [List.length_map, ef]
        exact of_decide_eq_true y7
      · rw [ef] at hm
        have y8' := y8
        simp only [Bool.not_eq_true'] at y8'
        rw [List.contains_eq_mem] at y8'
        exact absurd hm (of_decide_eq_false y8')
      · rw [ef] at hf
        have q := List.all_eq_true.mp y9 f hf
        simpa using q
      · rw [h.prog]
        exact wf_top hw
      · split at y10
        · rename_i oc od fd osl ho
          split at y10
          · rename_i yn cc cda hcl hco
            obtain ⟨v1, v⟩ := He.ba y10
            obtain ⟨v0, v⟩ := He.ba v
            obtain ⟨v2, v⟩ := He.ba v
            obtain ⟨v3, v4⟩ := He.ba v
            have ynm : yn = ("__class__" : Str) := beq_iff_eq.mp v1
            unfold fnM at ev
            rw [ho] at ev
            obtain ⟨n1, n2, n3, n4, n5, n6, n7, n8, n9, n10, n11, n12, n13, n14, n15⟩ := fd
            dsimp only at hcl hco v3 v0
            have v0' : n8 = .none := by
              unfold noneV at v0
              split at v0
              · rfl
              · cases v0
            subst hcl hco
            subst ynm
            have e2 : (some (n1, n2, n3, n4, n5, n6, [("__class__" : Str)], n15) : FnM) = (some (F.d.name, F.d.qual, F.d.params, FuncBody.stmts F.d.body, F.d.scope, mainGlobals, [("__class__" : Str)], builtinsNs) : FnM) := ev
            simp only [Option.some.injEq, Prod.mk.injEq] at e2
            obtain ⟨h1, h2, h3, h4, h5, h6, h7, h8⟩ := e2
            subst h1 h2 h3 h4 h5 h6 h8
            split at v2
            · rename_i cl0 cd0 D0 csl hcell
              have eD : D0 = cad S.nm Y.K c := beq_iff_eq.mp v2
              subst eD
              split at v4
              · rename_i ccl cdd cvs ccs hcda
                split at v4
                · rename_i file tf hfile
                  obtain ⟨cdD, hcd⟩ := hclsIn
                  obtain ⟨ar, har, hae⟩ := G.head
                  have gb := G.bind n8 n9 n10 n11 n12 (.ref cda) n14 cc
                  have body := G.body
                  have hn := G.nam
                  generalize F.d.body = bd at body gb ho
                  generalize F.d.name = nm1 at hn gb ho
                  cases body with
                  | @mk p0 p1 p2 p3 p4 te b hl ht ha =>
                    subst hn
                    exact ⟨_, _, _, _, _, _, _, _, _, _, _, _, _, _, _, _, p0, p1, p2, p3, p4, _, _, _, _, _, _, _, _, _, cdD, ar, ho, v3, ht, ha, G.scp, hcda, hfile, by rw [h.prog]; exact v4, hcell, hcd, har, hae, hl, fun us hu => gb us hu v0'⟩
                · cases v4
              · cases v4
            · cases v2
          · cases y10
        · cases y10

/-- what the text of a law must bring -/
structure Good (S : Src) (Y : Core) : Prop where
  wf : S.wf = true
  er : ∀ (c : Nat) (C : Ev.Cls) (F : FnS), S.cls[c]? = some C → C.exc = true → C.fields ≠ [] → S.fns[C.init]? = some F → GoodE (C.fields.map S.nm.attr) C.cat F.d
  fn : ∀ (f : Nat) (F : FnS), S.fns[f]? = some F → F.err = false → GoodF S Y F
theorem fnOk_no {k f np : Nat} {cf : Nat → List D → Sto → R D} {nm : Nm} {T : Ev.Tab} {fa : Addr} {fd : FuncData} {ps : List Str} (h : ∀ ds st, cf f ds st = .no) : FnOk Y.prog Y.w Y.K Y.mg Y.base (L2.CX Y.prog Y.w) k fa fd ps (SP T nm Y.K cf np f) := by
  refine ⟨fun vs H Q E ⟨_, g, ds, st, _, _, _, o⟩ => ?_, fun A outer s H args us vs Q E _ _ _ _ ⟨_, g, ds, st, _, _, _, o⟩ => ?_⟩
  · rw [h] at o
    exact o.elim
  · rw [h] at o
    exact o.elim
theorem fnOkI_no {k f np c : Nat} {cf : Nat → List D → Sto → R D} {nm : Nm} {T : Ev.Tab} {fa : Addr} {fd : FuncData} {ps : List Str} (h : ∀ ds st, cf f ds st = .no) : FnOk Y.prog Y.w Y.K Y.mg Y.base (L2.CX Y.prog Y.w) k fa fd ps (SPI T nm Y.K cf np f c) := by
  refine ⟨fun vs H Q E ⟨_, x, dx, g, ds, st, ws, _, _, _, _, _, _, o⟩ => ?_, fun A outer s H args us vs Q E _ _ _ _ ⟨_, x, dx, g, ds, st, ws, _, _, _, _, _, _, o⟩ => ?_⟩
  · rw [h] at o
    exact o.elim
  · rw [h] at o
    exact o.elim
/-- another table, the same at f -/
theorem sp_eq {f np : Nat} {cf cf' : Nat → List D → Sto → R D} {nm : Nm} {T : Ev.Tab} {K : PySem.W.Frag} (h : cf f = cf' f) : SP T nm K cf np f = SP T nm K cf' np f := by
  unfold SP
  rw [h]
theorem spi_eq {f np c : Nat} {cf cf' : Nat → List D → Sto → R D} {nm : Nm} {T : Ev.Tab} {K : PySem.W.Frag} (h : cf f = cf' f) : SPI T nm K cf np f c = SPI T nm K cf' np f c := by
  unfold SPI
  rw [h]
theorem tbl_suc {T : Ev.Tab} {l f : Nat} {fn : Fn} (h : T.fn f = some fn) : tbl T (l + 1) f = if fn.lv = l then runB T (tbl T l) fn else tbl T l f := by
  funext ds st
  show (match T.fn f with
    | some fn => if fn.lv = l then runB T (tbl T l) fn ds st else tbl T l f ds st
    | none => .no) = _
  rw [h]
  by_cases e : fn.lv = l
  · simp only [e, if_true]
  · simp only [e, if_false]
theorem src_fn {f : Nat} {F : FnS} (hf : S.fns[f]? = some F) (he : F.err = false) : S.T.fn f = some F.fn := by
  show (match S.fns[f]? with
    | some F => if F.err then none else some F.fn
    | none => none) = _
  rw [hf]
  show (if F.err then none else some F.fn) = _
  rw [he]
  rfl
theorem facts_of (h : HeadOk S Y) (G : Good S Y) {cf : Nat → List D → Sto → R D} {k : Nat} (hfn : ∀ f F, S.fns[f]? = some F → F.err = false → F.fn.ini = none → FnI Y S.T (nmE S me) cf k f F.fn.np)
    (hmk : ∀ c C, clsI S.T c = some C → MkI Y S.T (nmE S me) cf k c C) : Facts S Y (nmE S me) cf k where
  fn := hfn
  mk_ := hmk
  cl := fun c C hC he => h.cl_ G.wf hfn hC he
  er := fun c C hC he => h.er_ G.wf G.er hC he
  xc := fun c C hC he => h.xc_ hC he
  eri := fun c hc => h.eri_ hc
  kit := h.kit_
  con := fun j q hj => h.con_ hj
  mgf := fun f F x hf he hp ha => by
    have z := He.glo_ok h.kin h.glob ((h.parts.1 F (List.mem_of_getElem? hf) he).2 x ha)
    have e : fad S.nm Y.K f = He.ga Y.K x := by
      unfold fad Src.nm fpA
      simp only [hf, hp, ha]
      rfl
    show Y.mg x = some (.ref (fad S.nm Y.K f))
    rw [e]
    exact z
  mgc := fun c C hC => h.mgc_ hC
  free := fun x hx => He.free_ok h.kin h.glob (h.parts.2.2.2.1 x hx)
theorem all_facts (h : HeadOk S Y) (G : Good S Y) : ∀ (l : Nat) (me : Option (Addr × Addr)), Facts S Y (nmE S me) (tbl S.T l) (2 * l + 2) := by
  have fnd : ∀ f F, S.fns[f]? = some F → F.err = false → ∃ fd, FunD Y.K F.d.name F.d.qual F.d.params F.d.body F.d.scope [] [] (fad S.nm Y.K f) fd ∧ Binds Y.K fd F.ps [] := fun f F hf he => by
    obtain ⟨fd, FD⟩ := h.fun_ hf he
    have gf := G.fn f F hf he
    have e1 : F.d.dvs Y.K = [] := by unfold He.DefD.dvs; rw [gf.dfl.1]; rfl
    have e2 : F.d.kws Y.K = [] := by unfold He.DefD.kws; rw [gf.dfl.2]; rfl
    rw [e1, e2] at FD
    exact ⟨fd, FD, FD.bindsN gf.bind⟩
  have inis : ∀ c C, clsI S.T c = some C → ∃ F, S.fns[C.init]? = some F ∧ F.err = false ∧ F.fn.ini = some c ∧ F.fn.np = C.np ∧ C.dfl = [] := fun c C hC => by
    obtain ⟨hC, he⟩ := clsI_some hC
    have wf := wf_at G.wf (show S.cls[c]? = some C from hC)
    rw [he] at wf
    obtain ⟨wf1, _⟩ := He.ba wf
    cases e : S.fns[C.init]? with
    | none => simp only [e] at wf1; cases wf1
    | some F =>
      simp only [e] at wf1
      obtain ⟨q1, q⟩ := He.ba wf1
      obtain ⟨q2, q⟩ := He.ba q
      obtain ⟨q3, q4⟩ := He.ba q
      exact ⟨F, rfl, by simpa using q1, of_decide_eq_true q2, of_decide_eq_true q3, by simpa using q4⟩
  intro l
  induction l with
  | zero =>
    intro me
    refine facts_of h G (fun f F hf he hi => ?_) (fun c C hC => ?_)
    · obtain ⟨fd, FD, b⟩ := fnd f F hf he
      have gf := G.fn f F hf he
      exact ⟨FD.kp, fd, F.ps, fnOk_no fun _ _ => rfl, b, by rw [gf.n1, hi]; rfl⟩
    · obtain ⟨F, hf, he, hi, hnp, hd⟩ := inis c C hC
      obtain ⟨fd, FD, b⟩ := fnd _ F hf he
      refine ⟨h.made_ (clsI_some hC).1 (clsI_some hC).2, fd, F.ps, fnOkI_no fun _ _ => rfl, fun n hn => ⟨[], [], b, .nil, fun g => ?_⟩⟩
      unfold mis
      rw [hd]
      simp only [List.drop_nil]
      exact .nil
  | succ l ih =>
    intro me
    refine facts_of h G (fun f F hf he hi => ?_) (fun c C hC => ?_)
    · obtain ⟨fd, FD, b⟩ := fnd f F hf he
      have gf := G.fn f F hf he
      have np : F.ps.length = F.fn.np := by rw [gf.n1, hi]; rfl
      have ht := tbl_suc (l := l) (src_fn hf he)
      by_cases z : F.fn.lv = l
      · rw [if_pos z] at ht
        have q := fn_sp (Y := Y) (T := S.T) (nm := nmE S me) (k := 2 * l + 2 + 1) (cf := tbl S.T (l + 1)) FD gf.sc ht hi np gf.n2 gf.n3 fun cdv A outer s H E hr => gf.body me _ _ (ih me) _ cdv A outer s H E hr
        exact ⟨FD.kp, fd, F.ps, q.mono (by omega), b, np⟩
      · rw [if_neg z] at ht
        obtain ⟨kp, fd', ps', q, b', np'⟩ := (ih me).fn f F hf he hi
        refine ⟨kp, fd', ps', ?_, b', np'⟩
        rw [sp_eq ht]
        exact q.mono (by omega)
    · obtain ⟨F, hf, he, hi, hnp, hd⟩ := inis c C hC
      obtain ⟨fd, FD, b⟩ := fnd _ F hf he
      have gf := G.fn _ F hf he
      have np : F.ps.length = F.fn.np + 1 := by rw [gf.n1, hi]; rfl
      have ht := tbl_suc (l := l) (src_fn hf he)
      have mi : ∀ n, mis C n = [] := fun n => by
        unfold mis
        rw [hd]
        simp only [List.drop_nil]
      by_cases z : F.fn.lv = l
      · rw [if_pos z] at ht
        have q := fn_spi (Y := Y) (T := S.T) (nm := nmE S me) (k := 2 * l + 2 + 1) (cf := tbl S.T (l + 1)) FD gf.sc ht hi (clsI_some hC).1 np gf.n2 fun p dx cdv A outer s H E hr => gf.body (some (p, dx)) _ _ (ih (some (p, dx))) _ cdv A outer s H E hr
        rw [hnp] at q
        exact ⟨h.made_ (clsI_some hC).1 (clsI_some hC).2, fd, F.ps, q.mono (by omega), fun n hn => ⟨[], [], b, .nil, fun g => by rw [mi]; exact .nil⟩⟩
      · rw [if_neg z] at ht
        obtain ⟨mk, fd', ps', q, b'⟩ := (ih me).mk_ c C hC
        refine ⟨mk, fd', ps', ?_, b'⟩
        rw [spi_eq ht]
        exact q.mono (by omega)

/-! ### the end -/
/-- what lets nothing out -/
theorem fnOk_quiet {P : Program} {w : World} {K : PySem.W.Frag} {mg : Str → Option Value} {base : Heap} {k : Nat} {fa : Addr} {fd : FuncData} {ps : List Str} {sp : Sp} (F : FnOk P w K mg base (L2.CX P w) k fa fd ps sp) : FnOk P w K mg base L2.CX0 k fa fd ps (fun vs H Q _ => sp vs H Q fun _ _ _ => False) :=
  ⟨fun vs H Q E h => F.len vs H Q _ h, fun A outer s H args us vs Q E hr e0 hb r h => codeAny_mono (F.run A outer s H args us vs Q _ hr e0 hb r h) fun r s' z => by
    cases r with
    | ok fl =>
      cases fl with
      | ret u => exact z
      | next => exact z
      | brk => exact z
      | cont => exact z
    | error e =>
      obtain ⟨_, _, _, _, _, _, _, _, _, _, _, _, y⟩ := z
      exact y.elim⟩
/-- all that stands stays -/
def gAll (H : Hp) : Gh := fun b => (H b).map Tag.imm
theorem gAll_im {H : Hp} : imH (gAll H) = H := by
  funext b
  unfold imH gAll
  cases H b <;> rfl
theorem mt0_all {T : Ev.Tab} {nm : Nm} {K : PySem.W.Frag} {H : Hp} : Mt0 T nm K (gAll H) [] H := by
  have z : ∀ a t, gAll H a = some t → ∃ o, t = .imm o ∧ H a = some o := fun a t e => by
    unfold gAll at e
    cases q : H a with
    | none => rw [q] at e; cases e
    | some o => rw [q] at e; cases e; exact ⟨o, rfl, rfl⟩
  refine ⟨fun a o e => ?_, fun a o e => ?_, fun k ob e => by simp at e, fun a k e => ?_, fun a b k e1 e2 => ?_, fun a t e => ?_⟩
  · obtain ⟨o', e1, e2⟩ := z a _ e
    cases e1
    exact e2
  · obtain ⟨o', e1, e2⟩ := z a _ e
    cases e1
  · obtain ⟨o', e1, e2⟩ := z a _ e
    cases e1
  · obtain ⟨o', e3, e4⟩ := z a _ e1
    cases e3
  · obtain ⟨o', e1, e2⟩ := z a _ e
    exact ⟨o', e2⟩
theorem law_walk {l : PySem.W.OpenLaw} {S : Src} {q : Program} {loose : List Str} {XP : (Str → Option Value) → Heap → Prop} {d : DefRec} {n f m : Nat} {F : FnS} {x : Str} (hn : l.most = some n) (hn2 : n ≤ sizeLine) (hdf : d.params.defaults = []) (hr : Room (2 * F.fn.lv + 4) callerA)
    (hf : S.fns[f]? = some F) (he : F.err = false) (hi : F.fn.ini = none) (hps : F.ps = [x]) (hat : F.d.at_ = (d.name, none)) (hpr : F.prop = false) (hprog : l.prog = S.prog) (good : ∀ Y : Core, Good S Y)
    (law : ∀ ns : List Int, ns.length ≤ n → ∃ st, Ev.call S.T f [.scr ns] [] = .ok (.bl true) st) :
    PySem.W.WalkO q loose XP (hookM m S.ck S.fas S.val).says l.row.toRowW d [] (fun f vs => PySem.call f vs) := by
  refine L2.walk_ofE (l := l) (n := n) (k := 2 * F.fn.lv + 4) (x := x) (CX := L2.CX0) hn hn2 hdf hr ?_ (fun _ _ _ _ z => z)
  intro w mg fa h Y G hmg
  obtain ⟨K, KX, c1, c2⟩ := Y
  have e0 : He.FnW = He.FnW := rfl
  have efa : ∀ base : Heap, K.In base → base.Ns mainGlobals mg → HeadOk S ⟨l.prog, w, K, mg, base⟩ := fun base kb gb => ⟨c1, c2, kb, gb, hprog⟩
  have H0 : HeadOk S ⟨l.prog, w, K, mg, h⟩ := efa h KX G
  have gf := (good ⟨l.prog, w, K, mg, h⟩).fn f F hf he
  obtain ⟨fd, FD⟩ := H0.fun_ hf he
  have e1 : F.d.dvs K = [] := by unfold He.DefD.dvs; rw [gf.dfl.1]; rfl
  have e2 : F.d.kws K = [] := by unfold He.DefD.kws; rw [gf.dfl.2]; rfl
  have FD2 : FunD K F.d.name F.d.qual F.d.params F.d.body F.d.scope [] [] (fad S.nm K f) fd := by
    have z := FD
    show FunD K F.d.name F.d.qual F.d.params F.d.body F.d.scope [] [] (fad S.nm K f) fd
    rw [← e1, ← e2]
    exact z
  have hfa : fa = fad S.nm K f := by
    have z := (facts_of (me := none) H0 (good _) (all_facts H0 (good _) 0 none).fn (all_facts H0 (good _) 0 none).mk_).mgf f F d.name hf he hpr hat
    have z2 : mg d.name = some (.ref (fad S.nm K f)) := z
    rw [hmg] at z2
    cases z2
    rfl
  subst hfa
  obtain ⟨oc, od, dV, kV, doc, pm, an, cdv, ct, osl, efd, lk, hcd, _, _⟩ := FD2.ex
  refine ⟨K, fd, fun vs H Q _ => SP S.T (nmE S none) K (Ev.call S.T) F.fn.np f vs H Q fun _ _ _ => False, KX, fun s u => ?_, fun H a ns hl _ hS => ?_, fun base kb gb => ?_⟩
  · have b := FunD.bindsA (ps := F.ps) FD2 gf.bind s [u] (by rw [hps]; rfl)
    rw [hps] at b
    exact b
  · obtain ⟨st, e⟩ := law ns hl
    have np : F.fn.np = 1 := by
      have z := gf.n1
      rw [hps, hi] at z
      exact z.symm
    refine ⟨by rw [np]; rfl, gAll H, [.scr ns], [], fun a i e => ?_, mt0_all, .cons (.scr (by rw [gAll_im]; exact hS)) .nil, ?_⟩
    · unfold gAll at e
      cases q : H a with
      | none => rw [q] at e; cases e
      | some o => rw [q] at e; cases e
    · rw [e]
      intro g' v H' _ _ r
      cases r
      rfl
  · have np : F.ps.length = F.fn.np := by rw [gf.n1, hi]; rfl
    have ht : Ev.call S.T f = runB S.T (tbl S.T F.fn.lv) F.fn := by
      rw [← tbl_eq S.T (l := F.fn.lv + 1) (src_fn hf he) (Nat.lt_succ_self _), tbl_suc (src_fn hf he), if_pos rfl]
    have q := fn_sp (Y := ⟨l.prog, w, K, mg, base⟩) (T := S.T) (nm := nmE S none) (k := 2 * F.fn.lv + 2 + 1) (cf := Ev.call S.T) FD2 gf.sc ht hi np gf.n2 gf.n3 fun cdv A outer s H E hr => ((good ⟨l.prog, w, K, mg, base⟩).fn f F hf he).body none _ _ (all_facts (efa base kb gb) (good _) F.fn.lv none) _ cdv A outer s H E hr
    have q2 := fnOk_quiet q
    rw [hps] at q2
    exact q2
end
end Snd
set_option Elab.async false
set_option linter.all false
set_option maxRecDepth 100000
/-! SndJ: the rules, as a program's terms use them. -/
namespace Snd
open PySem PySem.Spec PyProof.Rows L2 Ev
/-! ### side conditions -/
def plainX : Expr → Bool
  | .Starred _ _ => false
  | _ => true
def plainXs : List Expr → Bool
  | [] => true
  | e :: r => plainX e && plainXs r
theorem star_of {e : Expr} {es : List Expr} {env : Env} (h : plainX e = true) : starEach (e :: es) env = (false, eval e env) :: starEach es env := by
  cases e <;> first | rfl | cases h
theorem stars_of : ∀ {es : List Expr} {env : Env} {pos : Pos}, plainXs es = true → (backTo pos (starEach es env)).any (·.1) = false
  | [], _, _, _ => rfl
  | e :: es, env, pos, h => by
    obtain ⟨h1, h2⟩ := He.ba h
    rw [star_of h1]
    exact stars_of h2
def noComp : Expr → Bool
  | .ListComp _ _ _ _ => false
  | .SetComp _ _ _ _ => false
  | .DictComp _ _ _ _ _ => false
  | _ => true
theorem swaps_of {e : Expr} {t : Option Expr} {l : Nat} {env : Env} (h : noComp e = true) : swapsWith e t l env = pure false := by
  cases e <;> first | rfl | cases h
def noCall : Expr → Bool
  | .Call _ _ _ _ => false
  | _ => true
theorem abase_of {e : Expr} {x : Str} {env : Env} (h : noCall e = true) : attributeBase e x env (eval e env) = eval e env := by
  cases e <;> first | rfl | cases h
def noSet : Expr → Bool
  | .Set _ _ _ => false
  | _ => true
theorem noSet_of {e : Expr} (h : noSet e = true) : ∀ es k p, e ≠ .Set es k p := fun es k p z => by
  subst z
  cases h
def noSlice : Expr → Bool
  | .Slice _ _ _ _ => false
  | _ => true
theorem noSlice_of {e : Expr} (h : noSlice e = true) : ∀ l u s p, e ≠ .Slice l u s p := fun l u s p z => by
  subst z
  cases h
/-- a test that is asked by its value -/
def byVal : Expr → Bool
  | .UnaryOp .Not _ _ => false
  | .BoolOp _ _ _ => false
  | .IfExp _ _ _ _ => false
  | .Compare _ _ _ _ => false
  | .NamedExpr _ _ _ => false
  | _ => true
/-- a name of the def -/
def okLoc (sc : Scope) (x : Str) : Bool := decide (sc.names.lookup x = some .local) && (!(x == ("__debug__" : Str)) && !(x == ("__classdict__" : Str)))
theorem okLoc_vis {sc : Scope} {x : Str} (h : okLoc sc x = true) : Vis sc x ∧ Loc sc x ∧ sc.names.lookup x = some .local ∧ (x == ("__debug__" : Str)) = false ∧ (x == ("__classdict__" : Str)) = false := by
  obtain ⟨h1, h⟩ := He.ba h
  obtain ⟨h2, h3⟩ := He.ba h
  have e := of_decide_eq_true h1
  exact ⟨.inl e, .inl e, e, by simpa using h2, by simpa using h3⟩
def okGlo (sc : Scope) (x : Str) : Bool := decide (sc.names.lookup x = some .globalImplicit) && !(x == ("__debug__" : Str))
theorem okGlo_of {X : Cx} {x : Str} (h : okGlo X.env.scope x = true) : Gl X x ∧ (x == ("__debug__" : Str)) = false := by
  obtain ⟨h1, h2⟩ := He.ba h
  exact ⟨show X.env.scope.names.lookup x = some .globalImplicit from of_decide_eq_true h1, by simpa using h2⟩
/-! ### a context -/
structure Ct (S : Src) (X : Cx) (W : WX) (nm : Nm) (cf : Nat → List D → Sto → R D) (k : Nat) : Prop where
  f : Facts S (co X) nm cf k
  r : Room (k + 1) X.A
  t : Takes X W
  c : X.calm = true
  ex : nm.ex = none
  nd : X.N.Nodup
  fn : ∀ x, X.fn x = true
  hs : X.stack = X.env :: X.outer
  hf : X.env.frame = some X.env.locals
  ops : InsOps X S.T nm W cf
  cmp : InsCmp X S.T nm W cf
  ix : InsIx X S.T nm W cf
section
variable {S : Src} {X : Cx} {W : WX} {nm : Nm} {cf : Nat → List D → Sto → R D} {k : Nat} {pos : Pos}
theorem Ct.clI (c : Ct S X W nm cf k) : ∀ c C, S.T.cls c = some C → C.exc = false → ClI (co X) S.T nm cf k c C := fun i C h e => c.f.cl i C h e
theorem insOps_none (h : S.bop = [] ∧ S.rop = []) : InsOps X S.T nm W cf := fun op pins s σ H g0 g ρ st d e x y u w Q hd I m ld le rx ry l0 o => by
  have b : ∀ c o, S.T.bop c o = none := fun c o => by
    show look2 c o S.bop = none
    rw [h.1]
    rfl
  have r : ∀ c o, S.T.rop c o = none := fun c o => by
    show look2 c o S.rop = none
    rw [h.2]
    rfl
  rcases hd with ⟨c, ds, e1⟩ | ⟨i, c, ds, e1, e2⟩
  · subst e1
    simp only [binE, b] at o
    exact o.elim
  · subst e1 e2
    simp only [binE, r] at o
    exact o.elim
theorem insCmp_none (h : S.cop = []) : InsCmp X S.T nm W cf := fun op pins s σ H g0 g ρ st c ds e x y u w Q ⟨f, hf⟩ => by
  have z : look2 c op S.cop = some f := hf
  rw [h] at z
  cases z
theorem insIx_none (h : S.get = []) : InsIx X S.T nm W cf := fun value slice pins s σ H g0 g ρ st c ds e x y u w Q I m ld le rx ry l0 o => by
  have z : S.T.get c = none := by
    show nameOf c S.get = none
    rw [h]
    rfl
  cases e <;> simp only [ixE, z] at o <;> exact o.elim
/-! ### rules -/
def notVar : E → Bool
  | .var _ => false
  | _ => true
theorem b_of {e : Expr} {a : E} (h : PE X e (tE S.T nm X.K cf W a)) (n : notVar a = true := by rfl) : PE X e (tB S.T nm X.K cf W a) := sb_of h fun i z => by
  subst z
  cases n
theorem x_str {x : Str} {s : List Nat} {j} (h : x = strOf s := by rfl) : PE X (.Constant (.str x) j pos) (tE S.T nm X.K cf W (.str s)) := se_str h
theorem x_var {i : Nat} {x : Str} (hN : X.N[i]? = some x := by rfl) (h : okLoc X.env.scope x = true := by rfl) : PE X (.Name x pos) (tE S.T nm X.K cf W (.var i)) := by
  obtain ⟨h1, _, _, h4, h5⟩ := okLoc_vis h
  exact se_var hN h1 h4 h5
theorem b_var {i : Nat} {x : Str} (hN : X.N[i]? = some x := by rfl) (h : okLoc X.env.scope x = true := by rfl) : PE X (.Name x pos) (tB S.T nm X.K cf W (.var i)) := by
  obtain ⟨h1, _, _, h4, h5⟩ := okLoc_vis h
  exact sb_var hN h1 h4 h5
theorem x_con (c : Ct S X W nm cf k) {j : Nat} {q : Str × D} {x : Str} (hj : S.con[j]? = some q := by rfl) (hx : x = nm.con j := by rfl) (h : okGlo X.env.scope x = true := by rfl) : PE X (.Name x pos) (tE S.T nm X.K cf W (.con j)) := by
  obtain ⟨h1, h2⟩ := okGlo_of h
  exact se_con (c.f.con j q hj) hx h1 h2
theorem xa_nil : PA X [] (tA S.T nm X.K cf W .nil) := sa_nil
theorem xa_cons {e : Expr} {es : List Expr} {a : E} {as : Es} (ha : PE X e (tE S.T nm X.K cf W a)) (hr : PA X es (tA S.T nm X.K cf W as)) (h : plainX e = true := by rfl) : PA X (e :: es) (tA S.T nm X.K cf W (.cons a as)) := sa_cons ha hr (star_of h)
theorem xl_nil : PA X [] (tL S.T nm X.K cf W .nil) := sl_nil
theorem xl_cons {e : Expr} {es : List Expr} {a : E} {as : Es} (ha : PE X e (tB S.T nm X.K cf W a)) (hr : PA X es (tL S.T nm X.K cf W as)) (h : plainX e = true := by rfl) : PA X (e :: es) (tL S.T nm X.K cf W (.cons a as)) := sl_cons ha hr (star_of h)
theorem x_call (c : Ct S X W nm cf k) {f : Nat} {F : FnS} {x : Str} {p : Pos} {e : Expr} {es : List Expr} {as : Es} (hf : S.fns[f]? = some F) (ha : PA X (e :: es) (tA S.T nm X.K cf W as)) (he : F.err = false := by rfl) (hi : F.fn.ini = none := by rfl) (hp : F.prop = false := by rfl) (hat : F.d.at_ = (x, none) := by rfl)
    (h : okGlo X.env.scope x = true := by rfl) (hl : as.len = F.fn.np := by rfl) (hp1 : plainX e = true := by rfl) (hp2 : plainXs es = true := by rfl) : PE X (.Call (.Name x p) (e :: es) [] pos) (tE S.T nm X.K cf W (.call f as)) := by
  obtain ⟨h1, h2⟩ := okGlo_of h
  exact se_call (c.f.fn f F hf he hi) ⟨c.r.hd, by have := c.r.dp; omega, by have := c.r.un; omega⟩ c.t h1 (c.f.mgf f F x hf he hp hat) hl ha h2 (star_of hp1) (stars_of hp2)
theorem x_call0 (c : Ct S X W nm cf k) {f : Nat} {F : FnS} {x : Str} {p : Pos} (hf : S.fns[f]? = some F) (he : F.err = false := by rfl) (hi : F.fn.ini = none := by rfl) (hp : F.prop = false := by rfl) (hat : F.d.at_ = (x, none) := by rfl)
    (h : okGlo X.env.scope x = true := by rfl) (hl : F.fn.np = 0 := by rfl) : PE X (.Call (.Name x p) [] [] pos) (tE S.T nm X.K cf W (.call f .nil)) := by
  obtain ⟨h1, h2⟩ := okGlo_of h
  have z := c.f.fn f F hf he hi
  rw [hl] at z
  exact se_call0 z ⟨c.r.hd, by have := c.r.dp; omega, by have := c.r.un; omega⟩ c.t h1 (c.f.mgf f F x hf he hp hat) h2
theorem x_make (c : Ct S X W nm cf k) {i : Nat} {C : Ev.Cls} {x : Str} {p : Pos} {e : Expr} {es : List Expr} {as : Es} (hC : S.cls[i]? = some C) (ha : PA X (e :: es) (tA S.T nm X.K cf W as)) (hx : C.exc = false := by rfl) (hn : x = nm.cls i := by rfl)
    (h : okGlo X.env.scope x = true := by rfl) (hl : as.len + (mis C as.len).length = C.np := by rfl) (hp1 : plainX e = true := by rfl) (hp2 : plainXs es = true := by rfl) : PE X (.Call (.Name x p) (e :: es) [] pos) (tE S.T nm X.K cf W (.make i as)) := by
  obtain ⟨h1, h2⟩ := okGlo_of h
  have hI : clsI S.T i = some C := by
    unfold clsI
    rw [show S.T.cls i = some C from hC]
    show (if C.exc then none else some C) = some C
    rw [hx]
    rfl
  subst hn
  exact se_make hI (c.f.mk_ i C hI) c.r c.t h1 (c.f.mgc i C hC) hl ha h2 (star_of hp1) (stars_of hp2)
theorem x_attr (c : Ct S X W nm cf k) {e : Expr} {a : E} {m : Nat} {x : Str} (ha : PE X e (tB S.T nm X.K cf W a)) (hx : x = nm.attr m := by rfl) (hb : noCall e = true := by rfl) : PE X (.Attribute e x pos) (tE S.T nm X.K cf W (.attr a m)) :=
  se_attr ha hx c.clI c.ex c.r (abase_of hb)
theorem x_bin (c : Ct S X W nm cf k) {op : BO} {e1 e2 : Expr} {a b : E} (ha : PE X e1 (tB S.T nm X.K cf W a)) (hb : PE X e2 (tB S.T nm X.K cf W b)) : PE X (.BinOp e1 (opOf op) e2 pos) (tE S.T nm X.K cf W (.bin op a b)) := se_bin c.ops ha hb
theorem x_cmp (c : Ct S X W nm cf k) {op : CO} {e1 e2 : Expr} {a b : E} (ha : PE X e1 (tB S.T nm X.K cf W a)) (hb : PE X e2 (tB S.T nm X.K cf W b)) (hs : noSet e2 = true := by rfl) : PE X (.Compare e1 [copOf op] [e2] pos) (tE S.T nm X.K cf W (.cmp op a b)) := se_cmp c.cmp ha hb (noSet_of hs)
theorem t_cmp (c : Ct S X W nm cf k) {op : CO} {e1 e2 : Expr} {a b : E} (ha : PE X e1 (tB S.T nm X.K cf W a)) (hb : PE X e2 (tB S.T nm X.K cf W b)) (hs : noSet e2 = true := by rfl) : PT X (.Compare e1 [copOf op] [e2] pos) (tT S.T nm X.K cf W (.e (.cmp op a b))) := st_cmp c.cmp ha hb (noSet_of hs)
theorem x_chain (c : Ct S X W nm cf k) {op op' : CO} {e1 e2 e3 : Expr} {a b d : E} (ha : PE X e1 (tE S.T nm X.K cf W a)) (hb : PE X e2 (tE S.T nm X.K cf W b)) (hd : PE X e3 (tE S.T nm X.K cf W d)) (hs : noSet e3 = true := by rfl) : PE X (.Compare e1 [copOf op, copOf op'] [e2, e3] pos) (tE S.T nm X.K cf W (.chain op op' a b d)) := se_chain c.cmp ha hb hd (noSet_of hs)
theorem t_chain (c : Ct S X W nm cf k) {op op' : CO} {e1 e2 e3 : Expr} {a b d : E} (ha : PE X e1 (tE S.T nm X.K cf W a)) (hb : PE X e2 (tE S.T nm X.K cf W b)) (hd : PE X e3 (tE S.T nm X.K cf W d)) (hs : noSet e3 = true := by rfl) : PT X (.Compare e1 [copOf op, copOf op'] [e2, e3] pos) (tT S.T nm X.K cf W (.e (.chain op op' a b d))) := st_chain c.cmp ha hb hd (noSet_of hs)
theorem t_e {e : Expr} {a : E} (ha : PE X e (tB S.T nm X.K cf W a)) (h : byVal e = true := by rfl) : PT X e (tT S.T nm X.K cf W (.e a)) := st_e ha fun whole => by
  cases e <;> first | rfl | cases h | (rename_i o _ _; cases o <;> first | rfl | cases h)
theorem x_ix (c : Ct S X W nm cf k) {e1 e2 : Expr} {a b : E} (ha : PE X e1 (tB S.T nm X.K cf W a)) (hb : PE X e2 (tE S.T nm X.K cf W b)) (hs : noSlice e2 = true := by rfl) : PE X (.Subscript e1 e2 pos) (tE S.T nm X.K cf W (.ix a b)) := se_ix c.ix ha hb fun l h p => noSlice_of hs l h none p
/-- a class that isinstance is asked of -/
theorem x_ty (c : Ct S X W nm cf k) {x : Str} {id : String} {t : TY} (hv : bootBuiltins x = some (.type id)) (hx : x ∈ S.free) (hn : x ≠ "__name__") (ht : tyW nm X.K t = .ty id) (h : okGlo X.env.scope x = true) : PE X (.Name x pos) (tC (tyW nm X.K t)) := by
  obtain ⟨h1, h2⟩ := okGlo_of h
  rw [ht]
  exact pe_bltn h1 (c.f.free x hx) hv rfl hn h2
theorem x_cls (c : Ct S X W nm cf k) {x : Str} {i : Nat} {C : Ev.Cls} (hC : S.cls[i]? = some C) (hx : x = nm.cls i := by rfl) (h : okGlo X.env.scope x = true := by rfl) : PE X (.Name x pos) (tC (tyW nm X.K (.cls i))) := by
  obtain ⟨h1, h2⟩ := okGlo_of h
  subst hx
  exact pe_glob h1 (c.f.mgc i C hC) rfl h2
theorem x_isi1 (c : Ct S X W nm cf k) {p : Pos} {e1 e2 : Expr} {a : E} {t : TY} (hx : ("isinstance" : Str) ∈ S.free) (ha : PE X e1 (tB S.T nm X.K cf W a)) (ht : PE X e2 (tC (tyW nm X.K t))) (h : okGlo X.env.scope "isinstance" = true := by rfl) (h1 : plainX e1 = true := by rfl) (h2 : plainX e2 = true := by rfl) :
    PE X (.Call (.Name "isinstance" p) [e1, e2] [] pos) (tE S.T nm X.K cf W (.isi a [t])) := se_isi1 c.clI c.ex c.f.kit (okGlo_of h).1 (c.f.free _ hx) ha ht (star_of h1) (star_of h2)
theorem x_isi2 (c : Ct S X W nm cf k) {p pt : Pos} {e1 e2 e3 : Expr} {a : E} {t u : TY} {kk} (hx : ("isinstance" : Str) ∈ S.free) (ha : PE X e1 (tB S.T nm X.K cf W a)) (ht : PE X e2 (tC (tyW nm X.K t))) (hu : PE X e3 (tC (tyW nm X.K u))) (h : okGlo X.env.scope "isinstance" = true := by rfl) (h1 : plainX e1 = true := by rfl) (h2 : plainX e2 = true := by rfl) (h3 : plainX e3 = true := by rfl) :
    PE X (.Call (.Name "isinstance" p) [e1, .Tuple [e2, e3] kk pt] [] pos) (tE S.T nm X.K cf W (.isi a [t, u])) := se_isi2 c.clI c.ex c.f.kit (okGlo_of h).1 (c.f.free _ hx) ha ht hu (star_of h1) (star_of h2) (star_of h3)
theorem x_len (c : Ct S X W nm cf k) {p : Pos} {e : Expr} {as : Es} (hx : ("len" : Str) ∈ S.free) (ha : PA X [e] (tL S.T nm X.K cf W as)) (h : okGlo X.env.scope "len" = true := by rfl) (h1 : plainX e = true := by rfl) : PE X (.Call (.Name "len" p) [e] [] pos) (tE S.T nm X.K cf W (.bi .len as)) :=
  se_biB boot_len (okGlo_of h).1 (c.f.free _ hx) ha (by decide) (okGlo_of h).2 (star_of h1) rfl bi_len
theorem boot_ValueError : bootBuiltins "ValueError" = some (.type "ValueError") := by decide +kernel
theorem boot_int' : bootBuiltins "int" = some (.type "int") := by decide +kernel
theorem boot_list' : bootBuiltins "list" = some (.type "list") := by decide +kernel
theorem boot_tuple' : bootBuiltins "tuple" = some (.type "tuple") := by decide +kernel
theorem x_int (c : Ct S X W nm cf k) {p : Pos} {e : Expr} {as : Es} (hx : ("int" : Str) ∈ S.free) (ha : PA X [e] (tL S.T nm X.K cf W as)) (h : okGlo X.env.scope "int" = true := by rfl) (h1 : plainX e = true := by rfl) : PE X (.Call (.Name "int" p) [e] [] pos) (tE S.T nm X.K cf W (.bi .int as)) :=
  se_biT boot_int' (okGlo_of h).1 (c.f.free _ hx) ha (by decide) (okGlo_of h).2 (star_of h1) rfl bi_int
theorem x_list (c : Ct S X W nm cf k) {p : Pos} {e : Expr} {as : Es} (hx : ("list" : Str) ∈ S.free) (ha : PA X [e] (tL S.T nm X.K cf W as)) (h : okGlo X.env.scope "list" = true := by rfl) (h1 : plainX e = true := by rfl) : PE X (.Call (.Name "list" p) [e] [] pos) (tE S.T nm X.K cf W (.bi .list as)) :=
  se_biT boot_list' (okGlo_of h).1 (c.f.free _ hx) ha (by decide) (okGlo_of h).2 (star_of h1) rfl bi_list
theorem x_tuple (c : Ct S X W nm cf k) {p : Pos} {e : Expr} {as : Es} (hx : ("tuple" : Str) ∈ S.free) (ha : PA X [e] (tL S.T nm X.K cf W as)) (h : okGlo X.env.scope "tuple" = true := by rfl) (h1 : plainX e = true := by rfl) : PE X (.Call (.Name "tuple" p) [e] [] pos) (tE S.T nm X.K cf W (.bi .tuple as)) :=
  se_biT boot_tuple' (okGlo_of h).1 (c.f.free _ hx) ha (by decide) (okGlo_of h).2 (star_of h1) rfl bi_tuple
/-! ### statements -/
theorem y_set (c : Ct S X W nm cf k) {e : Expr} {a : E} {i : Nat} {x : Str} {p : Pos} (h : PE X e (tE S.T nm X.K cf W a)) (hi : X.N[i]? = some x := by rfl) (hx : okLoc X.env.scope x = true := by rfl) (hs : noComp e = true := by rfl) : PS X (.Assign [.Name x p] e pos) (tS S.T nm X.K cf W (.set i a)) := by
  obtain ⟨_, h2, h3, _, _⟩ := okLoc_vis hx
  exact ss_set c.nd hi h2 h (swaps_of hs) (.inr h3)
theorem y_own (c : Ct S X W nm cf k) {e : Expr} {a : E} {i : Nat} {x : Str} {p : Pos} (h : PE X e (tE S.T nm X.K cf W a)) (hi : X.N[i]? = some x := by rfl) (hx : okLoc X.env.scope x = true := by rfl) (hs : noComp e = true := by rfl) : PS X (.Assign [.Name x p] e pos) (tS S.T nm X.K cf W (.own i a)) := by
  obtain ⟨_, h2, h3, _, _⟩ := okLoc_vis hx
  exact ss_own c.nd hi h2 h (swaps_of hs) (.inr h3)
theorem y_expr {e : Expr} {a : E} (h : PE X e (tE S.T nm X.K cf W a)) (hs : noComp e = true := by rfl) : PS X (.Expr e pos) (tS S.T nm X.K cf W (.expr a)) := ss_expr h (swaps_of hs)
theorem y_retm {i : Nat} {x : Str} {p : Pos} (hN : X.N[i]? = some x := by rfl) (h : okLoc X.env.scope x = true := by rfl) : PS X (.Return (some (.Name x p)) pos) (tS S.T nm X.K cf W (.retm i)) := by
  obtain ⟨h1, _, _, h4, h5⟩ := okLoc_vis h
  exact ss_retm hN h1 h4 h5
theorem y_seti {e1 e2 e3 : Expr} {a b d : E} {p : Pos} (ha : PE X e1 (tE S.T nm X.K cf W a)) (hb : PE X e2 (tE S.T nm X.K cf W b)) (hd : PE X e3 (tE S.T nm X.K cf W d)) (hns : noSlice e2 = true := by rfl) (hsw : swapsWithSole [.Subscript e1 e2 p] e3 pos.line X.env = pure false := by rfl) (hst : swappedStores [.Subscript e1 e2 p] e3 X.env = pure none := by rfl) :
    PS X (.Assign [.Subscript e1 e2 p] e3 pos) (tS S.T nm X.K cf W (.seti a b d)) := ss_seti ha hb hd (noSlice_of hns) hsw hst
theorem y_setf (c : Ct S X W nm cf k) {e : Expr} {a : E} {m : Nat} {x f : Str} {p p' : Pos} (h : PE X e (tE S.T nm X.K cf W a)) (hN : X.N[0]? = some x := by rfl) (hx : okLoc X.env.scope x = true := by rfl) (hf : f = nm.attr m := by rfl) (hs : noComp e = true := by rfl) :
    PS X (.Assign [.Attribute (.Name x p) f p'] e pos) (tS S.T nm X.K cf W (.setf m a)) := by
  obtain ⟨h1, _, _, h4, h5⟩ := okLoc_vis hx
  exact ss_setf hN h1 h4 h5 hf c.clI h (swaps_of hs)
/-! ### raise, try -/
theorem y_raise (c : Ct S X W nm cf k) {i : Nat} {C : Ev.Cls} {x : Str} {p p2 : Pos} {e : Expr} {es : List Expr} {as : Es} (hC : S.cls[i]? = some C) (ha : PA X (e :: es) (tA S.T nm X.K cf W as)) (hx : C.exc = true := by rfl) (hf : C.fields ≠ [] := by exact List.cons_ne_nil _ _) (hn : x = nm.cls i := by rfl) (h : okGlo X.env.scope x = true := by rfl)
    (hp1 : plainX e = true := by rfl) (hp2 : plainXs es = true := by rfl) : PS X (.Raise (some (.Call (.Name x p) (e :: es) [] p2)) none pos) (tS S.T nm X.K cf W (.raise i as)) := by
  obtain ⟨h1, h2⟩ := okGlo_of h
  subst hn
  exact ss_raise hC c.c c.t (mk_own hC (c.f.er i C hC hx) hf c.r h1 (c.f.mgc i C hC) ha h2 (star_of hp1) (stars_of hp2))
theorem y_raise0 (c : Ct S X W nm cf k) {i : Nat} {C : Ev.Cls} {x : Str} {p p2 : Pos} (hC : S.cls[i]? = some C) (hx : C.exc = true := by rfl) (hf : C.fields = [] := by rfl) (hcat : C.cat = false := by rfl) (hn : x = nm.cls i := by rfl) (h : okGlo X.env.scope x = true := by rfl) :
    PS X (.Raise (some (.Call (.Name x p) [] [] p2)) none pos) (tS S.T nm X.K cf W (.raise i .nil)) := by
  obtain ⟨h1, h2⟩ := okGlo_of h
  subst hn
  exact ss_raise hC c.c c.t (mk_pass0 (c.f.er i C hC hx) hf hcat hx h1 (c.f.mgc i C hC) h2)
theorem y_raise1 (c : Ct S X W nm cf k) {i : Nat} {C : Ev.Cls} {x y : Str} {j : Nat} {p p2 p3 : Pos} (hC : S.cls[i]? = some C) (hx : C.exc = true := by rfl) (hf : C.fields = [] := by rfl) (hn : x = nm.cls i := by rfl) (h : okGlo X.env.scope x = true := by rfl) :
    PS X (.Raise (some (.Call (.Name x p) [.Constant (.str y) j p3] [] p2)) none pos) (tS S.T nm X.K cf W (.raise i .nil)) := by
  obtain ⟨h1, h2⟩ := okGlo_of h
  subst hn
  exact ss_raise hC c.c c.t (mk_pass1 (c.f.er i C hC hx) hf h1 (c.f.mgc i C hC) h2)
/-- what a law's operators bring, whatever the context -/
def OpsOk (S : Src) : Prop := ∀ (X : Cx) (W : WX) (nm : Nm) (cf : Nat → List D → Sto → R D) (k : Nat), Facts S (co X) nm cf k → Room (k + 1) X.A → Takes X W → nm.ex = none → InsOps X S.T nm W cf ∧ InsCmp X S.T nm W cf ∧ InsIx X S.T nm W cf
theorem opsOk_none (h : (S.bop.isEmpty && (S.rop.isEmpty && (S.cop.isEmpty && S.get.isEmpty))) = true) : OpsOk S := fun X W nm cf k _ _ _ _ => by
  obtain ⟨h1, h⟩ := He.ba h
  obtain ⟨h2, h⟩ := He.ba h
  obtain ⟨h3, h4⟩ := He.ba h
  exact ⟨insOps_none ⟨by simpa using h1, by simpa using h2⟩, insCmp_none (by simpa using h3), insIx_none (by simpa using h4)⟩
theorem Ct.tr (c : Ct S X W nm cf k) (o : OpsOk S) {pn : List (Addr × Obj)} {xe : Value → Shared → Prop} {W' : WX} (t : Takes (X.tr pn xe) W') : Ct S (X.tr pn xe) W' nm cf k := by
  have q := o (X.tr pn xe) W' nm cf k c.f c.r t c.ex
  exact ⟨c.f, c.r, t, c.c, c.ex, c.nd, c.fn, c.hs, c.hf, q.1, q.2.1, q.2.2⟩
theorem Ct.of {Y : Core} {N : List Str} {qual : Str} {scope : Scope} {fa : Addr} {cdv : Value} {A : Around} {outer : List Env} {s : Shared} {H : Hp} {E : XK} {me : Option (Addr × Addr)} (o : OpsOk S) (f : Facts S Y (nmE S me) cf k) (r : Room (k + 1) (A.deeper (envOfC qual scope s.heap.objs.size fa cdv))) (nd : N.Nodup) :
    Ct S (cxF Y N qual scope fa cdv A outer s H E) (wF E) (nmE S me) cf k := by
  have t : Takes (cxF Y N qual scope fa cdv A outer s H E) (wF E) := takes_of rfl rfl rfl rfl
  have q := o (cxF Y N qual scope fa cdv A outer s H E) (wF E) (nmE S me) cf k f r t rfl
  exact ⟨f, r, t, rfl, rfl, nd, fun _ => rfl, rfl, rfl, q.1, q.2.1, q.2.2⟩
/-- within a suite -/
structure Cs (S : Src) (X : Cx) (nm : Nm) (cf : Nat → List D → Sto → R D) (k : Nat) (a : Addr) (oe : Obj) (cls : Value) (d : Option Addr) : Prop where
  f : Facts S (co X) nm cf k
  nd : X.N.Nodup
  z : Zc cls d oe
  v : ∃ vs, oe.data = .fields vs
theorem y_tryAs (c : Ct S X W nm cf k) {i j : Nat} {C : Ev.Cls} {x n : Str} {np pos' : Pos} {body suite : List Stmt} {b₀ : Stmt} {b h : Ev.S} (o : OpsOk S) (hC : S.cls[j]? = some C) (hj : j ∈ S.caught)
    (hb : ∀ (W : WX) (pn : List (Addr × Obj)) (xe : Value → Shared → Prop), Ct S (X.tr pn xe) W nm cf k → PSs (X.tr pn xe) body (tS S.T nm X.K cf W b))
    (hsu : ∀ (a : Addr) (oe : Obj) (cls : Value) (d : Option Addr) (pn : List (Addr × Obj)), Cs S X nm cf k a oe cls d → PSs (X.suite a ((a, oe) :: pn)) (b₀ :: suite) (tS S.T (nmX nm a cls d) X.K cf WF h))
    (hi : X.N[i]? = some n := by rfl) (hx : okLoc X.env.scope n = true := by rfl) (hn : x = nm.cls j := by rfl) (hg : okGlo X.env.scope x = true := by rfl) :
    PS X (.Try body [.ExceptHandler (some (.Name x np)) (some n) (b₀ :: suite) pos'] [] [] pos) (tS S.T nm X.K cf W (.try_ b (.hnd j (some i) h .skip))) := by
  obtain ⟨h1, h2⟩ := okGlo_of hg
  subst hn
  exact ss_tryAs c.hs c.hf c.nd hi (okLoc_vis hx).2.2.1 c.t c.ex h1 h2 (c.f.mgc j C hC) (c.f.eri j hj) (fun W pn xe t => hb W pn xe (c.tr o t)) (fun a oe cls d pn z v => hsu a oe cls d pn ⟨c.f, c.nd, z, v⟩)
theorem y_tryOnly (c : Ct S X W nm cf k) {j : Nat} {C : Ev.Cls} {x : Str} {np pos' : Pos} {body suite : List Stmt} {b₀ : Stmt} {b h : Ev.S} (o : OpsOk S) (hC : S.cls[j]? = some C) (hj : j ∈ S.caught)
    (hb : ∀ (W : WX) (pn : List (Addr × Obj)) (xe : Value → Shared → Prop), Ct S (X.tr pn xe) W nm cf k → PSs (X.tr pn xe) body (tS S.T nm X.K cf W b))
    (hsu : ∀ (a : Addr) (oe : Obj) (cls : Value) (d : Option Addr) (pn : List (Addr × Obj)), Cs S X nm cf k a oe cls d → PSs (X.suite a ((a, oe) :: pn)) (b₀ :: suite) (tS S.T (nmX nm a cls d) X.K cf WF h))
    (hn : x = nm.cls j := by rfl) (hg : okGlo X.env.scope x = true := by rfl) :
    PS X (.Try body [.ExceptHandler (some (.Name x np)) none (b₀ :: suite) pos'] [] [] pos) (tS S.T nm X.K cf W (.try_ b (.hnd j none h .skip))) := by
  obtain ⟨h1, h2⟩ := okGlo_of hg
  subst hn
  exact ss_tryOnly c.hs c.hf c.t c.ex h1 h2 (c.f.mgc j C hC) (c.f.eri j hj) (fun W pn xe t => hb W pn xe (c.tr o t)) (fun a oe cls d pn z v => hsu a oe cls d pn ⟨c.f, c.nd, z, v⟩)
section
variable {a : Addr} {oe : Obj} {cls : Value} {d : Option Addr} {pn : List (Addr × Obj)}
theorem z_xat (c : Cs S X nm cf k a oe cls d) {i m : Nat} {x n : Str} {p : Pos} (hN : X.N[i]? = some n := by rfl) (h : okLoc X.env.scope n = true := by rfl) (hx : x = nm.attr m := by rfl) : PE (X.suite a ((a, oe) :: pn)) (.Attribute (.Name n p) x pos) (tE S.T (nmX nm a cls d) X.K cf W (.xat i m)) := by
  obtain ⟨h1, _, _, h4, h5⟩ := okLoc_vis h
  exact se_xat c.z c.v hN h1 h4 h5 hx (fun i C hC he => c.f.xc i C hC he) rfl
theorem z_xis (c : Cs S X nm cf k a oe cls d) {i : Nat} {t : TY} {n : Str} {p p2 : Pos} {e2 : Expr} (hx : ("isinstance" : Str) ∈ S.free) (ht : PE (X.suite a ((a, oe) :: pn)) e2 (tC (tyW nm X.K t))) (hN : X.N[i]? = some n := by rfl) (h : okLoc X.env.scope n = true := by rfl) (hg : okGlo X.env.scope "isinstance" = true := by rfl) (h2 : plainX e2 = true := by rfl) :
    PE (X.suite a ((a, oe) :: pn)) (.Call (.Name "isinstance" p2) [.Name n p, e2] [] pos) (tE S.T (nmX nm a cls d) X.K cf W (.xis i t)) := by
  obtain ⟨h1, _, _, h4, h5⟩ := okLoc_vis h
  exact se_xis c.z c.v hN h1 h4 h5 (fun i C hC he => c.f.xc i C hC he) c.f.kit (okGlo_of hg).1 (c.f.free _ hx) ht (star_of rfl) (star_of h2)
theorem z_ty (c : Cs S X nm cf k a oe cls d) {x : Str} {id : String} {t : TY} (hv : bootBuiltins x = some (.type id)) (hx : x ∈ S.free) (hn : x ≠ "__name__") (ht : tyW nm X.K t = .ty id) (h : okGlo X.env.scope x = true) : PE (X.suite a ((a, oe) :: pn)) (.Name x pos) (tC (tyW nm X.K t)) := by
  obtain ⟨h1, h2⟩ := okGlo_of h
  rw [ht]
  exact pe_bltn h1 (c.f.free x hx) hv rfl hn h2
theorem z_cls (c : Cs S X nm cf k a oe cls d) {x : Str} {i : Nat} {C : Ev.Cls} (hC : S.cls[i]? = some C) (hx : x = nm.cls i := by rfl) (h : okGlo X.env.scope x = true := by rfl) : PE (X.suite a ((a, oe) :: pn)) (.Name x pos) (tC (tyW nm X.K (.cls i))) := by
  obtain ⟨h1, h2⟩ := okGlo_of h
  subst hx
  exact pe_glob h1 (c.f.mgc i C hC) rfl h2
theorem z_set (c : Cs S X nm cf k a oe cls d) {e : Expr} {b : E} {i : Nat} {x : Str} {p : Pos} (h : PE (X.suite a ((a, oe) :: pn)) e (tE S.T (nmX nm a cls d) X.K cf W b)) (hi : X.N[i]? = some x := by rfl) (hx : okLoc X.env.scope x = true := by rfl) (hs : noComp e = true := by rfl) : PS (X.suite a ((a, oe) :: pn)) (.Assign [.Name x p] e pos) (tS S.T (nmX nm a cls d) X.K cf W (.set i b)) := by
  obtain ⟨_, h2, h3, _, _⟩ := okLoc_vis hx
  exact ss_set (X := X.suite a ((a, oe) :: pn)) c.nd hi h2 h (swaps_of hs) (.inr h3)
end
end
end Snd
set_option Elab.async false
set_option linter.all false
/-! Draw: what _law_draw answers (plain Lean). -/
namespace Ev
def drawB : S := (.seq (.ifs (.and (.e (.cmp .eq (.ix (.var 1) (.int 0)) (.int 0))) (.e (.cmp .lt (.ix (.var 1) (.int 1)) (.bi .len (.cons (.var 0) .nil))))) (.seq (.set 3 (.ix (.var 0) (.ix (.var 1) (.int 1)))) (.seq (.seti (.var 1) (.int 1) (.bin .add (.ix (.var 1) (.int 1)) (.int 1))) (.seq (.ifs (.e (.cmp .ge (.var 3) (.bin .pow (.int 10) (.int 18)))) (.seq (.seti (.var 1) (.int 0) (.var 3)) .skip) (.seq (.seti (.var 1) (.int 2) (.bin .mod (.bi .int (.cons (.bin .add (.bin .mul (.ix (.var 1) (.int 2)) (.int 69621)) (.var 3)) .nil)) (.int 2147483647))) .skip)) .skip))) .skip) (.seq (.ifs (.e (.cmp .gt (.ix (.var 1) (.int 0)) (.int 0))) (.seq (.set 4 (.bin .mod (.bi .int (.cons (.ix (.var 1) (.int 0)) .nil)) (.var 2))) (.seq (.seti (.var 1) (.int 0) (.bin .fdv (.ix (.var 1) (.int 0)) (.var 2))) (.seq (.ret (.var 4)) .skip))) .skip) (.seq (.seti (.var 1) (.int 3) (.bin .add (.ix (.var 1) (.int 3)) (.int 1))) (.seq (.seti (.var 1) (.int 2) (.bin .mod (.bi .int (.cons (.bin .add (.bin .add (.bin .mul (.ix (.var 1) (.int 2)) (.int 48271)) (.bin .mul (.ix (.var 1) (.int 3)) (.int 7919))) (.int 30103)) .nil)) (.int 2147483647))) (.seq (.set 5 (.bin .mod (.bi .int (.cons (.bin .mul (.ix (.var 1) (.int 2)) (.bin .add (.bin .fdv (.ix (.var 1) (.int 2)) (.int 1009)) (.int 69621))) .nil)) (.int 2147483647))) (.seq (.ret (.bin .mod (.bin .mod (.bi .int (.cons (.bin .mul (.var 5) (.bin .add (.bin .fdv (.var 5) (.int 2003)) (.int 40692))) .nil)) (.int 2147483399)) (.var 2))) .skip))))))
def drawFn (lv : Nat) : Fn := { np := 3, nl := 6, body := drawB, ini := none, lv := lv }
def st4 (a b c d : Int) : Sto := [.lst [.int a, .int b, .int c, .int d]]
def Draws (s : Sto) : Prop := ∃ a b c d, s = st4 a b c d ∧ 0 ≤ a ∧ 0 ≤ b ∧ 0 ≤ c ∧ c < 2147483647 ∧ 0 ≤ d
section
variable {T : Tab} {cf : Nat → List D → Sto → R D}
theorem mulOk_r {i j : Int} (h : small j = true) : mulOk i j = true := by
  unfold mulOk
  rw [h]
  simp
theorem mulOk_l {i j : Int} (h : small i = true) : mulOk i j = true := by
  unfold mulOk
  rw [h]
  simp
theorem small_of {i : Int} (h1 : -18446744073709551616 < i) (h2 : i < 18446744073709551616) : small i = true := by
  unfold small
  simp [h1, h2]
theorem fmod_lo {a m : Int} (h : 0 < m) : 0 ≤ a.fmod m := Int.fmod_nonneg_of_pos a h
theorem fmod_hi {a m : Int} (h : 0 < m) : a.fmod m < m := Int.fmod_lt_of_pos a h
/-- the second half of the draw -/
def drawT (many a b c d : Int) : Int × Sto :=
  let d1 := d + 1
  let c1 := (c * 48271 + d1 * 7919 + 30103).fmod 2147483647
  let n := (c1 * (c1.fdiv 1009 + 69621)).fmod 2147483647
  (((n * (n.fdiv 2003 + 40692)).fmod 2147483399).fmod many, st4 a b c1 d1)
def drawQ : S := (.seq (.ifs (.e (.cmp .gt (.ix (.var 1) (.int 0)) (.int 0))) (.seq (.set 4 (.bin .mod (.bi .int (.cons (.ix (.var 1) (.int 0)) .nil)) (.var 2))) (.seq (.seti (.var 1) (.int 0) (.bin .fdv (.ix (.var 1) (.int 0)) (.var 2))) (.seq (.ret (.var 4)) .skip))) .skip) (.seq (.seti (.var 1) (.int 3) (.bin .add (.ix (.var 1) (.int 3)) (.int 1))) (.seq (.seti (.var 1) (.int 2) (.bin .mod (.bi .int (.cons (.bin .add (.bin .add (.bin .mul (.ix (.var 1) (.int 2)) (.int 48271)) (.bin .mul (.ix (.var 1) (.int 3)) (.int 7919))) (.int 30103)) .nil)) (.int 2147483647))) (.seq (.set 5 (.bin .mod (.bi .int (.cons (.bin .mul (.ix (.var 1) (.int 2)) (.bin .add (.bin .fdv (.ix (.var 1) (.int 2)) (.int 1009)) (.int 69621))) .nil)) (.int 2147483647))) (.seq (.ret (.bin .mod (.bin .mod (.bi .int (.cons (.bin .mul (.var 5) (.bin .add (.bin .fdv (.var 5) (.int 2003)) (.int 40692))) .nil)) (.int 2147483399)) (.var 2))) .skip)))))
theorem small_lit (n : Nat) (h : n < 18446744073709551616) : small (n : Int) = true := small_of (by omega) (by omega)
theorem drawQ_pos {many a b c d : Int} {x : Option D} {ns : List Int} (ha : 0 < a) (hm : 0 < many) (hm2 : many < 1073741824) :
    exS T cf drawQ [some (.scr ns), some (.ref 0), some (.int many), x, none, none] (st4 a b c d) = .rt (.int (a.fmod many)) (st4 (a.fdiv many) b c d) := by
  have h1 : divOk many = true := by
    unfold divOk
    have : many.natAbs.log2 < 9000 := by
      have h3 : many.natAbs < 2 ^ 30 := by omega
      have := (Nat.log2_lt (by omega)).mpr h3
      omega
    simp [this]
    omega
  have h0 : many ≠ 0 := by omega
  simp [drawQ, exS, evE, evT, evL, evA, bor, rdV, rdB, ixE, atI, ixN, st4, cmpE, cmpD, truth, binE, binD, biE, biD, setiD, ha, h1, h0, fz]
theorem drawQ_zero {many a b c d : Int} {x : Option D} {ns : List Int} (ha : ¬ 0 < a) (hm : 0 < many) (hm2 : many < 1073741824) (hc : 0 ≤ c) (hc2 : c < 2147483647) (hd : 0 ≤ d) :
    exS T cf drawQ [some (.scr ns), some (.ref 0), some (.int many), x, none, none] (st4 a b c d) = .rt (.int (drawT many a b c d).1) (drawT many a b c d).2 := by
  have h0 : many ≠ 0 := by omega
  have m1 : mulOk c 48271 = true := mulOk_r (by decide)
  have m2 : ∀ z, mulOk z 7919 = true := fun z => mulOk_r (by decide)
  have m3 : ∀ z y, mulOk (Int.fmod z 2147483647) y = true := fun z y => mulOk_l (small_of (by have := fmod_lo (a := z) (m := 2147483647) (by decide); omega) (by have := fmod_hi (a := z) (m := 2147483647) (by decide); omega))
  have d1 : divOk 1009 = true := by decide
  have d2 : divOk 2003 = true := by decide
  simp [drawQ, exS, evE, evT, evL, evA, bor, rdV, rdB, ixE, atI, ixN, st4, cmpE, cmpD, truth, binE, binD, biE, biD, setiD, ha, m1, m2, m3, d1, d2, h0, fz, drawT]
def drawH : S := (.ifs (.and (.e (.cmp .eq (.ix (.var 1) (.int 0)) (.int 0))) (.e (.cmp .lt (.ix (.var 1) (.int 1)) (.bi .len (.cons (.var 0) .nil))))) (.seq (.set 3 (.ix (.var 0) (.ix (.var 1) (.int 1)))) (.seq (.seti (.var 1) (.int 1) (.bin .add (.ix (.var 1) (.int 1)) (.int 1))) (.seq (.ifs (.e (.cmp .ge (.var 3) (.bin .pow (.int 10) (.int 18)))) (.seq (.seti (.var 1) (.int 0) (.var 3)) .skip) (.seq (.seti (.var 1) (.int 2) (.bin .mod (.bi .int (.cons (.bin .add (.bin .mul (.ix (.var 1) (.int 2)) (.int 69621)) (.var 3)) .nil)) (.int 2147483647))) .skip)) .skip))) .skip)
theorem drawH_ok {many a b c d : Int} {ns : List Int} (h : 0 ≤ a ∧ 0 ≤ b ∧ 0 ≤ c ∧ c < 2147483647 ∧ 0 ≤ d) :
    ∃ x a' b' c', (0 ≤ a' ∧ 0 ≤ b' ∧ 0 ≤ c' ∧ c' < 2147483647) ∧ exS T cf drawH [some (.scr ns), some (.ref 0), some (.int many), none, none, none] (st4 a b c d) = .nx [some (.scr ns), some (.ref 0), some (.int many), x, none, none] (st4 a' b' c' d) := by
  obtain ⟨h1, h2, h3, h4, h5⟩ := h
  by_cases ha : a = 0
  · by_cases hb : b < (ns.length : Int)
    · subst ha
      have hb' : b.toNat < ns.length := by omega
      by_cases hx : 1000000000000000000 ≤ ns[b.toNat]
      · refine ⟨some (.int ns[b.toNat]), ns[b.toNat], b + 1, c, ⟨by omega, by omega, h3, h4⟩, ?_⟩
        simp [drawH, exS, evE, evT, evL, evA, bor, rdV, rdB, ixE, atI, ixN, st4, cmpE, cmpD, truth, binE, binD, biE, biD, setiD, fz, eqF, hb, h2, hb', small, hx]
      · refine ⟨some (.int ns[b.toNat]), 0, b + 1, (c * 69621 + ns[b.toNat]).fmod 2147483647, ⟨by omega, by omega, fmod_lo (by decide), fmod_hi (by decide)⟩, ?_⟩
        have m1 : mulOk c 69621 = true := mulOk_r (by decide)
        simp [drawH, exS, evE, evT, evL, evA, bor, rdV, rdB, ixE, atI, ixN, st4, cmpE, cmpD, truth, binE, binD, biE, biD, setiD, fz, eqF, hb, h2, hb', small, hx, m1]
    · refine ⟨none, a, b, c, ⟨h1, h2, h3, h4⟩, ?_⟩
      simp [drawH, exS, evE, evT, evL, evA, bor, rdV, rdB, ixE, atI, ixN, st4, cmpE, cmpD, truth, binE, binD, biE, biD, setiD, fz, eqF, hb, ha]
  · refine ⟨none, a, b, c, ⟨h1, h2, h3, h4⟩, ?_⟩
    simp [drawH, exS, evE, evT, evL, evA, bor, rdV, rdB, ixE, atI, ixN, st4, cmpE, cmpD, truth, binE, binD, biE, biD, setiD, fz, eqF, ha]
theorem draw_run {many : Int} {ns : List Int} {s : Sto} (h : Draws s) (hm : 0 < many) (hm2 : many < 1073741824) (lv : Nat) : ∃ n s', 0 ≤ n ∧ n < many ∧ Draws s' ∧ runB T cf (drawFn lv) [.scr ns, .ref 0, .int many] s = .ok (.int n) s' := by
  obtain ⟨a, b, c, d, rfl, h⟩ := h
  obtain ⟨x, a', b', c', ⟨q1, q2, q3, q4⟩, e⟩ := drawH_ok (T := T) (cf := cf) (many := many) (ns := ns) h
  have h5 := h.2.2.2.2
  have key : runB T cf (drawFn lv) [.scr ns, .ref 0, .int many] (st4 a b c d) = fin T none ((exS T cf drawH [some (.scr ns), some (.ref 0), some (.int many), none, none, none] (st4 a b c d)).then fun ρ st => exS T cf drawQ ρ st) := rfl
  rw [key, e]
  by_cases ha : 0 < a'
  · refine ⟨a'.fmod many, st4 (a'.fdiv many) b' c' d, fmod_lo hm, fmod_hi hm, ⟨_, _, _, _, rfl, Int.fdiv_nonneg (by omega) (by omega), q2, q3, q4, h5⟩, ?_⟩
    rw [then_nx, drawQ_pos ha hm hm2]
    rfl
  · refine ⟨(drawT many a' b' c' d).1, (drawT many a' b' c' d).2, fmod_lo hm, fmod_hi hm, ⟨_, _, _, _, rfl, q1, q2, fmod_lo (by decide), fmod_hi (by decide), by omega⟩, ?_⟩
    rw [then_nx, drawQ_zero ha hm hm2 q3 q4 h5]
    rfl
end
end Ev
set_option Elab.async false
set_option linter.all false
/-! EvS: the evaluator by simp (printed by mkEvS.py). -/
namespace Ev
section
variable {T : Tab} {cf : Nat → List D → Sto → R D} {ρ : Rho} {st : Sto}
@[simp] theorem bor_non {r : R D}  : bor (.non ) ρ st r = r := rfl
@[simp] theorem bor_bl {r : R D} {b} : bor (.bl b) ρ st r = r := rfl
@[simp] theorem bor_int {r : R D} {i} : bor (.int i) ρ st r = r := rfl
@[simp] theorem bor_str {r : R D} {s} : bor (.str s) ρ st r = r := rfl
@[simp] theorem bor_con {r : R D} {j} : bor (.con j) ρ st r = r := rfl
@[simp] theorem bor_neg {r : R D} {a} : bor (.neg a) ρ st r = r := rfl
@[simp] theorem bor_not {r : R D} {a} : bor (.not a) ρ st r = r := rfl
@[simp] theorem bor_bin {r : R D} {o a b} : bor (.bin o a b) ρ st r = r := rfl
@[simp] theorem bor_cmp {r : R D} {o a b} : bor (.cmp o a b) ρ st r = r := rfl
@[simp] theorem bor_chain {r : R D} {o p a b c} : bor (.chain o p a b c) ρ st r = r := rfl
@[simp] theorem bor_and {r : R D} {a b} : bor (.and a b) ρ st r = r := rfl
@[simp] theorem bor_or {r : R D} {a b} : bor (.or a b) ρ st r = r := rfl
@[simp] theorem bor_ite {r : R D} {t a b} : bor (.ite t a b) ρ st r = r := rfl
@[simp] theorem bor_call {r : R D} {f as} : bor (.call f as) ρ st r = r := rfl
@[simp] theorem bor_make {r : R D} {c as} : bor (.make c as) ρ st r = r := rfl
@[simp] theorem bor_meth {r : R D} {m a as} : bor (.meth m a as) ρ st r = r := rfl
@[simp] theorem bor_attr {r : R D} {a m} : bor (.attr a m) ρ st r = r := rfl
@[simp] theorem bor_bi {r : R D} {b as} : bor (.bi b as) ρ st r = r := rfl
@[simp] theorem bor_isi {r : R D} {a ts} : bor (.isi a ts) ρ st r = r := rfl
@[simp] theorem bor_tup {r : R D} {as} : bor (.tup as) ρ st r = r := rfl
@[simp] theorem bor_lst {r : R D} {as} : bor (.lst as) ρ st r = r := rfl
@[simp] theorem bor_ix {r : R D} {a i} : bor (.ix a i) ρ st r = r := rfl
@[simp] theorem bor_sl {r : R D} {a l h} : bor (.sl a l h) ρ st r = r := rfl
@[simp] theorem bor_nop {r : R D}  : bor (.nop ) ρ st r = r := rfl
@[simp] theorem bor_comp {r : R D} {i e s t} : bor (.comp i e s t) ρ st r = r := rfl
@[simp] theorem bor_fst {r : R D} {as} : bor (.fst as) ρ st r = r := rfl
@[simp] theorem bor_sto {r : R D} {a} : bor (.sto a) ρ st r = r := rfl
@[simp] theorem bor_xat {r : R D} {i m} : bor (.xat i m) ρ st r = r := rfl
@[simp] theorem bor_xis {r : R D} {i t} : bor (.xis i t) ρ st r = r := rfl
@[simp] theorem bor_var {r : R D} {i : Nat} : bor (.var i) ρ st r = R.of (rdB ρ i) st := rfl
def pkB : Option (Option D) → Option D
  | some (some d) => some d
  | _ => none
def pkV : Option (Option D) → Option D
  | some (some (.own _)) => none
  | some (some (.obj _ _)) => none
  | some (some (.exc _ _)) => none
  | some (some d) => some d
  | _ => none
@[simp] theorem pkB_some {d : D} : pkB (some (some d)) = some d := rfl
@[simp] theorem rdB_pk {i : Nat} : rdB ρ i = pkB ρ[i]? := by
  unfold rdB pkB
  split <;> simp_all
@[simp] theorem rdV_pk {i : Nat} : rdV ρ i = pkV ρ[i]? := by
  unfold rdV pkV
  split <;> simp_all
@[simp] theorem pkV_non  : pkV (some (some (.non ))) = some (.non ) := rfl
@[simp] theorem pkV_bl {b} : pkV (some (some (.bl b))) = some (.bl b) := rfl
@[simp] theorem pkV_int {i} : pkV (some (some (.int i))) = some (.int i) := rfl
@[simp] theorem pkV_str {s} : pkV (some (some (.str s))) = some (.str s) := rfl
@[simp] theorem pkV_tup {ds} : pkV (some (some (.tup ds))) = some (.tup ds) := rfl
@[simp] theorem pkV_lst {ds} : pkV (some (some (.lst ds))) = some (.lst ds) := rfl
@[simp] theorem pkV_scr {ns} : pkV (some (some (.scr ns))) = some (.scr ns) := rfl
@[simp] theorem pkV_ins {c ds} : pkV (some (some (.ins c ds))) = some (.ins c ds) := rfl
@[simp] theorem pkV_ref {k} : pkV (some (some (.ref k))) = some (.ref k) := rfl
@[simp] theorem evE_non  : evE T cf (.non ) ρ st = .ok (.non) st := rfl
@[simp] theorem evE_bl {b : Bool} : evE T cf (.bl b) ρ st = .ok (.bl b) st := rfl
@[simp] theorem evE_int {i : Int} : evE T cf (.int i) ρ st = .ok (.int i) st := rfl
@[simp] theorem evE_str {s : List Nat} : evE T cf (.str s) ρ st = .ok (.str s) st := rfl
@[simp] theorem evE_var {i : Nat} : evE T cf (.var i) ρ st = R.of (rdV ρ i) st := rfl
@[simp] theorem evE_con {i : Nat} : evE T cf (.con i) ρ st = .ok (T.con i) st := rfl
def kNeg (T : Tab) (cf : Nat → List D → Sto → R D)  (r : R D) : R D := r.bind fun x st => negE T cf x st
@[simp] theorem kNeg_ok  {x : D} {st : Sto} : kNeg T cf  (.ok x st) = negE T cf x st := rfl
@[simp] theorem kNeg_er  {x : Xn} {st : Sto} : kNeg T cf  (.er x st) = .er x st := rfl
@[simp] theorem kNeg_no  : kNeg T cf  .no = .no := rfl
@[simp] theorem evE_neg {a : E} : evE T cf (.neg a) ρ st = kNeg T cf (evE T cf a ρ st) := rfl
def kNot  (r : R D) : R D := r.bind fun x st => R.of ((truth x).map fun b => .bl (!b)) st
@[simp] theorem kNot_ok  {x : D} {st : Sto} : kNot  (.ok x st) = R.of ((truth x).map fun b => .bl (!b)) st := rfl
@[simp] theorem kNot_er  {x : Xn} {st : Sto} : kNot  (.er x st) = .er x st := rfl
@[simp] theorem kNot_no  : kNot  .no = .no := rfl
@[simp] theorem evE_not {a : E} : evE T cf (.not a) ρ st = kNot (bor a ρ st (evE T cf a ρ st)) := rfl
def kBin2 (T : Tab) (cf : Nat → List D → Sto → R D) (o : BO) (z : D) (r : R D) : R D := r.bind fun x st => binE T cf o z x st
@[simp] theorem kBin2_ok {o : BO} {z : D} {x : D} {st : Sto} : kBin2 T cf o z (.ok x st) = binE T cf o z x st := rfl
@[simp] theorem kBin2_er {o : BO} {z : D} {x : Xn} {st : Sto} : kBin2 T cf o z (.er x st) = .er x st := rfl
@[simp] theorem kBin2_no {o : BO} {z : D} : kBin2 T cf o z .no = .no := rfl
def kBin1 (T : Tab) (cf : Nat → List D → Sto → R D) (o : BO) (b : E) (ρ : Rho) (r : R D) : R D := r.bind fun x st => kBin2 T cf o x (bor b ρ st (evE T cf b ρ st))
@[simp] theorem kBin1_ok {o : BO} {b : E} {ρ : Rho} {x : D} {st : Sto} : kBin1 T cf o b ρ (.ok x st) = kBin2 T cf o x (bor b ρ st (evE T cf b ρ st)) := rfl
@[simp] theorem kBin1_er {o : BO} {b : E} {ρ : Rho} {x : Xn} {st : Sto} : kBin1 T cf o b ρ (.er x st) = .er x st := rfl
@[simp] theorem kBin1_no {o : BO} {b : E} {ρ : Rho} : kBin1 T cf o b ρ .no = .no := rfl
@[simp] theorem evE_bin {o : BO} {a b : E} : evE T cf (.bin o a b) ρ st = kBin1 T cf o b ρ (bor a ρ st (evE T cf a ρ st)) := rfl
def kBl  (r : R Bool) : R D := r.bind fun x st => .ok (.bl x) st
@[simp] theorem kBl_ok  {x : Bool} {st : Sto} : kBl  (.ok x st) = .ok (.bl x) st := rfl
@[simp] theorem kBl_er  {x : Xn} {st : Sto} : kBl  (.er x st) = .er x st := rfl
@[simp] theorem kBl_no  : kBl  .no = .no := rfl
def kCmp2 (T : Tab) (cf : Nat → List D → Sto → R D) (o : CO) (z : D) (r : R D) : R D := r.bind fun x st => kBl (cmpE T cf o z x st)
@[simp] theorem kCmp2_ok {o : CO} {z : D} {x : D} {st : Sto} : kCmp2 T cf o z (.ok x st) = kBl (cmpE T cf o z x st) := rfl
@[simp] theorem kCmp2_er {o : CO} {z : D} {x : Xn} {st : Sto} : kCmp2 T cf o z (.er x st) = .er x st := rfl
@[simp] theorem kCmp2_no {o : CO} {z : D} : kCmp2 T cf o z .no = .no := rfl
def kCmp1 (T : Tab) (cf : Nat → List D → Sto → R D) (o : CO) (b : E) (ρ : Rho) (r : R D) : R D := r.bind fun x st => kCmp2 T cf o x (bor b ρ st (evE T cf b ρ st))
@[simp] theorem kCmp1_ok {o : CO} {b : E} {ρ : Rho} {x : D} {st : Sto} : kCmp1 T cf o b ρ (.ok x st) = kCmp2 T cf o x (bor b ρ st (evE T cf b ρ st)) := rfl
@[simp] theorem kCmp1_er {o : CO} {b : E} {ρ : Rho} {x : Xn} {st : Sto} : kCmp1 T cf o b ρ (.er x st) = .er x st := rfl
@[simp] theorem kCmp1_no {o : CO} {b : E} {ρ : Rho} : kCmp1 T cf o b ρ .no = .no := rfl
@[simp] theorem evE_cmp {o : CO} {a b : E} : evE T cf (.cmp o a b) ρ st = kCmp1 T cf o b ρ (bor a ρ st (evE T cf a ρ st)) := rfl
def kCh4 (T : Tab) (cf : Nat → List D → Sto → R D) (p : CO) (y : D) (r : R D) : R D := r.bind fun x st => kBl (cmpE T cf p y x st)
@[simp] theorem kCh4_ok {p : CO} {y : D} {x : D} {st : Sto} : kCh4 T cf p y (.ok x st) = kBl (cmpE T cf p y x st) := rfl
@[simp] theorem kCh4_er {p : CO} {y : D} {x : Xn} {st : Sto} : kCh4 T cf p y (.er x st) = .er x st := rfl
@[simp] theorem kCh4_no {p : CO} {y : D} : kCh4 T cf p y .no = .no := rfl
def kCh3 (T : Tab) (cf : Nat → List D → Sto → R D) (p : CO) (y : D) (c : E) (ρ : Rho) (r : R Bool) : R D := r.bind fun x st => if x then kCh4 T cf p y (evE T cf c ρ st) else .ok (.bl false) st
@[simp] theorem kCh3_ok {p : CO} {y : D} {c : E} {ρ : Rho} {x : Bool} {st : Sto} : kCh3 T cf p y c ρ (.ok x st) = if x then kCh4 T cf p y (evE T cf c ρ st) else .ok (.bl false) st := rfl
@[simp] theorem kCh3_er {p : CO} {y : D} {c : E} {ρ : Rho} {x : Xn} {st : Sto} : kCh3 T cf p y c ρ (.er x st) = .er x st := rfl
@[simp] theorem kCh3_no {p : CO} {y : D} {c : E} {ρ : Rho} : kCh3 T cf p y c ρ .no = .no := rfl
def kCh2 (T : Tab) (cf : Nat → List D → Sto → R D) (o : CO) (p : CO) (z : D) (c : E) (ρ : Rho) (r : R D) : R D := r.bind fun x st => kCh3 T cf p x c ρ (cmpE T cf o z x st)
@[simp] theorem kCh2_ok {o : CO} {p : CO} {z : D} {c : E} {ρ : Rho} {x : D} {st : Sto} : kCh2 T cf o p z c ρ (.ok x st) = kCh3 T cf p x c ρ (cmpE T cf o z x st) := rfl
@[simp] theorem kCh2_er {o : CO} {p : CO} {z : D} {c : E} {ρ : Rho} {x : Xn} {st : Sto} : kCh2 T cf o p z c ρ (.er x st) = .er x st := rfl
@[simp] theorem kCh2_no {o : CO} {p : CO} {z : D} {c : E} {ρ : Rho} : kCh2 T cf o p z c ρ .no = .no := rfl
def kCh1 (T : Tab) (cf : Nat → List D → Sto → R D) (o : CO) (p : CO) (b : E) (c : E) (ρ : Rho) (r : R D) : R D := r.bind fun x st => kCh2 T cf o p x c ρ (evE T cf b ρ st)
@[simp] theorem kCh1_ok {o : CO} {p : CO} {b : E} {c : E} {ρ : Rho} {x : D} {st : Sto} : kCh1 T cf o p b c ρ (.ok x st) = kCh2 T cf o p x c ρ (evE T cf b ρ st) := rfl
@[simp] theorem kCh1_er {o : CO} {p : CO} {b : E} {c : E} {ρ : Rho} {x : Xn} {st : Sto} : kCh1 T cf o p b c ρ (.er x st) = .er x st := rfl
@[simp] theorem kCh1_no {o : CO} {p : CO} {b : E} {c : E} {ρ : Rho} : kCh1 T cf o p b c ρ .no = .no := rfl
@[simp] theorem evE_chain {o p : CO} {a b c : E} : evE T cf (.chain o p a b c) ρ st = kCh1 T cf o p b c ρ (evE T cf a ρ st) := rfl
def kAnd2 (T : Tab) (cf : Nat → List D → Sto → R D) (b : E) (ρ : Rho) (st : Sto) : D → R D
  | .bl true => evE T cf b ρ st
  | .bl false => .ok (.bl false) st
  | _ => .no
@[simp] theorem kAnd2_bl {b : E} {k : Bool} : kAnd2 T cf b ρ st (.bl k) = if k then evE T cf b ρ st else .ok (.bl false) st := by cases k <;> rfl
def kOr2 (T : Tab) (cf : Nat → List D → Sto → R D) (b : E) (ρ : Rho) (st : Sto) : D → R D
  | .bl true => .ok (.bl true) st
  | .bl false => evE T cf b ρ st
  | _ => .no
@[simp] theorem kOr2_bl {b : E} {k : Bool} : kOr2 T cf b ρ st (.bl k) = if k then .ok (.bl true) st else evE T cf b ρ st := by cases k <;> rfl
def kAnd1 (T : Tab) (cf : Nat → List D → Sto → R D) (b : E) (ρ : Rho) (r : R D) : R D := r.bind fun x st => kAnd2 T cf b ρ st x
@[simp] theorem kAnd1_ok {b : E} {ρ : Rho} {x : D} {st : Sto} : kAnd1 T cf b ρ (.ok x st) = kAnd2 T cf b ρ st x := rfl
@[simp] theorem kAnd1_er {b : E} {ρ : Rho} {x : Xn} {st : Sto} : kAnd1 T cf b ρ (.er x st) = .er x st := rfl
@[simp] theorem kAnd1_no {b : E} {ρ : Rho} : kAnd1 T cf b ρ .no = .no := rfl
@[simp] theorem evE_and {a b : E} : evE T cf (.and a b) ρ st = kAnd1 T cf b ρ (evE T cf a ρ st) := rfl
def kOr1 (T : Tab) (cf : Nat → List D → Sto → R D) (b : E) (ρ : Rho) (r : R D) : R D := r.bind fun x st => kOr2 T cf b ρ st x
@[simp] theorem kOr1_ok {b : E} {ρ : Rho} {x : D} {st : Sto} : kOr1 T cf b ρ (.ok x st) = kOr2 T cf b ρ st x := rfl
@[simp] theorem kOr1_er {b : E} {ρ : Rho} {x : Xn} {st : Sto} : kOr1 T cf b ρ (.er x st) = .er x st := rfl
@[simp] theorem kOr1_no {b : E} {ρ : Rho} : kOr1 T cf b ρ .no = .no := rfl
@[simp] theorem evE_or {a b : E} : evE T cf (.or a b) ρ st = kOr1 T cf b ρ (evE T cf a ρ st) := rfl
def kIte (T : Tab) (cf : Nat → List D → Sto → R D) (a : E) (b : E) (ρ : Rho) (r : R Bool) : R D := r.bind fun x st => if x then evE T cf a ρ st else evE T cf b ρ st
@[simp] theorem kIte_ok {a : E} {b : E} {ρ : Rho} {x : Bool} {st : Sto} : kIte T cf a b ρ (.ok x st) = if x then evE T cf a ρ st else evE T cf b ρ st := rfl
@[simp] theorem kIte_er {a : E} {b : E} {ρ : Rho} {x : Xn} {st : Sto} : kIte T cf a b ρ (.er x st) = .er x st := rfl
@[simp] theorem kIte_no {a : E} {b : E} {ρ : Rho} : kIte T cf a b ρ .no = .no := rfl
@[simp] theorem evE_ite {t : Tt} {a b : E} : evE T cf (.ite t a b) ρ st = kIte T cf a b ρ (evT T cf t ρ st) := rfl
def kCall (T : Tab) (cf : Nat → List D → Sto → R D) (f : Nat) (r : R (List D)) : R D := r.bind fun x st => cf f x st
@[simp] theorem kCall_ok {f : Nat} {x : List D} {st : Sto} : kCall T cf f (.ok x st) = cf f x st := rfl
@[simp] theorem kCall_er {f : Nat} {x : Xn} {st : Sto} : kCall T cf f (.er x st) = .er x st := rfl
@[simp] theorem kCall_no {f : Nat} : kCall T cf f .no = .no := rfl
@[simp] theorem evE_call {f : Nat} {as : Es} : evE T cf (.call f as) ρ st = kCall T cf f (evA T cf as ρ st) := rfl
def kMake (T : Tab) (cf : Nat → List D → Sto → R D) (c : Nat) (r : R (List D)) : R D := r.bind fun x st => makeE T cf c x st
@[simp] theorem kMake_ok {c : Nat} {x : List D} {st : Sto} : kMake T cf c (.ok x st) = makeE T cf c x st := rfl
@[simp] theorem kMake_er {c : Nat} {x : Xn} {st : Sto} : kMake T cf c (.er x st) = .er x st := rfl
@[simp] theorem kMake_no {c : Nat} : kMake T cf c .no = .no := rfl
@[simp] theorem evE_make {c : Nat} {as : Es} : evE T cf (.make c as) ρ st = kMake T cf c (evA T cf as ρ st) := rfl
def kMeth2 (T : Tab) (cf : Nat → List D → Sto → R D) (m : Nat) (z : D) (r : R (List D)) : R D := r.bind fun x st => methE T cf m z x st
@[simp] theorem kMeth2_ok {m : Nat} {z : D} {x : List D} {st : Sto} : kMeth2 T cf m z (.ok x st) = methE T cf m z x st := rfl
@[simp] theorem kMeth2_er {m : Nat} {z : D} {x : Xn} {st : Sto} : kMeth2 T cf m z (.er x st) = .er x st := rfl
@[simp] theorem kMeth2_no {m : Nat} {z : D} : kMeth2 T cf m z .no = .no := rfl
def kMeth1 (T : Tab) (cf : Nat → List D → Sto → R D) (m : Nat) (as : Es) (ρ : Rho) (r : R D) : R D := r.bind fun x st => kMeth2 T cf m x (evA T cf as ρ st)
@[simp] theorem kMeth1_ok {m : Nat} {as : Es} {ρ : Rho} {x : D} {st : Sto} : kMeth1 T cf m as ρ (.ok x st) = kMeth2 T cf m x (evA T cf as ρ st) := rfl
@[simp] theorem kMeth1_er {m : Nat} {as : Es} {ρ : Rho} {x : Xn} {st : Sto} : kMeth1 T cf m as ρ (.er x st) = .er x st := rfl
@[simp] theorem kMeth1_no {m : Nat} {as : Es} {ρ : Rho} : kMeth1 T cf m as ρ .no = .no := rfl
@[simp] theorem evE_meth {m : Nat} {a : E} {as : Es} : evE T cf (.meth m a as) ρ st = kMeth1 T cf m as ρ (evE T cf a ρ st) := rfl
def kAttr (T : Tab) (cf : Nat → List D → Sto → R D) (m : Nat) (r : R D) : R D := r.bind fun x st => attrE T cf x m st
@[simp] theorem kAttr_ok {m : Nat} {x : D} {st : Sto} : kAttr T cf m (.ok x st) = attrE T cf x m st := rfl
@[simp] theorem kAttr_er {m : Nat} {x : Xn} {st : Sto} : kAttr T cf m (.er x st) = .er x st := rfl
@[simp] theorem kAttr_no {m : Nat} : kAttr T cf m .no = .no := rfl
@[simp] theorem evE_attr {a : E} {m : Nat} : evE T cf (.attr a m) ρ st = kAttr T cf m (bor a ρ st (evE T cf a ρ st)) := rfl
def kBi (T : Tab) (cf : Nat → List D → Sto → R D) (b : BI) (r : R (List D)) : R D := r.bind fun x st => biE T cf b x st
@[simp] theorem kBi_ok {b : BI} {x : List D} {st : Sto} : kBi T cf b (.ok x st) = biE T cf b x st := rfl
@[simp] theorem kBi_er {b : BI} {x : Xn} {st : Sto} : kBi T cf b (.er x st) = .er x st := rfl
@[simp] theorem kBi_no {b : BI} : kBi T cf b .no = .no := rfl
@[simp] theorem evE_bi {b : BI} {as : Es} : evE T cf (.bi b as) ρ st = kBi T cf b (evL T cf as ρ st) := rfl
def kIsi (T : Tab) (cf : Nat → List D → Sto → R D) (ts : List TY) (r : R D) : R D := r.bind fun x st => R.of ((isAny T x ts).map D.bl) st
@[simp] theorem kIsi_ok {ts : List TY} {x : D} {st : Sto} : kIsi T cf ts (.ok x st) = R.of ((isAny T x ts).map D.bl) st := rfl
@[simp] theorem kIsi_er {ts : List TY} {x : Xn} {st : Sto} : kIsi T cf ts (.er x st) = .er x st := rfl
@[simp] theorem kIsi_no {ts : List TY} : kIsi T cf ts .no = .no := rfl
@[simp] theorem evE_isi {a : E} {ts : List TY} : evE T cf (.isi a ts) ρ st = kIsi T cf ts (bor a ρ st (evE T cf a ρ st)) := rfl
def kTup  (r : R (List D)) : R D := r.bind fun x st => if x.length ≤ LINE then .ok (.tup x) st else .no
@[simp] theorem kTup_ok  {x : List D} {st : Sto} : kTup  (.ok x st) = if x.length ≤ LINE then .ok (.tup x) st else .no := rfl
@[simp] theorem kTup_er  {x : Xn} {st : Sto} : kTup  (.er x st) = .er x st := rfl
@[simp] theorem kTup_no  : kTup  .no = .no := rfl
@[simp] theorem evE_tup {as : Es} : evE T cf (.tup as) ρ st = kTup (evA T cf as ρ st) := rfl
def kLst  (r : R (List D)) : R D := r.bind fun x st => if x.length ≤ LINE then .ok (.own x) st else .no
@[simp] theorem kLst_ok  {x : List D} {st : Sto} : kLst  (.ok x st) = if x.length ≤ LINE then .ok (.own x) st else .no := rfl
@[simp] theorem kLst_er  {x : Xn} {st : Sto} : kLst  (.er x st) = .er x st := rfl
@[simp] theorem kLst_no  : kLst  .no = .no := rfl
@[simp] theorem evE_lst {as : Es} : evE T cf (.lst as) ρ st = kLst (evA T cf as ρ st) := rfl
def kIx2 (T : Tab) (cf : Nat → List D → Sto → R D) (z : D) (r : R D) : R D := r.bind fun x st => ixE T cf z x st
@[simp] theorem kIx2_ok {z : D} {x : D} {st : Sto} : kIx2 T cf z (.ok x st) = ixE T cf z x st := rfl
@[simp] theorem kIx2_er {z : D} {x : Xn} {st : Sto} : kIx2 T cf z (.er x st) = .er x st := rfl
@[simp] theorem kIx2_no {z : D} : kIx2 T cf z .no = .no := rfl
def kIx1 (T : Tab) (cf : Nat → List D → Sto → R D) (i : E) (ρ : Rho) (r : R D) : R D := r.bind fun x st => kIx2 T cf x (evE T cf i ρ st)
@[simp] theorem kIx1_ok {i : E} {ρ : Rho} {x : D} {st : Sto} : kIx1 T cf i ρ (.ok x st) = kIx2 T cf x (evE T cf i ρ st) := rfl
@[simp] theorem kIx1_er {i : E} {ρ : Rho} {x : Xn} {st : Sto} : kIx1 T cf i ρ (.er x st) = .er x st := rfl
@[simp] theorem kIx1_no {i : E} {ρ : Rho} : kIx1 T cf i ρ .no = .no := rfl
@[simp] theorem evE_ix {a i : E} : evE T cf (.ix a i) ρ st = kIx1 T cf i ρ (bor a ρ st (evE T cf a ρ st)) := rfl
def kSl3 (a : D) (l : D) (r : R D) : R D := r.bind fun x st => slE a l x st
@[simp] theorem kSl3_ok {a : D} {l : D} {x : D} {st : Sto} : kSl3 a l (.ok x st) = slE a l x st := rfl
@[simp] theorem kSl3_er {a : D} {l : D} {x : Xn} {st : Sto} : kSl3 a l (.er x st) = .er x st := rfl
@[simp] theorem kSl3_no {a : D} {l : D} : kSl3 a l .no = .no := rfl
def kSl2 (T : Tab) (cf : Nat → List D → Sto → R D) (a : D) (h : E) (ρ : Rho) (r : R D) : R D := r.bind fun x st => kSl3 a x (evE T cf h ρ st)
@[simp] theorem kSl2_ok {a : D} {h : E} {ρ : Rho} {x : D} {st : Sto} : kSl2 T cf a h ρ (.ok x st) = kSl3 a x (evE T cf h ρ st) := rfl
@[simp] theorem kSl2_er {a : D} {h : E} {ρ : Rho} {x : Xn} {st : Sto} : kSl2 T cf a h ρ (.er x st) = .er x st := rfl
@[simp] theorem kSl2_no {a : D} {h : E} {ρ : Rho} : kSl2 T cf a h ρ .no = .no := rfl
def kSl1 (T : Tab) (cf : Nat → List D → Sto → R D) (l : E) (h : E) (ρ : Rho) (r : R D) : R D := r.bind fun x st => kSl2 T cf x h ρ (evE T cf l ρ st)
@[simp] theorem kSl1_ok {l : E} {h : E} {ρ : Rho} {x : D} {st : Sto} : kSl1 T cf l h ρ (.ok x st) = kSl2 T cf x h ρ (evE T cf l ρ st) := rfl
@[simp] theorem kSl1_er {l : E} {h : E} {ρ : Rho} {x : Xn} {st : Sto} : kSl1 T cf l h ρ (.er x st) = .er x st := rfl
@[simp] theorem kSl1_no {l : E} {h : E} {ρ : Rho} : kSl1 T cf l h ρ .no = .no := rfl
@[simp] theorem evE_sl {a l h : E} : evE T cf (.sl a l h) ρ st = kSl1 T cf l h ρ (bor a ρ st (evE T cf a ρ st)) := rfl
@[simp] theorem evE_nop  : evE T cf .nop ρ st = .ok .non st := rfl
def kFst  (r : R (List D)) : R D := r.bind fun x st => R.of ((joinS x).map D.str) st
@[simp] theorem kFst_ok  {x : List D} {st : Sto} : kFst  (.ok x st) = R.of ((joinS x).map D.str) st := rfl
@[simp] theorem kFst_er  {x : Xn} {st : Sto} : kFst  (.er x st) = .er x st := rfl
@[simp] theorem kFst_no  : kFst  .no = .no := rfl
@[simp] theorem evE_fst {as : Es} : evE T cf (.fst as) ρ st = kFst (evA T cf as ρ st) := rfl
def kSto2 (st : Sto) : D → R D
  | .own ds => .ok (.ref st.length) (st ++ [.lst ds])
  | _ => .no
@[simp] theorem kSto2_own {ds : List D} : kSto2 st (.own ds) = .ok (.ref st.length) (st ++ [.lst ds]) := rfl
def kSto  (r : R D) : R D := r.bind fun x st => kSto2 st x
@[simp] theorem kSto_ok  {x : D} {st : Sto} : kSto  (.ok x st) = kSto2 st x := rfl
@[simp] theorem kSto_er  {x : Xn} {st : Sto} : kSto  (.er x st) = .er x st := rfl
@[simp] theorem kSto_no  : kSto  .no = .no := rfl
@[simp] theorem evE_sto {a : E} : evE T cf (.sto a) ρ st = kSto (evE T cf a ρ st) := rfl
@[simp] theorem evE_xat {i m : Nat} : evE T cf (.xat i m) ρ st = R.of (xatD T ρ i m) st := rfl
@[simp] theorem evE_xis {i : Nat} {t : TY} : evE T cf (.xis i t) ρ st = R.of (xisD T ρ i t) st := rfl
def kOwn  (r : R (List D)) : R D := r.bind fun x st => .ok (.own x) st
@[simp] theorem kOwn_ok  {x : List D} {st : Sto} : kOwn  (.ok x st) = .ok (.own x) st := rfl
@[simp] theorem kOwn_er  {x : Xn} {st : Sto} : kOwn  (.er x st) = .er x st := rfl
@[simp] theorem kOwn_no  : kOwn  .no = .no := rfl
def kComp (T : Tab) (cf : Nat → List D → Sto → R D) (i : Nat) (e : E) (t : Tt) (ρ : Rho) (r : R (List (List D))) : R D := r.bind fun x st => kOwn (compL (evE T cf e) (evT T cf t) ρ [i] x [] st)
@[simp] theorem kComp_ok {i : Nat} {e : E} {t : Tt} {ρ : Rho} {x : List (List D)} {st : Sto} : kComp T cf i e t ρ (.ok x st) = kOwn (compL (evE T cf e) (evT T cf t) ρ [i] x [] st) := rfl
@[simp] theorem kComp_er {i : Nat} {e : E} {t : Tt} {ρ : Rho} {x : Xn} {st : Sto} : kComp T cf i e t ρ (.er x st) = .er x st := rfl
@[simp] theorem kComp_no {i : Nat} {e : E} {t : Tt} {ρ : Rho} : kComp T cf i e t ρ .no = .no := rfl
@[simp] theorem evE_comp {i : Nat} {e : E} {s : It} {t : Tt} : evE T cf (.comp i e s t) ρ st = kComp T cf i e t ρ (evJ T cf s ρ st) := rfl
def kT  (r : R D) : R Bool := r.bind fun x st => R.of (truth x) st
@[simp] theorem kT_ok  {x : D} {st : Sto} : kT  (.ok x st) = R.of (truth x) st := rfl
@[simp] theorem kT_er  {x : Xn} {st : Sto} : kT  (.er x st) = .er x st := rfl
@[simp] theorem kT_no  : kT  .no = .no := rfl
@[simp] theorem evT_e {a : E} : evT T cf (.e a) ρ st = kT (bor a ρ st (evE T cf a ρ st)) := rfl
def kTn  (r : R Bool) : R Bool := r.bind fun x st => .ok (!x) st
@[simp] theorem kTn_ok  {x : Bool} {st : Sto} : kTn  (.ok x st) = .ok (!x) st := rfl
@[simp] theorem kTn_er  {x : Xn} {st : Sto} : kTn  (.er x st) = .er x st := rfl
@[simp] theorem kTn_no  : kTn  .no = .no := rfl
@[simp] theorem evT_not {a : Tt} : evT T cf (.not a) ρ st = kTn (evT T cf a ρ st) := rfl
def kTa (T : Tab) (cf : Nat → List D → Sto → R D) (b : Tt) (ρ : Rho) (r : R Bool) : R Bool := r.bind fun x st => if x then evT T cf b ρ st else .ok false st
@[simp] theorem kTa_ok {b : Tt} {ρ : Rho} {x : Bool} {st : Sto} : kTa T cf b ρ (.ok x st) = if x then evT T cf b ρ st else .ok false st := rfl
@[simp] theorem kTa_er {b : Tt} {ρ : Rho} {x : Xn} {st : Sto} : kTa T cf b ρ (.er x st) = .er x st := rfl
@[simp] theorem kTa_no {b : Tt} {ρ : Rho} : kTa T cf b ρ .no = .no := rfl
@[simp] theorem evT_and {a b : Tt} : evT T cf (.and a b) ρ st = kTa T cf b ρ (evT T cf a ρ st) := rfl
def kTo (T : Tab) (cf : Nat → List D → Sto → R D) (b : Tt) (ρ : Rho) (r : R Bool) : R Bool := r.bind fun x st => if x then .ok true st else evT T cf b ρ st
@[simp] theorem kTo_ok {b : Tt} {ρ : Rho} {x : Bool} {st : Sto} : kTo T cf b ρ (.ok x st) = if x then .ok true st else evT T cf b ρ st := rfl
@[simp] theorem kTo_er {b : Tt} {ρ : Rho} {x : Xn} {st : Sto} : kTo T cf b ρ (.er x st) = .er x st := rfl
@[simp] theorem kTo_no {b : Tt} {ρ : Rho} : kTo T cf b ρ .no = .no := rfl
@[simp] theorem evT_or {a b : Tt} : evT T cf (.or a b) ρ st = kTo T cf b ρ (evT T cf a ρ st) := rfl
def kA2 (d : D) (r : R (List D)) : R (List D) := r.bind fun x st => .ok (fz d :: x) st
@[simp] theorem kA2_ok {d : D} {x : List D} {st : Sto} : kA2 d (.ok x st) = .ok (fz d :: x) st := rfl
@[simp] theorem kA2_er {d : D} {x : Xn} {st : Sto} : kA2 d (.er x st) = .er x st := rfl
@[simp] theorem kA2_no {d : D} : kA2 d .no = .no := rfl
def kA1 (T : Tab) (cf : Nat → List D → Sto → R D) (as : Es) (ρ : Rho) (r : R D) : R (List D) := r.bind fun x st => kA2 x (evA T cf as ρ st)
@[simp] theorem kA1_ok {as : Es} {ρ : Rho} {x : D} {st : Sto} : kA1 T cf as ρ (.ok x st) = kA2 x (evA T cf as ρ st) := rfl
@[simp] theorem kA1_er {as : Es} {ρ : Rho} {x : Xn} {st : Sto} : kA1 T cf as ρ (.er x st) = .er x st := rfl
@[simp] theorem kA1_no {as : Es} {ρ : Rho} : kA1 T cf as ρ .no = .no := rfl
@[simp] theorem evA_nil  : evA T cf .nil ρ st = .ok [] st := rfl
@[simp] theorem evA_cons {a : E} {as : Es} : evA T cf (.cons a as) ρ st = kA1 T cf as ρ (evE T cf a ρ st) := rfl
def kL2 (d : D) (r : R (List D)) : R (List D) := r.bind fun x st => .ok (d :: x) st
@[simp] theorem kL2_ok {d : D} {x : List D} {st : Sto} : kL2 d (.ok x st) = .ok (d :: x) st := rfl
@[simp] theorem kL2_er {d : D} {x : Xn} {st : Sto} : kL2 d (.er x st) = .er x st := rfl
@[simp] theorem kL2_no {d : D} : kL2 d .no = .no := rfl
def kL1 (T : Tab) (cf : Nat → List D → Sto → R D) (as : Es) (ρ : Rho) (r : R D) : R (List D) := r.bind fun x st => kL2 x (evL T cf as ρ st)
@[simp] theorem kL1_ok {as : Es} {ρ : Rho} {x : D} {st : Sto} : kL1 T cf as ρ (.ok x st) = kL2 x (evL T cf as ρ st) := rfl
@[simp] theorem kL1_er {as : Es} {ρ : Rho} {x : Xn} {st : Sto} : kL1 T cf as ρ (.er x st) = .er x st := rfl
@[simp] theorem kL1_no {as : Es} {ρ : Rho} : kL1 T cf as ρ .no = .no := rfl
@[simp] theorem evL_nil  : evL T cf .nil ρ st = .ok [] st := rfl
@[simp] theorem evL_cons {a : E} {as : Es} : evL T cf (.cons a as) ρ st = kL1 T cf as ρ (bor a ρ st (evE T cf a ρ st)) := rfl
def kevIseq  (r : R D) : R (List (List D)) := r.bind fun x st => R.of ((seqOf x).map fun ds => ds.map fun x => [x]) st
@[simp] theorem kevIseq_ok  {x : D} {st : Sto} : kevIseq  (.ok x st) = R.of ((seqOf x).map fun ds => ds.map fun x => [x]) st := rfl
@[simp] theorem kevIseq_er  {x : Xn} {st : Sto} : kevIseq  (.er x st) = .er x st := rfl
@[simp] theorem kevIseq_no  : kevIseq  .no = .no := rfl
@[simp] theorem evI_seq {a : E} : evI T cf (.seq a) ρ st = kevIseq (evE T cf a ρ st) := rfl
def kevIrng  (r : R (List D)) : R (List (List D)) := r.bind fun x st => R.of ((rngI x).map fun ns => ns.map fun n => [.int n]) st
@[simp] theorem kevIrng_ok  {x : List D} {st : Sto} : kevIrng  (.ok x st) = R.of ((rngI x).map fun ns => ns.map fun n => [.int n]) st := rfl
@[simp] theorem kevIrng_er  {x : Xn} {st : Sto} : kevIrng  (.er x st) = .er x st := rfl
@[simp] theorem kevIrng_no  : kevIrng  .no = .no := rfl
@[simp] theorem evI_rng {as : Es} : evI T cf (.rng as) ρ st = kevIrng (evA T cf as ρ st) := rfl
def kevIenum  (r : R D) : R (List (List D)) := r.bind fun x st => R.of ((seqOf x).map (enumD 0)) st
@[simp] theorem kevIenum_ok  {x : D} {st : Sto} : kevIenum  (.ok x st) = R.of ((seqOf x).map (enumD 0)) st := rfl
@[simp] theorem kevIenum_er  {x : Xn} {st : Sto} : kevIenum  (.er x st) = .er x st := rfl
@[simp] theorem kevIenum_no  : kevIenum  .no = .no := rfl
@[simp] theorem evI_enum {a : E} : evI T cf (.enum a) ρ st = kevIenum (evE T cf a ρ st) := rfl
def kevIzip2 (d : D) (r : R D) : R (List (List D)) := r.bind fun x st => R.of ((seqOf d).bind fun ds => (seqOf x).map fun es => zipD ds es) st
@[simp] theorem kevIzip2_ok {d : D} {x : D} {st : Sto} : kevIzip2 d (.ok x st) = R.of ((seqOf d).bind fun ds => (seqOf x).map fun es => zipD ds es) st := rfl
@[simp] theorem kevIzip2_er {d : D} {x : Xn} {st : Sto} : kevIzip2 d (.er x st) = .er x st := rfl
@[simp] theorem kevIzip2_no {d : D} : kevIzip2 d .no = .no := rfl
def kevIzip1 (T : Tab) (cf : Nat → List D → Sto → R D) (b : E) (ρ : Rho) (r : R D) : R (List (List D)) := r.bind fun x st => kevIzip2 x (evE T cf b ρ st)
@[simp] theorem kevIzip1_ok {b : E} {ρ : Rho} {x : D} {st : Sto} : kevIzip1 T cf b ρ (.ok x st) = kevIzip2 x (evE T cf b ρ st) := rfl
@[simp] theorem kevIzip1_er {b : E} {ρ : Rho} {x : Xn} {st : Sto} : kevIzip1 T cf b ρ (.er x st) = .er x st := rfl
@[simp] theorem kevIzip1_no {b : E} {ρ : Rho} : kevIzip1 T cf b ρ .no = .no := rfl
@[simp] theorem evI_zip {a b : E} : evI T cf (.zip a b) ρ st = kevIzip1 T cf b ρ (evE T cf a ρ st) := rfl
def kevJseq  (r : R D) : R (List (List D)) := r.bind fun x st => R.of ((seqOf x).map fun ds => ds.map fun x => [x]) st
@[simp] theorem kevJseq_ok  {x : D} {st : Sto} : kevJseq  (.ok x st) = R.of ((seqOf x).map fun ds => ds.map fun x => [x]) st := rfl
@[simp] theorem kevJseq_er  {x : Xn} {st : Sto} : kevJseq  (.er x st) = .er x st := rfl
@[simp] theorem kevJseq_no  : kevJseq  .no = .no := rfl
@[simp] theorem evJ_seq {a : E} : evJ T cf (.seq a) ρ st = kevJseq (bor a ρ st (evE T cf a ρ st)) := rfl
def kevJrng  (r : R (List D)) : R (List (List D)) := r.bind fun x st => R.of ((rngI x).map fun ns => ns.map fun n => [.int n]) st
@[simp] theorem kevJrng_ok  {x : List D} {st : Sto} : kevJrng  (.ok x st) = R.of ((rngI x).map fun ns => ns.map fun n => [.int n]) st := rfl
@[simp] theorem kevJrng_er  {x : Xn} {st : Sto} : kevJrng  (.er x st) = .er x st := rfl
@[simp] theorem kevJrng_no  : kevJrng  .no = .no := rfl
@[simp] theorem evJ_rng {as : Es} : evJ T cf (.rng as) ρ st = kevJrng (evA T cf as ρ st) := rfl
def kevJenum  (r : R D) : R (List (List D)) := r.bind fun x st => R.of ((seqOf x).map (enumD 0)) st
@[simp] theorem kevJenum_ok  {x : D} {st : Sto} : kevJenum  (.ok x st) = R.of ((seqOf x).map (enumD 0)) st := rfl
@[simp] theorem kevJenum_er  {x : Xn} {st : Sto} : kevJenum  (.er x st) = .er x st := rfl
@[simp] theorem kevJenum_no  : kevJenum  .no = .no := rfl
@[simp] theorem evJ_enum {a : E} : evJ T cf (.enum a) ρ st = kevJenum (bor a ρ st (evE T cf a ρ st)) := rfl
def kevJzip2 (d : D) (r : R D) : R (List (List D)) := r.bind fun x st => R.of ((seqOf d).bind fun ds => (seqOf x).map fun es => zipD ds es) st
@[simp] theorem kevJzip2_ok {d : D} {x : D} {st : Sto} : kevJzip2 d (.ok x st) = R.of ((seqOf d).bind fun ds => (seqOf x).map fun es => zipD ds es) st := rfl
@[simp] theorem kevJzip2_er {d : D} {x : Xn} {st : Sto} : kevJzip2 d (.er x st) = .er x st := rfl
@[simp] theorem kevJzip2_no {d : D} : kevJzip2 d .no = .no := rfl
def kevJzip1 (T : Tab) (cf : Nat → List D → Sto → R D) (b : E) (ρ : Rho) (r : R D) : R (List (List D)) := r.bind fun x st => kevJzip2 x (bor b ρ st (evE T cf b ρ st))
@[simp] theorem kevJzip1_ok {b : E} {ρ : Rho} {x : D} {st : Sto} : kevJzip1 T cf b ρ (.ok x st) = kevJzip2 x (bor b ρ st (evE T cf b ρ st)) := rfl
@[simp] theorem kevJzip1_er {b : E} {ρ : Rho} {x : Xn} {st : Sto} : kevJzip1 T cf b ρ (.er x st) = .er x st := rfl
@[simp] theorem kevJzip1_no {b : E} {ρ : Rho} : kevJzip1 T cf b ρ .no = .no := rfl
@[simp] theorem evJ_zip {a b : E} : evJ T cf (.zip a b) ρ st = kevJzip1 T cf b ρ (bor a ρ st (evE T cf a ρ st)) := rfl
def kSeq (T : Tab) (cf : Nat → List D → Sto → R D) (b : S) (r : F) : F := r.then fun ρ st => exS T cf b ρ st
@[simp] theorem kSeq_nx {b : S} : kSeq T cf b (.nx ρ st) = exS T cf b ρ st := rfl
@[simp] theorem kSeq_rt {b : S} {d : D} : kSeq T cf b (.rt d st) = .rt d st := rfl
@[simp] theorem kSeq_bk {b : S} : kSeq T cf b (.bk ρ st) = .bk ρ st := rfl
@[simp] theorem kSeq_ct {b : S} : kSeq T cf b (.ct ρ st) = .ct ρ st := rfl
@[simp] theorem kSeq_er {b : S} {x : Xn} : kSeq T cf b (.er x ρ st) = .er x ρ st := rfl
@[simp] theorem kSeq_no {b : S} : kSeq T cf b .no = .no := rfl
@[simp] theorem exS_seq {a b : S} : exS T cf (.seq a b) ρ st = kSeq T cf b (exS T cf a ρ st) := rfl
@[simp] theorem exS_skip : exS T cf .skip ρ st = .nx ρ st := rfl
def kExpr  (ρ : Rho) (r : R D) : F := r.f ρ fun x st => .nx ρ st
@[simp] theorem kExpr_ok  {x : D} {st : Sto} : kExpr  ρ (.ok x st) = .nx ρ st := rfl
@[simp] theorem kExpr_er  {x : Xn} {st : Sto} : kExpr  ρ (.er x st) = .er x ρ st := rfl
@[simp] theorem kExpr_no  : kExpr  ρ .no = .no := rfl
@[simp] theorem exS_expr {a : E} : exS T cf (.expr a) ρ st = kExpr ρ (evE T cf a ρ st) := rfl
def kSet (i : Nat) (ρ : Rho) (r : R D) : F := r.f ρ fun x st => .nx (ρ.set i (some (fz x))) st
@[simp] theorem kSet_ok {i : Nat} {x : D} {st : Sto} : kSet i ρ (.ok x st) = .nx (ρ.set i (some (fz x))) st := rfl
@[simp] theorem kSet_er {i : Nat} {x : Xn} {st : Sto} : kSet i ρ (.er x st) = .er x ρ st := rfl
@[simp] theorem kSet_no {i : Nat} : kSet i ρ .no = .no := rfl
@[simp] theorem exS_set {i : Nat} {a : E} : exS T cf (.set i a) ρ st = kSet i ρ (evE T cf a ρ st) := rfl
def kOwn2 (i : Nat) (ρ : Rho) (st : Sto) : D → F
  | .own ds => .nx (ρ.set i (some (.own ds))) st
  | _ => .no
@[simp] theorem kOwn2_own {i : Nat} {ds : List D} : kOwn2 i ρ st (.own ds) = .nx (ρ.set i (some (.own ds))) st := rfl
def kUnp2 (is : List Nat) (ρ : Rho) (st : Sto) : Option (List D) → F
  | some ds => F.of (setAll ρ is ds) st
  | none => .no
@[simp] theorem kUnp2_some {is : List Nat} {ds : List D} : kUnp2 is ρ st (some ds) = F.of (setAll ρ is ds) st := rfl
def kStF (ρ : Rho) : Option Sto → F
  | some st => .nx ρ st
  | none => .no
@[simp] theorem kStF_some : kStF ρ (some st) = .nx ρ st := rfl
def kOwn1 (i : Nat) (ρ : Rho) (r : R D) : F := r.f ρ fun x st => kOwn2 i ρ st x
@[simp] theorem kOwn1_ok {i : Nat} {x : D} {st : Sto} : kOwn1 i ρ (.ok x st) = kOwn2 i ρ st x := rfl
@[simp] theorem kOwn1_er {i : Nat} {x : Xn} {st : Sto} : kOwn1 i ρ (.er x st) = .er x ρ st := rfl
@[simp] theorem kOwn1_no {i : Nat} : kOwn1 i ρ .no = .no := rfl
@[simp] theorem exS_own {i : Nat} {a : E} : exS T cf (.own i a) ρ st = kOwn1 i ρ (evE T cf a ρ st) := rfl
def kUnp (is : List Nat) (ρ : Rho) (r : R D) : F := r.f ρ fun x st => kUnp2 is ρ st (seqOf x)
@[simp] theorem kUnp_ok {is : List Nat} {x : D} {st : Sto} : kUnp is ρ (.ok x st) = kUnp2 is ρ st (seqOf x) := rfl
@[simp] theorem kUnp_er {is : List Nat} {x : Xn} {st : Sto} : kUnp is ρ (.er x st) = .er x ρ st := rfl
@[simp] theorem kUnp_no {is : List Nat} : kUnp is ρ .no = .no := rfl
@[simp] theorem exS_unp {is : List Nat} {a : E} : exS T cf (.unp is a) ρ st = kUnp is ρ (evE T cf a ρ st) := by
  show (evE T cf a ρ st).f ρ _ = _
  cases evE T cf a ρ st with
  | ok d st => show (match seqOf d with | some ds => F.of (setAll ρ is ds) st | none => .no) = kUnp2 is ρ st (seqOf d); cases seqOf d <;> rfl
  | er x st => rfl
  | no => rfl
def kSetf (T : Tab) (cf : Nat → List D → Sto → R D) (m : Nat) (ρ : Rho) (r : R D) : F := r.f ρ fun x st => F.of (setfD T m ρ (fz x)) st
@[simp] theorem kSetf_ok {m : Nat} {x : D} {st : Sto} : kSetf T cf m ρ (.ok x st) = F.of (setfD T m ρ (fz x)) st := rfl
@[simp] theorem kSetf_er {m : Nat} {x : Xn} {st : Sto} : kSetf T cf m ρ (.er x st) = .er x ρ st := rfl
@[simp] theorem kSetf_no {m : Nat} : kSetf T cf m ρ .no = .no := rfl
@[simp] theorem exS_setf {m : Nat} {a : E} : exS T cf (.setf m a) ρ st = kSetf T cf m ρ (evE T cf a ρ st) := rfl
def kSeti3 (d : D) (z : D) (ρ : Rho) (r : R D) : F := r.f ρ fun x st => kStF ρ (setiD z x (fz d) st)
@[simp] theorem kSeti3_ok {d : D} {z : D} {x : D} {st : Sto} : kSeti3 d z ρ (.ok x st) = kStF ρ (setiD z x (fz d) st) := rfl
@[simp] theorem kSeti3_er {d : D} {z : D} {x : Xn} {st : Sto} : kSeti3 d z ρ (.er x st) = .er x ρ st := rfl
@[simp] theorem kSeti3_no {d : D} {z : D} : kSeti3 d z ρ .no = .no := rfl
def kSeti2 (T : Tab) (cf : Nat → List D → Sto → R D) (d : D) (i : E) (ρ : Rho) (r : R D) : F := r.f ρ fun x st => kSeti3 d x ρ (evE T cf i ρ st)
@[simp] theorem kSeti2_ok {d : D} {i : E} {x : D} {st : Sto} : kSeti2 T cf d i ρ (.ok x st) = kSeti3 d x ρ (evE T cf i ρ st) := rfl
@[simp] theorem kSeti2_er {d : D} {i : E} {x : Xn} {st : Sto} : kSeti2 T cf d i ρ (.er x st) = .er x ρ st := rfl
@[simp] theorem kSeti2_no {d : D} {i : E} : kSeti2 T cf d i ρ .no = .no := rfl
def kSeti1 (T : Tab) (cf : Nat → List D → Sto → R D) (a : E) (i : E) (ρ : Rho) (r : R D) : F := r.f ρ fun x st => kSeti2 T cf x i ρ (evE T cf a ρ st)
@[simp] theorem kSeti1_ok {a : E} {i : E} {x : D} {st : Sto} : kSeti1 T cf a i ρ (.ok x st) = kSeti2 T cf x i ρ (evE T cf a ρ st) := rfl
@[simp] theorem kSeti1_er {a : E} {i : E} {x : Xn} {st : Sto} : kSeti1 T cf a i ρ (.er x st) = .er x ρ st := rfl
@[simp] theorem kSeti1_no {a : E} {i : E} : kSeti1 T cf a i ρ .no = .no := rfl
@[simp] theorem exS_seti {a i v : E} : exS T cf (.seti a i v) ρ st = kSeti1 T cf a i ρ (evE T cf v ρ st) := by
  show (evE T cf v ρ st).f ρ _ = _
  cases evE T cf v ρ st with
  | er x st => rfl
  | no => rfl
  | ok d st =>
    show (evE T cf a ρ st).f ρ _ = (evE T cf a ρ st).f ρ _
    cases evE T cf a ρ st with
    | er x st => rfl
    | no => rfl
    | ok x st =>
      show (evE T cf i ρ st).f ρ _ = (evE T cf i ρ st).f ρ _
      cases evE T cf i ρ st with
      | er x st => rfl
      | no => rfl
      | ok y st =>
        show (match setiD x y (fz d) st with | some st => F.nx ρ st | none => .no) = kStF ρ (setiD x y (fz d) st)
        cases setiD x y (fz d) st <;> rfl
def kRet  (ρ : Rho) (r : R D) : F := r.f ρ fun x st => .rt x st
@[simp] theorem kRet_ok  {x : D} {st : Sto} : kRet  ρ (.ok x st) = .rt x st := rfl
@[simp] theorem kRet_er  {x : Xn} {st : Sto} : kRet  ρ (.er x st) = .er x ρ st := rfl
@[simp] theorem kRet_no  : kRet  ρ .no = .no := rfl
@[simp] theorem exS_ret {a : E} : exS T cf (.ret a) ρ st = kRet ρ (evE T cf a ρ st) := rfl
@[simp] theorem exS_ret0  : exS T cf .ret0 ρ st = .rt .non st := rfl
@[simp] theorem exS_brk  : exS T cf .brk ρ st = .bk ρ st := rfl
@[simp] theorem exS_cnt  : exS T cf .cnt ρ st = .ct ρ st := rfl
def kIf (T : Tab) (cf : Nat → List D → Sto → R D) (a : S) (b : S) (ρ : Rho) (r : R Bool) : F := r.f ρ fun x st => if x then exS T cf a ρ st else exS T cf b ρ st
@[simp] theorem kIf_ok {a : S} {b : S} {x : Bool} {st : Sto} : kIf T cf a b ρ (.ok x st) = if x then exS T cf a ρ st else exS T cf b ρ st := rfl
@[simp] theorem kIf_er {a : S} {b : S} {x : Xn} {st : Sto} : kIf T cf a b ρ (.er x st) = .er x ρ st := rfl
@[simp] theorem kIf_no {a : S} {b : S} : kIf T cf a b ρ .no = .no := rfl
@[simp] theorem exS_ifs {t : Tt} {a b : S} : exS T cf (.ifs t a b) ρ st = kIf T cf a b ρ (evT T cf t ρ st) := rfl
def kRz (c : Nat) (ρ : Rho) (ds : List D) (st : Sto) : Option Cls → F
  | some C => if raisable C ds then .er ⟨c, ds⟩ ρ st else .no
  | none => .no
@[simp] theorem kRz_some {c : Nat} {ds : List D} {C : Cls} : kRz c ρ ds st (some C) = if raisable C ds then .er ⟨c, ds⟩ ρ st else .no := rfl
def kRaise (T : Tab) (cf : Nat → List D → Sto → R D) (c : Nat) (ρ : Rho) (r : R (List D)) : F := r.f ρ fun x st => kRz c ρ x st (T.cls c)
@[simp] theorem kRaise_ok {c : Nat} {x : List D} {st : Sto} : kRaise T cf c ρ (.ok x st) = kRz c ρ x st (T.cls c) := rfl
@[simp] theorem kRaise_er {c : Nat} {x : Xn} {st : Sto} : kRaise T cf c ρ (.er x st) = .er x ρ st := rfl
@[simp] theorem kRaise_no {c : Nat} : kRaise T cf c ρ .no = .no := rfl
@[simp] theorem exS_raise {c : Nat} {as : Es} : exS T cf (.raise c as) ρ st = kRaise T cf c ρ (evA T cf as ρ st) := by
  show (evA T cf as ρ st).f ρ _ = (evA T cf as ρ st).f ρ _
  cases evA T cf as ρ st with
  | ok ds st =>
    show (match T.cls c with | some C => if raisable C ds then F.er ⟨c, ds⟩ ρ st else .no | none => .no) = kRz c ρ ds st (T.cls c)
    cases T.cls c <;> rfl
  | er x st => rfl
  | no => rfl
def kTry (T : Tab) (cf : Nat → List D → Sto → R D) (hs : S) : F → F
  | .er x ρ st => exS.hdS T cf x hs ρ st
  | r => r
@[simp] theorem kTry_nx {hs : S} : kTry T cf hs (.nx ρ st) = .nx ρ st := rfl
@[simp] theorem kTry_rt {hs : S} {d : D} : kTry T cf hs (.rt d st) = .rt d st := rfl
@[simp] theorem kTry_bk {hs : S} : kTry T cf hs (.bk ρ st) = .bk ρ st := rfl
@[simp] theorem kTry_ct {hs : S} : kTry T cf hs (.ct ρ st) = .ct ρ st := rfl
@[simp] theorem kTry_er {hs : S} {x : Xn} : kTry T cf hs (.er x ρ st) = exS.hdS T cf x hs ρ st := rfl
@[simp] theorem exS_try {b hs : S} : exS T cf (.try_ b hs) ρ st = kTry T cf hs (exS T cf b ρ st) := by
  show (match exS T cf b ρ st with | .er x ρ st => exS.hdS T cf x hs ρ st | r => r) = _
  cases exS T cf b ρ st <;> rfl
@[simp] theorem hdS_hnd {c : Nat} {o : Option Nat} {h r : S} {x : Xn} : exS.hdS T cf x (.hnd c o h r) ρ st = if isErr T x.c then (if under T x.c c then (exS T cf h (setO ρ o (some (.exc x.c x.ds))) st).unset o else exS.hdS T cf x r ρ st) else .no := rfl
@[simp] theorem hdS_skip {x : Xn} : exS.hdS T cf x .skip ρ st = .er x ρ st := rfl
@[simp] theorem un_nx {o : Option Nat} : (F.nx ρ st).unset o = if (setO ρ o none).all notExc then .nx (setO ρ o none) st else .no := rfl
@[simp] theorem un_rt {o : Option Nat} {d : D} : (F.rt d st).unset o = .rt d st := rfl
@[simp] theorem setO_none' {d : Option D} : setO ρ none d = ρ := rfl
@[simp] theorem setO_some' {i : Nat} {d : Option D} : setO ρ (some i) d = ρ.set i d := rfl
@[simp] theorem fin_nx0 : fin T none (.nx ρ st) = .ok .non st := rfl
@[simp] theorem fin_rt0 {d : D} : fin T none (.rt d st) = .ok d st := rfl
@[simp] theorem fin_er {x : Xn} {i : Option Nat} : fin T i (.er x ρ st) = .er x st := rfl
def kFin (c : Nat) (st : Sto) : Option (Option D) → Option Cls → R D
  | some (some (.obj k ds)), some C => if k = c ∧ ds.length = C.fields.length then .ok (.ins c ds) st else .no
  | _, _ => .no
@[simp] theorem kFin_obj {c k : Nat} {ds : List D} {C : Cls} : kFin c st (some (some (.obj k ds))) (some C) = if k = c ∧ ds.length = C.fields.length then .ok (.ins c ds) st else .no := rfl
@[simp] theorem fin_nx1 {c : Nat} : fin T (some c) (.nx ρ st) = kFin c st ρ[0]? (T.cls c) := by
  first
    | (unfold fin kFin; split <;> simp_all; done)
    | (unfold fin kFin; split <;> simp_all; split <;> simp_all)

end
@[simp] theorem ty_beq (a b : TY) : (a == b) = decide (a = b) := rfl
@[simp] theorem int_bne (a b : Int) : (a != b) = !decide (a = b) := rfl
end Ev
set_option Elab.async false
set_option linter.all false
set_option maxRecDepth 100000
set_option maxHeartbeats 0
namespace K09
open PySem PySem.Spec PyProof.Rows L2 Ev Snd
def top (i : Nat) : Stmt := PySem.Challenge.pw_spreadshrinks_k09_invalid_settings.main.body.getD i (.Pass ⟨0, 0, 0, 0⟩)
def meth (s : Stmt) (j : Nat) : Stmt := match s with
  | .ClassDef _ _ _ b _ _ _ _ _ _ _ => b.getD j (.Pass ⟨0, 0, 0, 0⟩)
  | _ => .Pass ⟨0, 0, 0, 0⟩
/-! _law_draw -/
def B0 : Ev.S := (.seq (.ifs (.and (.e (.cmp .eq (.ix (.var 1) (.int 0)) (.int 0))) (.e (.cmp .lt (.ix (.var 1) (.int 1)) (.bi .len (.cons (.var 0) .nil))))) (.seq (.set 3 (.ix (.var 0) (.ix (.var 1) (.int 1)))) (.seq (.seti (.var 1) (.int 1) (.bin .add (.ix (.var 1) (.int 1)) (.int 1))) (.seq (.ifs (.e (.cmp .ge (.var 3) (.bin .pow (.int 10) (.int 18)))) (.seq (.seti (.var 1) (.int 0) (.var 3)) .skip) (.seq (.seti (.var 1) (.int 2) (.bin .mod (.bi .int (.cons (.bin .add (.bin .mul (.ix (.var 1) (.int 2)) (.int 69621)) (.var 3)) .nil)) (.int 2147483647))) .skip)) .skip))) .skip) (.seq (.ifs (.e (.cmp .gt (.ix (.var 1) (.int 0)) (.int 0))) (.seq (.set 4 (.bin .mod (.bi .int (.cons (.ix (.var 1) (.int 0)) .nil)) (.var 2))) (.seq (.seti (.var 1) (.int 0) (.bin .fdv (.ix (.var 1) (.int 0)) (.var 2))) (.seq (.ret (.var 4)) .skip))) .skip) (.seq (.seti (.var 1) (.int 3) (.bin .add (.ix (.var 1) (.int 3)) (.int 1))) (.seq (.seti (.var 1) (.int 2) (.bin .mod (.bi .int (.cons (.bin .add (.bin .add (.bin .mul (.ix (.var 1) (.int 2)) (.int 48271)) (.bin .mul (.ix (.var 1) (.int 3)) (.int 7919))) (.int 30103)) .nil)) (.int 2147483647))) (.seq (.set 5 (.bin .mod (.bi .int (.cons (.bin .mul (.ix (.var 1) (.int 2)) (.bin .add (.bin .fdv (.ix (.var 1) (.int 2)) (.int 1009)) (.int 69621))) .nil)) (.int 2147483647))) (.seq (.ret (.bin .mod (.bin .mod (.bi .int (.cons (.bin .mul (.var 5) (.bin .add (.bin .fdv (.var 5) (.int 2003)) (.int 40692))) .nil)) (.int 2147483399)) (.var 2))) .skip))))))
def F0 : FnS := { fn := { np := 3, nl := 6, body := B0, ini := none, lv := 0 }, prop := false, err := false, d := ⟨("_law_draw", none), "_law_draw", "_law_draw", defArgs (top 10), defBody (top 10), defScope (top 10), [], []⟩, N := ["_law_script", "_law_state", "_law_many", "_law_cell", "_law_digit", "_law_number"], ps := ["_law_script", "_law_state", "_law_many"] }
/-! _law_setting -/
def B1 : Ev.S := (.seq (.set 2 (.ix (.lst (.cons (.str [108, 105, 101, 115]) (.cons (.str [108, 97, 116, 101]) (.cons (.str [108, 97, 116, 101, 108, 105, 101, 115]) (.cons (.str [102, 97, 108, 108, 115]) .nil))))) (.call 0 (.cons (.var 0) (.cons (.var 1) (.cons (.int 4) .nil)))))) (.seq (.set 3 (.bin .add (.int 2) (.call 0 (.cons (.var 0) (.cons (.var 1) (.cons (.int 8) .nil)))))) (.seq (.ret (.tup (.cons (.var 3) (.cons (.call 0 (.cons (.var 0) (.cons (.var 1) (.cons (.bin .sub (.var 3) (.int 1)) .nil)))) (.cons (.var 2) .nil))))) .skip)))
def F1 : FnS := { fn := { np := 2, nl := 4, body := B1, ini := none, lv := 1 }, prop := false, err := false, d := ⟨("_law_setting", none), "_law_setting", "_law_setting", defArgs (top 11), defBody (top 11), defScope (top 11), [], []⟩, N := ["_law_script", "_law_state", "_law_kind", "_law_houses"], ps := ["_law_script", "_law_state"] }
/-! is_integer -/
def B2 : Ev.S := (.seq (.ret (.and (.isi (.var 0) [.int]) (.not (.isi (.var 0) [.bool])))) .skip)
def F2 : FnS := { fn := { np := 1, nl := 1, body := B2, ini := none, lv := 0 }, prop := false, err := false, d := ⟨("is_integer", none), "is_integer", "is_integer", defArgs (top 5), defBody (top 5), defScope (top 5), [], []⟩, N := ["value"], ps := ["value"] }
/-! Setting.__init__ -/
def B3 : Ev.S := (.seq (.ifs (.or (.not (.e (.call 2 (.cons (.var 1) .nil)))) (.not (.e (.chain .le .le (.int 2) (.var 1) (.int 9))))) (.seq (.raise 1 (.cons (.str [104, 111, 117, 115, 101, 115]) .nil)) .skip) .skip) (.seq (.ifs (.or (.not (.e (.isi (.var 3) [.str]))) (.e (.cmp .nin (.var 3) (.con 0)))) (.seq (.raise 1 (.cons (.str [107, 105, 110, 100]) .nil)) .skip) .skip) (.seq (.ifs (.or (.not (.e (.call 2 (.cons (.var 2) .nil)))) (.not (.e (.chain .le .le (.int 0) (.var 2) (.bin .sub (.var 1) (.int 2)))))) (.seq (.raise 1 (.cons (.str [102, 97, 117, 108, 116, 115]) .nil)) .skip) .skip) (.seq (.setf 1 (.var 1)) (.seq (.setf 2 (.var 2)) (.seq (.setf 3 (.var 3)) .skip))))))
def F3 : FnS := { fn := { np := 3, nl := 4, body := B3, ini := some 2, lv := 1 }, prop := false, err := false, d := ⟨("Setting", some "__init__"), "__init__", "Setting.__init__", defArgs (meth (top 8) 0), defBody (meth (top 8) 0), defScope (meth (top 8) 0), [], []⟩, N := ["self", "houses", "faults", "kind"], ps := ["self", "houses", "faults", "kind"] }
/-! BadSetting.__init__ -/
def B4 : Ev.S := .skip
def F4 : FnS := { fn := { np := 1, nl := 2, body := B4, ini := some 1, lv := 2 }, prop := false, err := true, d := ⟨("BadSetting", some "__init__"), "__init__", "BadSetting.__init__", defArgs (meth (top 3) 0), defBody (meth (top 3) 0), defScope (meth (top 3) 0), [], []⟩, N := ["self", "part"], ps := ["self", "part"] }
/-! _law_part -/
def B5 : Ev.S := (.seq (.try_ (.seq (.expr (.make 2 (.cons (.var 0) (.cons (.var 1) (.cons (.var 2) .nil))))) .skip) (.hnd 1 (some 3) (.seq (.ifs (.or (.not (.e (.xis 3 (.cls 0)))) (.not (.e (.xis 3 .verr)))) (.seq (.ret (.str [99, 108, 97, 115, 115])) .skip) .skip) (.seq (.ret (.xat 3 0)) .skip)) .skip)) (.seq (.ret (.str [110, 111, 110, 101])) .skip))
def F5 : FnS := { fn := { np := 3, nl := 4, body := B5, ini := none, lv := 2 }, prop := false, err := false, d := ⟨("_law_part", none), "_law_part", "_law_part", defArgs (top 12), defBody (top 12), defScope (top 12), [], []⟩, N := ["_law_houses", "_law_faults", "_law_kind", "e"], ps := ["_law_houses", "_law_faults", "_law_kind"] }
/-! law -/
def B6 : Ev.S := (.seq (.set 1 (.sto (.lst (.cons (.int 0) (.cons (.int 0) (.cons (.int 0) (.cons (.int 0) .nil))))))) (.seq (.set 2 (.lst (.cons (.call 0 (.cons (.var 0) (.cons (.var 1) (.cons (.int 3) .nil)))) (.cons (.call 0 (.cons (.var 0) (.cons (.var 1) (.cons (.int 3) .nil)))) (.cons (.call 0 (.cons (.var 0) (.cons (.var 1) (.cons (.int 3) .nil)))) .nil))))) (.seq (.set 3 (.call 1 (.cons (.var 0) (.cons (.var 1) .nil)))) (.seq (.set 4 (.ix (.var 3) (.int 0))) (.seq (.set 5 (.ix (.var 3) (.int 2))) (.seq (.set 6 (.ix (.var 3) (.int 1))) (.seq (.set 7 (.str [110, 111, 110, 101])) (.seq (.ifs (.e (.cmp .eq (.ix (.var 2) (.int 0)) (.int 1))) (.seq (.set 6 (.ix (.lst (.cons (.int (-1)) (.cons (.bin .sub (.var 4) (.int 1)) (.cons (.var 4) (.cons (.bl true) (.cons .non (.cons (.str [49]) (.cons (.bl false) (.cons (.bin .pow (.int 10) (.int 30)) .nil))))))))) (.call 0 (.cons (.var 0) (.cons (.var 1) (.cons (.int 8) .nil)))))) (.seq (.set 7 (.str [102, 97, 117, 108, 116, 115])) .skip)) .skip) (.seq (.ifs (.e (.cmp .eq (.ix (.var 2) (.int 1)) (.int 1))) (.seq (.set 5 (.ix (.lst (.cons (.str []) (.cons (.str [108, 105, 101]) (.cons (.str [76, 105, 101, 115]) (.cons .non (.cons (.int 3) (.cons (.str [108, 105, 101, 115, 32]) (.cons (.lst (.cons (.str [108, 105, 101, 115]) .nil)) (.cons (.str [102, 97, 108, 108, 115, 32, 108, 97, 116, 101]) .nil))))))))) (.call 0 (.cons (.var 0) (.cons (.var 1) (.cons (.int 8) .nil)))))) (.seq (.set 7 (.str [107, 105, 110, 100])) .skip)) .skip) (.seq (.ifs (.e (.cmp .eq (.ix (.var 2) (.int 2)) (.int 1))) (.seq (.set 4 (.ix (.lst (.cons (.int 1) (.cons (.int 10) (.cons (.int 0) (.cons (.int (-4)) (.cons (.bl true) (.cons .non (.cons (.str [52]) (.cons (.bin .pow (.int 10) (.int 30)) .nil))))))))) (.call 0 (.cons (.var 0) (.cons (.var 1) (.cons (.int 8) .nil)))))) (.seq (.set 7 (.str [104, 111, 117, 115, 101, 115])) .skip)) .skip) (.seq (.ifs (.e (.cmp .ne (.call 5 (.cons (.var 4) (.cons (.var 6) (.cons (.var 5) .nil)))) (.var 7))) (.seq (.ret (.bl false)) .skip) .skip) (.seq (.ret (.cmp .eq (.call 5 (.cons (.ix (.var 3) (.int 0)) (.cons (.ix (.var 3) (.int 1)) (.cons (.ix (.var 3) (.int 2)) .nil)))) (.str [110, 111, 110, 101]))) .skip))))))))))))
def F6 : FnS := { fn := { np := 1, nl := 8, body := B6, ini := none, lv := 3 }, prop := false, err := false, d := ⟨("law", none), "law", "law", defArgs (top 13), defBody (top 13), defScope (top 13), [], []⟩, N := ["_law_script", "_law_state", "_law_ways", "_law_setting_here", "_law_houses", "_law_kind", "_law_faults", "_law_due"], ps := ["_law_script"] }
def C0 : Ev.Cls := { fields := [], exc := true, cat := false, up := [] }
def C1 : Ev.Cls := { fields := [0], exc := true, cat := true, up := [0], init := 4, np := 1 }
def C2 : Ev.Cls := { fields := [1, 2, 3], exc := false, cat := false, up := [], init := 3, np := 3, meths := [], props := [] }
def S : Src := { prog := PySem.Challenge.pw_spreadshrinks_k09_invalid_settings, fns := [F0, F1, F2, F3, F4, F5, F6], cls := [C0, C1, C2], cn := ["NearError", "BadSetting", "Setting"], at_ := ["part", "houses", "faults", "kind"], con := [("KINDS", .tup [.str [108, 105, 101, 115], .str [108, 97, 116, 101], .str [108, 97, 116, 101, 108, 105, 101, 115], .str [102, 97, 108, 108, 115]])], free := ["int", "len", "isinstance", "bool", "str", "super", "ValueError"], isi := [.int, .bool, .str, (.cls 0), .verr], caught := [1] }
theorem hf_0 : S.fns[0]? = some F0 := rfl
theorem hf_1 : S.fns[1]? = some F1 := rfl
theorem hf_2 : S.fns[2]? = some F2 := rfl
theorem hf_3 : S.fns[3]? = some F3 := rfl
theorem hf_4 : S.fns[4]? = some F4 := rfl
theorem hf_5 : S.fns[5]? = some F5 := rfl
theorem hf_6 : S.fns[6]? = some F6 := rfl
theorem hc_0 : S.cls[0]? = some C0 := rfl
theorem hc_1 : S.cls[1]? = some C1 := rfl
theorem hc_2 : S.cls[2]? = some C2 := rfl
theorem fr (i : Nat) {x : Str} (h : S.free[i]? = some x := by rfl) : x ∈ S.free := List.mem_of_getElem? h
theorem hk (i : Nat) {x : Nat} (h : S.caught[i]? = some x := by rfl) : x ∈ S.caught := List.mem_of_getElem? h
theorem ops : OpsOk S := opsOk_none rfl
theorem g_0 (Y : Core) : GoodF S Y F0 where
  sc := ⟨rfl, rfl, rfl, by decide +kernel, rfl, by decide +kernel, by decide +kernel⟩
  n1 := rfl
  n2 := rfl
  n3 := by decide
  dfl := ⟨rfl, rfl⟩
  bind := fun _ _ _ _ _ _ us hl => match us, hl with
    | [_, _, _], _ => rfl
  body := fun me cf k f fa cdv A outer s H E r => by
    have c : Ct S (cxF Y F0.N F0.d.qual F0.d.scope fa cdv A outer s H E) (wF E) (nmE S me) cf k := Ct.of ops f r (by decide +kernel)
    exact (ss_cons (ss_if (PW.pt (sw_and (t_cmp c (op := .eq) (b_of (x_ix c b_var se_int)) (b_of se_int)) (pw_and1 (t_cmp c (op := .lt) (b_of (x_ix c b_var se_int)) (b_of (x_len c (fr 1) (xl_cons b_var xl_nil))))))) (ss_cons (y_set c (x_ix c b_var (x_ix c b_var se_int)))
      (ss_cons (y_seti x_var se_int (x_bin c (op := .add) (b_of (x_ix c b_var se_int)) (b_of se_int)))
      (ss_cons (ss_if (t_cmp c (op := .ge) b_var (b_of (x_bin c (op := .pow) (b_of se_int) (b_of se_int)))) (ss_cons (y_seti x_var se_int x_var)
      ss_skip) (ss_cons (y_seti x_var se_int (x_bin c (op := .mod) (b_of (x_int c (fr 0) (xl_cons (b_of (x_bin c (op := .add) (b_of (x_bin c (op := .mul) (b_of (x_ix c b_var se_int)) (b_of se_int))) b_var)) xl_nil))) (b_of se_int)))
      ss_skip))
      ss_skip))) ss_skip)
      (ss_cons (ss_if (t_cmp c (op := .gt) (b_of (x_ix c b_var se_int)) (b_of se_int)) (ss_cons (y_set c (x_bin c (op := .mod) (b_of (x_int c (fr 0) (xl_cons (b_of (x_ix c b_var se_int)) xl_nil))) b_var))
      (ss_cons (y_seti x_var se_int (x_bin c (op := .fdv) (b_of (x_ix c b_var se_int)) b_var))
      (ss_cons (ss_ret x_var)
      ss_skip))) ss_skip)
      (ss_cons (y_seti x_var se_int (x_bin c (op := .add) (b_of (x_ix c b_var se_int)) (b_of se_int)))
      (ss_cons (y_seti x_var se_int (x_bin c (op := .mod) (b_of (x_int c (fr 0) (xl_cons (b_of (x_bin c (op := .add) (b_of (x_bin c (op := .add) (b_of (x_bin c (op := .mul) (b_of (x_ix c b_var se_int)) (b_of se_int))) (b_of (x_bin c (op := .mul) (b_of (x_ix c b_var se_int)) (b_of se_int))))) (b_of se_int))) xl_nil))) (b_of se_int)))
      (ss_cons (y_set c (x_bin c (op := .mod) (b_of (x_int c (fr 0) (xl_cons (b_of (x_bin c (op := .mul) (b_of (x_ix c b_var se_int)) (b_of (x_bin c (op := .add) (b_of (x_bin c (op := .fdv) (b_of (x_ix c b_var se_int)) (b_of se_int))) (b_of se_int))))) xl_nil))) (b_of se_int)))
      (ss_cons (ss_ret (x_bin c (op := .mod) (b_of (x_bin c (op := .mod) (b_of (x_int c (fr 0) (xl_cons (b_of (x_bin c (op := .mul) b_var (b_of (x_bin c (op := .add) (b_of (x_bin c (op := .fdv) b_var (b_of se_int))) (b_of se_int))))) xl_nil))) (b_of se_int))) b_var))
      ss_skip))))))
theorem g_1 (Y : Core) : GoodF S Y F1 where
  sc := ⟨rfl, rfl, rfl, by decide +kernel, rfl, by decide +kernel, by decide +kernel⟩
  n1 := rfl
  n2 := rfl
  n3 := by decide
  dfl := ⟨rfl, rfl⟩
  bind := fun _ _ _ _ _ _ us hl => match us, hl with
    | [_, _], _ => rfl
  body := fun me cf k f fa cdv A outer s H E r => by
    have c : Ct S (cxF Y F1.N F1.d.qual F1.d.scope fa cdv A outer s H E) (wF E) (nmE S me) cf k := Ct.of ops f r (by decide +kernel)
    exact (ss_cons (y_set c (x_ix c (b_of (se_lst (xa_cons x_str (xa_cons x_str (xa_cons x_str (xa_cons x_str xa_nil)))))) (x_call c hf_0 (xa_cons x_var (xa_cons x_var (xa_cons se_int xa_nil))))))
      (ss_cons (y_set c (x_bin c (op := .add) (b_of se_int) (b_of (x_call c hf_0 (xa_cons x_var (xa_cons x_var (xa_cons se_int xa_nil)))))))
      (ss_cons (ss_ret (se_tup (xa_cons x_var (xa_cons (x_call c hf_0 (xa_cons x_var (xa_cons x_var (xa_cons (x_bin c (op := .sub) b_var (b_of se_int)) xa_nil)))) (xa_cons x_var xa_nil)))))
      ss_skip)))
theorem g_2 (Y : Core) : GoodF S Y F2 where
  sc := ⟨rfl, rfl, rfl, by decide +kernel, rfl, by decide +kernel, by decide +kernel⟩
  n1 := rfl
  n2 := rfl
  n3 := by decide
  dfl := ⟨rfl, rfl⟩
  bind := fun _ _ _ _ _ _ us hl => match us, hl with
    | [_], _ => rfl
  body := fun me cf k f fa cdv A outer s H E r => by
    have c : Ct S (cxF Y F2.N F2.d.qual F2.d.scope fa cdv A outer s H E) (wF E) (nmE S me) cf k := Ct.of ops f r (by decide +kernel)
    exact (ss_cons (ss_ret (se_and (x_isi1 c (fr 2) b_var (x_ty c boot_int (fr 0) (by decide) rfl rfl)) (pe_one (se_not (b_of (x_isi1 c (fr 2) b_var (x_ty c boot_bool (fr 3) (by decide) rfl rfl)))))))
      ss_skip)
theorem g_3 (Y : Core) : GoodF S Y F3 where
  sc := ⟨rfl, rfl, rfl, by decide +kernel, rfl, by decide +kernel, by decide +kernel⟩
  n1 := rfl
  n2 := rfl
  n3 := by decide
  dfl := ⟨rfl, rfl⟩
  bind := fun _ _ _ _ _ _ us hl => match us, hl with
    | [_, _, _, _], _ => rfl
  body := fun me cf k f fa cdv A outer s H E r => by
    have c : Ct S (cxF Y F3.N F3.d.qual F3.d.scope fa cdv A outer s H E) (wF E) (nmE S me) cf k := Ct.of ops f r (by decide +kernel)
    exact (ss_cons (ss_if (PW.pt (sw_or (st_not (t_e (b_of (x_call c hf_2 (xa_cons x_var xa_nil))))) (pw_or1 (st_not (t_chain c (op := .le) (op' := .le) se_int x_var se_int))))) (ss_cons (y_raise c hc_1 (xa_cons x_str xa_nil))
      ss_skip) ss_skip)
      (ss_cons (ss_if (PW.pt (sw_or (st_not (t_e (b_of (x_isi1 c (fr 2) b_var (x_ty c boot_str (fr 4) (by decide) rfl rfl))))) (pw_or1 (t_cmp c (op := .nin) b_var (b_of (x_con c)))))) (ss_cons (y_raise c hc_1 (xa_cons x_str xa_nil))
      ss_skip) ss_skip)
      (ss_cons (ss_if (PW.pt (sw_or (st_not (t_e (b_of (x_call c hf_2 (xa_cons x_var xa_nil))))) (pw_or1 (st_not (t_chain c (op := .le) (op' := .le) se_int x_var (x_bin c (op := .sub) b_var (b_of se_int))))))) (ss_cons (y_raise c hc_1 (xa_cons x_str xa_nil))
      ss_skip) ss_skip)
      (ss_cons (y_setf c x_var)
      (ss_cons (y_setf c x_var)
      (ss_cons (y_setf c x_var)
      ss_skip))))))
theorem g_5 (Y : Core) : GoodF S Y F5 where
  sc := ⟨rfl, rfl, rfl, by decide +kernel, rfl, by decide +kernel, by decide +kernel⟩
  n1 := rfl
  n2 := rfl
  n3 := by decide
  dfl := ⟨rfl, rfl⟩
  bind := fun _ _ _ _ _ _ us hl => match us, hl with
    | [_, _, _], _ => rfl
  body := fun me cf k f fa cdv A outer s H E r => by
    have c : Ct S (cxF Y F5.N F5.d.qual F5.d.scope fa cdv A outer s H E) (wF E) (nmE S me) cf k := Ct.of ops f r (by decide +kernel)
    exact (ss_cons (y_tryAs c ops hc_1 (hk 0) (fun _ _ _ c => (ss_cons (y_expr (x_make c hc_2 (xa_cons x_var (xa_cons x_var (xa_cons x_var xa_nil)))))
      ss_skip))
      (fun _ _ _ _ _ c => (ss_cons (ss_if (PW.pt (sw_or (st_not (t_e (b_of (z_xis c (fr 2) (z_cls c (hc_0)))))) (pw_or1 (st_not (t_e (b_of (z_xis c (fr 2) (z_ty c boot_ValueError (fr 6) (by decide) rfl rfl)))))))) (ss_cons (ss_ret x_str)
      ss_skip) ss_skip)
      (ss_cons (ss_ret (z_xat c))
      ss_skip))))
      (ss_cons (ss_ret x_str)
      ss_skip))
theorem g_6 (Y : Core) : GoodF S Y F6 where
  sc := ⟨rfl, rfl, rfl, by decide +kernel, rfl, by decide +kernel, by decide +kernel⟩
  n1 := rfl
  n2 := rfl
  n3 := by decide
  dfl := ⟨rfl, rfl⟩
  bind := fun _ _ _ _ _ _ us hl => match us, hl with
    | [_], _ => rfl
  body := fun me cf k f fa cdv A outer s H E r => by
    have c : Ct S (cxF Y F6.N F6.d.qual F6.d.scope fa cdv A outer s H E) (wF E) (nmE S me) cf k := Ct.of ops f r (by decide +kernel)
    exact (ss_cons (y_set c (se_sto (xa_cons se_int (xa_cons se_int (xa_cons se_int (xa_cons se_int xa_nil))))))
      (ss_cons (y_set c (se_lst (xa_cons (x_call c hf_0 (xa_cons x_var (xa_cons x_var (xa_cons se_int xa_nil)))) (xa_cons (x_call c hf_0 (xa_cons x_var (xa_cons x_var (xa_cons se_int xa_nil)))) (xa_cons (x_call c hf_0 (xa_cons x_var (xa_cons x_var (xa_cons se_int xa_nil)))) xa_nil)))))
      (ss_cons (y_set c (x_call c hf_1 (xa_cons x_var (xa_cons x_var xa_nil))))
      (ss_cons (y_set c (x_ix c b_var se_int))
      (ss_cons (y_set c (x_ix c b_var se_int))
      (ss_cons (y_set c (x_ix c b_var se_int))
      (ss_cons (y_set c x_str)
      (ss_cons (ss_if (t_cmp c (op := .eq) (b_of (x_ix c b_var se_int)) (b_of se_int)) (ss_cons (y_set c (x_ix c (b_of (se_lst (xa_cons se_negc (xa_cons (x_bin c (op := .sub) b_var (b_of se_int)) (xa_cons x_var (xa_cons se_bl (xa_cons se_non (xa_cons x_str (xa_cons se_bl (xa_cons (x_bin c (op := .pow) (b_of se_int) (b_of se_int)) xa_nil)))))))))) (x_call c hf_0 (xa_cons x_var (xa_cons x_var (xa_cons se_int xa_nil))))))
      (ss_cons (y_set c x_str)
      ss_skip)) ss_skip)
      (ss_cons (ss_if (t_cmp c (op := .eq) (b_of (x_ix c b_var se_int)) (b_of se_int)) (ss_cons (y_set c (x_ix c (b_of (se_lst (xa_cons x_str (xa_cons x_str (xa_cons x_str (xa_cons se_non (xa_cons se_int (xa_cons x_str (xa_cons (se_lst (xa_cons x_str xa_nil)) (xa_cons x_str xa_nil)))))))))) (x_call c hf_0 (xa_cons x_var (xa_cons x_var (xa_cons se_int xa_nil))))))
      (ss_cons (y_set c x_str)
      ss_skip)) ss_skip)
      (ss_cons (ss_if (t_cmp c (op := .eq) (b_of (x_ix c b_var se_int)) (b_of se_int)) (ss_cons (y_set c (x_ix c (b_of (se_lst (xa_cons se_int (xa_cons se_int (xa_cons se_int (xa_cons se_negc (xa_cons se_bl (xa_cons se_non (xa_cons x_str (xa_cons (x_bin c (op := .pow) (b_of se_int) (b_of se_int)) xa_nil)))))))))) (x_call c hf_0 (xa_cons x_var (xa_cons x_var (xa_cons se_int xa_nil))))))
      (ss_cons (y_set c x_str)
      ss_skip)) ss_skip)
      (ss_cons (ss_if (t_cmp c (op := .ne) (b_of (x_call c hf_5 (xa_cons x_var (xa_cons x_var (xa_cons x_var xa_nil))))) b_var) (ss_cons (ss_ret se_bl)
      ss_skip) ss_skip)
      (ss_cons (ss_ret (x_cmp c (op := .eq) (b_of (x_call c hf_5 (xa_cons (x_ix c b_var se_int) (xa_cons (x_ix c b_var se_int) (xa_cons (x_ix c b_var se_int) xa_nil))))) (b_of x_str)))
      ss_skip))))))))))))
theorem e_1 : GoodE (C1.fields.map S.nm.attr) C1.cat F4.d where
  nam := rfl
  body := .mk _ _ _ _ _ rfl (.cat _ _ _ _ _ _ _ (by decide)) (.cons _ _ _ _ _ .nil)
  scp := ⟨rfl, rfl, by decide +kernel, rfl, rfl, by decide +kernel, rfl, rfl⟩
  head := ⟨_, rfl, rfl⟩
  bind := fun dV kV doc pm an cdv ct cc us hl e => by
    subst e
    match us, hl with
    | [_, _], _ => rfl
theorem good (Y : Core) : Good S Y where
  wf := by decide +kernel
  er := fun c C F hC hx hn hf => match c, hC, hx, hn, hf with
    | 0, hC, hx, hn, hf => by
      have e : C0 = C := Option.some.inj hC
      subst e
      exact absurd rfl hn
    | 1, hC, hx, hn, hf => by
      have e : C1 = C := Option.some.inj hC
      subst e
      have e2 : F4 = F := Option.some.inj hf
      subst e2
      exact e_1
    | 2, hC, hx, hn, hf => by
      have e : C2 = C := Option.some.inj hC
      subst e
      cases hx
    | n + 3, hC, _, _, _ => by cases hC
  fn := fun f F hf he => match f, hf, he with
    | 0, hf, he => by
      have e : F0 = F := Option.some.inj hf
      subst e
      exact g_0 Y
    | 1, hf, he => by
      have e : F1 = F := Option.some.inj hf
      subst e
      exact g_1 Y
    | 2, hf, he => by
      have e : F2 = F := Option.some.inj hf
      subst e
      exact g_2 Y
    | 3, hf, he => by
      have e : F3 = F := Option.some.inj hf
      subst e
      exact g_3 Y
    | 4, hf, he => by
      have e : F4 = F := Option.some.inj hf
      subst e
      cases he
    | 5, hf, he => by
      have e : F5 = F := Option.some.inj hf
      subst e
      exact g_5 Y
    | 6, hf, he => by
      have e : F6 = F := Option.some.inj hf
      subst e
      exact g_6 Y
    | n + 7, hf, _ => by cases hf
@[simp] theorem Tfn_0 : S.T.fn 0 = some F0.fn := rfl
@[simp] theorem tb_1_0 : tbl S.T 1 0 = call S.T 0 := tbl_eq S.T (Tfn_0) (by decide)
@[simp] theorem tb_2_0 : tbl S.T 2 0 = call S.T 0 := tbl_eq S.T (Tfn_0) (by decide)
@[simp] theorem tb_3_0 : tbl S.T 3 0 = call S.T 0 := tbl_eq S.T (Tfn_0) (by decide)
theorem run_0 (x0 x1 x2 : D) (st : Sto) : call S.T 0 [x0, x1, x2] st = fin S.T (none) (exS S.T (tbl S.T 0) B0 [some x0, some x1, some x2, none, none, none] st) := rfl
@[simp] theorem Tfn_1 : S.T.fn 1 = some F1.fn := rfl
@[simp] theorem tb_2_1 : tbl S.T 2 1 = call S.T 1 := tbl_eq S.T (Tfn_1) (by decide)
@[simp] theorem tb_3_1 : tbl S.T 3 1 = call S.T 1 := tbl_eq S.T (Tfn_1) (by decide)
theorem run_1 (x0 x1 : D) (st : Sto) : call S.T 1 [x0, x1] st = fin S.T (none) (exS S.T (tbl S.T 1) B1 [some x0, some x1, none, none] st) := rfl
@[simp] theorem Tfn_2 : S.T.fn 2 = some F2.fn := rfl
@[simp] theorem tb_1_2 : tbl S.T 1 2 = call S.T 2 := tbl_eq S.T (Tfn_2) (by decide)
@[simp] theorem tb_2_2 : tbl S.T 2 2 = call S.T 2 := tbl_eq S.T (Tfn_2) (by decide)
@[simp] theorem tb_3_2 : tbl S.T 3 2 = call S.T 2 := tbl_eq S.T (Tfn_2) (by decide)
theorem run_2 (x0 : D) (st : Sto) : call S.T 2 [x0] st = fin S.T (none) (exS S.T (tbl S.T 0) B2 [some x0] st) := rfl
@[simp] theorem Tfn_3 : S.T.fn 3 = some F3.fn := rfl
@[simp] theorem tb_2_3 : tbl S.T 2 3 = call S.T 3 := tbl_eq S.T (Tfn_3) (by decide)
@[simp] theorem tb_3_3 : tbl S.T 3 3 = call S.T 3 := tbl_eq S.T (Tfn_3) (by decide)
theorem run_3 (x0 x1 x2 : D) (st : Sto) : call S.T 3 [x0, x1, x2] st = fin S.T (some 2) (exS S.T (tbl S.T 1) B3 [some (.obj 2 []), some x0, some x1, some x2] st) := rfl
@[simp] theorem Tfn_5 : S.T.fn 5 = some F5.fn := rfl
@[simp] theorem tb_3_5 : tbl S.T 3 5 = call S.T 5 := tbl_eq S.T (Tfn_5) (by decide)
theorem run_5 (x0 x1 x2 : D) (st : Sto) : call S.T 5 [x0, x1, x2] st = fin S.T (none) (exS S.T (tbl S.T 2) B5 [some x0, some x1, some x2, none] st) := rfl
@[simp] theorem Tfn_6 : S.T.fn 6 = some F6.fn := rfl
theorem run_6 (x0 : D) (st : Sto) : call S.T 6 [x0] st = fin S.T (none) (exS S.T (tbl S.T 3) B6 [some x0, none, none, none, none, none, none, none] st) := rfl
@[simp] theorem Tcls_0 : S.T.cls 0 = some C0 := rfl
@[simp] theorem Tcls_1 : S.T.cls 1 = some C1 := rfl
@[simp] theorem Tcls_2 : S.T.cls 2 = some C2 := rfl
@[simp] theorem Tcon_0 : S.T.con 0 = .tup [.str [108, 105, 101, 115], .str [108, 97, 116, 101], .str [108, 97, 116, 101, 108, 105, 101, 115], .str [102, 97, 108, 108, 115]] := rfl
@[simp] theorem Tisi : S.T.isi = [.int, .bool, .str, (.cls 0), .verr] := rfl
@[simp] theorem Tbop (c : Nat) (o : BO) : S.T.bop c o = none := rfl
@[simp] theorem Trop (c : Nat) (o : BO) : S.T.rop c o = none := rfl
@[simp] theorem Tcop (c : Nat) (o : CO) : S.T.cop c o = none := rfl
@[simp] theorem Tneg (c : Nat) : S.T.neg c = none := rfl
@[simp] theorem Tabs (c : Nat) : S.T.abs c = none := rfl
@[simp] theorem Tstr (c : Nat) : S.T.str c = none := rfl
@[simp] theorem Tget (c : Nat) : S.T.get c = none := rfl
abbrev Rw : PySem.W.OpenRow := PySem.W.OpenLaw.row PySem.Challenge.rw_spreadshrinks_k09_invalid_settings
abbrev hook : PySem.W.Hook := hookM 6 S.ck S.fas S.val
def ob (s : PySem.W.SharedT) : AlM := obsM 6 S.ck S.fas (HandSHeadRun.getT s)
theorem ob_eq (s : PySem.W.SharedT) : ob s = hook.obs s.abs := obsM_eq (HandSHeadRun.getT_eq s)
def loose : List Str := ["_wall", "NearError", "BadSetting", "is_integer", "Setting", "_law_draw", "_law_setting", "_law_part", "KINDS"]
theorem run (w : World) : HandSHeadRun.RunEq Rw (PySem.W.view Rw.prog [13]) hook ob 20000 loose w := by
  intro os
  kernel_rfl
end K09
set_option linter.all false
set_option maxHeartbeats 0
set_option Elab.async false
namespace K09
open Ev Snd
theorem dr (ns : List Int) {s : Sto} (h : Draws s) (m : Int) (hm : 0 < m) (hm2 : m < 1073741824) : ∃ n s', (0 ≤ n ∧ n < m) ∧ Draws s' ∧ call S.T 0 [.scr ns, .ref 0, .int m] s = .ok (.int n) s' := by
  obtain ⟨n, s', h1, h2, h3, e⟩ := draw_run (T := S.T) (cf := tbl S.T 0) (ns := ns) h hm hm2 0
  exact ⟨n, s', ⟨h1, h2⟩, h3, e⟩
theorem isint_int (i : Int) (st : Sto) : call S.T 2 [.int i] st = .ok (.bl true) st := rfl
theorem isint_bl (i : Bool) (st : Sto) : call S.T 2 [.bl i] st = .ok (.bl false) st := rfl
theorem isint_str (i : List Nat) (st : Sto) : call S.T 2 [.str i] st = .ok (.bl false) st := rfl
theorem isint_non (st : Sto) : call S.T 2 [.non] st = .ok (.bl false) st := rfl
def houses : List Nat := [104, 111, 117, 115, 101, 115]
def kind : List Nat := [107, 105, 110, 100]
def faults : List Nat := [102, 97, 117, 108, 116, 115]
def none_ : List Nat := [110, 111, 110, 101]
def nice : D → Bool
  | .int _ => true | .bl _ => true | .str _ => true | .non => true
  | _ => false
def niceK : D → Bool
  | .lst _ => true
  | d => nice d
def okH : D → Bool
  | .int i => decide (2 ≤ i ∧ i ≤ 9)
  | _ => false
def kinds : List (List Nat) := [[108, 105, 101, 115], [108, 97, 116, 101], [108, 97, 116, 101, 108, 105, 101, 115], [102, 97, 108, 108, 115]]
def okK : D → Bool
  | .str s => kinds.contains s
  | _ => false
def okF (h : Int) : D → Bool
  | .int i => decide (0 ≤ i ∧ i ≤ h - 2)
  | _ => false
theorem set_houses {h f k : D} {st : Sto} (n : nice h = true) (b : okH h = false) : call S.T 3 [h, f, k] st = .er ⟨1, [.str houses]⟩ st := by
  rw [run_3]
  cases h with
  | int i =>
    by_cases h1 : 2 ≤ i
    · by_cases h2 : i ≤ 9
      · simp [okH, h1, h2] at b
      · simp [binE, binD, cmpE, cmpD, eqF, biE, biD, ixE, atI, ixN, truth, fz, setiD, seqOf, inF, noBl, leafEq, isNon, attrE, fieldD, posOf, clsI, makeE, mis, methE, methOf, nameOf, prop, noEr, notNim, asBl, isErr, xatD, xisD, kdOf, kdIs, isInst, isAny, under, raisable, isTxt, setfD, setAll, notExc, partOf, slE, strE, negE, rngI, enumD, zipD, ownAt, insAt, pkB, LINE, small, B3, isint_int, h1, h2, C1, houses, LINE]
    · simp [binE, binD, cmpE, cmpD, eqF, biE, biD, ixE, atI, ixN, truth, fz, setiD, seqOf, inF, noBl, leafEq, isNon, attrE, fieldD, posOf, clsI, makeE, mis, methE, methOf, nameOf, prop, noEr, notNim, asBl, isErr, xatD, xisD, kdOf, kdIs, isInst, isAny, under, raisable, isTxt, setfD, setAll, notExc, partOf, slE, strE, negE, rngI, enumD, zipD, ownAt, insAt, pkB, LINE, small, B3, isint_int, h1, C1, houses, LINE]
  | bl i => simp [binE, binD, cmpE, cmpD, eqF, biE, biD, ixE, atI, ixN, truth, fz, setiD, seqOf, inF, noBl, leafEq, isNon, attrE, fieldD, posOf, clsI, makeE, mis, methE, methOf, nameOf, prop, noEr, notNim, asBl, isErr, xatD, xisD, kdOf, kdIs, isInst, isAny, under, raisable, isTxt, setfD, setAll, notExc, partOf, slE, strE, negE, rngI, enumD, zipD, ownAt, insAt, pkB, LINE, small, B3, isint_bl, C1, houses, LINE]
  | str i => simp [binE, binD, cmpE, cmpD, eqF, biE, biD, ixE, atI, ixN, truth, fz, setiD, seqOf, inF, noBl, leafEq, isNon, attrE, fieldD, posOf, clsI, makeE, mis, methE, methOf, nameOf, prop, noEr, notNim, asBl, isErr, xatD, xisD, kdOf, kdIs, isInst, isAny, under, raisable, isTxt, setfD, setAll, notExc, partOf, slE, strE, negE, rngI, enumD, zipD, ownAt, insAt, pkB, LINE, small, B3, isint_str, C1, houses, LINE]
  | non => simp [binE, binD, cmpE, cmpD, eqF, biE, biD, ixE, atI, ixN, truth, fz, setiD, seqOf, inF, noBl, leafEq, isNon, attrE, fieldD, posOf, clsI, makeE, mis, methE, methOf, nameOf, prop, noEr, notNim, asBl, isErr, xatD, xisD, kdOf, kdIs, isInst, isAny, under, raisable, isTxt, setfD, setAll, notExc, partOf, slE, strE, negE, rngI, enumD, zipD, ownAt, insAt, pkB, LINE, small, B3, isint_non, C1, houses, LINE]
  | _ => cases n
theorem okH_is {h : D} (b : okH h = true) : ∃ i, h = .int i ∧ 2 ≤ i ∧ i ≤ 9 := by
  cases h with
  | int i => exact ⟨i, rfl, by simpa [okH] using b⟩
  | _ => cases b
theorem okK_is {k : D} (b : okK k = true) : ∃ s, k = .str s ∧ (s = [108, 105, 101, 115] ∨ s = [108, 97, 116, 101] ∨ s = [108, 97, 116, 101, 108, 105, 101, 115] ∨ s = [102, 97, 108, 108, 115]) := by
  cases k with
  | str s => exact ⟨s, rfl, by simpa [okK, kinds] using b⟩
  | _ => cases b
theorem set_kind {h f k : D} {st : Sto} (n : niceK k = true) (a : okH h = true) (b : okK k = false) : call S.T 3 [h, f, k] st = .er ⟨1, [.str kind]⟩ st := by
  obtain ⟨i, rfl, h1, h2⟩ := okH_is a
  rw [run_3]
  cases k with
  | str s =>
    simp [okK, kinds] at b
    obtain ⟨b1, b2, b3, b4⟩ := b
    have c1 : ¬ [108, 105, 101, 115] = s := fun z => b1 z.symm
    have c2 : ¬ [108, 97, 116, 101] = s := fun z => b2 z.symm
    have c3 : ¬ [108, 97, 116, 101, 108, 105, 101, 115] = s := fun z => b3 z.symm
    have c4 : ¬ [102, 97, 108, 108, 115] = s := fun z => b4 z.symm
    simp [binE, binD, cmpE, cmpD, eqF, biE, biD, ixE, atI, ixN, truth, fz, setiD, seqOf, inF, noBl, leafEq, isNon, attrE, fieldD, posOf, clsI, makeE, mis, methE, methOf, nameOf, prop, noEr, notNim, asBl, isErr, xatD, xisD, kdOf, kdIs, isInst, isAny, under, raisable, isTxt, setfD, setAll, notExc, partOf, slE, strE, negE, rngI, enumD, zipD, ownAt, insAt, pkB, LINE, small, B3, isint_int, h1, h2, C1, kind, LINE, c1, c2, c3, c4]
  | int j => simp [binE, binD, cmpE, cmpD, eqF, biE, biD, ixE, atI, ixN, truth, fz, setiD, seqOf, inF, noBl, leafEq, isNon, attrE, fieldD, posOf, clsI, makeE, mis, methE, methOf, nameOf, prop, noEr, notNim, asBl, isErr, xatD, xisD, kdOf, kdIs, isInst, isAny, under, raisable, isTxt, setfD, setAll, notExc, partOf, slE, strE, negE, rngI, enumD, zipD, ownAt, insAt, pkB, LINE, small, B3, isint_int, h1, h2, C1, kind, LINE]
  | bl j => simp [binE, binD, cmpE, cmpD, eqF, biE, biD, ixE, atI, ixN, truth, fz, setiD, seqOf, inF, noBl, leafEq, isNon, attrE, fieldD, posOf, clsI, makeE, mis, methE, methOf, nameOf, prop, noEr, notNim, asBl, isErr, xatD, xisD, kdOf, kdIs, isInst, isAny, under, raisable, isTxt, setfD, setAll, notExc, partOf, slE, strE, negE, rngI, enumD, zipD, ownAt, insAt, pkB, LINE, small, B3, isint_int, h1, h2, C1, kind, LINE]
  | non => simp [binE, binD, cmpE, cmpD, eqF, biE, biD, ixE, atI, ixN, truth, fz, setiD, seqOf, inF, noBl, leafEq, isNon, attrE, fieldD, posOf, clsI, makeE, mis, methE, methOf, nameOf, prop, noEr, notNim, asBl, isErr, xatD, xisD, kdOf, kdIs, isInst, isAny, under, raisable, isTxt, setfD, setAll, notExc, partOf, slE, strE, negE, rngI, enumD, zipD, ownAt, insAt, pkB, LINE, small, B3, isint_int, h1, h2, C1, kind, LINE]
  | lst j => simp [binE, binD, cmpE, cmpD, eqF, biE, biD, ixE, atI, ixN, truth, fz, setiD, seqOf, inF, noBl, leafEq, isNon, attrE, fieldD, posOf, clsI, makeE, mis, methE, methOf, nameOf, prop, noEr, notNim, asBl, isErr, xatD, xisD, kdOf, kdIs, isInst, isAny, under, raisable, isTxt, setfD, setAll, notExc, partOf, slE, strE, negE, rngI, enumD, zipD, ownAt, insAt, pkB, LINE, small, B3, isint_int, h1, h2, C1, kind, LINE]
  | _ => cases n
theorem set_faults {i : Int} {f k : D} {st : Sto} (n : nice f = true) (a : okH (.int i) = true) (b : okK k = true) (c : okF i f = false) : call S.T 3 [.int i, f, k] st = .er ⟨1, [.str faults]⟩ st := by
  obtain ⟨i', e, h1, h2⟩ := okH_is a
  cases e
  obtain ⟨s, rfl, hs⟩ := okK_is b
  rw [run_3]
  cases f with
  | int j =>
    by_cases q : 0 ≤ j
    · by_cases q2 : j ≤ i - 2
      · simp [okF, q, q2] at c
      · rcases hs with rfl | rfl | rfl | rfl <;> simp [binE, binD, cmpE, cmpD, eqF, biE, biD, ixE, atI, ixN, truth, fz, setiD, seqOf, inF, noBl, leafEq, isNon, attrE, fieldD, posOf, clsI, makeE, mis, methE, methOf, nameOf, prop, noEr, notNim, asBl, isErr, xatD, xisD, kdOf, kdIs, isInst, isAny, under, raisable, isTxt, setfD, setAll, notExc, partOf, slE, strE, negE, rngI, enumD, zipD, ownAt, insAt, pkB, LINE, small, B3, isint_int, h1, h2, C1, faults, LINE, q, q2]
    · rcases hs with rfl | rfl | rfl | rfl <;> simp [binE, binD, cmpE, cmpD, eqF, biE, biD, ixE, atI, ixN, truth, fz, setiD, seqOf, inF, noBl, leafEq, isNon, attrE, fieldD, posOf, clsI, makeE, mis, methE, methOf, nameOf, prop, noEr, notNim, asBl, isErr, xatD, xisD, kdOf, kdIs, isInst, isAny, under, raisable, isTxt, setfD, setAll, notExc, partOf, slE, strE, negE, rngI, enumD, zipD, ownAt, insAt, pkB, LINE, small, B3, isint_int, h1, h2, C1, faults, LINE, q]
  | bl j => rcases hs with rfl | rfl | rfl | rfl <;> simp [binE, binD, cmpE, cmpD, eqF, biE, biD, ixE, atI, ixN, truth, fz, setiD, seqOf, inF, noBl, leafEq, isNon, attrE, fieldD, posOf, clsI, makeE, mis, methE, methOf, nameOf, prop, noEr, notNim, asBl, isErr, xatD, xisD, kdOf, kdIs, isInst, isAny, under, raisable, isTxt, setfD, setAll, notExc, partOf, slE, strE, negE, rngI, enumD, zipD, ownAt, insAt, pkB, LINE, small, B3, isint_int, isint_bl, h1, h2, C1, faults, LINE]
  | str j => rcases hs with rfl | rfl | rfl | rfl <;> simp [binE, binD, cmpE, cmpD, eqF, biE, biD, ixE, atI, ixN, truth, fz, setiD, seqOf, inF, noBl, leafEq, isNon, attrE, fieldD, posOf, clsI, makeE, mis, methE, methOf, nameOf, prop, noEr, notNim, asBl, isErr, xatD, xisD, kdOf, kdIs, isInst, isAny, under, raisable, isTxt, setfD, setAll, notExc, partOf, slE, strE, negE, rngI, enumD, zipD, ownAt, insAt, pkB, LINE, small, B3, isint_int, isint_str, h1, h2, C1, faults, LINE]
  | non => rcases hs with rfl | rfl | rfl | rfl <;> simp [binE, binD, cmpE, cmpD, eqF, biE, biD, ixE, atI, ixN, truth, fz, setiD, seqOf, inF, noBl, leafEq, isNon, attrE, fieldD, posOf, clsI, makeE, mis, methE, methOf, nameOf, prop, noEr, notNim, asBl, isErr, xatD, xisD, kdOf, kdIs, isInst, isAny, under, raisable, isTxt, setfD, setAll, notExc, partOf, slE, strE, negE, rngI, enumD, zipD, ownAt, insAt, pkB, LINE, small, B3, isint_int, isint_non, h1, h2, C1, faults, LINE]
  | _ => cases n
theorem set_ok {i j : Int} {k : D} {st : Sto} (a : okH (.int i) = true) (b : okK k = true) (c : okF i (.int j) = true) : call S.T 3 [.int i, .int j, k] st = .ok (.ins 2 [.int i, .int j, k]) st := by
  obtain ⟨i', e, h1, h2⟩ := okH_is a
  cases e
  obtain ⟨s, rfl, hs⟩ := okK_is b
  simp [okF] at c
  rw [run_3]
  rcases hs with rfl | rfl | rfl | rfl <;> simp [binE, binD, cmpE, cmpD, eqF, biE, biD, ixE, atI, ixN, truth, fz, setiD, seqOf, inF, noBl, leafEq, isNon, attrE, fieldD, posOf, clsI, makeE, mis, methE, methOf, nameOf, prop, noEr, notNim, asBl, isErr, xatD, xisD, kdOf, kdIs, isInst, isAny, under, raisable, isTxt, setfD, setAll, notExc, partOf, slE, strE, negE, rngI, enumD, zipD, ownAt, insAt, pkB, LINE, small, B3, isint_int, h1, h2, C1, C2, LINE, c]
def pl : D → Bool
  | .int _ => true | .bl _ => true | .str _ => true | .non => true | .lst _ => true
  | _ => false
theorem part_er {h f k : D} {p : List Nat} {st : Sto} (e : call S.T 3 [h, f, k] st = .er ⟨1, [.str p]⟩ st) (nh : pl h = true) (nf : pl f = true) (nk : pl k = true) : call S.T 5 [h, f, k] st = .ok (.str p) st := by
  rw [run_5]
  cases h <;> first | (cases nh; done) | skip
  all_goals (cases f <;> first | (cases nf; done) | skip)
  all_goals (cases k <;> first | (cases nk; done) | skip)
  all_goals simp [binE, binD, cmpE, cmpD, eqF, biE, biD, ixE, atI, ixN, truth, fz, setiD, seqOf, inF, noBl, leafEq, isNon, attrE, fieldD, posOf, clsI, makeE, mis, methE, methOf, nameOf, prop, noEr, notNim, asBl, isErr, xatD, xisD, kdOf, kdIs, isInst, isAny, under, raisable, isTxt, setfD, setAll, notExc, partOf, slE, strE, negE, rngI, enumD, zipD, ownAt, insAt, pkB, LINE, small, B5, e, C1, C0, C2, C1, LINE]
theorem part_ok {h f k d : D} {st : Sto} (e : call S.T 3 [h, f, k] st = .ok d st) (nh : pl h = true) (nf : pl f = true) (nk : pl k = true) : call S.T 5 [h, f, k] st = .ok (.str none_) st := by
  rw [run_5]
  cases h <;> first | (cases nh; done) | skip
  all_goals (cases f <;> first | (cases nf; done) | skip)
  all_goals (cases k <;> first | (cases nk; done) | skip)
  all_goals simp [binE, binD, cmpE, cmpD, eqF, biE, biD, ixE, atI, ixN, truth, fz, setiD, seqOf, inF, noBl, leafEq, isNon, attrE, fieldD, posOf, clsI, makeE, mis, methE, methOf, nameOf, prop, noEr, notNim, asBl, isErr, xatD, xisD, kdOf, kdIs, isInst, isAny, under, raisable, isTxt, setfD, setAll, notExc, partOf, slE, strE, negE, rngI, enumD, zipD, ownAt, insAt, pkB, LINE, small, B5, e, C1, C0, C2, LINE, none_]
theorem partF {h f k : D} {st : Sto} {p : List Nat} (nh : nice h = true) (nf : nice f = true) (nk : niceK k = true) (hp : (okH h = false ∧ p = houses) ∨ (okH h = true ∧ okK k = false ∧ p = kind) ∨ (okH h = true ∧ okK k = true ∧ (∀ i, h = .int i → okF i f = false) ∧ p = faults) ∨
    (okH h = true ∧ okK k = true ∧ (∀ i, h = .int i → okF i f = true) ∧ p = none_)) : call S.T 5 [h, f, k] st = .ok (.str p) st := by
  have a1 : pl h = true := by cases h <;> first | rfl | cases nh
  have a2 : pl f = true := by cases f <;> first | rfl | cases nf
  have a3 : pl k = true := by cases k <;> first | rfl | cases nk
  rcases hp with ⟨b, rfl⟩ | ⟨a, b, rfl⟩ | ⟨a, b, c, rfl⟩ | ⟨a, b, c, rfl⟩
  · exact part_er (set_houses nh b) a1 a2 a3
  · exact part_er (set_kind nk a b) a1 a2 a3
  · obtain ⟨i, rfl, _, _⟩ := okH_is a
    exact part_er (set_faults nf a b (c i rfl)) a1 a2 a3
  · obtain ⟨i, rfl, _, _⟩ := okH_is a
    have c' := c i rfl
    cases f with
    | int j => exact part_ok (set_ok a b c') a1 a2 a3
    | _ => cases c'
theorem cases4 {n : Int} (h : 0 ≤ n ∧ n < 4) : n = 0 ∨ n = 1 ∨ n = 2 ∨ n = 3 := by omega
theorem cases8 {n : Int} (h : 0 ≤ n ∧ n < 8) : n = 0 ∨ n = 1 ∨ n = 2 ∨ n = 3 ∨ n = 4 ∨ n = 5 ∨ n = 6 ∨ n = 7 := by omega
theorem setting (ns : List Int) {s : Sto} (h : Draws s) : ∃ (i j : Int) (k : List Nat) (s' : Sto), (2 ≤ i ∧ i ≤ 9) ∧ (0 ≤ j ∧ j ≤ i - 2) ∧ okK (.str k) = true ∧ Draws s' ∧ call S.T 1 [.scr ns, .ref 0] s = .ok (.tup [.int i, .int j, .str k]) s' := by
  obtain ⟨a, s1, b1, z1, e1⟩ := dr ns h 4 (by decide) (by decide)
  obtain ⟨b, s2, b2, z2, e2⟩ := dr ns z1 8 (by decide) (by decide)
  obtain ⟨c, s3, b3, z3, e3⟩ := dr ns z2 (2 + b - 1) (by omega) (by omega)
  rcases cases4 b1 with rfl | rfl | rfl | rfl
  · exact ⟨2 + b, c, [108, 105, 101, 115], s3, by omega, by omega, rfl, z3, by rw [run_1]; simp [binE, binD, cmpE, cmpD, eqF, biE, biD, ixE, atI, ixN, truth, fz, setiD, seqOf, inF, noBl, leafEq, isNon, attrE, fieldD, posOf, clsI, makeE, mis, methE, methOf, nameOf, prop, noEr, notNim, asBl, isErr, xatD, xisD, kdOf, kdIs, isInst, isAny, under, raisable, isTxt, setfD, setAll, notExc, partOf, slE, strE, negE, rngI, enumD, zipD, ownAt, insAt, pkB, LINE, small, B1, e1, e2, e3, LINE]⟩
  · exact ⟨2 + b, c, [108, 97, 116, 101], s3, by omega, by omega, rfl, z3, by rw [run_1]; simp [binE, binD, cmpE, cmpD, eqF, biE, biD, ixE, atI, ixN, truth, fz, setiD, seqOf, inF, noBl, leafEq, isNon, attrE, fieldD, posOf, clsI, makeE, mis, methE, methOf, nameOf, prop, noEr, notNim, asBl, isErr, xatD, xisD, kdOf, kdIs, isInst, isAny, under, raisable, isTxt, setfD, setAll, notExc, partOf, slE, strE, negE, rngI, enumD, zipD, ownAt, insAt, pkB, LINE, small, B1, e1, e2, e3, LINE]⟩
  · exact ⟨2 + b, c, [108, 97, 116, 101, 108, 105, 101, 115], s3, by omega, by omega, rfl, z3, by rw [run_1]; simp [binE, binD, cmpE, cmpD, eqF, biE, biD, ixE, atI, ixN, truth, fz, setiD, seqOf, inF, noBl, leafEq, isNon, attrE, fieldD, posOf, clsI, makeE, mis, methE, methOf, nameOf, prop, noEr, notNim, asBl, isErr, xatD, xisD, kdOf, kdIs, isInst, isAny, under, raisable, isTxt, setfD, setAll, notExc, partOf, slE, strE, negE, rngI, enumD, zipD, ownAt, insAt, pkB, LINE, small, B1, e1, e2, e3, LINE]⟩
  · exact ⟨2 + b, c, [102, 97, 108, 108, 115], s3, by omega, by omega, rfl, z3, by rw [run_1]; simp [binE, binD, cmpE, cmpD, eqF, biE, biD, ixE, atI, ixN, truth, fz, setiD, seqOf, inF, noBl, leafEq, isNon, attrE, fieldD, posOf, clsI, makeE, mis, methE, methOf, nameOf, prop, noEr, notNim, asBl, isErr, xatD, xisD, kdOf, kdIs, isInst, isAny, under, raisable, isTxt, setfD, setAll, notExc, partOf, slE, strE, negE, rngI, enumD, zipD, ownAt, insAt, pkB, LINE, small, B1, e1, e2, e3, LINE]⟩
end K09
set_option linter.all false
set_option maxHeartbeats 0
set_option Elab.async false
namespace K09
open Ev Snd
def tl : Ev.S → Nat → Ev.S
  | s, 0 => s
  | .seq _ b, n + 1 => tl b n
  | s, _ => s
def hd : Ev.S → Ev.S
  | .seq a _ => a
  | s => s
section
variable {ns : List Int} {w0 w1 w2 i j : Int} {k : List Nat} {s : Sto}
theorem blkF (z : Draws s) (hi : 2 ≤ i ∧ i ≤ 9) (hj : 0 ≤ j ∧ j ≤ i - 2) : ∃ (f : D) (u : List Nat) (s5 : Sto), nice f = true ∧ ((okF i f = true ∧ u = none_) ∨ (okF i f = false ∧ u = faults)) ∧ Draws s5 ∧
      exS S.T (tbl S.T 3) (hd (tl B6 7)) [some (.scr ns), some (.ref 0), some (.lst [.int w0, .int w1, .int w2]), some (.tup [.int i, .int j, .str k]), some (.int i), some (.str k), some (.int j), some (.str none_)] s =
        .nx [some (.scr ns), some (.ref 0), some (.lst [.int w0, .int w1, .int w2]), some (.tup [.int i, .int j, .str k]), some (.int i), some (.str k), some f, some (.str u)] s5 := by
  by_cases h : w0 = 1
  · obtain ⟨n, s5, b5, z5, e5⟩ := dr ns z 8 (by decide) (by decide)
    rcases cases8 b5 with rfl | rfl | rfl | rfl | rfl | rfl | rfl | rfl
    · exact ⟨.int (-1), faults, s5, rfl, .inr ⟨rfl, rfl⟩, z5, by simp [binE, binD, cmpE, cmpD, eqF, biE, biD, ixE, atI, ixN, truth, fz, setiD, seqOf, inF, noBl, leafEq, isNon, attrE, fieldD, posOf, clsI, makeE, mis, methE, methOf, nameOf, prop, noEr, notNim, asBl, isErr, xatD, xisD, kdOf, kdIs, isInst, isAny, under, raisable, isTxt, setfD, setAll, notExc, partOf, slE, strE, negE, rngI, enumD, zipD, ownAt, insAt, pkB, LINE, small, hd, tl, B6, h, e5, LINE, faults, small]⟩
    · exact ⟨.int (i - 1), faults, s5, rfl, .inr ⟨by simp [okF], rfl⟩, z5, by simp [binE, binD, cmpE, cmpD, eqF, biE, biD, ixE, atI, ixN, truth, fz, setiD, seqOf, inF, noBl, leafEq, isNon, attrE, fieldD, posOf, clsI, makeE, mis, methE, methOf, nameOf, prop, noEr, notNim, asBl, isErr, xatD, xisD, kdOf, kdIs, isInst, isAny, under, raisable, isTxt, setfD, setAll, notExc, partOf, slE, strE, negE, rngI, enumD, zipD, ownAt, insAt, pkB, LINE, small, hd, tl, B6, h, e5, LINE, faults, small]⟩
    · exact ⟨.int i, faults, s5, rfl, .inr ⟨by simp [okF]; omega, rfl⟩, z5, by simp [binE, binD, cmpE, cmpD, eqF, biE, biD, ixE, atI, ixN, truth, fz, setiD, seqOf, inF, noBl, leafEq, isNon, attrE, fieldD, posOf, clsI, makeE, mis, methE, methOf, nameOf, prop, noEr, notNim, asBl, isErr, xatD, xisD, kdOf, kdIs, isInst, isAny, under, raisable, isTxt, setfD, setAll, notExc, partOf, slE, strE, negE, rngI, enumD, zipD, ownAt, insAt, pkB, LINE, small, hd, tl, B6, h, e5, LINE, faults, small]⟩
    · exact ⟨.bl true, faults, s5, rfl, .inr ⟨rfl, rfl⟩, z5, by simp [binE, binD, cmpE, cmpD, eqF, biE, biD, ixE, atI, ixN, truth, fz, setiD, seqOf, inF, noBl, leafEq, isNon, attrE, fieldD, posOf, clsI, makeE, mis, methE, methOf, nameOf, prop, noEr, notNim, asBl, isErr, xatD, xisD, kdOf, kdIs, isInst, isAny, under, raisable, isTxt, setfD, setAll, notExc, partOf, slE, strE, negE, rngI, enumD, zipD, ownAt, insAt, pkB, LINE, small, hd, tl, B6, h, e5, LINE, faults, small]⟩
    · exact ⟨.non, faults, s5, rfl, .inr ⟨rfl, rfl⟩, z5, by simp [binE, binD, cmpE, cmpD, eqF, biE, biD, ixE, atI, ixN, truth, fz, setiD, seqOf, inF, noBl, leafEq, isNon, attrE, fieldD, posOf, clsI, makeE, mis, methE, methOf, nameOf, prop, noEr, notNim, asBl, isErr, xatD, xisD, kdOf, kdIs, isInst, isAny, under, raisable, isTxt, setfD, setAll, notExc, partOf, slE, strE, negE, rngI, enumD, zipD, ownAt, insAt, pkB, LINE, small, hd, tl, B6, h, e5, LINE, faults, small]⟩
    · exact ⟨.str [49], faults, s5, rfl, .inr ⟨rfl, rfl⟩, z5, by simp [binE, binD, cmpE, cmpD, eqF, biE, biD, ixE, atI, ixN, truth, fz, setiD, seqOf, inF, noBl, leafEq, isNon, attrE, fieldD, posOf, clsI, makeE, mis, methE, methOf, nameOf, prop, noEr, notNim, asBl, isErr, xatD, xisD, kdOf, kdIs, isInst, isAny, under, raisable, isTxt, setfD, setAll, notExc, partOf, slE, strE, negE, rngI, enumD, zipD, ownAt, insAt, pkB, LINE, small, hd, tl, B6, h, e5, LINE, faults, small]⟩
    · exact ⟨.bl false, faults, s5, rfl, .inr ⟨rfl, rfl⟩, z5, by simp [binE, binD, cmpE, cmpD, eqF, biE, biD, ixE, atI, ixN, truth, fz, setiD, seqOf, inF, noBl, leafEq, isNon, attrE, fieldD, posOf, clsI, makeE, mis, methE, methOf, nameOf, prop, noEr, notNim, asBl, isErr, xatD, xisD, kdOf, kdIs, isInst, isAny, under, raisable, isTxt, setfD, setAll, notExc, partOf, slE, strE, negE, rngI, enumD, zipD, ownAt, insAt, pkB, LINE, small, hd, tl, B6, h, e5, LINE, faults, small]⟩
    · exact ⟨.int 1000000000000000000000000000000, faults, s5, rfl, .inr ⟨by simp [okF]; omega, rfl⟩, z5, by simp [binE, binD, cmpE, cmpD, eqF, biE, biD, ixE, atI, ixN, truth, fz, setiD, seqOf, inF, noBl, leafEq, isNon, attrE, fieldD, posOf, clsI, makeE, mis, methE, methOf, nameOf, prop, noEr, notNim, asBl, isErr, xatD, xisD, kdOf, kdIs, isInst, isAny, under, raisable, isTxt, setfD, setAll, notExc, partOf, slE, strE, negE, rngI, enumD, zipD, ownAt, insAt, pkB, LINE, small, hd, tl, B6, h, e5, LINE, faults, small]⟩
  · exact ⟨.int j, none_, s, rfl, .inl ⟨by simp [okF]; omega, rfl⟩, z, by simp [binE, binD, cmpE, cmpD, eqF, biE, biD, ixE, atI, ixN, truth, fz, setiD, seqOf, inF, noBl, leafEq, isNon, attrE, fieldD, posOf, clsI, makeE, mis, methE, methOf, nameOf, prop, noEr, notNim, asBl, isErr, xatD, xisD, kdOf, kdIs, isInst, isAny, under, raisable, isTxt, setfD, setAll, notExc, partOf, slE, strE, negE, rngI, enumD, zipD, ownAt, insAt, pkB, LINE, small, hd, tl, B6, h]⟩
theorem blkK {f : D} {u : List Nat} (z : Draws s) (hk : okK (.str k) = true) : ∃ (kd : D) (u2 : List Nat) (s5 : Sto), niceK kd = true ∧ ((okK kd = true ∧ u2 = u) ∨ (okK kd = false ∧ u2 = kind)) ∧ Draws s5 ∧
      exS S.T (tbl S.T 3) (hd (tl B6 8)) [some (.scr ns), some (.ref 0), some (.lst [.int w0, .int w1, .int w2]), some (.tup [.int i, .int j, .str k]), some (.int i), some (.str k), some f, some (.str u)] s =
        .nx [some (.scr ns), some (.ref 0), some (.lst [.int w0, .int w1, .int w2]), some (.tup [.int i, .int j, .str k]), some (.int i), some kd, some f, some (.str u2)] s5 := by
  by_cases h : w1 = 1
  · obtain ⟨n, s5, b5, z5, e5⟩ := dr ns z 8 (by decide) (by decide)
    rcases cases8 b5 with rfl | rfl | rfl | rfl | rfl | rfl | rfl | rfl
    · exact ⟨.str [], kind, s5, rfl, .inr ⟨rfl, rfl⟩, z5, by simp [binE, binD, cmpE, cmpD, eqF, biE, biD, ixE, atI, ixN, truth, fz, setiD, seqOf, inF, noBl, leafEq, isNon, attrE, fieldD, posOf, clsI, makeE, mis, methE, methOf, nameOf, prop, noEr, notNim, asBl, isErr, xatD, xisD, kdOf, kdIs, isInst, isAny, under, raisable, isTxt, setfD, setAll, notExc, partOf, slE, strE, negE, rngI, enumD, zipD, ownAt, insAt, pkB, LINE, small, hd, tl, B6, h, e5, LINE, kind, small]⟩
    · exact ⟨.str [108, 105, 101], kind, s5, rfl, .inr ⟨rfl, rfl⟩, z5, by simp [binE, binD, cmpE, cmpD, eqF, biE, biD, ixE, atI, ixN, truth, fz, setiD, seqOf, inF, noBl, leafEq, isNon, attrE, fieldD, posOf, clsI, makeE, mis, methE, methOf, nameOf, prop, noEr, notNim, asBl, isErr, xatD, xisD, kdOf, kdIs, isInst, isAny, under, raisable, isTxt, setfD, setAll, notExc, partOf, slE, strE, negE, rngI, enumD, zipD, ownAt, insAt, pkB, LINE, small, hd, tl, B6, h, e5, LINE, kind, small]⟩
    · exact ⟨.str [76, 105, 101, 115], kind, s5, rfl, .inr ⟨rfl, rfl⟩, z5, by simp [binE, binD, cmpE, cmpD, eqF, biE, biD, ixE, atI, ixN, truth, fz, setiD, seqOf, inF, noBl, leafEq, isNon, attrE, fieldD, posOf, clsI, makeE, mis, methE, methOf, nameOf, prop, noEr, notNim, asBl, isErr, xatD, xisD, kdOf, kdIs, isInst, isAny, under, raisable, isTxt, setfD, setAll, notExc, partOf, slE, strE, negE, rngI, enumD, zipD, ownAt, insAt, pkB, LINE, small, hd, tl, B6, h, e5, LINE, kind, small]⟩
    · exact ⟨.non, kind, s5, rfl, .inr ⟨rfl, rfl⟩, z5, by simp [binE, binD, cmpE, cmpD, eqF, biE, biD, ixE, atI, ixN, truth, fz, setiD, seqOf, inF, noBl, leafEq, isNon, attrE, fieldD, posOf, clsI, makeE, mis, methE, methOf, nameOf, prop, noEr, notNim, asBl, isErr, xatD, xisD, kdOf, kdIs, isInst, isAny, under, raisable, isTxt, setfD, setAll, notExc, partOf, slE, strE, negE, rngI, enumD, zipD, ownAt, insAt, pkB, LINE, small, hd, tl, B6, h, e5, LINE, kind, small]⟩
    · exact ⟨.int 3, kind, s5, rfl, .inr ⟨rfl, rfl⟩, z5, by simp [binE, binD, cmpE, cmpD, eqF, biE, biD, ixE, atI, ixN, truth, fz, setiD, seqOf, inF, noBl, leafEq, isNon, attrE, fieldD, posOf, clsI, makeE, mis, methE, methOf, nameOf, prop, noEr, notNim, asBl, isErr, xatD, xisD, kdOf, kdIs, isInst, isAny, under, raisable, isTxt, setfD, setAll, notExc, partOf, slE, strE, negE, rngI, enumD, zipD, ownAt, insAt, pkB, LINE, small, hd, tl, B6, h, e5, LINE, kind, small]⟩
    · exact ⟨.str [108, 105, 101, 115, 32], kind, s5, rfl, .inr ⟨rfl, rfl⟩, z5, by simp [binE, binD, cmpE, cmpD, eqF, biE, biD, ixE, atI, ixN, truth, fz, setiD, seqOf, inF, noBl, leafEq, isNon, attrE, fieldD, posOf, clsI, makeE, mis, methE, methOf, nameOf, prop, noEr, notNim, asBl, isErr, xatD, xisD, kdOf, kdIs, isInst, isAny, under, raisable, isTxt, setfD, setAll, notExc, partOf, slE, strE, negE, rngI, enumD, zipD, ownAt, insAt, pkB, LINE, small, hd, tl, B6, h, e5, LINE, kind, small]⟩
    · exact ⟨.lst [.str [108, 105, 101, 115]], kind, s5, rfl, .inr ⟨rfl, rfl⟩, z5, by simp [binE, binD, cmpE, cmpD, eqF, biE, biD, ixE, atI, ixN, truth, fz, setiD, seqOf, inF, noBl, leafEq, isNon, attrE, fieldD, posOf, clsI, makeE, mis, methE, methOf, nameOf, prop, noEr, notNim, asBl, isErr, xatD, xisD, kdOf, kdIs, isInst, isAny, under, raisable, isTxt, setfD, setAll, notExc, partOf, slE, strE, negE, rngI, enumD, zipD, ownAt, insAt, pkB, LINE, small, hd, tl, B6, h, e5, LINE, kind, small]⟩
    · exact ⟨.str [102, 97, 108, 108, 115, 32, 108, 97, 116, 101], kind, s5, rfl, .inr ⟨rfl, rfl⟩, z5, by simp [binE, binD, cmpE, cmpD, eqF, biE, biD, ixE, atI, ixN, truth, fz, setiD, seqOf, inF, noBl, leafEq, isNon, attrE, fieldD, posOf, clsI, makeE, mis, methE, methOf, nameOf, prop, noEr, notNim, asBl, isErr, xatD, xisD, kdOf, kdIs, isInst, isAny, under, raisable, isTxt, setfD, setAll, notExc, partOf, slE, strE, negE, rngI, enumD, zipD, ownAt, insAt, pkB, LINE, small, hd, tl, B6, h, e5, LINE, kind, small]⟩
  · exact ⟨.str k, u, s, rfl, .inl ⟨hk, rfl⟩, z, by simp [binE, binD, cmpE, cmpD, eqF, biE, biD, ixE, atI, ixN, truth, fz, setiD, seqOf, inF, noBl, leafEq, isNon, attrE, fieldD, posOf, clsI, makeE, mis, methE, methOf, nameOf, prop, noEr, notNim, asBl, isErr, xatD, xisD, kdOf, kdIs, isInst, isAny, under, raisable, isTxt, setfD, setAll, notExc, partOf, slE, strE, negE, rngI, enumD, zipD, ownAt, insAt, pkB, LINE, small, hd, tl, B6, h]⟩
theorem blkH {f kd : D} {u : List Nat} (z : Draws s) (hi : 2 ≤ i ∧ i ≤ 9) : ∃ (hs : D) (u2 : List Nat) (s5 : Sto), nice hs = true ∧ ((hs = .int i ∧ u2 = u) ∨ (okH hs = false ∧ u2 = houses)) ∧ Draws s5 ∧
      exS S.T (tbl S.T 3) (hd (tl B6 9)) [some (.scr ns), some (.ref 0), some (.lst [.int w0, .int w1, .int w2]), some (.tup [.int i, .int j, .str k]), some (.int i), some kd, some f, some (.str u)] s =
        .nx [some (.scr ns), some (.ref 0), some (.lst [.int w0, .int w1, .int w2]), some (.tup [.int i, .int j, .str k]), some hs, some kd, some f, some (.str u2)] s5 := by
  by_cases h : w2 = 1
  · obtain ⟨n, s5, b5, z5, e5⟩ := dr ns z 8 (by decide) (by decide)
    rcases cases8 b5 with rfl | rfl | rfl | rfl | rfl | rfl | rfl | rfl
    · exact ⟨.int 1, houses, s5, rfl, .inr ⟨rfl, rfl⟩, z5, by simp [binE, binD, cmpE, cmpD, eqF, biE, biD, ixE, atI, ixN, truth, fz, setiD, seqOf, inF, noBl, leafEq, isNon, attrE, fieldD, posOf, clsI, makeE, mis, methE, methOf, nameOf, prop, noEr, notNim, asBl, isErr, xatD, xisD, kdOf, kdIs, isInst, isAny, under, raisable, isTxt, setfD, setAll, notExc, partOf, slE, strE, negE, rngI, enumD, zipD, ownAt, insAt, pkB, LINE, small, hd, tl, B6, h, e5, LINE, houses, small]⟩
    · exact ⟨.int 10, houses, s5, rfl, .inr ⟨rfl, rfl⟩, z5, by simp [binE, binD, cmpE, cmpD, eqF, biE, biD, ixE, atI, ixN, truth, fz, setiD, seqOf, inF, noBl, leafEq, isNon, attrE, fieldD, posOf, clsI, makeE, mis, methE, methOf, nameOf, prop, noEr, notNim, asBl, isErr, xatD, xisD, kdOf, kdIs, isInst, isAny, under, raisable, isTxt, setfD, setAll, notExc, partOf, slE, strE, negE, rngI, enumD, zipD, ownAt, insAt, pkB, LINE, small, hd, tl, B6, h, e5, LINE, houses, small]⟩
    · exact ⟨.int 0, houses, s5, rfl, .inr ⟨rfl, rfl⟩, z5, by simp [binE, binD, cmpE, cmpD, eqF, biE, biD, ixE, atI, ixN, truth, fz, setiD, seqOf, inF, noBl, leafEq, isNon, attrE, fieldD, posOf, clsI, makeE, mis, methE, methOf, nameOf, prop, noEr, notNim, asBl, isErr, xatD, xisD, kdOf, kdIs, isInst, isAny, under, raisable, isTxt, setfD, setAll, notExc, partOf, slE, strE, negE, rngI, enumD, zipD, ownAt, insAt, pkB, LINE, small, hd, tl, B6, h, e5, LINE, houses, small]⟩
    · exact ⟨.int (-4), houses, s5, rfl, .inr ⟨rfl, rfl⟩, z5, by simp [binE, binD, cmpE, cmpD, eqF, biE, biD, ixE, atI, ixN, truth, fz, setiD, seqOf, inF, noBl, leafEq, isNon, attrE, fieldD, posOf, clsI, makeE, mis, methE, methOf, nameOf, prop, noEr, notNim, asBl, isErr, xatD, xisD, kdOf, kdIs, isInst, isAny, under, raisable, isTxt, setfD, setAll, notExc, partOf, slE, strE, negE, rngI, enumD, zipD, ownAt, insAt, pkB, LINE, small, hd, tl, B6, h, e5, LINE, houses, small]⟩
    · exact ⟨.bl true, houses, s5, rfl, .inr ⟨rfl, rfl⟩, z5, by simp [binE, binD, cmpE, cmpD, eqF, biE, biD, ixE, atI, ixN, truth, fz, setiD, seqOf, inF, noBl, leafEq, isNon, attrE, fieldD, posOf, clsI, makeE, mis, methE, methOf, nameOf, prop, noEr, notNim, asBl, isErr, xatD, xisD, kdOf, kdIs, isInst, isAny, under, raisable, isTxt, setfD, setAll, notExc, partOf, slE, strE, negE, rngI, enumD, zipD, ownAt, insAt, pkB, LINE, small, hd, tl, B6, h, e5, LINE, houses, small]⟩
    · exact ⟨.non, houses, s5, rfl, .inr ⟨rfl, rfl⟩, z5, by simp [binE, binD, cmpE, cmpD, eqF, biE, biD, ixE, atI, ixN, truth, fz, setiD, seqOf, inF, noBl, leafEq, isNon, attrE, fieldD, posOf, clsI, makeE, mis, methE, methOf, nameOf, prop, noEr, notNim, asBl, isErr, xatD, xisD, kdOf, kdIs, isInst, isAny, under, raisable, isTxt, setfD, setAll, notExc, partOf, slE, strE, negE, rngI, enumD, zipD, ownAt, insAt, pkB, LINE, small, hd, tl, B6, h, e5, LINE, houses, small]⟩
    · exact ⟨.str [52], houses, s5, rfl, .inr ⟨rfl, rfl⟩, z5, by simp [binE, binD, cmpE, cmpD, eqF, biE, biD, ixE, atI, ixN, truth, fz, setiD, seqOf, inF, noBl, leafEq, isNon, attrE, fieldD, posOf, clsI, makeE, mis, methE, methOf, nameOf, prop, noEr, notNim, asBl, isErr, xatD, xisD, kdOf, kdIs, isInst, isAny, under, raisable, isTxt, setfD, setAll, notExc, partOf, slE, strE, negE, rngI, enumD, zipD, ownAt, insAt, pkB, LINE, small, hd, tl, B6, h, e5, LINE, houses, small]⟩
    · exact ⟨.int 1000000000000000000000000000000, houses, s5, rfl, .inr ⟨by decide, rfl⟩, z5, by simp [binE, binD, cmpE, cmpD, eqF, biE, biD, ixE, atI, ixN, truth, fz, setiD, seqOf, inF, noBl, leafEq, isNon, attrE, fieldD, posOf, clsI, makeE, mis, methE, methOf, nameOf, prop, noEr, notNim, asBl, isErr, xatD, xisD, kdOf, kdIs, isInst, isAny, under, raisable, isTxt, setfD, setAll, notExc, partOf, slE, strE, negE, rngI, enumD, zipD, ownAt, insAt, pkB, LINE, small, hd, tl, B6, h, e5, LINE, houses, small]⟩
  · exact ⟨.int i, u, s, rfl, .inl ⟨rfl, rfl⟩, z, by simp [binE, binD, cmpE, cmpD, eqF, biE, biD, ixE, atI, ixN, truth, fz, setiD, seqOf, inF, noBl, leafEq, isNon, attrE, fieldD, posOf, clsI, makeE, mis, methE, methOf, nameOf, prop, noEr, notNim, asBl, isErr, xatD, xisD, kdOf, kdIs, isInst, isAny, under, raisable, isTxt, setfD, setAll, notExc, partOf, slE, strE, negE, rngI, enumD, zipD, ownAt, insAt, pkB, LINE, small, hd, tl, B6, h]⟩
end
theorem seq_nx {T : Tab} {cf : Nat → List D → Sto → R D} {a b : Ev.S} {ρ ρ' : Rho} {st st' : Sto} (h : exS T cf a ρ st = .nx ρ' st') : exS T cf (.seq a b) ρ st = exS T cf b ρ' st' := by
  show (exS T cf a ρ st).then _ = _
  rw [h]
  rfl
theorem law_ev (ns : List Int) (_ : ns.length ≤ 63) : ∃ st, call S.T 6 [.scr ns] [] = .ok (.bl true) st := by
  have z0 : Draws (st4 0 0 0 0) := ⟨0, 0, 0, 0, rfl, by decide, by decide, by decide, by decide, by decide⟩
  obtain ⟨w0, s1, b1, z1, e1⟩ := dr ns z0 3 (by decide) (by decide)
  obtain ⟨w1, s2, b2, z2, e2⟩ := dr ns z1 3 (by decide) (by decide)
  obtain ⟨w2, s3, b3, z3, e3⟩ := dr ns z2 3 (by decide) (by decide)
  obtain ⟨i, j, k, s4, hi, hj, hk, z4, e4⟩ := setting ns z3
  obtain ⟨f, u, s5, nf, hu, z5, e5⟩ := blkF (ns := ns) (w0 := w0) (w1 := w1) (w2 := w2) (k := k) z4 hi hj
  obtain ⟨kd, u2, s6, nk, hu2, z6, e6⟩ := blkK (ns := ns) (w0 := w0) (w1 := w1) (w2 := w2) (i := i) (j := j) (f := f) (u := u) z5 hk
  obtain ⟨hs, u3, s7, nh, hu3, z7, e7⟩ := blkH (ns := ns) (w0 := w0) (w1 := w1) (w2 := w2) (j := j) (k := k) (f := f) (kd := kd) (u := u2) z6 hi
  have oki : okH (.int i) = true := by simp [okH, hi]
  have p1 : call S.T 5 [hs, f, kd] s7 = .ok (.str u3) s7 := by
    refine partF nh nf nk ?_
    rcases hu3 with ⟨rfl, rfl⟩ | ⟨a, rfl⟩
    · rcases hu2 with ⟨a, rfl⟩ | ⟨a, rfl⟩
      · rcases hu with ⟨b, rfl⟩ | ⟨b, rfl⟩
        · exact .inr (.inr (.inr ⟨oki, a, fun i' e => by cases e; exact b, rfl⟩))
        · exact .inr (.inr (.inl ⟨oki, a, fun i' e => by cases e; exact b, rfl⟩))
      · exact .inr (.inl ⟨oki, a, rfl⟩)
    · exact .inl ⟨a, rfl⟩
  have p2 : call S.T 5 [.int i, .int j, .str k] s7 = .ok (.str none_) s7 := partF rfl rfl rfl (.inr (.inr (.inr ⟨oki, hk, fun i' e => by cases e; simp [okF]; omega, rfl⟩)))
  have t1 : exS S.T (tbl S.T 3) (hd B6) [some (D.scr ns), none, none, none, none, none, none, none] [] = .nx [some (D.scr ns), some (.ref 0), none, none, none, none, none, none] (st4 0 0 0 0) := by simp [binE, binD, cmpE, cmpD, eqF, biE, biD, ixE, atI, ixN, truth, fz, setiD, seqOf, inF, noBl, leafEq, isNon, attrE, fieldD, posOf, clsI, makeE, mis, methE, methOf, nameOf, prop, noEr, notNim, asBl, isErr, xatD, xisD, kdOf, kdIs, isInst, isAny, under, raisable, isTxt, setfD, setAll, notExc, partOf, slE, strE, negE, rngI, enumD, zipD, ownAt, insAt, pkB, LINE, small, hd, B6, st4, LINE]
  have t2 : exS S.T (tbl S.T 3) (hd (tl B6 1)) [some (D.scr ns), some (.ref 0), none, none, none, none, none, none] (st4 0 0 0 0) = .nx [some (D.scr ns), some (.ref 0), some (.lst [.int w0, .int w1, .int w2]), none, none, none, none, none] s3 := by simp [binE, binD, cmpE, cmpD, eqF, biE, biD, ixE, atI, ixN, truth, fz, setiD, seqOf, inF, noBl, leafEq, isNon, attrE, fieldD, posOf, clsI, makeE, mis, methE, methOf, nameOf, prop, noEr, notNim, asBl, isErr, xatD, xisD, kdOf, kdIs, isInst, isAny, under, raisable, isTxt, setfD, setAll, notExc, partOf, slE, strE, negE, rngI, enumD, zipD, ownAt, insAt, pkB, LINE, small, hd, tl, B6, e1, e2, e3, LINE]
  have t3 : exS S.T (tbl S.T 3) (hd (tl B6 2)) [some (D.scr ns), some (.ref 0), some (.lst [.int w0, .int w1, .int w2]), none, none, none, none, none] s3 = .nx [some (D.scr ns), some (.ref 0), some (.lst [.int w0, .int w1, .int w2]), some (.tup [.int i, .int j, .str k]), none, none, none, none] s4 := by simp [binE, binD, cmpE, cmpD, eqF, biE, biD, ixE, atI, ixN, truth, fz, setiD, seqOf, inF, noBl, leafEq, isNon, attrE, fieldD, posOf, clsI, makeE, mis, methE, methOf, nameOf, prop, noEr, notNim, asBl, isErr, xatD, xisD, kdOf, kdIs, isInst, isAny, under, raisable, isTxt, setfD, setAll, notExc, partOf, slE, strE, negE, rngI, enumD, zipD, ownAt, insAt, pkB, LINE, small, hd, tl, B6, e4, LINE]
  have t4 : exS S.T (tbl S.T 3) (hd (tl B6 3)) [some (D.scr ns), some (.ref 0), some (.lst [.int w0, .int w1, .int w2]), some (.tup [.int i, .int j, .str k]), none, none, none, none] s4 = .nx [some (D.scr ns), some (.ref 0), some (.lst [.int w0, .int w1, .int w2]), some (.tup [.int i, .int j, .str k]), some (.int i), none, none, none] s4 := by simp [binE, binD, cmpE, cmpD, eqF, biE, biD, ixE, atI, ixN, truth, fz, setiD, seqOf, inF, noBl, leafEq, isNon, attrE, fieldD, posOf, clsI, makeE, mis, methE, methOf, nameOf, prop, noEr, notNim, asBl, isErr, xatD, xisD, kdOf, kdIs, isInst, isAny, under, raisable, isTxt, setfD, setAll, notExc, partOf, slE, strE, negE, rngI, enumD, zipD, ownAt, insAt, pkB, LINE, small, hd, tl, B6]
  have t5 : exS S.T (tbl S.T 3) (hd (tl B6 4)) [some (D.scr ns), some (.ref 0), some (.lst [.int w0, .int w1, .int w2]), some (.tup [.int i, .int j, .str k]), some (.int i), none, none, none] s4 = .nx [some (D.scr ns), some (.ref 0), some (.lst [.int w0, .int w1, .int w2]), some (.tup [.int i, .int j, .str k]), some (.int i), some (.str k), none, none] s4 := by simp [binE, binD, cmpE, cmpD, eqF, biE, biD, ixE, atI, ixN, truth, fz, setiD, seqOf, inF, noBl, leafEq, isNon, attrE, fieldD, posOf, clsI, makeE, mis, methE, methOf, nameOf, prop, noEr, notNim, asBl, isErr, xatD, xisD, kdOf, kdIs, isInst, isAny, under, raisable, isTxt, setfD, setAll, notExc, partOf, slE, strE, negE, rngI, enumD, zipD, ownAt, insAt, pkB, LINE, small, hd, tl, B6]
  have t6 : exS S.T (tbl S.T 3) (hd (tl B6 5)) [some (D.scr ns), some (.ref 0), some (.lst [.int w0, .int w1, .int w2]), some (.tup [.int i, .int j, .str k]), some (.int i), some (.str k), none, none] s4 = .nx [some (D.scr ns), some (.ref 0), some (.lst [.int w0, .int w1, .int w2]), some (.tup [.int i, .int j, .str k]), some (.int i), some (.str k), some (.int j), none] s4 := by simp [binE, binD, cmpE, cmpD, eqF, biE, biD, ixE, atI, ixN, truth, fz, setiD, seqOf, inF, noBl, leafEq, isNon, attrE, fieldD, posOf, clsI, makeE, mis, methE, methOf, nameOf, prop, noEr, notNim, asBl, isErr, xatD, xisD, kdOf, kdIs, isInst, isAny, under, raisable, isTxt, setfD, setAll, notExc, partOf, slE, strE, negE, rngI, enumD, zipD, ownAt, insAt, pkB, LINE, small, hd, tl, B6]
  have t7 : exS S.T (tbl S.T 3) (hd (tl B6 6)) [some (D.scr ns), some (.ref 0), some (.lst [.int w0, .int w1, .int w2]), some (.tup [.int i, .int j, .str k]), some (.int i), some (.str k), some (.int j), none] s4 = .nx [some (D.scr ns), some (.ref 0), some (.lst [.int w0, .int w1, .int w2]), some (.tup [.int i, .int j, .str k]), some (.int i), some (.str k), some (.int j), some (.str none_)] s4 := by simp [binE, binD, cmpE, cmpD, eqF, biE, biD, ixE, atI, ixN, truth, fz, setiD, seqOf, inF, noBl, leafEq, isNon, attrE, fieldD, posOf, clsI, makeE, mis, methE, methOf, nameOf, prop, noEr, notNim, asBl, isErr, xatD, xisD, kdOf, kdIs, isInst, isAny, under, raisable, isTxt, setfD, setAll, notExc, partOf, slE, strE, negE, rngI, enumD, zipD, ownAt, insAt, pkB, LINE, small, hd, tl, B6, none_]
  have t8 : exS S.T (tbl S.T 3) (hd (tl B6 10)) [some (.scr ns), some (.ref 0), some (.lst [.int w0, .int w1, .int w2]), some (.tup [.int i, .int j, .str k]), some hs, some kd, some f, some (.str u3)] s7 = .nx [some (.scr ns), some (.ref 0), some (.lst [.int w0, .int w1, .int w2]), some (.tup [.int i, .int j, .str k]), some hs, some kd, some f, some (.str u3)] s7 := by
    cases hs <;> first | (cases nh; done) | skip
    all_goals (cases f <;> first | (cases nf; done) | skip)
    all_goals (cases kd <;> first | (cases nk; done) | skip)
    all_goals simp [binE, binD, cmpE, cmpD, eqF, biE, biD, ixE, atI, ixN, truth, fz, setiD, seqOf, inF, noBl, leafEq, isNon, attrE, fieldD, posOf, clsI, makeE, mis, methE, methOf, nameOf, prop, noEr, notNim, asBl, isErr, xatD, xisD, kdOf, kdIs, isInst, isAny, under, raisable, isTxt, setfD, setAll, notExc, partOf, slE, strE, negE, rngI, enumD, zipD, ownAt, insAt, pkB, LINE, small, hd, tl, B6, p1]
  have t9 : exS S.T (tbl S.T 3) (tl B6 11) [some (.scr ns), some (.ref 0), some (.lst [.int w0, .int w1, .int w2]), some (.tup [.int i, .int j, .str k]), some hs, some kd, some f, some (.str u3)] s7 = .rt (.bl true) s7 := by simp [binE, binD, cmpE, cmpD, eqF, biE, biD, ixE, atI, ixN, truth, fz, setiD, seqOf, inF, noBl, leafEq, isNon, attrE, fieldD, posOf, clsI, makeE, mis, methE, methOf, nameOf, prop, noEr, notNim, asBl, isErr, xatD, xisD, kdOf, kdIs, isInst, isAny, under, raisable, isTxt, setfD, setAll, notExc, partOf, slE, strE, negE, rngI, enumD, zipD, ownAt, insAt, pkB, LINE, small, tl, B6, p2, none_]
  refine ⟨s7, ?_⟩
  rw [run_6]
  have fin_ : exS S.T (tbl S.T 3) B6 [some (D.scr ns), none, none, none, none, none, none, none] [] = .rt (.bl true) s7 :=
    (seq_nx t1).trans ((seq_nx t2).trans ((seq_nx t3).trans ((seq_nx t4).trans ((seq_nx t5).trans ((seq_nx t6).trans ((seq_nx t7).trans ((seq_nx e5).trans ((seq_nx e6).trans ((seq_nx e7).trans ((seq_nx t8).trans t9))))))))))
  rw [fin_]
  rfl
end K09
open PySem PySem.W PySem.Calls PyProof.Rows in
theorem PySem.Challenge.cw_spreadshrinks_k09_invalid_settings_holds : PySem.Challenge.rw_spreadshrinks_k09_invalid_settings.Holds := by
  w_on; o_law
  refine HandSHeadRun.head_any (r := OpenLaw.row PySem.Challenge.rw_spreadshrinks_k09_invalid_settings) (q := view (OpenLaw.row PySem.Challenge.rw_spreadshrinks_k09_invalid_settings).prog [13]) (H := K09.hook) (ob := K09.ob) (M := 20000) (loose := K09.loose) (d := HandSHeadRun.topDef (OpenLaw.row PySem.Challenge.rw_spreadshrinks_k09_invalid_settings).prog 13) (kwd := []) K09.ob_eq
    (by kernel_rfl) (fun s => by kernel_rfl) K09.run (by kernel_rfl) (by kernel_rfl) (by kernel_rfl) (by rfl) (by first | assumption | decide +kernel) (by decide +kernel) ⟨rfl, rfl, rfl, rfl, rfl, by decide +kernel⟩ ?hw ?hc
  case hw => w_witness2
  case hc =>
    exact Snd.law_walk (l := PySem.Challenge.rw_spreadshrinks_k09_invalid_settings) (S := K09.S) (n := 63) (f := 6) (F := K09.F6) (x := "_law_script") rfl (by decide) (by kernel_rfl) ⟨rfl, by decide, by decide⟩ rfl rfl rfl rfl (by kernel_rfl) rfl rfl K09.good K09.law_ev
