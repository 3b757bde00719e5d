import PyProof.Rows.All
import Wide.All
import OpenK.AllK
import Wide.FinOn
import HandS.TupMul
import HandS.TupAny
import HandS.WideBits
import HandS.NoneIn
import HandS.Dict
import HandS.ForExc
import HandS.Comp
import HandS.Iter
import HandS.IsInst
import HandS.Property
import HandS.Defaults
import HandS.HeadHook2
import HandS.HeadEnd
import HandS.Head2
import HandS.Gcd
import HandS.Wide
import HandS.ExcSuper
import HandS.ExcInit
import HandS.ExcField
import HandS.FStr
import HandS.Flow
import HandS.Style
import HandS.DictComp
import HandS.HeadWalk
import KE.KExcSuper
import HandS.ExcIs
import HandS.OwnEq
import PyProof.NeKinds
import KE.KOpsOwn
import KE.KCallOwn
import HandS.Head3
import HandS.Deep
import HandS.RaiseMore
import HandS.Conv
import HandS.Zip
import PyProof.EnumMake
import HandS.Codes
import HandS.Text
import HandS.Star
import HandS.More
import HandS.List
import HandS.MakeKwOnly
import HandS.Remove
import PyProof.EqKinds
import HandS.DictTup
import KE.KDictCopyH
import HandS.TupLen
import KE.KDictOf
import HandS.OwnIter
import HandS.IterVal
import HandS.GenList
import PyProof.GenRules
import KE.KWithOwn
import HandS.Finally
import HandS.ExcValue
import PySem.Challenge.RW_spreadshrinks_k98_all_errors_apart
namespace Ev

inductive D where
  | non | bl (b : Bool) | int (i : Int) | str (s : List Nat)
  | tup (ds : List D) | lst (ds : List D) | own (ds : List D) | scr (ns : List Int)
  | ins (c : Nat) (ds : List D) | obj (c : Nat) (ds : List D)
  | ref (k : Nat) | exc (c : Nat) (ds : List D) | nim
  deriving Inhabited

inductive Ob where
  | lst (ds : List D) | ins (c : Nat) (ds : List D) | dct (kvs : List (D × D)) | dtt (kvs : List (List D × D)) | dnn (n : Nat) (kvs : List (List D × D)) | exv (c : Nat) (ds : List D)
  deriving Inhabited
abbrev Sto := List Ob
structure Xn where
  c : Nat
  ds : List D
  deriving Inhabited

inductive R (α : Type) where
  | ok (a : α) (S : Sto) | er (x : Xn) (S : Sto) | no

def R.bind {α β : Type} (r : R α) (k : α → Sto → R β) : R β := match r with
  | .ok a S => k a S
  | .er x S => .er x S
  | .no => .no
@[simp] theorem bind_ok {α β : Type} (a : α) (S : Sto) (k : α → Sto → R β) : (R.ok a S).bind k = k a S := rfl
@[simp] theorem bind_er {α β : Type} (x : Xn) (S : Sto) (k : α → Sto → R β) : (R.er x S : R α).bind k = .er x S := rfl
@[simp] theorem bind_no {α β : Type} (k : α → Sto → R β) : (R.no : R α).bind k = .no := rfl
def R.of {α : Type} (o : Option α) (S : Sto) : R α := match o with
  | some a => .ok a S
  | none => .no
@[simp] theorem of_some {α : Type} (a : α) (S : Sto) : R.of (some a) S = .ok a S := rfl
@[simp] theorem of_none {α : Type} (S : Sto) : (R.of none S : R α) = .no := rfl

inductive BO where
  | add | sub | mul | fdv | mod | pow | band | shr
  deriving DecidableEq
inductive CO where
  | eq | ne | lt | le | gt | ge | is_ | isn | in_ | nin
  deriving DecidableEq
inductive TY where
  | int | bool | str | tuple | list | dict | verr | cls (c : Nat)
  deriving DecidableEq
inductive BI where
  | len | int | str | list | tuple | abs | sum | sorted | gcd | range1 | range2 | min2 | min1 | max1
  deriving DecidableEq
mutual
inductive E where
  | non | bl (b : Bool) | int (i : Int) | str (s : List Nat)
  | var (i : Nat) | con (j : Nat)
  | neg (a : E) | not (a : E)
  | bin (o : BO) (a b : E) | cmp (o : CO) (a b : E) | icmp (o : CO) (a b : E) | ibin (o : BO) (a b : E) | chain (o p : CO) (a b c : E)
  | and (a b : E) | or (a b : E) | ite (t : Tt) (a b : E)
  | call (f : Nat) (as : Es) | make (c : Nat) (as : Es) | meth (m : Nat) (a : E) (as : Es) | kmeth (c m : Nat) (a : E) (as : Es) | attr (a : E) (m : Nat)
  | bi (b : BI) (as : Es) | isi (a : E) (ts : List TY)
  | tup (as : Es) | lst (as : Es)
  | ix (a i : E) | sl (a lo hi : E) | nop
  | comp (is : List Nat) (e : E) (src : It) (t : Tt)
  | fst (as : Es)
  | sto (a : E)
  | xat (i m : Nat) | xis (i : Nat) (t : TY)
  | stuck | frz (a : E) | inv (a : E) (as : Es) | dnew | pop (a i : E) | down (a : E) | dlit (k v : E) | ceq (ne : Bool) (a b : E)
  | dcomp (is : List Nat) (k v : E) (src : It) (t : Tt)
  | comp2 (is : List Nat) (src : It) (is2 : List Nat) (src2 : It) (e : E) (t : Tt)
  | compX (i : Nat) (e a : E) (t : Tt)
  | dnewT | ixT (a : E) (as : Es)
  | dnewN | ixN (a b : E) | inN (n : Bool) (k a : E) | isdN (a : E) | dcompN (i : Nat) (k v a : E) | lenN (a : E) | cpN (a : E) | lstN (a : E) | lstY (i c : Nat) (a : E) (m : Nat) | lenR (a : E) | ixR (a b : E) | fldC (c m : Nat) (a : E) | compK (i : Nat) (e a : E) (t : Tt) | compP (i j : Nat) (e a : E) (t : Tt)
  | attrR (a : E) (m : Nat) | methR (m : Nat) (a : E) (as : Es) | makeM (c : Nat) (as : Es)
  | makX (c : Nat) (as : Es) | isX (a : E) (t : TY) | atX (a : E) (m : Nat)
  | splT (c : Nat) (a : E) | parT (c : Nat) (a : E) | joinT (c : Nat) (a : E) | inT (n : Bool) (a b : E) | intT (a : E)
inductive Es where
  | nil | cons (a : E) (as : Es)
inductive Tt where
  | e (a : E) | not (a : Tt) | and (a b : Tt) | or (a b : Tt)
inductive It where
  | seq (a : E) | rng (as : Es) | enum (a : E) | zip (a b : E) | rev (a : E)
end
inductive S where
  | stuck | appr (a v : E) | insrr (a i v : E) | clr (a : E) | remr (a v : E) | dpop (a k : E)
  | skip | seq (s r : S) | expr (a : E)
  | setiT (a : E) (as : Es) (v : E)
  | setiN (a b v : E) | forI (i j : Nat) (a : E) (b : S) | clrN (a : E) | popN (a k : E) | forK (i : Nat) (a : E) (b : S)
  | seta (a : E) (m : Nat) (v : E) | setp (a : E) (m : Nat) (v : E) | iadd (x : Nat) (m : Nat) (v : E)
  | set (i : Nat) (a : E) | own (i : Nat) (a : E) | unp (is : List Nat) (a : E) | frz (i : Nat)
  | setf (m : Nat) (a : E) | seti (a i v : E) | ownseti (x : Nat) (i v : E)
  | aug (x : Nat) (o : BO) (a : E)
  | app (x : Nat) (a : E) | insr (x : Nat) (i a : E) | ext (x : Nat) (a : E) | addi (x : Nat) (i a : E)
  | ret (a : E) | retm (i : Nat) | ret0
  | ifs (t : Tt) (a b : S) | for_ (ts : List Nat) (src : It) (b : S) | while_ (t : Tt) (b : S)
  | forS (i : Nat) (a : E) (b : S) | forT (i : Nat) (a : E) (b : S) | forV (i : Nat) (a : E) (b : S) | forY (i c : Nat) (a : E) (m : Nat) (b : S)
  | brk | cnt | raise (c : Nat) (as : Es)
  | try_ (b hs : S) | hnd (c : Nat) (x : Option Nat) (h r : S)
  | withR (c : Nat) (a : E) (j m : Nat) (x : S) (nl : Nat) (b : S)

structure Cls where
  fields : List Nat
  meths : List (Nat × Nat) := []
  props : List (Nat × Nat) := []
  /-- methods that take keywords only -/
  kmeths : List (Nat × Nat) := []
  /-- generators: over which field's list they run, the function that each item is given to -/
  gens : List (Nat × (Nat × Nat)) := []
  /-- the setters of properties -/
  sets : List (Nat × Nat) := []
  init : Nat := 0
  /-- how many arguments __init__ takes behind self; the defaults of its last ones -/
  np : Nat := 0
  dfl : List D := []
  /-- an error's class -/
  exc : Bool := false
  /-- its text is made of its first field -/
  cat : Bool := false
  /-- the classes above it -/
  up : List Nat := []
structure Fn where
  np : Nat
  nl : Nat
  body : S
  /-- the class whose __init__ it is -/
  ini : Option Nat := none
  /-- above the levels of all that it calls -/
  lv : Nat
structure Tab where
  cls : Nat → Option Cls
  con : Nat → D
  fn : Nat → Option Fn
  /-- the functions of the operators: of a class, left and right -/
  bop : Nat → BO → Option Nat
  rop : Nat → BO → Option Nat
  cop : Nat → CO → Option Nat
  neg : Nat → Option Nat := fun _ => none
  abs : Nat → Option Nat := fun _ => none
  str : Nat → Option Nat := fun _ => none
  get : Nat → Option Nat := fun _ => none
  len : Nat → Option Nat := fun _ => none
  inv : Nat → Option Nat := fun _ => none
  /-- what isinstance is asked of anywhere -/
  isi : List TY := []
  /-- the hash of a dict's key that is a tuple of whole numbers and None -/
  hk : List (Option Int) → Int := fun _ => 0

def small (i : Int) : Bool := decide (-(18446744073709551616) < i) && decide (i < 18446744073709551616)
def mulOk (i j : Int) : Bool := small i || small j || decide (i.natAbs.log2 + j.natAbs.log2 < 1000000)
def divOk (j : Int) : Bool := decide (j ≠ 0) && decide (j.natAbs.log2 < 9000)
def LINE : Nat := 1000000
def asL : D → Option (List D)
  | .lst ds => some ds
  | .own ds => some ds
  | _ => none
def fz : D → D
  | .own ds => .lst ds
  | d => d
@[simp] theorem fz_own (ds : List D) : fz (.own ds) = .lst ds := rfl
@[simp] theorem fz_lst (ds : List D) : fz (.lst ds) = .lst ds := rfl
@[simp] theorem fz_int (i : Int) : fz (.int i) = .int i := rfl
@[simp] theorem fz_bl (i : Bool) : fz (.bl i) = .bl i := rfl
@[simp] theorem fz_non : fz .non = .non := rfl
@[simp] theorem fz_str (s) : fz (.str s) = .str s := rfl
@[simp] theorem fz_tup (ds) : fz (.tup ds) = .tup ds := rfl
@[simp] theorem fz_ins (c ds) : fz (.ins c ds) = .ins c ds := rfl
@[simp] theorem fz_ref (c) : fz (.ref c) = .ref c := rfl
@[simp] theorem fz_scr (c) : fz (.scr c) = .scr c := rfl

def binD : BO → D → D → Option D
  | .add, .int a, .int b => some (.int (a + b))
  | .sub, .int a, .int b => some (.int (a - b))
  | .mul, .int a, .int b => if mulOk a b then some (.int (a * b)) else none
  | .fdv, .int a, .int b => if divOk b then some (.int (a.fdiv b)) else none
  | .mod, .int a, .int b => if b ≠ 0 then some (.int (a.fmod b)) else none
  | .pow, .int a, .int b => if 0 ≤ b ∧ b ≤ 1000000 ∧ small a then some (.int (a ^ b.toNat)) else none
  | .add, .str s, .str t => if s.length + t.length ≤ LINE then some (.str (s ++ t)) else none
  | .band, .int a, .int b => if 0 ≤ a ∧ b = 1 then some (.int (a.fmod 2)) else none
  | .shr, .int a, .int b => if 0 ≤ b ∧ b ≤ 1000 then some (.int (a / 2 ^ b.toNat)) else none
  | .add, .tup a, .tup b => if a.length + b.length ≤ LINE then some (.tup (a ++ b)) else none
  | .mul, .tup a, .int n => if a.isEmpty = false ∧ -1000 ≤ n ∧ n ≤ 1000 ∧ a.length ≤ 1000 then some (.tup (List.replicate n.toNat a).flatten) else none
  | _, _, _ => none
def augD : BO → D → D → Option D
  | .add, .int a, .int b => some (.int (a + b))
  | .sub, .int a, .int b => some (.int (a - b))
  | _, _, _ => none
def flat : D → Bool
  | .non => true | .bl _ => true | .int _ => true | .str _ => true
  | _ => false
def eqF : D → D → Option Bool
  | .non, .non => some true | .non, .int _ => some false | .int _, .non => some false | .non, .bl _ => some false | .bl _, .non => some false
  | .non, .str _ => some false | .str _, .non => some false
  | .int a, .int b => some (decide (a = b)) | .bl a, .bl b => some (decide (a = b)) | .str a, .str b => some (decide (a = b))
  | .int _, .str _ => some false | .str _, .int _ => some false | .bl _, .str _ => some false | .str _, .bl _ => some false
  | _, _ => none
def rowOf : D → Option (Bool × List D)
  | .lst ds => some (true, ds)
  | .own ds => some (true, ds)
  | .tup ds => some (false, ds)
  | _ => none
def eqB : D → D → Option Bool
  | .bl a, .int b => some (decide ((if a then 1 else 0) = b))
  | .int a, .bl b => some (decide (a = (if b then 1 else 0)))
  | a, b => eqF a b
def noBl : D → Bool
  | .non => true | .int _ => true | .str _ => true
  | _ => false
def leafEq : D → D → Bool
  | .non, .non => true
  | .int a, .int b => decide (a = b)
  | .str a, .str b => decide (a = b)
  | _, _ => false
def inF (x : D) (ds : List D) : Option Bool := if noBl x && ds.all noBl then some (ds.any fun d => leafEq d x) else none
def seqOf : D → Option (List D)
  | .lst ds => some ds
  | .own ds => some ds
  | .tup ds => some ds
  | _ => none
def isNon : D → Bool
  | .non => true
  | _ => false
def cmpD : CO → D → D → Option Bool
  | .eq, a, b => eqF a b
  | .ne, a, b => (eqF a b).map (!·)
  | .lt, .int a, .int b => some (decide (a < b))
  | .le, .int a, .int b => some (decide (a ≤ b))
  | .gt, .int a, .int b => some (decide (b < a))
  | .ge, .int a, .int b => some (decide (b ≤ a))
  | .is_, .bl a, .bl b => some (decide (a = b))
  | .isn, .bl a, .bl b => some (!decide (a = b))
  | .is_, d, .non => some (isNon d)
  | .isn, d, .non => some (!isNon d)
  | .in_, x, y => (seqOf y).bind (inF x)
  | .nin, x, y => ((seqOf y).bind (inF x)).map (!·)
  | _, _, _ => none
def truth : D → Option Bool
  | .non => some false
  | .bl b => some b
  | .int i => some (i != 0)
  | .tup ds => some (!ds.isEmpty)
  | .lst ds => some (!ds.isEmpty)
  | .own ds => some (!ds.isEmpty)
  | _ => none
def ixN (n : Nat) (i : Int) : Option Nat := if 0 ≤ i then (if i < n then some i.toNat else none) else if -(n : Int) ≤ i then some (i + n).toNat else none
def atI {α : Type} (xs : List α) (i : Int) : Option α := (ixN xs.length i).bind fun j => xs[j]?
def sIx (n d : Nat) : Option Int → Nat
  | none => d
  | some v => if v < 0 then (v + (n : Int)).toNat else min v.toNat n
def cutL {α : Type} (xs : List α) (lo hi : Option Int) : List α := (xs.drop (sIx xs.length 0 lo)).take (sIx xs.length xs.length hi - sIx xs.length 0 lo)
inductive Kd where
  | int | bool | str | non | tuple | list | dict | ins (c : Nat) | exc (c : Nat)
  deriving DecidableEq
def kdOf : D → Option Kd
  | .int _ => some .int | .bl _ => some .bool | .str _ => some .str | .non => some .non | .tup _ => some .tuple | .lst _ => some .list | .own _ => some .list
  | .ins c _ => some (.ins c) | .exc c _ => some (.exc c)
  | _ => none
def kdIs (T : Tab) : Kd → TY → Option Bool
  | k, .cls j => (match T.cls j with
    | none => none
    | some _ => (match k with
      | .ins c => (match T.cls c with
        | some C => if C.exc then none else some (decide (c = j))
        | none => none)
      | .exc c => (match T.cls c with
        | some C => if C.exc then some (decide (c = j) || C.up.contains j) else none
        | none => none)
      | _ => some false))
  | .ins c, _ => (match T.cls c with
    | some C => if C.exc then none else some false
    | none => none)
  | .exc c, t => (match T.cls c with
    | some C => if C.exc then some (t == .verr) else none
    | none => none)
  | .int, t => some (t == .int)
  | .bool, t => some (t == .int || t == .bool)
  | .str, t => some (t == .str)
  | .non, _ => some false
  | .tuple, t => some (t == .tuple)
  | .list, t => some (t == .list)
  | .dict, t => some (t == .dict)
def isInst (T : Tab) (k : Kd) (t : TY) : Option Bool := if T.isi.contains t then kdIs T k t else none
def isAny (T : Tab) (d : Kd) : List TY → Option Bool
  | [] => some false
  | t :: ts => match isInst T d t with
    | some true => some true
    | some false => isAny T d ts
    | none => none
def kdS (st : Sto) : D → Option Kd
  | .ref r => (match st[r]? with
    | some (.lst _) => some .list
    | some (.dct _) => some .dict
    | _ => none)
  | d => kdOf d
def seqS (st : Sto) : D → Option (List D)
  | .ref r => (match st[r]? with
    | some (.lst ds) => some ds
    | _ => none)
  | d => seqOf d
def lstS (st : Sto) : D → Option (List D)
  | .ref r => (match st[r]? with
    | some (.lst ds) => some ds
    | _ => none)
  | d => asL d
def truthS (st : Sto) : D → Option Bool
  | .ref r => (match st[r]? with
    | some (.lst ds) => some (!ds.isEmpty)
    | _ => none)
  | d => truth d
def keyEq : D → D → Bool
  | .int a, .int b => decide (a = b)
  | .str a, .str b => decide (a = b)
  | _, _ => false
def isKey : D → Bool
  | .int _ => true
  | .str _ => true
  | _ => false
def dGet (kvs : List (D × D)) (k : D) : Option D := (kvs.find? fun kv => keyEq kv.1 k).map (·.2)
def dPut (kvs : List (D × D)) (k v : D) : List (D × D) := if (dGet kvs k).isSome then kvs.map fun kv => if keyEq kv.1 k then (kv.1, v) else kv else kvs ++ [(k, v)]
def keysEq : List D → List D → Bool
  | [], [] => true
  | a :: as, b :: bs => keyEq a b && keysEq as bs
  | _, _ => false
def dGetT (kvs : List (List D × D)) (k : List D) : Option D := (kvs.find? fun kv => keysEq kv.1 k).map (·.2)
def dPutT (kvs : List (List D × D)) (k : List D) (v : D) : List (List D × D) := if (dGetT kvs k).isSome then kvs.map fun kv => if keysEq kv.1 k then (kv.1, v) else kv else kvs ++ [(k, v)]
mutual
def dBeq : D → D → Bool
  | .non, .non => true
  | .bl a, .bl b => a == b
  | .int a, .int b => decide (a = b)
  | .str a, .str b => decide (a = b)
  | .tup a, .tup b => dsBeq a b
  | .lst a, .lst b => dsBeq a b
  | .own a, .own b => dsBeq a b
  | .scr a, .scr b => decide (a = b)
  | .ins c a, .ins k b => c == k && dsBeq a b
  | .obj c a, .obj k b => c == k && dsBeq a b
  | .ref a, .ref b => a == b
  | .exc c a, .exc k b => c == k && dsBeq a b
  | .nim, .nim => true
  | _, _ => false
def dsBeq : List D → List D → Bool
  | [], [] => true
  | a :: as, b :: bs => dBeq a b && dsBeq as bs
  | _, _ => false
end
def kvBeq : List (D × D) → List (D × D) → Bool
  | [], [] => true
  | a :: as, b :: bs => dBeq a.1 b.1 && dBeq a.2 b.2 && kvBeq as bs
  | _, _ => false
def ktBeq : List (List D × D) → List (List D × D) → Bool
  | [], [] => true
  | a :: as, b :: bs => dsBeq a.1 b.1 && dBeq a.2 b.2 && ktBeq as bs
  | _, _ => false
def obBeq : Ob → Ob → Bool
  | .lst a, .lst b => dsBeq a b
  | .ins c a, .ins k b => c == k && dsBeq a b
  | .dct a, .dct b => kvBeq a b
  | .dtt a, .dtt b => ktBeq a b
  | .dnn m a, .dnn n b => m == n && ktBeq a b
  | .exv c a, .exv k b => c == k && dsBeq a b
  | _, _ => false
def stEq : Sto → Sto → Bool
  | [], [] => true
  | a :: as, b :: bs => obBeq a b && stEq as bs
  | _, _ => false
mutual
theorem dBeq_refl : ∀ d : D, dBeq d d = true
  | .non => rfl
  | .bl a => by simp [dBeq]
  | .int a => by simp [dBeq]
  | .str a => by simp [dBeq]
  | .tup a => by simp [dBeq, dsBeq_refl a]
  | .lst a => by simp [dBeq, dsBeq_refl a]
  | .own a => by simp [dBeq, dsBeq_refl a]
  | .scr a => by simp [dBeq]
  | .ins c a => by simp [dBeq, dsBeq_refl a]
  | .obj c a => by simp [dBeq, dsBeq_refl a]
  | .ref a => by simp [dBeq]
  | .exc c a => by simp [dBeq, dsBeq_refl a]
  | .nim => rfl
theorem dsBeq_refl : ∀ d : List D, dsBeq d d = true
  | [] => rfl
  | a :: as => by simp [dsBeq, dBeq_refl a, dsBeq_refl as]
end
theorem kvBeq_refl : ∀ l, kvBeq l l = true
  | [] => rfl
  | a :: as => by simp [kvBeq, dBeq_refl, kvBeq_refl as]
theorem ktBeq_refl : ∀ l, ktBeq l l = true
  | [] => rfl
  | a :: as => by simp [ktBeq, dBeq_refl, dsBeq_refl, ktBeq_refl as]
@[simp] theorem stEq_refl : ∀ l : Sto, stEq l l = true
  | [] => rfl
  | .lst a :: as => by simp [stEq, obBeq, dsBeq_refl, stEq_refl as]
  | .ins c a :: as => by simp [stEq, obBeq, dsBeq_refl, stEq_refl as]
  | .dct a :: as => by simp [stEq, obBeq, kvBeq_refl, stEq_refl as]
  | .dtt a :: as => by simp [stEq, obBeq, ktBeq_refl, stEq_refl as]
  | .dnn n a :: as => by simp [stEq, obBeq, ktBeq_refl, stEq_refl as]
  | .exv c a :: as => by simp [stEq, obBeq, dsBeq_refl, stEq_refl as]
mutual
theorem dBeq_eq : ∀ {a b : D}, dBeq a b = true → a = b
  | .non, b, h => by cases b <;> first | rfl | (simp [dBeq] at h; done)
  | .bl x, b, h => by cases b <;> first | (simp [dBeq] at h; done) | (simp [dBeq] at h; rw [h])
  | .int x, b, h => by cases b <;> first | (simp [dBeq] at h; done) | (simp [dBeq] at h; rw [h])
  | .str x, b, h => by cases b <;> first | (simp [dBeq] at h; done) | (simp [dBeq] at h; rw [h])
  | .tup x, b, h => by cases b <;> first | (simp [dBeq] at h; done) | (simp [dBeq] at h; rw [dsBeq_eq h])
  | .lst x, b, h => by cases b <;> first | (simp [dBeq] at h; done) | (simp [dBeq] at h; rw [dsBeq_eq h])
  | .own x, b, h => by cases b <;> first | (simp [dBeq] at h; done) | (simp [dBeq] at h; rw [dsBeq_eq h])
  | .scr x, b, h => by cases b <;> first | (simp [dBeq] at h; done) | (simp [dBeq] at h; rw [h])
  | .ins c x, b, h => by cases b <;> first | (simp [dBeq] at h; done) | (simp [dBeq] at h; rw [h.1, dsBeq_eq h.2])
  | .obj c x, b, h => by cases b <;> first | (simp [dBeq] at h; done) | (simp [dBeq] at h; rw [h.1, dsBeq_eq h.2])
  | .ref x, b, h => by cases b <;> first | (simp [dBeq] at h; done) | (simp [dBeq] at h; rw [h])
  | .exc c x, b, h => by cases b <;> first | (simp [dBeq] at h; done) | (simp [dBeq] at h; rw [h.1, dsBeq_eq h.2])
  | .nim, b, h => by cases b <;> first | rfl | (simp [dBeq] at h; done)
theorem dsBeq_eq : ∀ {a b : List D}, dsBeq a b = true → a = b
  | [], [], _ => rfl
  | [], _ :: _, h => by simp [dsBeq] at h
  | _ :: _, [], h => by simp [dsBeq] at h
  | a :: as, b :: bs, h => by
    simp [dsBeq] at h
    rw [dBeq_eq h.1, dsBeq_eq h.2]
end
theorem kvBeq_eq : ∀ {a b : List (D × D)}, kvBeq a b = true → a = b
  | [], [], _ => rfl
  | [], _ :: _, h => by simp [kvBeq] at h
  | _ :: _, [], h => by simp [kvBeq] at h
  | (a, c) :: as, (b, d) :: bs, h => by
    simp [kvBeq] at h
    rw [dBeq_eq h.1.1, dBeq_eq h.1.2, kvBeq_eq h.2]
theorem ktBeq_eq : ∀ {a b : List (List D × D)}, ktBeq a b = true → a = b
  | [], [], _ => rfl
  | [], _ :: _, h => by simp [ktBeq] at h
  | _ :: _, [], h => by simp [ktBeq] at h
  | (a, c) :: as, (b, d) :: bs, h => by
    simp [ktBeq] at h
    rw [dsBeq_eq h.1.1, dBeq_eq h.1.2, ktBeq_eq h.2]
theorem obBeq_eq : ∀ {a b : Ob}, obBeq a b = true → a = b
  | .lst a, b, h => by cases b <;> first | (simp [obBeq] at h; done) | (simp [obBeq] at h; rw [dsBeq_eq h])
  | .ins c a, b, h => by cases b <;> first | (simp [obBeq] at h; done) | (simp [obBeq] at h; rw [h.1, dsBeq_eq h.2])
  | .dct a, b, h => by cases b <;> first | (simp [obBeq] at h; done) | (simp [obBeq] at h; rw [kvBeq_eq h])
  | .dtt a, b, h => by cases b <;> first | (simp [obBeq] at h; done) | (simp [obBeq] at h; rw [ktBeq_eq h])
  | .dnn n a, b, h => by cases b <;> first | (simp [obBeq] at h; done) | (simp [obBeq] at h; rw [h.1, ktBeq_eq h.2])
  | .exv c a, b, h => by cases b <;> first | (simp [obBeq] at h; done) | (simp [obBeq] at h; rw [h.1, dsBeq_eq h.2])
theorem stEq_eq : ∀ {a b : Sto}, stEq a b = true → a = b
  | [], [], _ => rfl
  | [], _ :: _, h => by simp [stEq] at h
  | _ :: _, [], h => by simp [stEq] at h
  | a :: as, b :: bs, h => by
    simp [stEq] at h
    rw [obBeq_eq h.1, stEq_eq h.2]
mutual
def simB : D → D → Bool
  | .scr _, _ => true
  | _, .scr _ => true
  | .non, .non => true
  | .bl a, .bl b => a == b
  | .int a, .int b => decide (a = b)
  | .str a, .str b => decide (a = b)
  | .tup a, .tup b => simsB a b
  | .lst a, .lst b => simsB a b
  | .ins c a, .ins k b => simsB a b
  | .ref a, .ref b => a == b
  | _, _ => false
def simsB : List D → List D → Bool
  | [], [] => true
  | a :: as, b :: bs => simB a b && simsB as bs
  | _, _ => false
end
def digitsOf (n : Nat) : List Nat := (Nat.toDigits 10 n).map Char.toNat
def strI (i : Int) : List Nat := if i < 0 then 45 :: digitsOf i.natAbs else digitsOf i.natAbs

def allInt : List D → Option (List Int)
  | [] => some []
  | .int i :: ds => (allInt ds).map (i :: ·)
  | _ => none
def insI (x : Int) : List Int → List Int
  | [] => [x]
  | y :: r => if x ≤ y then x :: y :: r else y :: insI x r
def sortI : List Int → List Int
  | [] => []
  | x :: r => insI x (sortI r)
def rangeI (lo hi : Int) : List Int := (List.range (hi - lo).toNat).map fun (k : Nat) => lo + (k : Int)
def biD : BI → List D → Option D
  | .len, [.tup ds] => some (.int ds.length)
  | .len, [.lst ds] => some (.int ds.length)
  | .len, [.own ds] => some (.int ds.length)
  | .len, [.scr ns] => some (.int ns.length)
  | .len, [.str s] => if s.length ≤ LINE then some (.int s.length) else none
  | .int, [.int i] => some (.int i)
  | .int, [.bl b] => some (.int (if b then 1 else 0))
  | .str, [.int i] => if i.natAbs.log2 < 1920 then some (.str (strI i)) else none
  | .str, [.str s] => some (.str s)
  | .list, [d] => match seqOf d with
    | some ds => some (.own ds)
    | none => none
  | .tuple, [d] => match seqOf d with
    | some ds => some (.tup ds)
    | none => none
  | .abs, [.int i] => some (.int (if i < 0 then -i else i))
  | .gcd, [.int a, .int b] => some (.int (Int.gcd a b : Nat))
  | .sum, [d] => match (seqOf d).bind allInt with
    | some ns => some (.int ns.sum)
    | none => none
  | .sorted, [d] => match (asL d).bind allInt with
    | some ns => if ns.length < 64 then some (.own ((sortI ns).map D.int)) else none
    | none => none
  | .range1, [.int n] => if -(LINE : Int) < n ∧ n < LINE then some (.own ((rangeI 0 n).map D.int)) else none
  | .range2, [.int a, .int b] => if (-(LINE : Int) < a ∧ a < LINE) ∧ (-(LINE : Int) < b ∧ b < LINE) ∧ b - a ≤ LINE then some (.own ((rangeI a b).map D.int)) else none
  | .min2, [.int a, .int b] => some (.int (if b < a then b else a))
  | .min1, [d] => match (asL d).bind allInt with
    | some (n :: ns) => some (.int (ns.foldl (fun a b => if b < a then b else a) n))
    | _ => none
  | .max1, [d] => match (asL d).bind allInt with
    | some (n :: ns) => some (.int (ns.foldl (fun a b => if a < b then b else a) n))
    | _ => none
  | _, _ => none

abbrev Rho := List (Option D)
def rdV (ρ : Rho) (i : Nat) : Option D := match ρ[i]? with
  | some (some (.own _)) => none
  | some (some (.obj _ _)) => none
  | some (some (.exc _ _)) => none
  | some (some d) => some d
  | _ => none
def rdB (ρ : Rho) (i : Nat) : Option D := match ρ[i]? with
  | some (some d) => some d
  | _ => none
def nameOf {β : Type} (m : Nat) : List (Nat × β) → Option β
  | [] => none
  | (k, b) :: r => if k = m then some b else nameOf m r
def posOf (m : Nat) : List Nat → Option Nat
  | [] => none
  | k :: r => if k = m then some 0 else (posOf m r).map (· + 1)

def Es.len : Es → Nat
  | .nil => 0
  | .cons _ as => as.len + 1
def isTxt : List D → Bool
  | .str s :: _ => decide (s.length ≤ LINE)
  | _ => false
def raisable (C : Cls) (ds : List D) : Bool := C.exc && ds.length == C.fields.length && (!C.cat || isTxt ds)
section
variable (T : Tab) (cf : Nat → List D → Sto → R D)
def fieldD (c m : Nat) (ds : List D) : Option D := match T.cls c with
  | some C => (posOf m C.fields).bind fun j => ds[j]?
  | none => none
def isErr (c : Nat) : Bool := match T.cls c with
  | some C => C.exc
  | none => false
def xatD (ρ : Rho) (i m : Nat) : Option D := match rdB ρ i with
  | some (.exc c ds) => if isErr T c then fieldD T c m ds else none
  | _ => none
def xisD (ρ : Rho) (i : Nat) (t : TY) : Option D := match rdB ρ i with
  | some (.exc c _) => if isErr T c && T.isi.contains t then (kdIs T (.exc c) t).map D.bl else none
  | _ => none
def mkXE (c : Nat) (ds : List D) (st : Sto) : R D := match T.cls c with
  | some C => if raisable C ds then .ok (.ref st.length) (st ++ [.exv c ds]) else .no
  | none => .no
def isXE (d : D) (t : TY) (st : Sto) : R D := match d with
  | .ref r => (match st[r]? with
    | some (.exv c _) => if isErr T c && T.isi.contains t then R.of ((kdIs T (.exc c) t).map D.bl) st else .no
    | _ => .no)
  | _ => .no
def atXE (d : D) (m : Nat) (st : Sto) : R D := match d with
  | .ref r => (match st[r]? with
    | some (.exv c ds) => if isErr T c then R.of (fieldD T c m ds) st else .no
    | _ => .no)
  | _ => .no
def clsI (c : Nat) : Option Cls := match T.cls c with
  | some C => if C.exc then none else some C
  | none => none
def kmE (c m : Nat) (x : D) (es : List D) (st : Sto) : R D := match (clsI T c).bind fun C => nameOf m C.kmeths with
  | some f => cf f (x :: es) st
  | none => .no
def prop (c m : Nat) : Option Nat := (clsI T c).bind fun C => nameOf m C.props
def methOf (c m : Nat) : Option Nat := (clsI T c).bind fun C => nameOf m C.meths
def noEr : R D → R D
  | .ok d st => .ok d st
  | _ => .no
@[simp] theorem noEr_ok (d : D) (st : Sto) : noEr (.ok d st) = .ok d st := rfl
def rowB (o : BO) (a b : D) (st : Sto) : Option (List D) := match o, lstS st a, b with
  | .add, some xs, b => (lstS st b).bind fun ys => if xs.length + ys.length ≤ LINE then some (xs ++ ys) else none
  | .mul, some xs, .int n => if -1000 ≤ n ∧ n ≤ 1000 ∧ xs.length ≤ 1000 then some (List.replicate n.toNat xs).flatten else none
  | _, _, _ => none
def isIns : D → Bool
  | .ins _ _ => true
  | _ => false
def isLst : D → Bool
  | .lst _ => true | .own _ => true | .ref _ => true
  | _ => false
def binE (o : BO) (a b : D) (st : Sto) : R D := match a, b with
  | .ins c ds, .int j => (match T.bop c o with
    | some f => cf f [.ins c ds, .int j] st
    | none => .no)
  | .ins c ds, .ins k es => if c = k then (match T.bop c o with
    | some f => cf f [.ins c ds, .ins k es] st
    | none => .no) else .no
  | .int i, .ins c ds => (match T.rop c o with
    | some f => cf f [.ins c ds, .int i] st
    | none => .no)
  | a, b => if isLst a then (match rowB o a b st with
    | some ds => .ok (.own ds) st
    | none => .no) else R.of (binD o a b) st
def asBl : R D → R Bool
  | .ok (.bl b) st => .ok b st
  | .er x st => .er x st
  | _ => .no
def isRel : CO → Bool
  | .is_ => false | .isn => false | .in_ => false | .nin => false
  | _ => true
def isEq : CO → Bool
  | .eq => true | .ne => true
  | _ => false
def isRow : D → Bool
  | .lst _ => true | .own _ => true | .tup _ => true
  | _ => false
def isInO : CO → Bool
  | .in_ => true | .nin => true
  | _ => false
def isTup : D → Bool
  | .tup _ => true
  | _ => false
def isRowL : D → Bool
  | .lst _ => true | .own _ => true
  | _ => false
def dOk : Nat → D → Bool
  | 0, d => (match d with
    | .non => true
    | .int _ => true
    | _ => false)
  | n + 1, d => (match d with
    | .non => true
    | .int _ => true
    | .tup ds => ds.all (dOk n)
    | .lst ds => ds.all (dOk n)
    | _ => false)
def deqs (f : D → D → Bool) : List D → List D → Bool
  | [], [] => true
  | a :: r, b :: s => f a b && deqs f r s
  | _, _ => false
def deq : Nat → D → D → Bool
  | 0, a, b => leafEq a b
  | n + 1, a, b => (match a, b with
    | .tup xs, .tup ys => deqs (deq n) xs ys
    | .lst xs, .lst ys => deqs (deq n) xs ys
    | a, b => leafEq a b)
def inP (o : CO) (a b : D) : Option Bool := match rowOf b with
  | some (true, ds) => if dOk 8 a && ds.all (dOk 8) then (let k := ds.any fun z => deq 8 z a; some (if o = .nin then !k else k)) else none
  | _ => none
def spec (o : CO) (a b : D) : Bool := (isRel o && (isIns a || isIns b)) || (isEq o && (isRow a || isRow b)) || (isInO o && (isTup a && isRowL b))
def flipC : CO → CO
  | .lt => .gt | .gt => .lt | .le => .ge | .ge => .le
  | o => o
def mayR : D → Bool
  | .non => true | .bl _ => true | .int _ => true | .str _ => true | .tup _ => true | .lst _ => true
  | .ins c _ => (clsI T c).isSome
  | _ => false
def mayL (o : CO) : D → Bool
  | .int _ => true
  | .non => isEq o | .bl _ => isEq o | .str _ => isEq o
  | _ => false
def insC (o : CO) (c : Nat) (ds : List D) (b : D) (st : Sto) : R Bool := match T.cop c (if isEq o then .eq else o) with
  | some f => (asBl (cf f [.ins c ds, b] st)).bind fun k st => .ok (if o = .ne then !k else k) st
  | none => .no
def cmpI (o : CO) (a b : D) (st : Sto) : R Bool := match a, b with
  | .ins c ds, b => if mayR T b then insC T cf o c ds b st else .no
  | a, .ins c ds => if mayL o a then insC T cf (flipC o) c ds a st else .no
  | _, _ => .no
def cmpG (a b : D) (st : Sto) : R Bool := match cmpI T cf .eq a b st with
  | .ok k st' => if stEq st st' && (k || !simB a b) then .ok k st else .no
  | _ => .no
def eqAll (f : D → D → Sto → R Bool) : List D → List D → Sto → R Bool
  | x :: xs, y :: ys, st => (f x y st).bind fun k st => if k then eqAll f xs ys st else .ok false st
  | _, _, st => .ok true st
def eqRow (f : D → D → Sto → R Bool) (k : Bool) (xs ys : List D) (st : Sto) : R Bool :=
  if k && xs.length != ys.length then .ok false st else (eqAll f xs ys st).bind fun r st => .ok (r && xs.length == ys.length) st
def eqX : Nat → D → D → Sto → R Bool
  | n, a, b, st => if isIns a || isIns b then cmpG T cf a b st else match rowOf a, rowOf b with
    | some (k, xs), some (l, ys) => if k = l then (match n with
      | 0 => .no
      | n + 1 => eqRow (eqX n) k xs ys st) else .ok false st
    | some _, none => if flat b then .ok false st else .no
    | none, some _ => if flat a then .ok false st else .no
    | none, none => R.of (eqB a b) st
def cmpS (o : CO) (a b : D) (st : Sto) : R Bool := if isIns a || isIns b then cmpI T cf o a b st else if isInO o then R.of (inP o a b) st else (eqX T cf 5 a b st).bind fun k st => .ok (if o = .ne then !k else k) st
def inD (o : CO) (k : D) (kvs : List (D × D)) : Option Bool := if isKey k then (match o with
  | .in_ => some (dGet kvs k).isSome
  | .nin => some !(dGet kvs k).isSome
  | _ => none) else none
def cmpE (o : CO) (a b : D) (st : Sto) : R Bool := if spec o a b then cmpS T cf o a b st else match b with
  | .ref r => (match st[r]? with
    | some (.dct kvs) => R.of (inD o a kvs) st
    | some (.lst ds) => R.of (cmpD o a (.lst ds)) st
    | _ => .no)
  | b => R.of (cmpD o a b) st
def icmpE (o : CO) (a b : D) (st : Sto) : R D := match a, b with
  | .int i, .int j => (R.of (cmpD o (.int i) (.int j)) st).bind fun b st => .ok (.bl b) st
  | .str i, .str j => (R.of (cmpD o (.str i) (.str j)) st).bind fun b st => .ok (.bl b) st
  | _, _ => .no
def ibinE (o : BO) (a b : D) (st : Sto) : R D := match a, b with
  | .int i, .int j => R.of (binD o (.int i) (.int j)) st
  | _, _ => .no
def ceqB (x y : D) (st : Sto) : R Bool := match lstS st x, lstS st y with
  | some xs, some ys => if xs.length != ys.length then .ok false st else eqAll (eqX T cf 4) xs ys st
  | _, _ => .no
def ceqE (ne : Bool) (x y : D) (st : Sto) : R D := (ceqB T cf x y st).bind fun k st => .ok (.bl (k != ne)) st
def attrE (a : D) (m : Nat) (st : Sto) : R D := match a with
  | .ins c ds => (match (clsI T c).bind fun _ => fieldD T c m ds with
    | some d => .ok d st
    | none => (match prop T c m with
      | some f => noEr (cf f [.ins c ds] st)
      | none => .no))
  | .obj c ds => R.of ((clsI T c).bind fun _ => fieldD T c m ds) st
  | .exc c ds => R.of (fieldD T c m ds) st
  | _ => .no
def hasM (m : Nat) : D → Bool
  | .ins c _ => (methOf T c m).isSome
  | _ => false
def methE (m : Nat) (a : D) (as : List D) (st : Sto) : R D := match a with
  | .ins c ds => (match methOf T c m with
    | some f => cf f (.ins c ds :: as) st
    | none => .no)
  | _ => .no
def ixE (a i : D) (st : Sto) : R D := match a, i with
  | .tup ds, .int k => R.of (atI ds k) st
  | .lst ds, .int k => R.of (atI ds k) st
  | .own ds, .int k => R.of (atI ds k) st
  | .scr ns, .int k => R.of ((atI ns k).map D.int) st
  | .str s, .int k => if s.length ≤ LINE then R.of ((atI s k).map fun c => D.str [c]) st else .no
  | .ref r, k => (match st[r]? with
    | some (.lst ds) => (match k with
      | .int k => R.of (atI ds k) st
      | _ => .no)
    | some (.dct kvs) => if isKey k then R.of (dGet kvs k) st else .no
    | _ => .no)
  | .ins _ _, .own _ => .no
  | .ins c ds, d => (match T.get c with
    | some f => cf f [.ins c ds, d] st
    | none => .no)
  | _, _ => .no
def ptE (a : E) (r : R D) : R (Option Int) := match a with
  | .nop => r.bind fun _ st => .ok none st
  | _ => r.bind fun d st => (match d with
    | .int i => .ok (some i) st
    | _ => .no)
def slE (a : D) (l h : Option Int) (st : Sto) : R D := match a with
  | .tup ds => .ok (.tup (cutL ds l h)) st
  | .str s => if s.length ≤ LINE then .ok (.str (cutL s l h)) st else .no
  | a => (match lstS st a with
    | some ds => .ok (.own (cutL ds l h)) st
    | none => .no)
def asTx : R D → R D
  | .ok (.str z) st => .ok (.str z) st
  | .er x st => .er x st
  | _ => .no
def strE (a : D) (st : Sto) : R D := match a with
  | .ins c ds => (match T.str c with
    | some f => asTx (cf f [.ins c ds] st)
    | none => .no)
  | d => R.of (biD .str [d]) st
def biE (b : BI) (as : List D) (st : Sto) : R D := match b, as with
  | .str, [d] => strE T cf d st
  | .abs, [.ins c ds] => (match T.abs c with
    | some f => cf f [.ins c ds] st
    | none => .no)
  | .len, [.ref r] => (match st[r]? with
    | some (.lst ds) => .ok (.int ds.length) st
    | some (.dct kvs) => .ok (.int kvs.length) st
    | _ => .no)
  | .len, [.ins c ds] => (match T.len c with
    | some f => (match cf f [.ins c ds] st with
      | .ok (.int n) st => if 0 ≤ n ∧ n < LINE then .ok (.int n) st else .no
      | .er x st => .er x st
      | _ => .no)
    | none => .no)
  | b, [.ref r] => (match st[r]? with
    | some (.lst ds) => R.of (biD b [.lst ds]) st
    | _ => .no)
  | b, as => R.of (biD b as) st
def negE (a : D) (st : Sto) : R D := match a with
  | .int i => .ok (.int (-i)) st
  | .ins c ds => (match T.neg c with
    | some f => cf f [.ins c ds] st
    | none => .no)
  | _ => .no
def invE (a : D) (as : List D) (st : Sto) : R D := match a with
  | .ins c ds => (match T.inv c with
    | some f => cf f (.ins c ds :: as) st
    | none => .no)
  | _ => .no
def isLR (st : Sto) : D → Bool
  | .ref r => (match st[r]? with
    | some (.lst _) => true
    | _ => false)
  | _ => false
def popE (a i : D) (st : Sto) : R D := match a, i with
  | .ref r, .int k => (match st[r]? with
    | some (.lst ds) => if -(LINE : Int) < k ∧ k < LINE then (match ixN ds.length k with
      | some j => (match ds[j]? with
        | some d => .ok d (st.set r (.lst (ds.eraseIdx j)))
        | none => .no)
      | none => .no) else .no
    | _ => .no)
  | _, _ => .no
def downE (x : D) (st : Sto) : R D := match x with
  | .tup ds => .ok (.tup ds.reverse) st
  | x => (match lstS st x with
    | some ds => .ok (.own ds.reverse) st
    | none => .no)
def keyT (ks : List D) : Bool := ks.all isKey && decide (ks.length ≤ LINE)
def ixTE (x : D) (ks : List D) (st : Sto) : R D := match x with
  | .ref r => (match st[r]? with
    | some (.dtt kvs) => if keyT ks then R.of (dGetT kvs ks) st else .no
    | _ => .no)
  | _ => .no
def setiTD (x : D) (ks : List D) (v : D) (st : Sto) : Option Sto := match x with
  | .ref r => (match st[r]? with
    | some (.dtt kvs) => if keyT ks && decide (kvs.length < LINE) then some (st.set r (.dtt (dPutT kvs ks v))) else none
    | _ => none)
  | _ => none
def partN : D → Option (Option Int)
  | .int i => some (some i)
  | .non => some none
  | _ => none
def keyN : D → Option (List D)
  | .tup ks => if (ks.all fun d => (partN d).isSome) && decide (ks.length ≤ LINE) then some ks else none
  | _ => none
def keysN (a b : List D) : Bool := decide (a.map partN = b.map partN)
def dGetN (kvs : List (List D × D)) (k : List D) : Option D := (kvs.find? fun kv => keysN kv.1 k).map (·.2)
def dPutN (kvs : List (List D × D)) (k : List D) (v : D) : List (List D × D) := if (dGetN kvs k).isSome then kvs.map fun kv => if keysN kv.1 k then (kv.1, v) else kv else kvs ++ [(k, v)]
def epN (n : Nat) (kvs : List (List D × D)) (k : List D) : Nat := if (dGetN kvs k).isSome then n else n + 1
def ixNE (x y : D) (st : Sto) : R D := match x, keyN y with
  | .ref r, some ks => (match st[r]? with
    | some (.dnn _ kvs) => R.of (dGetN kvs ks) st
    | _ => .no)
  | _, _ => .no
def keyP (ks : List D) : List (Option Int) := ks.map fun d => (partN d).getD none
def cpNE (T : Tab) (x : D) (st : Sto) : R D := match x with
  | .ref r => (match st[r]? with
    | some (.dnn _ kvs) => if kvs.length < LINE ∧ kvs ≠ [] ∧ (kvs.map fun kv => T.hk (keyP kv.1)).Nodup then .ok (.ref st.length) (st ++ [.dnn 1 kvs]) else .no
    | _ => .no)
  | _ => .no
def popND (x y : D) (st : Sto) : Option Sto := match x, keyN y with
  | .ref r, some ks => (match st[r]? with
    | some (.dnn n kvs) => if kvs.length < LINE ∧ (dGetN kvs ks).isSome = true then some (st.set r (.dnn (n + 1) (kvs.filter fun kv => !keysN kv.1 ks))) else none
    | _ => none)
  | _, _ => none
def lenNE (x : D) (st : Sto) : R D := match x with
  | .ref r => (match st[r]? with
    | some (.dnn _ kvs) => if kvs.length < LINE then .ok (.int kvs.length) st else .no
    | _ => .no)
  | _ => .no
def clrND (x : D) (st : Sto) : Option Sto := match x with
  | .ref r => (match st[r]? with
    | some (.dnn n kvs) => if kvs.length < LINE then some (st.set r (.dnn (n + 1) [])) else none
    | _ => none)
  | _ => none
def isdNE (x : D) (st : Sto) : R D := match x with
  | .ref r => (match st[r]? with
    | some (.dnn _ _) => .ok (.bl true) st
    | _ => .no)
  | _ => .no
def inNE (n : Bool) (y x : D) (st : Sto) : R D := match x, keyN y with
  | .ref r, some ks => (match st[r]? with
    | some (.dnn _ kvs) => .ok (.bl (if n then !(dGetN kvs ks).isSome else (dGetN kvs ks).isSome)) st
    | _ => .no)
  | _, _ => .no
def setiND (x y v : D) (st : Sto) : Option Sto := match x, keyN y with
  | .ref r, some ks => (match st[r]? with
    | some (.dnn n kvs) => if kvs.length < LINE then some (st.set r (.dnn (epN n kvs ks) (dPutN kvs ks v))) else none
    | _ => none)
  | _, _ => none
def dlitE (r : Nat) (x y : D) (st : Sto) : R D := match st[r]? with
  | some (.dct []) => (match x with
    | .int k => .ok (.ref r) (st.set r (.dct [(.int k, y)]))
    | .str k => .ok (.ref r) (st.set r (.dct [(.str k, y)]))
    | _ => .no)
  | _ => .no
def mis (C : Cls) (n : Nat) : List D := C.dfl.drop (C.dfl.length + n - C.np)
def makeE (c : Nat) (as : List D) (st : Sto) : R D := match clsI T c with
  | some C => cf C.init (as ++ mis C as.length) st
  | none => .no
def stIns (x : D) (st : Sto) : Option (Nat × List D) := match x with
  | .ref r => (match st[r]? with
    | some (.ins c ds) => some (c, ds)
    | _ => none)
  | _ => none
def attrRE (x : D) (m : Nat) (st : Sto) : R D := match stIns x st with
  | some q => (match (clsI T q.1).bind fun _ => fieldD T q.1 m q.2 with
    | some d => .ok d st
    | none => (match prop T q.1 m with
      | some f => noEr (cf f [x] st)
      | none => .no))
  | none => .no
def methRO (x : D) (m : Nat) (st : Sto) : Option Nat := (stIns x st).bind fun q => methOf T q.1 m
def wthO (c : Nat) (x : D) (m : Nat) (st : Sto) : Option Nat := (stIns x st).bind fun q => if q.1 = c then methOf T q.1 m else none
def genO (c : Nat) (x : D) (m : Nat) (st : Sto) : Option (Nat × Nat) := (stIns x st).bind fun q => if q.1 = c then (clsI T c).bind fun C => (nameOf m C.gens).bind fun w => match fieldD T c w.1 q.2 with
  | some (.ref r) => some (r, w.2)
  | _ => none else none
def lenRE (x : D) (st : Sto) : R D := match stIns x st with
  | some q => (match T.len q.1 with
    | some f => (match cf f [x] st with
      | .ok (.int n) st => if 0 ≤ n ∧ n < LINE then .ok (.int n) st else .no
      | .er x st => .er x st
      | _ => .no)
    | none => .no)
  | none => .no
def ixRE (x y : D) (st : Sto) : R D := match stIns x st with
  | some q => (match T.get q.1 with
    | some f => cf f [x, y] st
    | none => .no)
  | none => .no
def lstYL (r f : Nat) : Nat → Nat → List D → Sto → R (List D)
  | _, 0, _, _ => .no
  | j, n + 1, acc, st => match st[r]? with
    | some (.lst ds) => (match ds[j]? with
      | none => .ok acc st
      | some d => (match cf f [d] st with
        | .ok v st => if isIns v && decide (acc.length < LINE) then lstYL r f (j + 1) n (acc ++ [v]) st else .no
        | _ => .no))
    | _ => .no
def lstYE (q : Nat × Nat) (st : Sto) : R D := match st[q.1]? with
  | some (.lst ds) => (match lstYL cf q.1 q.2 0 (ds.length + 1) [] st with
    | .ok vs st => .ok (.own vs) st
    | _ => .no)
  | _ => .no
def setpO (x : D) (m : Nat) (st : Sto) : Option Nat := (stIns x st).bind fun q => (clsI T q.1).bind fun C => nameOf m C.sets
def makMD (c : Nat) (d : D) (st : Sto) : R D := match d with
  | .ins c' ds => if c' = c then .ok (.ref st.length) (st ++ [.ins c ds]) else .no
  | _ => .no
def setaD (x : D) (m : Nat) (v : D) (st : Sto) : Option Sto := match x, stIns x st with
  | .ref r, some q => ((clsI T q.1).bind fun C => posOf m C.fields).map fun j => st.set r (.ins q.1 (q.2.set j v))
  | _, _ => none
def fmtD : D → Option (List Nat)
  | .str s => if s.length ≤ LINE then some s else none
  | .int i => if i.natAbs.log2 < 1920 then some (strI i) else none
  | _ => none
def zipD : List D → List D → List (List D)
  | a :: as, b :: bs => [a, b] :: zipD as bs
  | _, _ => []
def enumD (k : Int) : List D → List (List D)
  | [] => []
  | d :: ds => [.int k, d] :: enumD (k + 1) ds
def setAll (ρ : Rho) : List Nat → List D → Option Rho
  | [], [] => some ρ
  | i :: is, d :: ds => setAll (ρ.set i (some d)) is ds
  | _, _ => none
def rangeC (a b c : Int) : List Int := (List.range (if a < b then ((b - a - 1).fdiv c + 1).toNat else 0)).map fun (k : Nat) => a + (k : Int) * c
def rngI : List D → Option (List Int)
  | [.int n] => if -(LINE : Int) < n ∧ n < LINE then some (rangeI 0 n) else none
  | [.int a, .int b] => if (-(LINE : Int) < a ∧ a < LINE) ∧ -(LINE : Int) < b ∧ b < LINE then some (rangeI a b) else none
  | [.int a, .int b, .int c] => if (-(LINE : Int) < a ∧ a < LINE) ∧ (-(LINE : Int) < b ∧ b < LINE) ∧ 0 < c ∧ c < LINE then some (rangeC a b c) else none
  | _ => none
def plainO : Option (Option D) → Bool
  | some (some (.own _)) => false
  | some (some (.obj _ _)) => false
  | some (some (.exc _ _)) => false
  | _ => true
def splC (c : Nat) : List Nat → List Nat → List (List Nat)
  | acc, [] => [acc]
  | acc, x :: r => if x = c then acc :: splC c [] r else splC c (acc ++ [x]) r
def parC (c : Nat) : List Nat → List Nat → Option (List Nat × List Nat)
  | _, [] => none
  | acc, x :: r => if x = c then some (acc, r) else parC c (acc ++ [x]) r
def joinC (c : Nat) : List (List Nat) → List Nat
  | [] => []
  | [p] => p
  | p :: q :: r => p ++ c :: joinC c (q :: r)
def txtsOf : List D → Option (List (List Nat))
  | [] => some []
  | .str s :: r => (txtsOf r).map fun ss => s :: ss
  | _ => none
def splE (c : Nat) (st : Sto) : D → R D
  | .str s => if s.length ≤ 100000 then .ok (.own ((splC c [] s).map D.str)) st else .no
  | _ => .no
def parE (c : Nat) (st : Sto) : D → R D
  | .str s => if s.length ≤ 100000 then (match parC c [] s with
    | some (p, q) => .ok (.tup [.str p, .str [c], .str q]) st
    | none => .ok (.tup [.str s, .str [], .str []]) st) else .no
  | _ => .no
def joinE (c : Nat) (st : Sto) (d : D) : R D := match (lstS st d).bind txtsOf with
  | some ss => if (ss.map List.length).sum + ss.length ≤ 100000 then .ok (.str (joinC c ss)) st else .no
  | none => .no
def inTE (n : Bool) (st : Sto) : D → D → R D
  | .str [c], .str z => .ok (.bl (if n then !decide (c ∈ z) else decide (c ∈ z))) st
  | _, _ => .no
def valT (s : List Nat) : Nat := s.foldl (fun a c => a * 10 + (c - 48)) 0
def intTE (st : Sto) : D → R D
  | .str s => if digitsOf (valT s) = s ∧ s.length ≤ 640 then .ok (.int (valT s)) st else .no
  | _ => .no
def compL (el : Rho → Sto → R D) (te : Rho → Sto → R Bool) (ρ : Rho) (is : List Nat) : List (List D) → List D → Sto → R (List D)
  | [], acc, st => .ok acc st
  | ds :: r, acc, st => match setAll ρ is ds with
    | none => .no
    | some ρ' => (te ρ' st).bind fun t st => if t then (el ρ' st).bind fun d st => if acc.length < LINE then compL el te ρ is r (acc ++ [fz d]) st else .no else compL el te ρ is r acc st
def clr : List Nat → Rho → Rho
  | [], ρ => ρ
  | i :: is, ρ => (clr is ρ).set i none
def compD (ek ev : Rho → Sto → R D) (te : Rho → Sto → R Bool) (ρ : Rho) (is : List Nat) : List (List D) → List (D × D) → Sto → R (List (D × D))
  | [], acc, st => .ok acc st
  | ds :: r, acc, st => match setAll ρ is ds with
    | none => .no
    | some ρ' => (te ρ' st).bind fun t st => if t then (ek ρ' st).bind fun k st => (ev ρ' st).bind fun v st => if acc.length < LINE ∧ isKey k then compD ek ev te ρ is r (dPut acc k (fz v)) st else .no else compD ek ev te ρ is r acc st
def compN (ek ev : Rho → Sto → R D) (ρ : Rho) (i : Nat) : List D → Nat → List (List D × D) → Sto → R (Nat × List (List D × D))
  | [], n, kvs, st => .ok (n, kvs) st
  | d :: r, n, kvs, st => (ek (ρ.set i (some d)) st).bind fun y st => (ev (ρ.set i (some d)) st).bind fun z st => match keyN y with
    | some ks => if kvs.length < LINE then compN ek ev ρ i r (epN n kvs ks) (dPutN kvs ks (fz z)) st else .no
    | none => .no
def cDnn : R (Nat × List (List D × D)) → R D
  | .ok q st => .ok (.ref st.length) (st ++ [.dnn q.1 q.2])
  | _ => .no
def compL2 (src : Rho → Sto → R (List (List D))) (el : Rho → Sto → R D) (te : Rho → Sto → R Bool) (ρ : Rho) (is is2 : List Nat) : List (List D) → List D → Sto → R (List D)
  | [], acc, st => .ok acc st
  | ds :: r, acc, st => match setAll ρ is ds with
    | none => .no
    | some ρ' => (src ρ' st).bind fun dss st => (compL el te ρ' is2 dss acc st).bind fun acc st => compL2 src el te ρ is is2 r acc st
def orR {α β : Type} (r : R α) (k : α → Sto → R β) (fb : R β) : R β := match r with
  | .ok a st => k a st
  | .er x st => .er x st
  | .no => fb
theorem orR_no {α β : Type} (r : R α) (k : α → Sto → R β) : orR r k .no = r.bind k := by cases r <;> rfl
def grd (r : Nat) (ds : List D) (st : Sto) : Bool := match st[r]? with
  | some (.lst es) => dsBeq es ds
  | _ => false
def grdT (r : Nat) (ds : List D) (te : Rho → Sto → R Bool) : Rho → Sto → R Bool := fun ρ st => if grd r ds st then te ρ st else .no
def refL (d : D) (st : Sto) (f : List D → List (List D)) : R (Nat × List D × List (List D)) := match d with
  | .ref r => (match st[r]? with
    | some (.lst ds) => .ok (r, ds, f ds) st
    | _ => .no)
  | _ => .no
def grdK (r : Nat) (ds : List D) (x : R (List D)) : R D := match x with
  | .ok es st => if grd r ds st then .ok (.own es) st else .no
  | _ => .no
def grdN (r n : Nat) (kvs : List (List D × D)) (st : Sto) : Bool := match st[r]? with
  | some ob => obBeq ob (.dnn n kvs)
  | none => false
def dnnOf (d : D) (st : Sto) : R (Nat × Nat × List (List D × D)) := match d with
  | .ref r => (match st[r]? with
    | some (.dnn n kvs) => .ok (r, n, kvs) st
    | _ => .no)
  | _ => .no
def keyD (kvs : List (List D × D)) : List (List D) := kvs.map fun kv => [.tup kv.1]
def itmN (kvs : List (List D × D)) : List (List D) := kvs.map fun kv => [.tup kv.1, kv.2]
def grdTN (r n : Nat) (kvs : List (List D × D)) (te : Rho → Sto → R Bool) : Rho → Sto → R Bool := fun ρ st => if grdN r n kvs st then te ρ st else .no
def grdKN (r n : Nat) (kvs : List (List D × D)) (x : R (List D)) : R D := match x with
  | .ok es st => if grdN r n kvs st then .ok (.own es) st else .no
  | _ => .no
def prD : List D → Option (List (List D))
  | [] => some []
  | d :: r => match d with
    | .tup [x, y] => (prD r).map fun l => [x, y] :: l
    | _ => none
def fldCE (c m : Nat) (x : D) (st : Sto) : R D := match x with
  | .ins k ds => if k = c then R.of ((clsI T c).bind fun _ => fieldD T c m ds) st else .no
  | x => (match stIns x st with
    | some q => if q.1 = c then R.of ((clsI T c).bind fun _ => fieldD T c m q.2) st else .no
    | none => .no)
def lstNE (x : D) (st : Sto) : R D := match x with
  | .ref r => (match st[r]? with
    | some (.dnn _ kvs) => if kvs.length < LINE then .ok (.own (kvs.map fun kv => .tup kv.1)) st else .no
    | _ => .no)
  | _ => .no
def bor (a : E) (ρ : Rho) (st : Sto) (r : R D) : R D := match a with
  | .var i => R.of (rdB ρ i) st
  | _ => r
mutual
def evE : E → Rho → Sto → R D
  | .non, _, st => .ok .non st
  | .bl b, _, st => .ok (.bl b) st
  | .int i, _, st => .ok (.int i) st
  | .str s, _, st => .ok (.str s) st
  | .var i, ρ, st => R.of (rdV ρ i) st
  | .con j, _, st => .ok (T.con j) st
  | .neg a, ρ, st => (evE a ρ st).bind fun d st => negE T cf d st
  | .not a, ρ, st => (bor a ρ st (evE a ρ st)).bind fun d st => R.of ((truthS st d).map fun b => .bl (!b)) st
  | .bin o a b, ρ, st => (bor a ρ st (evE a ρ st)).bind fun x st => (bor b ρ st (evE b ρ st)).bind fun y st => binE T cf o x y st
  | .cmp o a b, ρ, st => (bor a ρ st (evE a ρ st)).bind fun x st => (bor b ρ st (evE b ρ st)).bind fun y st => (cmpE T cf o x y st).bind fun b st => .ok (.bl b) st
  | .icmp o a b, ρ, st => (bor a ρ st (evE a ρ st)).bind fun x st => (bor b ρ st (evE b ρ st)).bind fun y st => icmpE o x y st
  | .ibin o a b, ρ, st => (bor a ρ st (evE a ρ st)).bind fun x st => (bor b ρ st (evE b ρ st)).bind fun y st => ibinE o x y st
  | .chain o p a b c, ρ, st => (evE a ρ st).bind fun x st => (evE b ρ st).bind fun y st => (cmpE T cf o x y st).bind fun k st => if k then (evE c ρ st).bind fun z st => (cmpE T cf p y z st).bind fun b st => .ok (.bl b) st else .ok (.bl false) st
  | .and a b, ρ, st => (evE a ρ st).bind fun x st => (match x with
    | .bl true => evE b ρ st
    | .bl false => .ok (.bl false) st
    | _ => .no)
  | .or a b, ρ, st => (evE a ρ st).bind fun x st => (match x with
    | .bl true => .ok (.bl true) st
    | .bl false => evE b ρ st
    | _ => .no)
  | .ite t a b, ρ, st => (evT t ρ st).bind fun k st => if k then evE a ρ st else evE b ρ st
  | .call f as, ρ, st => (evA as ρ st).bind fun ds st => cf f ds st
  | .make c as, ρ, st => (evA as ρ st).bind fun ds st => makeE T cf c ds st
  | .meth m a as, ρ, st => (evE a ρ st).bind fun x st => if hasM T m x then (evA as ρ st).bind fun ds st => methE T cf m x ds st else .no
  | .kmeth c m a as, ρ, st => (evE a ρ st).bind fun x st => (match x with
    | .ins c' ds => if c' = c then (evA as ρ st).bind fun es st => kmE T cf c m (.ins c ds) es st else .no
    | _ => .no)
  | .attr a m, ρ, st => (bor a ρ st (evE a ρ st)).bind fun x st => attrE T cf x m st
  | .bi b as, ρ, st => (evL as ρ st).bind fun ds st => biE T cf b ds st
  | .isi a ts, ρ, st => (bor a ρ st (evE a ρ st)).bind fun x st => R.of (((kdS st x).bind fun k => isAny T k ts).map D.bl) st
  | .tup as, ρ, st => (evA as ρ st).bind fun ds st => if ds.length ≤ LINE then .ok (.tup ds) st else .no
  | .lst as, ρ, st => (evA as ρ st).bind fun ds st => if ds.length ≤ LINE then .ok (.own ds) st else .no
  | .ix a i, ρ, st => (bor a ρ st (evE a ρ st)).bind fun x st => (evE i ρ st).bind fun y st => ixE T cf x y st
  | .sl a lo hi, ρ, st => (bor a ρ st (evE a ρ st)).bind fun x st => (ptE lo (evE lo ρ st)).bind fun l st => (ptE hi (evE hi ρ st)).bind fun h st => slE x l h st
  | .nop, _, st => .ok .non st
  | .comp is e src t, ρ, st => orR (evI src ρ st) (fun dss st => if is.all fun i => plainO ρ[i]? then (match compL (evE e) (evT t) ρ is dss [] st with
    | .ok ds st => .ok (.own ds) st
    | _ => .no) else .no) ((evR src ρ st).bind fun q st => if is.all fun i => plainO ρ[i]? then grdK q.1 q.2.1 (compL (evE e) (grdT q.1 q.2.1 (evT t)) ρ is q.2.2 [] st) else .no)
  | .fst as, ρ, st => evF as [] ρ st
  | .sto a, ρ, st => (evE a ρ st).bind fun d st => (match d with
    | .own ds => .ok (.ref st.length) (st ++ [.lst ds])
    | d => .ok d st)
  | .xat i m, ρ, st => R.of (xatD T ρ i m) st
  | .xis i t, ρ, st => R.of (xisD T ρ i t) st
  | .stuck, _, _ => .no
  | .frz a, ρ, st => (evE a ρ st).bind fun d st => .ok (fz d) st
  | .inv a as, ρ, st => (evE a ρ st).bind fun x st => if isIns x then (evA as ρ st).bind fun ds st => invE T cf x ds st else .no
  | .dcomp is k v src t, ρ, st => (evI src ρ st).bind fun dss st => if is.all fun i => plainO ρ[i]? then (match compD (evE k) (evE v) (evT t) ρ is dss [] st with
    | .ok kvs st => .ok (.ref st.length) (st ++ [.dct kvs])
    | _ => .no) else .no
  | .comp2 is src is2 src2 e t, ρ, st => (evI src ρ st).bind fun dss st => if (is ++ is2).all fun i => plainO ρ[i]? then (match compL2 (evI src2) (evE e) (evT t) (clr is2 ρ) is is2 dss [] st with
    | .ok ds st => .ok (.own ds) st
    | _ => .no) else .no
  | .compX i e a t, ρ, st => (evE a ρ st).bind fun d st => (match seqOf d with
    | some ds => if plainO ρ[i]? then (compL (evE e) (evT t) ρ [i] (ds.map fun x => [x]) [] st).bind fun ds st => .ok (.own ds) st else .no
    | none => .no)
  | .splT c a, ρ, st => (evE a ρ st).bind fun d st => splE c st d
  | .parT c a, ρ, st => (evE a ρ st).bind fun d st => parE c st d
  | .joinT c a, ρ, st => (evE a ρ st).bind fun d st => joinE c st d
  | .inT n a b, ρ, st => (evE a ρ st).bind fun x st => (evE b ρ st).bind fun y st => inTE n st x y
  | .intT a, ρ, st => (evE a ρ st).bind fun d st => intTE st d
  | .dnew, _, st => .ok (.ref st.length) (st ++ [.dct []])
  | .dnewT, _, st => .ok (.ref st.length) (st ++ [.dtt []])
  | .dnewN, _, st => .ok (.ref st.length) (st ++ [.dnn 0 []])
  | .ixN a b, ρ, st => (evE a ρ st).bind fun x st => (evE b ρ st).bind fun y st => ixNE x y st
  | .dcompN i k v a, ρ, st => (evE a ρ st).bind fun d st => match seqOf d with
    | some ds => if plainO ρ[i]? then cDnn (compN (evE k) (evE v) ρ i ds 0 [] st) else .no
    | none => .no
  | .cpN a, ρ, st => (evE a ρ st).bind fun x st => cpNE T x st
  | .lenN a, ρ, st => (evE a ρ st).bind fun x st => lenNE x st
  | .lstN a, ρ, st => (evE a ρ st).bind fun x st => lstNE x st
  | .lenR a, ρ, st => (evE a ρ st).bind fun x st => lenRE T cf x st
  | .ixR a b, ρ, st => (evE a ρ st).bind fun x st => (evE b ρ st).bind fun y st => ixRE T cf x (fz y) st
  | .lstY i c a m, ρ, st => (evE a ρ st).bind fun x st => (match genO T c x m st with
    | some q => if plainO ρ[i]? then lstYE cf q st else .no
    | none => .no)
  | .fldC c m a, ρ, st => (evE a ρ st).bind fun x st => fldCE T c m x st
  | .compK i e a t, ρ, st => (evE a ρ st).bind fun d st => (dnnOf d st).bind fun q st => if [i].all fun i => plainO ρ[i]? then grdKN q.1 q.2.1 q.2.2 (compL (evE e) (grdTN q.1 q.2.1 q.2.2 (evT t)) ρ [i] (keyD q.2.2) [] st) else .no
  | .compP i j e a t, ρ, st => (evE a ρ st).bind fun d st => match (seqOf d).bind prD with
    | some dss => (if [i, j].all fun i => plainO ρ[i]? then (match compL (evE e) (evT t) ρ [i, j] dss [] st with
      | .ok ds st => .ok (.own ds) st
      | _ => .no) else .no)
    | none => .no
  | .isdN a, ρ, st => (evE a ρ st).bind fun x st => isdNE x st
  | .inN n k a, ρ, st => (evE k ρ st).bind fun y st => (evE a ρ st).bind fun x st => inNE n y x st
  | .attrR a m, ρ, st => (evE a ρ st).bind fun x st => attrRE T cf x m st
  | .makX c as, ρ, st => (evA as ρ st).bind fun ds st => mkXE T c ds st
  | .isX a t, ρ, st => (evE a ρ st).bind fun x st => isXE T x t st
  | .atX a m, ρ, st => (evE a ρ st).bind fun x st => atXE T x m st
  | .methR m a as, ρ, st => (evE a ρ st).bind fun x st => (match methRO T x m st with
    | some f => (evA as ρ st).bind fun ds st => cf f (x :: ds) st
    | none => .no)
  | .makeM c as, ρ, st => (evA as ρ st).bind fun ds st => (makeE T cf c ds st).bind fun d st => makMD c d st
  | .ixT a as, ρ, st => (bor a ρ st (evE a ρ st)).bind fun x st => (evA as ρ st).bind fun ks st => ixTE x ks st
  | .down a, ρ, st => (bor a ρ st (evE a ρ st)).bind fun x st => downE x st
  | .ceq ne a b, ρ, st => (bor a ρ st (evE a ρ st)).bind fun x st => (bor b ρ st (evE b ρ st)).bind fun y st => ceqE T cf ne x y st
  | .dlit k v, ρ, st => (evE k ρ (st ++ [.dct []])).bind fun x st1 => (evE v ρ st1).bind fun y st2 => dlitE st.length x (fz y) st2
  | .pop a i, ρ, st => (evE a ρ st).bind fun x st => if isLR st x then (evE i ρ st).bind fun y st => popE x y st else .no
def evT : Tt → Rho → Sto → R Bool
  | .not a, ρ, st => (evT a ρ st).bind fun b st => .ok (!b) st
  | .and a b, ρ, st => (evT a ρ st).bind fun k st => if k then evT b ρ st else .ok false st
  | .or a b, ρ, st => (evT a ρ st).bind fun k st => if k then .ok true st else evT b ρ st
  | .e a, ρ, st => (bor a ρ st (evE a ρ st)).bind fun d st => R.of (truthS st d) st
def evA : Es → Rho → Sto → R (List D)
  | .nil, _, st => .ok [] st
  | .cons a as, ρ, st => (evE a ρ st).bind fun d st => (evA as ρ st).bind fun ds st => .ok (fz d :: ds) st
def evL : Es → Rho → Sto → R (List D)
  | .nil, _, st => .ok [] st
  | .cons a as, ρ, st => (bor a ρ st (evE a ρ st)).bind fun d st => (evL as ρ st).bind fun ds st => .ok (d :: ds) st
def evF : Es → List Nat → Rho → Sto → R D
  | .nil, acc, _, st => .ok (.str acc) st
  | .cons a as, acc, ρ, st => (evE a ρ st).bind fun d st => (match fmtD d with
    | some s => if acc.length + s.length ≤ LINE then evF as (acc ++ s) ρ st else .no
    | none => .no)
def evI : It → Rho → Sto → R (List (List D))
  | .seq a, ρ, st => (evE a ρ st).bind fun d st => R.of ((seqOf d).map fun ds => ds.map fun x => [x]) st
  | .rng as, ρ, st => (evA as ρ st).bind fun ds st => R.of ((rngI ds).map fun ns => ns.map fun n => [.int n]) st
  | .enum a, ρ, st => (evE a ρ st).bind fun d st => R.of ((seqOf d).map (enumD 0)) st
  | .zip a b, ρ, st => (evE a ρ st).bind fun d st => (evE b ρ st).bind fun e st => R.of ((seqOf d).bind fun ds => (seqOf e).map fun es => zipD ds es) st
  | .rev a, ρ, st => (evE a ρ st).bind fun d st => R.of ((seqOf d).map fun ds => ds.reverse.map fun x => [x]) st
def evR : It → Rho → Sto → R (Nat × List D × List (List D))
  | .seq a, ρ, st => (evE a ρ st).bind fun d st => refL d st fun ds => ds.map fun x => [x]
  | .enum a, ρ, st => (evE a ρ st).bind fun d st => refL d st (enumD 0)
  | .rng _, _, _ => .no
  | .zip _ _, _, _ => .no
  | .rev _, _, _ => .no
end

inductive F where
  | nx (ρ : Rho) (st : Sto) | rt (d : D) (st : Sto) | bk (ρ : Rho) (st : Sto) | ct (ρ : Rho) (st : Sto) | er (x : Xn) (ρ : Rho) (st : Sto) | no
def R.f {α : Type} (r : R α) (ρ : Rho) (k : α → Sto → F) : F := match r with
  | .ok a st => k a st
  | .er x st => .er x ρ st
  | .no => .no
@[simp] theorem f_ok {α : Type} (a : α) (st : Sto) (ρ : Rho) (k : α → Sto → F) : (R.ok a st).f ρ k = k a st := rfl
@[simp] theorem f_er {α : Type} (x : Xn) (st : Sto) (ρ : Rho) (k : α → Sto → F) : (R.er x st : R α).f ρ k = .er x ρ st := rfl
@[simp] theorem f_no {α : Type} (ρ : Rho) (k : α → Sto → F) : (R.no : R α).f ρ k = .no := rfl
def F.then (r : F) (k : Rho → Sto → F) : F := match r with
  | .nx ρ st => k ρ st
  | r => r
@[simp] theorem then_nx (ρ : Rho) (st : Sto) (k : Rho → Sto → F) : (F.nx ρ st).then k = k ρ st := rfl
@[simp] theorem then_rt (d : D) (st : Sto) (k : Rho → Sto → F) : (F.rt d st).then k = .rt d st := rfl
@[simp] theorem then_bk (ρ : Rho) (st : Sto) (k : Rho → Sto → F) : (F.bk ρ st).then k = .bk ρ st := rfl
@[simp] theorem then_ct (ρ : Rho) (st : Sto) (k : Rho → Sto → F) : (F.ct ρ st).then k = .ct ρ st := rfl
@[simp] theorem then_er (x : Xn) (ρ : Rho) (st : Sto) (k : Rho → Sto → F) : (F.er x ρ st).then k = .er x ρ st := rfl
@[simp] theorem then_no (k : Rho → Sto → F) : F.no.then k = .no := rfl
def F.of (o : Option Rho) (st : Sto) : F := match o with
  | some ρ => .nx ρ st
  | none => .no
@[simp] theorem Fof_some (ρ : Rho) (st : Sto) : F.of (some ρ) st = .nx ρ st := rfl
@[simp] theorem Fof_none (st : Sto) : F.of none st = .no := rfl
def forL (b : Rho → Sto → F) (ts : List Nat) : List (List D) → Rho → Sto → F
  | [], ρ, st => .nx ρ st
  | ds :: r, ρ, st => match setAll ρ ts ds with
    | none => .no
    | some ρ' => (match b ρ' st with
      | .nx ρ st => forL b ts r ρ st
      | .ct ρ st => forL b ts r ρ st
      | .bk ρ st => .nx ρ st
      | r => r)
def evRE (src : It) (ρ : Rho) (st : Sto) : R (Nat × List D × List (List D)) := match src with
  | .enum a => (evE T cf a ρ st).bind fun d st => refL d st (enumD 0)
  | _ => .no
def forG (g : Sto → Bool) (b : Rho → Sto → F) (ts : List Nat) : List (List D) → Rho → Sto → F
  | [], ρ, st => if g st then .nx ρ st else .no
  | ds :: r, ρ, st => if g st then (match setAll ρ ts ds with
    | none => .no
    | some ρ' => (match b ρ' st with
      | .nx ρ st => forG g b ts r ρ st
      | .ct ρ st => forG g b ts r ρ st
      | .bk ρ st => .nx ρ st
      | r => r)) else .no
def orF {α : Type} (r : R α) (ρ : Rho) (k : α → Sto → F) (fb : F) : F := match r with
  | .ok a st => k a st
  | .er x st => .er x ρ st
  | .no => fb
theorem orF_no {α : Type} (r : R α) (ρ : Rho) (k : α → Sto → F) : orF r ρ k .no = r.f ρ k := by cases r <;> rfl
def refOf : D → Option Nat
  | .ref r => some r
  | _ => none
def forRef (b : Rho → Sto → F) (i r : Nat) : Nat → Nat → Rho → Sto → F
  | _, 0, _, _ => .no
  | j, n + 1, ρ, st => match st[r]? with
    | some (.lst ds) => (match ds[j]? with
      | none => .nx ρ st
      | some d => (match b (ρ.set i (some d)) st with
        | .nx ρ st => forRef b i r (j + 1) n ρ st
        | .ct ρ st => forRef b i r (j + 1) n ρ st
        | .bk ρ st => .nx ρ st
        | r => r))
    | _ => .no
def forYL (cf : Nat → List D → Sto → R D) (b : Rho → Sto → F) (i r f : Nat) : Nat → Nat → Rho → Sto → F
  | _, 0, _, _ => .no
  | j, n + 1, ρ, st => match st[r]? with
    | some (.lst ds) => (match ds[j]? with
      | none => .nx ρ st
      | some d => (match cf f [d] st with
        | .ok v st => if isIns v then (match b (ρ.set i (some v)) st with
          | .nx ρ st => forYL cf b i r f (j + 1) n ρ st
          | .ct ρ st => forYL cf b i r f (j + 1) n ρ st
          | .bk ρ st => .nx ρ st
          | .rt d st => .rt d st
          | _ => .no) else .no
        | _ => .no))
    | _ => .no
def forYS (b : Rho → Sto → F) (i : Nat) (cf : Nat → List D → Sto → R D) (q : Nat × Nat) (ρ : Rho) (st : Sto) : F := match st[q.1]? with
  | some (.lst ds) => forYL cf b i q.1 q.2 0 (ds.length + 1) ρ st
  | _ => .no
def whileL (t : Rho → Sto → R Bool) (b : Rho → Sto → F) : Nat → Rho → Sto → F
  | 0, _, _ => .no
  | n + 1, ρ, st => (t ρ st).f ρ fun k st => if k then (match b ρ st with
      | .nx ρ st => whileL t b n ρ st
      | .ct ρ st => whileL t b n ρ st
      | .bk ρ st => .nx ρ st
      | r => r) else .nx ρ st
def under (c k : Nat) : Bool := c == k || (match T.cls c with
  | some C => C.up.contains k
  | none => false)
def setO (ρ : Rho) (o : Option Nat) (d : Option D) : Rho := match o with
  | some i => ρ.set i d
  | none => ρ
def notExc : Option D → Bool
  | some (.exc _ _) => false
  | _ => true
def F.unset (r : F) (o : Option Nat) : F := match r with
  | .nx ρ st => if (setO ρ o none).all notExc then .nx (setO ρ o none) st else .no
  | .bk ρ st => if (setO ρ o none).all notExc then .bk (setO ρ o none) st else .no
  | .ct ρ st => if (setO ρ o none).all notExc then .ct (setO ρ o none) st else .no
  | .rt d st => .rt d st
  | _ => .no
def setfD (m : Nat) (ρ : Rho) (d : D) : Option Rho := match (ρ[0]? : Option (Option D)) with
  | some (some (.obj c ds)) => (match clsI T c with
    | some C => if C.fields[ds.length]? = some m then some (ρ.set 0 (some (.obj c (ds ++ [d])))) else none
    | none => none)
  | _ => none
def setiD (r : D) (i v : D) (st : Sto) : Option Sto := match r, i with
  | .ref r, .int k => (match st[r]? with
    | some (.lst ds) => (ixN ds.length k).map fun j => st.set r (.lst (ds.set j v))
    | some (.dct kvs) => if kvs.length < LINE then some (st.set r (.dct (dPut kvs (.int k) v))) else none
    | _ => none)
  | .ref r, .str k => (match st[r]? with
    | some (.dct kvs) => if kvs.length < LINE then some (st.set r (.dct (dPut kvs (.str k) v))) else none
    | _ => none)
  | _, _ => none
def apprD (r v : D) (st : Sto) : Option Sto := match r with
  | .ref r => (match st[r]? with
    | some (.lst ds) => if ds.length < LINE then some (st.set r (.lst (ds ++ [v]))) else none
    | _ => none)
  | _ => none
def insD (r i v : D) (st : Sto) : Option Sto := match r, i with
  | .ref r, .int k => (match st[r]? with
    | some (.lst ds) => if ds.length < LINE ∧ 0 ≤ k ∧ k < LINE then some (st.set r (.lst (ds.take k.toNat ++ v :: ds.drop k.toNat))) else none
    | _ => none)
  | _, _ => none
def clrD (r : D) (st : Sto) : Option Sto := match r with
  | .ref r => (match st[r]? with
    | some (.lst _) => some (st.set r (.lst []))
    | _ => none)
  | _ => none
def allIN : List D → Bool
  | [] => true
  | .int _ :: r => allIN r
  | .non :: r => allIN r
  | _ :: _ => false
def remIx (k : Int) : List D → Option Nat
  | [] => none
  | .int i :: r => if i = k then some 0 else (remIx k r).map (· + 1)
  | _ :: r => (remIx k r).map (· + 1)
def remD (r v : D) (st : Sto) : Option Sto := match r, v with
  | .ref r, .int k => (match st[r]? with
    | some (.lst ds) => if allIN ds then (remIx k ds).map fun j => st.set r (.lst (ds.eraseIdx j)) else none
    | _ => none)
  | _, _ => none
def dDrop (kvs : List (D × D)) (k : D) : List (D × D) := kvs.filter fun kv => !keyEq kv.1 k
def isNR (st : Sto) : D → Bool
  | .ref r => (match st[r]? with
    | some (.dnn _ _) => true
    | _ => false)
  | _ => false
def isDR (st : Sto) : D → Bool
  | .ref r => (match st[r]? with
    | some (.dct _) => true
    | _ => false)
  | _ => false
def dropD (r k : D) (st : Sto) : Option Sto := match r with
  | .ref r => (match st[r]? with
    | some (.dct kvs) => if isKey k && (dGet kvs k).isSome then some (st.set r (.dct (dDrop kvs k))) else none
    | _ => none)
  | _ => none
def ownAt (ρ : Rho) (x : Nat) : Option (List D) := match (ρ[x]? : Option (Option D)) with
  | some (some (.own ds)) => some ds
  | _ => none
def insAt (ds : List D) (j : Nat) (d : D) : List D := ds.take j ++ d :: ds.drop j
def extF (x : Nat) (ds : List D) (ρ : Rho) (st : Sto) : Option (List D) → F
  | some es => if ds.length + es.length ≤ LINE then .nx (ρ.set x (some (.own (ds ++ es)))) st else .no
  | none => .no
def addA (ds : List D) : D → Option (Nat × Int)
  | .int k => if 0 ≤ k then (match ds[k.toNat]? with
    | some (.int m) => some (k.toNat, m)
    | _ => none) else none
  | _ => none
def addF (x : Nat) (ds : List D) (ρ : Rho) (st : Sto) (q : Nat × Int) : D → F
  | .int n => .nx (ρ.set x (some (.own (ds.set q.1 (.int (q.2 + n)))))) st
  | _ => .no
def wthS (nl : Nat) (d : D) : Rho := some d :: List.replicate (nl - 1) none
def wthN (r : F) (k : Sto → F) : F := match r with
  | .nx _ st => k st
  | _ => .no
def wthE (ex : Sto → F) (r : F) : F := match r with
  | .nx ρ st => wthN (ex st) fun st => .nx ρ st
  | .rt d st => wthN (ex st) fun st => .rt d st
  | .er x ρ st => wthN (ex st) fun st => .er x ρ st
  | _ => .no
def exS : S → Rho → Sto → F
  | .stuck, _, _ => .no
  | .appr a v, ρ, st => (evE T cf a ρ st).f ρ fun x st => if isLR st x then (evE T cf v ρ st).f ρ fun d st => (match apprD x (fz d) st with
    | some st => .nx ρ st
    | none => .no) else .no
  | .insrr a i v, ρ, st => (evE T cf a ρ st).f ρ fun x st => if isLR st x then (evE T cf i ρ st).f ρ fun y st => (evE T cf v ρ st).f ρ fun d st => (match insD x y (fz d) st with
    | some st => .nx ρ st
    | none => .no) else .no
  | .remr a v, ρ, st => (evE T cf a ρ st).f ρ fun x st => if isLR st x then (evE T cf v ρ st).f ρ fun d st => (match remD x (fz d) st with
    | some st => .nx ρ st
    | none => .no) else .no
  | .dpop a v, ρ, st => (evE T cf a ρ st).f ρ fun x st => if isDR st x then (evE T cf v ρ st).f ρ fun d st => (match dropD x d st with
    | some st => .nx ρ st
    | none => .no) else .no
  | .clr a, ρ, st => (evE T cf a ρ st).f ρ fun x st => (match clrD x st with
    | some st => .nx ρ st
    | none => .no)
  | .popN a k, ρ, st => (evE T cf a ρ st).f ρ fun x st => if isNR st x then (evE T cf k ρ st).f ρ fun y st => (match popND x y st with
    | some st => .nx ρ st
    | none => .no) else .no
  | .clrN a, ρ, st => (evE T cf a ρ st).f ρ fun x st => (match clrND x st with
    | some st => .nx ρ st
    | none => .no)
  | .forK i a b, ρ, st => (evE T cf a ρ st).f ρ fun d st => (dnnOf d st).f ρ fun q st => forG (grdN q.1 q.2.1 q.2.2) (exS b) [i] (keyD q.2.2) ρ st
  | .forI i j a b, ρ, st => (evE T cf a ρ st).f ρ fun d st => (dnnOf d st).f ρ fun q st => forG (grdN q.1 q.2.1 q.2.2) (exS b) [i, j] (itmN q.2.2) ρ st
  | .skip, ρ, st => .nx ρ st
  | .seq a b, ρ, st => (exS a ρ st).then fun ρ st => exS b ρ st
  | .expr a, ρ, st => (evE T cf a ρ st).f ρ fun _ st => .nx ρ st
  | .set i a, ρ, st => (evE T cf a ρ st).f ρ fun d st => .nx (ρ.set i (some (fz d))) st
  | .own i a, ρ, st => (evE T cf a ρ st).f ρ fun d st => (match d with
    | .own ds => .nx (ρ.set i (some (.own ds))) st
    | d => .nx (ρ.set i (some (fz d))) st)
  | .unp is a, ρ, st => (evE T cf a ρ st).f ρ fun d st => (match d with
    | .tup ds => F.of (setAll ρ is ds) st
    | _ => .no)
  | .frz i, ρ, st => (match ownAt ρ i with
    | some ds => .nx (ρ.set i (some (.lst ds))) st
    | none => .nx ρ st)
  | .setf m a, ρ, st => (evE T cf a ρ st).f ρ fun d st => F.of (setfD T m ρ (fz d)) st
  | .seti a i v, ρ, st => (evE T cf v ρ st).f ρ fun d st => (evE T cf a ρ st).f ρ fun x st => (evE T cf i ρ st).f ρ fun y st => (match setiD x y (fz d) st with
    | some st => .nx ρ st
    | none => .no)
  | .setiT a as v, ρ, st => (evE T cf v ρ st).f ρ fun d st => (evE T cf a ρ st).f ρ fun x st => (evA T cf as ρ st).f ρ fun ks st => (match setiTD x ks (fz d) st with
    | some st => .nx ρ st
    | none => .no)
  | .setiN a b v, ρ, st => (evE T cf v ρ st).f ρ fun d st => (evE T cf a ρ st).f ρ fun x st => (evE T cf b ρ st).f ρ fun y st => (match setiND x y (fz d) st with
    | some st => .nx ρ st
    | none => .no)
  | .seta a m v, ρ, st => (evE T cf v ρ st).f ρ fun d st => (evE T cf a ρ st).f ρ fun x st => (match setaD T x m (fz d) st with
    | some st => .nx ρ st
    | none => .no)
  | .setp a m v, ρ, st => (evE T cf v ρ st).f ρ fun d st => (evE T cf a ρ st).f ρ fun x st => (match setpO T x m st with
    | some f => (cf f [x, fz d] st).f ρ fun _ st => .nx ρ st
    | none => .no)
  | .iadd i m v, ρ, st => (match rdV ρ i with
    | some x => (evE T cf v ρ st).f ρ fun d st => (match methRO T x m st with
      | some f => (cf f [x, fz d] st).f ρ fun y st => (match y with
        | .ref r => .nx (ρ.set i (some (.ref r))) st
        | _ => .no)
      | none => .no)
    | none => .no)
  | .ownseti x i v, ρ, st => (match ownAt ρ x with
    | some ds => (evE T cf v ρ st).f ρ fun d st => (evE T cf i ρ st).f ρ fun y st => (match y with
      | .int k => (match ixN ds.length k with
        | some j => .nx (ρ.set x (some (.own (ds.set j (fz d))))) st
        | none => .no)
      | _ => .no)
    | none => .no)
  | .aug x o a, ρ, st => (match rdV ρ x with
    | some d => (evE T cf a ρ st).f ρ fun e st => (match augD o d e with
      | some r => .nx (ρ.set x (some r)) st
      | none => .no)
    | none => .no)
  | .app x a, ρ, st => (match ownAt ρ x with
    | some ds => if ds.length < LINE then (evE T cf a ρ st).f ρ fun d st => .nx (ρ.set x (some (.own (ds ++ [fz d])))) st else .no
    | none => .no)
  | .ext x a, ρ, st => (match ownAt ρ x with
    | some ds => (bor a ρ st (evE T cf a ρ st)).f ρ fun d st => extF x ds ρ st (lstS st d)
    | none => .no)
  | .addi x i a, ρ, st => (match ownAt ρ x with
    | some ds => (evE T cf i ρ st).f ρ fun y st => (match addA ds y with
      | some q => (evE T cf a ρ st).f ρ fun e st => addF x ds ρ st q e
      | none => .no)
    | none => .no)
  | .insr x i a, ρ, st => (match ownAt ρ x with
    | some ds => if ds.length < LINE then (evE T cf i ρ st).f ρ fun y st => (evE T cf a ρ st).f ρ fun d st => (match y with
      | .int k => if 0 ≤ k ∧ k ≤ ds.length then .nx (ρ.set x (some (.own (insAt ds k.toNat (fz d))))) st else .no
      | _ => .no) else .no
    | none => .no)
  | .ret a, ρ, st => (evE T cf a ρ st).f ρ fun d st => .rt d st
  | .retm i, ρ, st => (match ownAt ρ i with
    | some ds => .rt (.own ds) st
    | none => (match rdV ρ i with
      | some d => .rt d st
      | none => .no))
  | .ret0, _, st => .rt .non st
  | .ifs t a b, ρ, st => (evT T cf t ρ st).f ρ fun k st => if k then exS a ρ st else exS b ρ st
  | .for_ ts src b, ρ, st => orF (evI T cf src ρ st) ρ (fun dss st => forL (exS b) ts dss ρ st) ((evRE T cf src ρ st).f ρ fun q st => forG (grd q.1 q.2.1) (exS b) ts q.2.2 ρ st)
  | .while_ t b, ρ, st => whileL (evT T cf t) (exS b) LINE ρ st
  | .forS i a b, ρ, st => (evE T cf a ρ st).f ρ fun d st => (match refOf d with
    | some r => (match st[r]? with
      | some (.lst ds) => forRef (exS b) i r 0 (ds.length + 1) ρ st
      | _ => .no)
    | none => (match seqOf d with
      | some ds => forL (exS b) [i] (ds.map fun x => [x]) ρ st
      | none => .no))
  | .forT i a b, ρ, st => (evE T cf a ρ st).f ρ fun d st => (match d with
    | .str s => forL (exS b) [i] (s.map fun c => [.str [c]]) ρ st
    | _ => .no)
  | .forV i a b, ρ, st => (evE T cf a ρ st).f ρ fun d st => (match d with
    | .own ds => forL (exS b) [i] (ds.reverse.map fun x => [x]) ρ st
    | .lst ds => forL (exS b) [i] (ds.reverse.map fun x => [x]) ρ st
    | _ => .no)
  | .forY i c a m b, ρ, st => (evE T cf a ρ st).f ρ fun x st => (match genO T c x m st with
    | some q => forYS (exS b) i cf q ρ st
    | none => .no)
  | .withR c a j m x nl b, ρ, st => (evE T cf a ρ st).f ρ fun o st => (match wthO T c o m st with
    | some f => (cf f [o] st).f ρ fun y st => (match y with
      | .ref r => wthE (exS x (wthS nl o)) (exS b (ρ.set j (some (.ref r))) st)
      | _ => .no)
    | none => .no)
  | .brk, ρ, st => .bk ρ st
  | .cnt, ρ, st => .ct ρ st
  | .raise c as, ρ, st => (evA T cf as ρ st).f ρ fun ds st => (match T.cls c with
    | some C => if raisable C ds then .er ⟨c, ds⟩ ρ st else .no
    | none => .no)
  | .try_ b hs, ρ, st => (match exS b ρ st with
    | .er x ρ st => hdS x hs ρ st
    | r => r)
  | .hnd _ _ _ _, _, _ => .no
where
  /-- the clauses, from the first -/
  hdS (x : Xn) : S → Rho → Sto → F
    | .hnd c o h r, ρ, st => if isErr T x.c then (if under T x.c c then (exS h (setO ρ o (some (.exc x.c x.ds))) st).unset o else hdS x r ρ st) else .no
    | _, ρ, st => .er x ρ st
end

section
variable (T : Tab)
def start (n : Nat) (ds : List D) : Rho := ds.map some ++ List.replicate (n - ds.length) none
def fin (ini : Option Nat) : F → R D
  | .nx ρ st => (match ini with
    | none => .ok .non st
    | some c => (match (ρ[0]? : Option (Option D)), T.cls c with
      | some (some (.obj k ds)), some C => if k = c ∧ ds.length = C.fields.length then .ok (.ins c ds) st else .no
      | _, _ => .no))
  | .rt d st => (match ini with
    | none => .ok d st
    | some _ => .no)
  | .er x _ st => .er x st
  | _ => .no
def runB (cf : Nat → List D → Sto → R D) (f : Fn) (ds : List D) (st : Sto) : R D :=
  if ds.length = f.np then fin T f.ini (exS T cf f.body (match f.ini with
    | none => start f.nl ds
    | some c => start f.nl (.obj c [] :: ds)) st) else .no
def tbl : Nat → Nat → List D → Sto → R D
  | 0 => fun _ _ _ => .no
  | l + 1 => fun f ds st => match T.fn f with
    | some fn => if fn.lv = l then runB T (tbl l) fn ds st else tbl l f ds st
    | none => .no
def call (f : Nat) (ds : List D) (st : Sto) : R D := match T.fn f with
  | some fn => runB T (tbl T fn.lv) fn ds st
  | none => .no
theorem tbl_eq {l f : Nat} {fn : Fn} (h : T.fn f = some fn) (hl : fn.lv < l) : tbl T l f = call T f := by
  induction l with
  | zero => omega
  | succ l ih =>
    funext ds st
    show (match T.fn f with
      | some fn => if fn.lv = l then runB T (tbl T l) fn ds st else tbl T l f ds st
      | none => .no) = _
    rw [h]
    by_cases e : fn.lv = l
    · unfold call
      rw [h]
      simp only [e, if_true]
    · simp only [e, if_false]
      rw [ih (by omega)]
end
end Ev
set_option Elab.async false
set_option linter.all false
set_option maxRecDepth 100000
set_option maxHeartbeats 4000000
namespace Snd
open PySem PySem.Spec PyProof.Rows L2
theorem mul_once (l : Addr) (xs : Array Value) (n : Nat) (dd : Option Addr) (sl : Array (Option Value)) (u : Tok) :
    Meets (Builtin.«tuple.__mul__» ⟨[.ref l, .int 1 u], []⟩) (fun _ R s => s.heap.get? l = some { cls := .type "tuple", dict := dd, data := .seq xs n, slots := sl } ∧ R (.ok (.ret (Value.ref l))) s) :=
  .of_wp fun prog w A R s h => by
    obtain ⟨h0, gl, d, tk, os⟩ := s
    obtain ⟨hl, h⟩ := h
    have f1 := AutoSeq1.idx_int
    have c0 : (decide ((1 : Int) < -(2 ^ 63)) || decide ((1 : Int) ≥ 2 ^ 63)) = false := by decide
    have c1 : (xs.isEmpty || (1 : Int) == 1) = true := by rw [beq_self_eq_true, Bool.or_true]
    wp_walk using wpAny_loadPart' hl
    repeat (first
      | (refine wpAny_ite_false (decide_eq_false (by rw [c0]; exact Bool.false_ne_true)) ?_; wp_walk using wpAny_loadPart' hl)
      | (refine wpAny_ite_true (decide_eq_true c1) ?_; wp_walk using wpAny_loadPart' hl))
    exact ⟨_, rfl, h⟩
theorem mul_none (l : Addr) (xs : Array Value) (n : Nat) (dd : Option Addr) (sl : Array (Option Value)) (x : Int) (u : Tok) (c0 : (decide (x < -(2 ^ 63)) || decide (x ≥ 2 ^ 63)) = false) (c1 : (xs.isEmpty || x == 1) = false) (c2 : (decide (x ≤ 0) || xs.isEmpty) = true) :
    Meets (Builtin.«tuple.__mul__» ⟨[.ref l, .int x u], []⟩) (fun _ R s => s.heap.get? l = some { cls := .type "tuple", dict := dd, data := .seq xs n, slots := sl } ∧
      R (.ok (.ret (Value.ref s.heap.objs.size))) { s with heap := s.heap.push { cls := Value.type "tuple", data := Data.seq #[] }, toks := s.toks }) :=
  .of_wp fun prog w A R s h => by
    obtain ⟨h0, gl, d, tk, os⟩ := s
    obtain ⟨hl, h⟩ := h
    have f1 := AutoSeq1.idx_int
    wp_walk using wpAny_loadPart' hl
    repeat (first
      | (refine wpAny_ite_false (decide_eq_false (by rw [c0]; exact Bool.false_ne_true)) ?_; wp_walk using wpAny_loadPart' hl)
      | (refine wpAny_ite_false (decide_eq_false (by rw [c1]; exact Bool.false_ne_true)) ?_; wp_walk using wpAny_loadPart' hl)
      | (refine wpAny_ite_true (decide_eq_true c2) ?_; wp_walk using wpAny_loadPart' hl))
    exact ⟨_, rfl, h⟩
def rTm (K : PySem.W.Frag) : R2 := fun x y H Q => ∃ l k xs, x = .ref l ∧ y = .int k ∧ SqT K H l xs ∧ xs ≠ [] ∧ -1000 ≤ k ∧ k ≤ 1000 ∧ xs.length ≤ 1000 ∧ (k = 1 → Q (.ref l) H) ∧ (k ≠ 1 → ∀ p, H p = none → Q (.ref p) (upd H p (.tup (List.replicate k.toNat xs).flatten)))
theorem op_tm {X : Cx} : OpR X (binaryOp .Mult) (rTm X.K) := by
  intro pins s σ H x y v u Q I rx ry h
  obtain ⟨l, k, xs, rfl, rfl, hT, hne, h1, h2, hz, q1, q2⟩ := h
  by_cases k2 : 2 ≤ k
  · exact op_repT pins s σ H _ _ v u Q I rx ry ⟨l, k, xs, rfl, rfl, hT, hne, k2, h2, hz, q2 (by omega)⟩
  cases rx
  obtain ⟨t, rfl⟩ := ry
  obtain ⟨its, r, ⟨⟨cls, dd, data, sl⟩, ho, hc, n, hd⟩, hs⟩ := I.tuple hT
  simp only at hc hd
  subst hc hd
  have hle : its.length = xs.length := r.length.symm
  have hi : its.toArray.isEmpty = false := by
    cases its with
    | nil => exact absurd (List.eq_nil_of_length_eq_zero hle.symm) hne
    | cons a b => rfl
  by_cases k1 : k = 1
  · subst k1
    exact wpAny_binaryOp_repeat_ref (T := "tuple") (U := "int") (by decide) ⟨_, ho, rfl⟩ (fun s' => typeIs_int s' 1 t) noFill_tuple_mul F.fills_int_mul F.slot_int_rmul repeat_tuple F.slot_int_index.lookup
      (call_meets F.slot_int_rmul (typeIs_int s 1 t) F.entry_int_rmul (F.args_int_rmul_2 _ _) (int_rmul_tuple 1 t l its.toArray n dd sl)
        ⟨ho, rfl, ⟨_, ho, rfl⟩, call_meets F.slot_tuple_mul ⟨_, ho, rfl⟩ F.entry_tuple_mul (F.args_tuple_mul_2 _ _) (mul_once l its.toArray n dd sl t) ⟨ho, ⟨.ref l, H, I, rfl, q1 rfl⟩⟩⟩)
  · have c0 : (decide (k < -(2 ^ 63)) || decide (k ≥ 2 ^ 63)) = false := by
      rw [decide_eq_false (by omega), decide_eq_false (by omega)] <;> rfl
    have c1 : (its.toArray.isEmpty || k == 1) = false := by
      rw [hi, Bool.false_or]
      exact beq_eq_false_iff_ne.mpr k1
    have c2 : (decide (k ≤ 0) || its.toArray.isEmpty) = true := by
      rw [decide_eq_true (show k ≤ 0 by omega)] <;> rfl
    refine wpAny_binaryOp_repeat_ref (T := "tuple") (U := "int") (by decide) ⟨_, ho, rfl⟩ (fun s' => typeIs_int s' k t) noFill_tuple_mul F.fills_int_mul F.slot_int_rmul repeat_tuple F.slot_int_index.lookup
      (call_meets F.slot_int_rmul (typeIs_int s k t) F.entry_int_rmul (F.args_int_rmul_2 _ _) (int_rmul_tuple k t l its.toArray n dd sl)
        ⟨ho, rfl, ⟨_, ho, rfl⟩, call_meets F.slot_tuple_mul ⟨_, ho, rfl⟩ F.entry_tuple_mul (F.args_tuple_mul_2 _ _) (mul_none l its.toArray n dd sl k t c0 c1 c2) ⟨ho, ?_⟩⟩)
    have e : (List.replicate k.toNat xs).flatten = [] := by
      rw [show k.toNat = 0 by omega]
      rfl
    have q3 := q2 k1 s.heap.objs.size (I.hok.fresh (Nat.le_refl _))
    rw [e] at q3
    exact ⟨.ref s.heap.objs.size, _, I.laid (t' := s.toks) (o := .tup []) (fun b ob q => Heap.get?_push_of_some _ q) (Nat.le_refl _) ⟨Nat.zero_le _, [], .nil, IsTup.new _ _⟩, rfl, q3⟩
theorem op_odd1 {X : Cx} : OpR X (binaryOp .BitAnd) (rI (fun i j => 0 ≤ i ∧ j = 1) fun i _ => .int (i.fmod 2)) := by
  intro pins s σ H x y v u Q I rx ry ⟨i, j, ex, ey, ⟨h0, h1⟩, q⟩
  subst ex ey h1
  obtain ⟨n, rfl⟩ := Int.eq_ofNat_of_zero_le h0
  refine op_odd pins s σ H _ _ v u Q I rx ry ⟨n, rfl, rfl, ?_⟩
  have e : (n : Int).fmod 2 = ((n % 2 : Nat) : Int) := by
    rw [Int.fmod_eq_emod_of_nonneg _ (by decide)]
    omega
  have q' : Q (.int ((n : Int).fmod 2)) H := q
  rw [e] at q'
  exact q'
end Snd
set_option Elab.async false
set_option linter.all false
set_option maxRecDepth 100000
set_option maxHeartbeats 4000000
namespace L2
open PySem PySem.Spec PyProof.Rows
abbrev KeyN := List (Option Int)
def kN : Option Int → V
  | none => .non
  | some i => .int i
def hN : Option Int → Int
  | none => reduceHash 0xFCA86420
  | some i => hashInt i
def entN (x : KeyN × Addr × Value) : DictEntry := ⟨reduceHash (Builtin.Tuple.tupleHashOf (x.1.map hN)), .ref x.2.1, x.2.2⟩
def hashX (k : KeyN) : Int := (entN (k, 0, .none)).hash
def dnP (a : Addr) (n : Nat) (xs : List (KeyN × Addr × Value)) (h : Heap) : Prop :=
  ∃ o es, h.get? a = some o ∧ o.ExactDict ∧ o.data = .dict es n ∧ es.toList = xs.map entN ∧ (xs.map (·.1)).Nodup
def dnO (a : Addr) (n : Nat) (xs : List (KeyN × Addr × Value)) : HO := .ext (dnP a n xs)
section
variable {X : Cx} {pins : List (Addr × Obj)} {σ : St} {H : Hp} {s : Shared} {a b : Addr} {r : Value} {k : KeyN} {xs : List (KeyN × Addr × Value)} {A : Around} {E : Value → Shared → Prop}
end
section
variable {X : Cx} {pos : Pos}
end
end L2
set_option Elab.async false
set_option linter.all false
set_option maxRecDepth 100000
namespace L2
open PySem PySem.Spec PyProof.Rows
def exK (cls : Value) (d : Option Addr) (a : Addr) : HO := .ext fun h => ∃ (oe : Obj) (vs : Array Value), h.get? a = some oe ∧ Zc cls d oe ∧ oe.data = .fields vs
theorem exK_ok {P : Program} {w : World} {H : Hp} {h : Heap} {a : Addr} {cls : Value} {d : Option Addr} {oe : Obj} {vs : Array Value} (e : h.get? a = some oe) (z : Zc cls d oe) (f : oe.data = .fields vs) : ObjOk P w H h a (exK cls d a) :=
  ⟨⟨oe, vs, e, z, f⟩, ⟨oe, e⟩, fun _ _ ⟨o, v, q, r⟩ k => ⟨o, v, k o q, r⟩⟩
end L2
namespace Snd
open PySem PySem.Spec PyProof.Rows L2 Ev

structure Nm where
  attr : Nat → Str
  cls : Nat → Str
  fn : Nat → (Str × Option Str) × Bool
  con : Nat → Str
  /-- the error that is handled: its address, its class, its own dict -/
  ex : Option (Addr × Value × Option Addr) := none
  /-- the instance that is being made: its address, its dict's -/
  me : Option (Addr × Addr) := none
structure Core where
  prog : Program
  w : World
  K : PySem.W.Frag
  mg : Str → Option Value
  base : Heap
abbrev co (X : Cx) : Core := ⟨X.prog, X.w, X.K, X.mg, X.base⟩
def strOf (l : List Nat) : Str := ⟨l.toArray⟩
theorem strOf_len (l : List Nat) : (strOf l).length = l.length := by simp [strOf, Str.length]
theorem strOf_cps (l : List Nat) : (strOf l).cps.toList = l := by simp [strOf]
theorem strOf_inj {a b : List Nat} : strOf a = strOf b ↔ a = b := ⟨fun h => by rw [← strOf_cps a, h, strOf_cps], fun h => by rw [h]⟩
theorem strOf_app (a b : List Nat) : strOf a ++ strOf b = strOf (a ++ b) := by
  show Str.append _ _ = _
  simp [strOf, Str.append]
inductive Tag where
  | imm (o : HO) | held (o : HO) | slot (i : Nat) | sto (k : Nat)
abbrev Gh := Addr → Option Tag
def Le (g g' : Gh) : Prop := ∀ a t, g a = some t → g' a = some t
theorem Le.refl (g : Gh) : Le g g := fun _ _ h => h
theorem Le.trans {g g1 g2 : Gh} (a : Le g g1) (b : Le g1 g2) : Le g g2 := fun x t h => b x t (a x t h)
def Lim (g g' : Gh) : Prop := (∀ a o, g a = some (.imm o) → g' a = some (.imm o)) ∧ ∀ a k, g a = some (.sto k) → g' a = some (.sto k)
theorem Le.lim {g g' : Gh} (h : Le g g') : Lim g g' := ⟨fun a o e => h a _ e, fun a k e => h a _ e⟩
theorem Lim.refl (g : Gh) : Lim g g := ⟨fun _ _ h => h, fun _ _ h => h⟩
theorem Lim.trans {g g1 g2 : Gh} (a : Lim g g1) (b : Lim g1 g2) : Lim g g2 := ⟨fun x t h => b.1 x t (a.1 x t h), fun x t h => b.2 x t (a.2 x t h)⟩
def imH (g : Gh) : Hp := fun a => match g a with
  | some (.imm o) => some o
  | _ => none
theorem imH_of {g : Gh} {a : Addr} {o : HO} (h : g a = some (.imm o)) : imH g a = some o := by
  unfold imH
  rw [h]
theorem of_imH {g : Gh} {a : Addr} {o : HO} (h : imH g a = some o) : g a = some (.imm o) := by
  unfold imH at h
  split at h
  · rename_i o' e
    rw [e, Option.some.inj h]
  · cases h
theorem imH_same {g g' : Gh} (h : Lim g g') : Same (imH g) (imH g') := fun b o e => imH_of (h.1 b o (of_imH e))
theorem same_seqT {K : PySem.W.Frag} {H H' : Hp} {a : Addr} {xs : List V} (e : Same H H') (h : SqT K H a xs) : SqT K H' a xs := by
  rcases h with (h | ⟨o, h⟩) | h
  · exact .inl (.inl (e _ _ h))
  · exact .inl (.inr ⟨o, e _ _ h⟩)
  · exact .inr h

section
variable (T : Tab) (nm : Nm) (K : PySem.W.Frag)
def cad (c : Nat) : Addr := He.ga K (nm.cls c)
def propFn (K : PySem.W.Frag) (p : Addr) : Addr := match PySem.W.recIn K p "property" with
  | some (.ref g :: _) => g
  | _ => 0
def setFn (K : PySem.W.Frag) (p : Addr) : Addr := match PySem.W.recIn K p "property" with
  | some (_ :: .ref g :: _) => g
  | _ => 0
def fpP (K : PySem.W.Frag) (q : Str × Option Str) : Addr := match q.2 with
  | some n => if n.cps.back? = some 61 then setFn K (He.fAd K (q.1, some ⟨n.cps.pop⟩)) else propFn K (He.fAd K q)
  | none => propFn K (He.fAd K q)
def fpA (K : PySem.W.Frag) (q : (Str × Option Str) × Bool) : Addr := if q.2 then fpP K q.1 else He.fAd K q.1
def fad (f : Nat) : Addr := fpA K (nm.fn f)
def fnames (c : Nat) : List Str := match T.cls c with
  | some C => C.fields.map nm.attr
  | none => []
mutual
inductive Rep (g : Gh) : D → V → Prop where
  | non : Rep g .non .non
  | bl (b : Bool) : Rep g (.bl b) (.bl b)
  | int (i : Int) : Rep g (.int i) (.int i)
  | str (s : List Nat) : Rep g (.str s) (.str (strOf s))
  | tup {p : Addr} {ds : List D} {vs : List V} : SqT K (imH g) p vs → Reps g ds vs → Rep g (.tup ds) (.ref p)
  | lst {p : Addr} {ds : List D} {vs : List V} : g p = some (.imm (.lst vs)) → Reps g ds vs → Rep g (.lst ds) (.ref p)
  | scr {p : Addr} {ns : List Int} : SqL K (imH g) p (ns.map V.int) → Rep g (.scr ns) (.ref p)
  | ins {p dx : Addr} {c : Nat} {ds : List D} {vs : List V} : g p = some (.imm (.ins (cad nm K c) dx ((fnames T nm c).zip vs))) → vs.length = (fnames T nm c).length → Reps g ds vs → Rep g (.ins c ds) (.ref p)
  | ref {p : Addr} {k : Nat} : g p = some (.sto k) → Rep g (.ref k) (.ref p)
inductive Reps (g : Gh) : List D → List V → Prop where
  | nil : Reps g [] []
  | cons {d : D} {v : V} {ds : List D} {vs : List V} : Rep g d v → Reps g ds vs → Reps g (d :: ds) (v :: vs)
end
end
section
variable {T : Tab} {nm : Nm} {K : PySem.W.Frag} {g g' : Gh}
mutual
theorem Rep.mono (h : Lim g g') : ∀ {d : D} {v : V}, Rep T nm K g d v → Rep T nm K g' d v
  | _, _, .non => .non
  | _, _, .bl b => .bl b
  | _, _, .int i => .int i
  | _, _, .str s => .str s
  | _, _, .tup s r => .tup (same_seqT (imH_same h) s) (Reps.mono h r)
  | _, _, .lst s r => .lst (h.1 _ _ s) (Reps.mono h r)
  | _, _, .scr s => .scr ((imH_same h).seq s)
  | _, _, .ins e l r => .ins (h.1 _ _ e) l (Reps.mono h r)
  | _, _, .ref e => .ref (h.2 _ _ e)
theorem Reps.mono (h : Lim g g') : ∀ {ds : List D} {vs : List V}, Reps T nm K g ds vs → Reps T nm K g' ds vs
  | _, _, .nil => .nil
  | _, _, .cons a r => .cons (Rep.mono h a) (Reps.mono h r)
end
theorem Reps.len : ∀ {ds : List D} {vs : List V}, Reps T nm K g ds vs → ds.length = vs.length
  | _, _, .nil => rfl
  | _, _, .cons _ r => by simp [Reps.len r]
theorem Reps.at : ∀ {ds : List D} {vs : List V} {i : Nat} {d : D}, Reps T nm K g ds vs → ds[i]? = some d → ∃ v, vs[i]? = some v ∧ Rep T nm K g d v
  | _, _, _, _, .nil, e => by simp at e
  | _, _, 0, _, .cons r _, e => by simp at e; subst e; exact ⟨_, rfl, r⟩
  | _, _, i + 1, _, .cons _ t, e => by
    obtain ⟨v, h1, h2⟩ := Reps.at (i := i) t (by simpa using e)
    exact ⟨v, by simpa using h1, h2⟩
theorem Reps.append : ∀ {ds es : List D} {vs ws : List V}, Reps T nm K g ds vs → Reps T nm K g es ws → Reps T nm K g (ds ++ es) (vs ++ ws)
  | _, _, _, _, .nil, s => s
  | _, _, _, _, .cons r t, s => .cons r (Reps.append t s)
theorem Reps.take : ∀ {ds : List D} {vs : List V} (n : Nat), Reps T nm K g ds vs → Reps T nm K g (ds.take n) (vs.take n)
  | _, _, 0, _ => .nil
  | _, _, _ + 1, .nil => .nil
  | _, _, n + 1, .cons r t => .cons r (Reps.take n t)
theorem Reps.drop : ∀ {ds : List D} {vs : List V} (n : Nat), Reps T nm K g ds vs → Reps T nm K g (ds.drop n) (vs.drop n)
  | _, _, 0, r => r
  | _, _, _ + 1, .nil => .nil
  | _, _, n + 1, .cons _ t => Reps.drop n t
theorem Reps.set {d : D} {v : V} (r : Rep T nm K g d v) : ∀ {ds : List D} {vs : List V} (i : Nat), Reps T nm K g ds vs → Reps T nm K g (ds.set i d) (vs.set i v)
  | _, _, _, .nil => .nil
  | _, _, 0, .cons _ t => .cons r t
  | _, _, i + 1, .cons q t => .cons q (Reps.set r i t)
end

section
variable (T : Tab) (nm : Nm) (K : PySem.W.Frag)
def keyOf : D → Option Key
  | .int i => some (.inl i)
  | .str z => some (.inr (strOf z))
  | _ => none
def KvR (g : Gh) : List (D × D) → List (Key × V) → Prop
  | [], [] => True
  | p :: r, q :: t => keyOf p.1 = some q.1 ∧ Rep T nm K g p.2 q.2 ∧ KvR g r t
  | _, _ => False
def KtR (g : Gh) : List (List D × D) → List (List Key × V) → Prop
  | [], [] => True
  | p :: r, q :: t => p.1.map keyOf = q.1.map some ∧ Rep T nm K g p.2 q.2 ∧ KtR g r t
  | _, _ => False
def KnR (g : Gh) : List (List D × D) → List (L2.KeyN × Addr × Value) → Prop
  | [], [] => True
  | p :: r, q :: t => p.1.map partN = q.1.map some ∧ SqT K (imH g) q.2.1 (q.1.map L2.kN) ∧ (∃ v, Rep T nm K g p.2 v ∧ RelV v q.2.2) ∧ KnR g r t
  | _, _ => False
def XnR (g : Gh) (x : Xn) (cv : Value) (dd : Option Addr) : Prop := cv = .ref (cad nm K x.c) ∧
  ((x.ds = [] ∧ dd = none) ∨ ∃ d vs, dd = some d ∧ g d = some (.imm (.xd ((fnames T nm x.c).zip vs))) ∧ vs.length = (fnames T nm x.c).length ∧ Reps T nm K g x.ds vs)
def ObR (g : Gh) (a : Addr) : Ob → HO → Prop
  | .lst ds, o => ∃ vs, o = .lst vs ∧ Reps T nm K g ds vs
  | .ins c ds, o => ∃ dx vs, o = .ins (cad nm K c) dx ((fnames T nm c).zip vs) ∧ vs.length = (fnames T nm c).length ∧ Reps T nm K g ds vs
  | .dct kvs, o => ∃ kws, o = .dK kws ∧ KvR T nm K g kvs kws
  | .dtt kvs, o => ∃ kws, o = .dT kws ∧ KtR T nm K g kvs kws
  | .dnn n kvs, o => ∃ xs, o = L2.dnO a n xs ∧ (a == sysModules) = false ∧ KnR T nm K g kvs xs
  | .exv c ds, o => ∃ dd, o = L2.exK (.ref (cad nm K c)) dd a ∧ XnR T nm K g ⟨c, ds⟩ (.ref (cad nm K c)) dd
structure Mt0 (g : Gh) (st : Sto) (H : Hp) : Prop where
  imm : ∀ a o, g a = some (.imm o) → H a = some o
  held : ∀ a o, g a = some (.held o) → H a = some o
  sto : ∀ k ob, st[k]? = some ob → ∃ a o, g a = some (.sto k) ∧ H a = some o ∧ ObR T nm K g a ob o
  stl : ∀ a k, g a = some (.sto k) → k < st.length
  uniq : ∀ a b k, g a = some (.sto k) → g b = some (.sto k) → a = b
  trk : ∀ a t, g a = some t → ∃ o, H a = some o
def SlR (g : Gh) (H : Hp) (i : Nat) : D → V → Prop
  | .own ds, v => ∃ p vs, v = .ref p ∧ g p = some (.slot i) ∧ H p = some (.lst vs) ∧ Reps T nm K g ds vs
  | .obj c ds, v => ∃ p dx vs, (nm.me = some (p, dx) ∧ v = .ref p) ∧ g p = some (.slot i) ∧ H p = some (.ins (cad nm K c) dx ((fnames T nm c).zip vs)) ∧ vs.length = ds.length ∧ ds.length ≤ (fnames T nm c).length ∧ Reps T nm K g ds vs
  | .exc c ds, v => ∃ a cv dd, nm.ex = some (a, cv, dd) ∧ v = .ref a ∧ XnR T nm K g ⟨c, ds⟩ cv dd
  | d, v => Rep T nm K g d v
structure Mt (g : Gh) (ρ : Rho) (st : Sto) (σ : L2.St) (H : Hp) : Prop extends Mt0 T nm K g st H where
  len : ρ.length = σ.length
  slots : ∀ i d, ρ[i]? = some (some d) → ∃ v, σ[i]? = some (some v) ∧ SlR T nm K g H i d v
def RepR (g0 g : Gh) : D → V → Prop
  | .own ds, v => ∃ p vs, v = .ref p ∧ g p = some (.held (.lst vs)) ∧ g0 p = none ∧ Reps T nm K g ds vs
  | d, v => Rep T nm K g d v
def Out {α : Type} (W : WX) (g : Gh) (ρ : Rho) (σ : L2.St) (P : α → Sto → Gh → Hp → Prop) : R α → Prop
  | .ok a st => ∀ g' H', Le g g' → Mt T nm K g' ρ st σ H' → P a st g' H'
  | .er x st => ∀ g' cv dd H', Le g g' → Mt T nm K g' ρ st σ H' → XnR T nm K g' x cv dd → W cv dd σ H'
  | .no => False
def LkR (g : Gh) (ρ : Rho) (σ : L2.St) (d : D) (v : V) : Prop := (∃ i : Nat, ρ[i]? = some (some d) ∧ σ[i]? = some (some v)) ∨
  match d with
  | .own ds => ∃ p vs, v = .ref p ∧ g p = some (.held (.lst vs)) ∧ Reps T nm K g ds vs
  | d => Rep T nm K g d v
variable (cf : Nat → List D → Sto → R D)
def tE (W : WX) (e : E) : TE := fun σ H Q => ∃ g ρ st, Mt T nm K g ρ st σ H ∧ Out T nm K W g ρ σ (fun d _ g' H' => ∀ v, RepR T nm K g g' d v → Q v H') (evE T cf e ρ st)
def tB (W : WX) (e : E) : TE := fun σ H Q => ∃ g ρ st, Mt T nm K g ρ st σ H ∧ Out T nm K W g ρ σ (fun d _ g' H' => ∀ v, LkR T nm K g' ρ σ d v → Q v H') (bor e ρ st (evE T cf e ρ st))
def tT (W : WX) (e : Tt) : TT := fun σ H Q => ∃ g ρ st, Mt T nm K g ρ st σ H ∧ Out T nm K W g ρ σ (fun b _ _ H' => Q b H') (evT T cf e ρ st)
def tA (W : WX) (es : Es) : TA := fun σ H Q => ∃ g ρ st, Mt T nm K g ρ st σ H ∧ Out T nm K W g ρ σ (fun ds _ g' H' => ∀ vs, Reps T nm K g' ds vs → Q vs H') (evA T cf es ρ st)
def LkRs (g : Gh) (ρ : Rho) (σ : L2.St) : List D → List V → Prop
  | [], [] => True
  | d :: ds, v :: vs => LkR T nm K g ρ σ d v ∧ LkRs g ρ σ ds vs
  | _, _ => False
def tL (W : WX) (es : Es) : TA := fun σ H Q => ∃ g ρ st, Mt T nm K g ρ st σ H ∧ Out T nm K W g ρ σ (fun ds _ g' H' => ∀ vs, LkRs T nm K g' ρ σ ds vs → Q vs H') (evL T cf es ρ st)
end
section
variable {T : Tab} {nm : Nm} {K : PySem.W.Frag} {W : WX} {g g0 g1 : Gh} {ρ : Rho} {σ : L2.St} {H : Hp} {st : Sto}
theorem Out.imp {α : Type} {P P' : α → Sto → Gh → Hp → Prop} {r : R α} (h : Out T nm K W g ρ σ P r) (i : ∀ a st g' H', Le g g' → Mt T nm K g' ρ st σ H' → P a st g' H' → P' a st g' H') : Out T nm K W g ρ σ P' r := by
  cases r with
  | ok a st => exact fun g' H' l m => i a st g' H' l m (h g' H' l m)
  | er x st => exact h
  | no => exact h
theorem Out.le {α : Type} {P : α → Sto → Gh → Hp → Prop} {r : R α} (h : Out T nm K W g ρ σ P r) (l : Le g g1) : Out T nm K W g1 ρ σ P r := by
  cases r with
  | ok a st => exact fun g' H' l' m => h g' H' (l.trans l') m
  | er x st => exact fun g' cv dd H' l' m => h g' cv dd H' (l.trans l') m
  | no => exact h
theorem Out.bind {α β : Type} {P : β → Sto → Gh → Hp → Prop} {r : R α} {k : α → Sto → R β} (h : Out T nm K W g ρ σ P (r.bind k)) :
    Out T nm K W g ρ σ (fun a st g' _ => Out T nm K W g' ρ σ P (k a st)) r := by
  cases r with
  | ok a st => exact fun g' H' l m => Out.le h l
  | er x st => exact h
  | no => exact h
theorem Out.of {α : Type} {P : α → Sto → Gh → Hp → Prop} {o : Option α} (h : Out T nm K W g ρ σ P (R.of o st)) (m : Mt T nm K g ρ st σ H) : ∃ a, o = some a ∧ P a st g H := by
  cases o with
  | none => exact h.elim
  | some a => exact ⟨a, rfl, h g H (Le.refl g) m⟩
theorem Out.ok {α : Type} {P : α → Sto → Gh → Hp → Prop} {a : α} (h : Out T nm K W g ρ σ P (.ok a st)) (m : Mt T nm K g ρ st σ H) : P a st g H := h g H (Le.refl g) m

theorem Out.bind0 {α β : Type} {P : β → Sto → Gh → Hp → Prop} {r : R α} {k : α → Sto → R β} (h : Out T nm K W g ρ σ P (r.bind k)) :
    Out T nm K W g ρ σ (fun a st _ _ => Out T nm K W g ρ σ P (k a st)) r := by
  cases r with
  | ok a st => exact fun g' H' l m => h
  | er x st => exact h
  | no => exact h

theorem LkR.of_rep {d : D} {v : V} (h : RepR T nm K g0 g d v) : LkR T nm K g ρ σ d v := by
  refine .inr ?_
  cases d with
  | own ds =>
    obtain ⟨p, vs, e, h1, _, h2⟩ := h
    exact ⟨p, vs, e, h1, h2⟩
  | _ => exact h
theorem LkR.le {d : D} {v : V} (h : LkR T nm K g ρ σ d v) (l : Le g g1) : LkR T nm K g1 ρ σ d v := by
  rcases h with h | h
  · exact .inl h
  · refine .inr ?_
    cases d with
    | own ds =>
      obtain ⟨p, vs, e, h1, h2⟩ := h
      exact ⟨p, vs, e, l _ _ h1, h2.mono l.lim⟩
    | _ => exact Rep.mono l.lim h
theorem LkRs.le : ∀ {ds : List D} {vs : List V}, LkRs T nm K g ρ σ ds vs → Le g g1 → LkRs T nm K g1 ρ σ ds vs
  | [], [], h, _ => h
  | _ :: _, _ :: _, ⟨a, r⟩, l => ⟨a.le l, LkRs.le r l⟩
def plain : D → Bool
  | .own _ => false
  | .obj _ _ => false
  | .exc _ _ => false
  | _ => true
theorem LkR.rep {d : D} {v : V} (h : LkR T nm K g ρ σ d v) (m : Mt T nm K g ρ st σ H) (p : plain d = true) : Rep T nm K g d v := by
  rcases h with ⟨i, h1, h2⟩ | h
  · obtain ⟨w, e, r⟩ := m.slots i d h1
    rw [h2] at e
    cases e
    cases d with
    | own ds => cases p
    | obj c ds => cases p
    | exc c ds => cases p
    | _ => exact r
  · cases d with
    | own ds => cases p
    | _ => exact h
theorem LkR.own {ds : List D} {v : V} (h : LkR T nm K g ρ σ (.own ds) v) (m : Mt T nm K g ρ st σ H) : ∃ p vs, v = .ref p ∧ H p = some (.lst vs) ∧ Reps T nm K g ds vs := by
  rcases h with ⟨i, h1, h2⟩ | ⟨p, vs, e, h1, h2⟩
  · obtain ⟨w, e, p, vs, ew, _, hp, r⟩ := m.slots i _ h1
    rw [h2] at e
    cases e
    exact ⟨p, vs, ew, hp, r⟩
  · exact ⟨p, vs, e, m.held _ _ h1, h2⟩
theorem RepR.plain {d : D} {v : V} (h : Rep T nm K g d v) (p : Snd.plain d = true) : RepR T nm K g0 g d v := by
  cases d with
  | own ds => cases p
  | _ => exact h
theorem RepR.rep {d : D} {v : V} (h : RepR T nm K g0 g d v) (p : Snd.plain d = true) : Rep T nm K g d v := by
  cases d with
  | own ds => cases p
  | _ => exact h

def put (g : Gh) (p : Addr) (t : Tag) : Gh := fun a => if a = p then some t else g a
theorem put_same {g : Gh} {p : Addr} {t : Tag} : put g p t p = some t := if_pos rfl
theorem put_ne {g : Gh} {p a : Addr} {t : Tag} (h : a ≠ p) : put g p t a = g a := if_neg h
theorem le_put {g : Gh} {p : Addr} {t : Tag} (h : g p = none) : Le g (put g p t) := fun a u e => by
  rw [put_ne (fun z => by rw [z, h] at e; cases e)]
  exact e
theorem Mt0.fresh (m : Mt0 T nm K g st H) {p : Addr} (h : H p = none) : g p = none := by
  cases e : g p with
  | none => rfl
  | some t =>
    obtain ⟨o, ho⟩ := m.trk p t e
    rw [h] at ho
    cases ho
theorem XnR.mono {x : Xn} {cv : Value} {dd : Option Addr} (h : XnR T nm K g x cv dd) (l : Lim g g1) : XnR T nm K g1 x cv dd := by
  obtain ⟨e, h⟩ := h
  refine ⟨e, ?_⟩
  rcases h with h | ⟨d, vs, e1, e2, e3, r⟩
  · exact .inl h
  · exact .inr ⟨d, vs, e1, l.1 _ _ e2, e3, r.mono l⟩
theorem SlR.mono {i : Nat} {d : D} {v : V} {H' : Hp} (h : SlR T nm K g H i d v) (l : Lim g g1) (hs : ∀ p, g p = some (.slot i) → g1 p = some (.slot i) ∧ H' p = H p) : SlR T nm K g1 H' i d v := by
  cases d with
  | own ds =>
    obtain ⟨p, vs, e, h1, h2, h3⟩ := h
    obtain ⟨a, b⟩ := hs p h1
    exact ⟨p, vs, e, a, b.trans h2, h3.mono l⟩
  | obj c ds =>
    obtain ⟨p, dx, vs, e, h1, h2, h3, h4, h5⟩ := h
    obtain ⟨a, b⟩ := hs p h1
    exact ⟨p, dx, vs, e, a, b.trans h2, h3, h4, h5.mono l⟩
  | exc c ds =>
    obtain ⟨a, cv, dd, h1, h2, h3⟩ := h
    exact ⟨a, cv, dd, h1, h2, h3.mono l⟩
  | _ => exact Rep.mono l h
theorem KvR.mono : ∀ {kvs : List (D × D)} {kws : List (Key × V)}, KvR T nm K g kvs kws → Lim g g1 → KvR T nm K g1 kvs kws
  | [], [], h, _ => h
  | _ :: _, _ :: _, ⟨a, b, r⟩, l => ⟨a, b.mono l, KvR.mono r l⟩
  | [], _ :: _, h, _ => h.elim
  | _ :: _, [], h, _ => h.elim
theorem KnR.mono (l : Lim g g1) : ∀ {kvs : List (List D × D)} {xs : List (L2.KeyN × Addr × Value)}, KnR T nm K g kvs xs → KnR T nm K g1 kvs xs
  | [], [], r => r
  | _ :: _, _ :: _, ⟨a, b, ⟨v, c, d⟩, r⟩ => ⟨a, same_seqT (imH_same l) b, ⟨v, c.mono l, d⟩, KnR.mono l r⟩
  | [], _ :: _, r => r.elim
  | _ :: _, [], r => r.elim
theorem KtR.mono : ∀ {kvs : List (List D × D)} {kws : List (List Key × V)}, KtR T nm K g kvs kws → Lim g g1 → KtR T nm K g1 kvs kws
  | [], [], h, _ => h
  | _ :: _, _ :: _, ⟨a, b, r⟩, l => ⟨a, b.mono l, KtR.mono r l⟩
  | [], _ :: _, h, _ => h.elim
  | _ :: _, [], h, _ => h.elim
theorem Mt0.new (m : Mt0 T nm K g st H) {p : Addr} {o : HO} (h : H p = none) {t : Tag} (ht : (t = .imm o ∨ t = .held o) ∨ ∃ i, t = .slot i) : Mt0 T nm K (put g p t) st (upd H p o) := by
  have gp := m.fresh h
  have l : Le g (put g p t) := le_put gp
  have nh : ∀ a o', H a = some o' → a ≠ p := fun a o' e z => by rw [z, h] at e; cases e
  have old : ∀ a u, a ≠ p → put g p t a = some u → g a = some u := fun a u n e => by rw [put_ne n] at e; exact e
  refine ⟨fun a o' e => ?_, fun a o' e => ?_, fun k ob e => ?_, fun a k e => ?_, fun a b k e1 e2 => ?_, fun a u e => ?_⟩
  · by_cases n : a = p
    · subst n
      rw [put_same] at e
      rw [upd_same]
      rcases ht with (z | z) | ⟨i, z⟩ <;> rw [z] at e <;> cases e
      rfl
    · rw [upd_ne n]
      exact m.imm a o' (old a _ n e)
  · by_cases n : a = p
    · subst n
      rw [put_same] at e
      rw [upd_same]
      rcases ht with (z | z) | ⟨i, z⟩ <;> rw [z] at e <;> cases e
      rfl
    · rw [upd_ne n]
      exact m.held a o' (old a _ n e)
  · obtain ⟨a, o', e1, e2, r⟩ := m.sto k ob e
    refine ⟨a, o', l _ _ e1, by rw [upd_ne (nh a _ e2)]; exact e2, ?_⟩
    cases ob with
    | lst ds =>
      obtain ⟨vs, e3, r⟩ := r
      exact ⟨vs, e3, r.mono l.lim⟩
    | ins c ds =>
      obtain ⟨dx, vs, e3, e4, r⟩ := r
      exact ⟨dx, vs, e3, e4, r.mono l.lim⟩
    | dct kvs =>
      obtain ⟨kws, e3, r⟩ := r
      exact ⟨kws, e3, r.mono l.lim⟩
    | dtt kvs =>
      obtain ⟨kws, e3, r⟩ := r
      exact ⟨kws, e3, r.mono l.lim⟩
    | dnn cn kvs =>
      obtain ⟨kws, e3, n3, r⟩ := r
      exact ⟨kws, e3, n3, r.mono l.lim⟩
    | exv c ds =>
      obtain ⟨dd, e3, r⟩ := r
      exact ⟨dd, e3, r.mono l.lim⟩
  · by_cases n : a = p
    · subst n
      rw [put_same] at e
      rcases ht with (z | z) | ⟨i, z⟩ <;> rw [z] at e <;> cases e
    · exact m.stl a k (old a _ n e)
  · have na : a ≠ p := fun z => by
      rw [z, put_same] at e1
      rcases ht with (z | z) | ⟨i, z⟩ <;> rw [z] at e1 <;> cases e1
    have nb : b ≠ p := fun z => by
      rw [z, put_same] at e2
      rcases ht with (z | z) | ⟨i, z⟩ <;> rw [z] at e2 <;> cases e2
    exact m.uniq a b k (old a _ na e1) (old b _ nb e2)
  · by_cases n : a = p
    · subst n
      exact ⟨o, upd_same⟩
    · obtain ⟨o', e'⟩ := m.trk a u (old a _ n e)
      exact ⟨o', by rw [upd_ne n]; exact e'⟩
theorem Mt.new (m : Mt T nm K g ρ st σ H) {p : Addr} {o : HO} (h : H p = none) {t : Tag} (ht : t = .imm o ∨ t = .held o) : Mt T nm K (put g p t) ρ st σ (upd H p o) := by
  have l : Le g (put g p t) := le_put (m.fresh h)
  refine ⟨m.toMt0.new h (.inl ht), m.len, fun i d e => ?_⟩
  obtain ⟨v, e1, r⟩ := m.slots i d e
  refine ⟨v, e1, r.mono l.lim fun q e2 => ⟨l _ _ e2, ?_⟩⟩
  obtain ⟨o', e'⟩ := m.trk q _ e2
  exact upd_ne fun z => by rw [z, h] at e'; cases e'
theorem Mt.retag (m : Mt T nm K g ρ st σ H) {p : Addr} {o : HO} (h : g p = some (.held o)) {t : Tag} (ht : t = .imm o ∨ t = .held o) : Mt T nm K (put g p t) ρ st σ H ∧ Lim g (put g p t) := by
  have lm : Lim g (put g p t) := ⟨fun a o e => by rw [put_ne (fun z => by rw [z, h] at e; cases e)]; exact e, fun a k e => by rw [put_ne (fun z => by rw [z, h] at e; cases e)]; exact e⟩
  have old : ∀ a u, a ≠ p → put g p t a = some u → g a = some u := fun a u n e => by rw [put_ne n] at e; exact e
  refine ⟨⟨⟨fun a o' e => ?_, fun a o' e => ?_, fun k ob e => ?_, fun a k e => ?_, fun a b k e1 e2 => ?_, fun a u e => ?_⟩, m.len, fun i d e => ?_⟩, lm⟩
  · by_cases n : a = p
    · subst n
      rw [put_same] at e
      rcases ht with z | z <;> rw [z] at e <;> cases e
      exact m.held _ _ h
    · exact m.imm a o' (old a _ n e)
  · by_cases n : a = p
    · subst n
      rw [put_same] at e
      rcases ht with z | z <;> rw [z] at e <;> cases e
      exact m.held _ _ h
    · exact m.held a o' (old a _ n e)
  · obtain ⟨a, o', e1, e2, r⟩ := m.sto k ob e
    refine ⟨a, o', lm.2 _ _ e1, e2, ?_⟩
    cases ob with
    | lst ds =>
      obtain ⟨vs, e3, r⟩ := r
      exact ⟨vs, e3, r.mono lm⟩
    | ins c ds =>
      obtain ⟨dx, vs, e3, e4, r⟩ := r
      exact ⟨dx, vs, e3, e4, r.mono lm⟩
    | dct kvs =>
      obtain ⟨kws, e3, r⟩ := r
      exact ⟨kws, e3, r.mono lm⟩
    | dtt kvs =>
      obtain ⟨kws, e3, r⟩ := r
      exact ⟨kws, e3, r.mono lm⟩
    | dnn cn kvs =>
      obtain ⟨kws, e3, n3, r⟩ := r
      exact ⟨kws, e3, n3, r.mono lm⟩
    | exv c ds =>
      obtain ⟨dd, e3, r⟩ := r
      exact ⟨dd, e3, r.mono lm⟩
  · by_cases n : a = p
    · subst n
      rw [put_same] at e
      rcases ht with z | z <;> rw [z] at e <;> cases e
    · exact m.stl a k (old a _ n e)
  · have na : a ≠ p := fun z => by
      rw [z, put_same] at e1
      rcases ht with z | z <;> rw [z] at e1 <;> cases e1
    have nb : b ≠ p := fun z => by
      rw [z, put_same] at e2
      rcases ht with z | z <;> rw [z] at e2 <;> cases e2
    exact m.uniq a b k (old a _ na e1) (old b _ nb e2)
  · by_cases n : a = p
    · subst n
      exact ⟨o, m.held _ _ h⟩
    · exact m.trk a u (old a _ n e)
  · obtain ⟨v, e1, r⟩ := m.slots i d e
    refine ⟨v, e1, r.mono lm fun q e2 => ⟨?_, rfl⟩⟩
    rw [put_ne (fun z => by rw [z, h] at e2; cases e2)]
    exact e2
theorem Le.retag {p : Addr} {t : Tag} (l : Le g g1) (n : g p = none) : Le g (put g1 p t) := fun a u e => by
  rw [put_ne (fun z => by rw [z, n] at e; cases e)]
  exact l a u e
theorem kept {d : D} {v : V} (r : RepR T nm K g g1 d v) (m : Mt T nm K g1 ρ st σ H) (l : Le g g1) : ∃ g2, Le g g2 ∧ Mt T nm K g2 ρ st σ H ∧ Rep T nm K g2 (fz d) v := by
  cases d with
  | own ds =>
    obtain ⟨p, vs, e, h1, h2, h3⟩ := r
    obtain ⟨m2, lm⟩ := m.retag h1 (t := .imm (.lst vs)) (.inl rfl)
    subst e
    exact ⟨_, l.retag h2, m2, .lst put_same (h3.mono lm)⟩
  | _ => exact ⟨g1, l, m, r⟩
end

section
variable {X : Cx}
theorem PE.imp {e : Expr} {t t' : TE} (h : PE X e t) (i : ∀ σ H Q, t' σ H Q → t σ H Q) : PE X e t' := ⟨fun pins s σ H Q I q => h.run pins s σ H Q I (i σ H Q q)⟩
theorem PT.imp {e : Expr} {t t' : TT} (h : PT X e t) (i : ∀ σ H Q, t' σ H Q → t σ H Q) : PT X e t' := ⟨fun pins s σ H Q I q => h.run pins s σ H Q I (i σ H Q q)⟩
theorem PA.imp {e : List Expr} {t t' : TA} (h : PA X e t) (i : ∀ σ H Q, t' σ H Q → t σ H Q) : PA X e t' := ⟨fun pos pins s σ H Q I q => h.run pos pins s σ H Q I (i σ H Q q)⟩
theorem PS.imp {e : Stmt} {t t' : TS} (h : PS X e t) (i : ∀ D σ H, t' D σ H → t D σ H) : PS X e t' := ⟨fun pins s σ H D I q => h.run pins s σ H D I (i D σ H q)⟩
theorem PSs.imp {e : List Stmt} {t t' : TS} (h : PSs X e t) (i : ∀ D σ H, t' D σ H → t D σ H) : PSs X e t' := ⟨fun pins s σ H D I q => h.run pins s σ H D I (i D σ H q)⟩
end

section
variable {X : Cx} {T : Tab} {nm : Nm} {W : WX} {cf : Nat → List D → Sto → R D} {pos : Pos}
theorem se_bl {b j} : PE X (.Constant (.bool b) j pos) (tE T nm X.K cf W (.bl b)) := PE.imp pe_bl fun σ H Q ⟨g, ρ, st, m, o⟩ => Out.ok o m _ (.bl b)
theorem se_int {i j} : PE X (.Constant (.int i) j pos) (tE T nm X.K cf W (.int i)) := PE.imp pe_int fun σ H Q ⟨g, ρ, st, m, o⟩ => Out.ok o m _ (.int i)
theorem se_str {x : Str} {s : List Nat} {j} (h : x = strOf s) : PE X (.Constant (.str x) j pos) (tE T nm X.K cf W (.str s)) := PE.imp pe_str fun σ H Q ⟨g, ρ, st, m, o⟩ => by
  subst h
  exact Out.ok o m _ (.str s)
theorem rdV_some {ρ : Rho} {i : Nat} {d : D} (h : rdV ρ i = some d) : ρ[i]? = some (some d) ∧ plain d = true := by
  unfold rdV at h
  split at h
  · cases h
  · cases h
  · cases h
  · rename_i d' n1 n2 n3 e
    cases h
    refine ⟨e, ?_⟩
    cases d with
    | own ds => exact (n1 ds rfl).elim
    | obj c ds => exact (n2 c ds rfl).elim
    | exc c ds => exact (n3 c ds rfl).elim
    | _ => rfl
  · cases h
theorem rdB_some {ρ : Rho} {i : Nat} {d : D} (h : rdB ρ i = some d) : ρ[i]? = some (some d) := by
  unfold rdB at h
  split at h
  · rename_i e
    cases h
    exact e
  · cases h
theorem se_var {i : Nat} {x : Str} (hN : X.N[i]? = some x) (hv : Vis X.env.scope x) (hd : (x == ("__debug__" : Str)) = false) (hcd : (x == ("__classdict__" : Str)) = false) : PE X (.Name x pos) (tE T nm X.K cf W (.var i)) :=
  PE.imp (pe_var hN hv hd hcd) fun σ H Q ⟨g, ρ, st, m, o⟩ => by
    obtain ⟨d, e, q⟩ := Out.of o m
    obtain ⟨e1, p⟩ := rdV_some e
    obtain ⟨v, e2, r⟩ := m.slots i d e1
    refine ⟨v, e2, q v (RepR.plain ?_ p)⟩
    cases d with
    | own ds => cases p
    | obj c ds => cases p
    | exc c ds => cases p
    | _ => exact r
theorem sb_var {i : Nat} {x : Str} (hN : X.N[i]? = some x) (hv : Vis X.env.scope x) (hd : (x == ("__debug__" : Str)) = false) (hcd : (x == ("__classdict__" : Str)) = false) : PE X (.Name x pos) (tB T nm X.K cf W (.var i)) :=
  PE.imp (pe_var hN hv hd hcd) fun σ H Q ⟨g, ρ, st, m, o⟩ => by
    obtain ⟨d, e, q⟩ := Out.of (o := rdB ρ i) o m
    have e1 := rdB_some e
    obtain ⟨v, e2, r⟩ := m.slots i d e1
    exact ⟨v, e2, q v (.inl ⟨i, e1, e2⟩)⟩
theorem sb_of {e : Expr} {a : E} (h : PE X e (tE T nm X.K cf W a)) (n : ∀ i, a ≠ .var i) : PE X e (tB T nm X.K cf W a) :=
  PE.imp h fun σ H Q ⟨g, ρ, st, m, o⟩ => ⟨g, ρ, st, m, by
    have e : bor a ρ st (evE T cf a ρ st) = evE T cf a ρ st := by
      cases a with
      | var i => exact absurd rfl (n i)
      | _ => rfl
    rw [e] at o
    exact Out.imp o fun d st g' H' l m' q v r => q v (LkR.of_rep r)⟩
end

section
variable {X : Cx} {T : Tab} {nm : Nm} {W : WX} {cf : Nat → List D → Sto → R D} {pos : Pos}
theorem sa_nil : PA X [] (tA T nm X.K cf W .nil) := PA.imp pa_nil fun σ H Q ⟨g, ρ, st, m, o⟩ => Out.ok o m [] .nil
theorem sa_cons {e : Expr} {es : List Expr} {a : E} {as : Es} (ha : PE X e (tE T nm X.K cf W a)) (hr : PA X es (tA T nm X.K cf W as)) (hs : starEach (e :: es) X.env = (false, eval e X.env) :: starEach es X.env) : PA X (e :: es) (tA T nm X.K cf W (.cons a as)) :=
  PA.imp (pa_cons ha hr hs) fun σ H Q ⟨g, ρ, st, m, o⟩ => ⟨g, ρ, st, m, Out.imp (Out.bind0 o) fun d st1 g1 H1 l1 m1 o1 v r => by
    obtain ⟨g2, l2, m2, r2⟩ := kept r m1 l1
    exact ⟨g2, ρ, st1, m2, Out.imp (Out.bind0 (o1.le l2)) fun ds st2 g3 H3 l3 m3 o3 vs rs => (o3.le l3).ok m3 (v :: vs) (.cons (r2.mono l3.lim) rs)⟩⟩
theorem sl_nil : PA X [] (tL T nm X.K cf W .nil) := PA.imp pa_nil fun σ H Q ⟨g, ρ, st, m, o⟩ => Out.ok o m [] trivial
theorem sl_cons {e : Expr} {es : List Expr} {a : E} {as : Es} (ha : PE X e (tB T nm X.K cf W a)) (hr : PA X es (tL T nm X.K cf W as)) (hs : starEach (e :: es) X.env = (false, eval e X.env) :: starEach es X.env) : PA X (e :: es) (tL T nm X.K cf W (.cons a as)) :=
  PA.imp (pa_cons ha hr hs) fun σ H Q ⟨g, ρ, st, m, o⟩ => ⟨g, ρ, st, m, Out.imp (Out.bind o) fun d st1 g1 H1 l1 m1 o1 v r =>
    ⟨g1, ρ, st1, m1, Out.imp (Out.bind o1) fun ds st2 g2 H2 l2 m2 o2 vs rs => Out.ok o2 m2 (v :: vs) ⟨r.le l2, rs⟩⟩⟩
theorem st_not {e : Expr} {a : Tt} (ha : PT X e (tT T nm X.K cf W a)) : PT X (.UnaryOp .Not e pos) (tT T nm X.K cf W (.not a)) :=
  PT.imp (pt_not ha) fun σ H Q ⟨g, ρ, st, m, o⟩ => ⟨g, ρ, st, m, Out.imp (Out.bind o) fun b st1 g1 H1 l1 m1 o1 => Out.ok o1 m1⟩
theorem PW.imp {e : Expr} {t t' : TT} (h : PW X e t) (i : ∀ σ H Q, t' σ H Q → t σ H Q) : PW X e t' := ⟨fun wh pins s σ H Q I q => h.run wh pins s σ H Q I (i σ H Q q)⟩
theorem sw_and {a b : Expr} {rest : List Expr} {x y : Tt} (ha : PT X a (tT T nm X.K cf W x)) (hb : PW X (.BoolOp .And (b :: rest) pos) (tT T nm X.K cf W y)) : PW X (.BoolOp .And (a :: b :: rest) pos) (tT T nm X.K cf W (.and x y)) :=
  PW.imp (pw_and ha hb) fun σ H Q ⟨g, ρ, st, m, o⟩ => ⟨g, ρ, st, m, Out.imp (Out.bind o) fun k st1 g1 H1 l1 m1 o1 => by
    cases k with
    | true => exact ⟨g1, ρ, st1, m1, o1⟩
    | false => exact Out.ok o1 m1⟩
theorem sw_or {a b : Expr} {rest : List Expr} {x y : Tt} (ha : PT X a (tT T nm X.K cf W x)) (hb : PW X (.BoolOp .Or (b :: rest) pos) (tT T nm X.K cf W y)) : PW X (.BoolOp .Or (a :: b :: rest) pos) (tT T nm X.K cf W (.or x y)) :=
  PW.imp (pw_or ha hb) fun σ H Q ⟨g, ρ, st, m, o⟩ => ⟨g, ρ, st, m, Out.imp (Out.bind o) fun k st1 g1 H1 l1 m1 o1 => by
    cases k with
    | true => exact Out.ok o1 m1
    | false => exact ⟨g1, ρ, st1, m1, o1⟩⟩
theorem sto_lst {r : Nat} {ds : List D} {x : V} {g : Gh} {ρ : Rho} {σ : L2.St} {H : Hp} {st : Sto} (h : LkR T nm X.K g ρ σ (.ref r) x) (m : Mt T nm X.K g ρ st σ H) (e : st[r]? = some (.lst ds)) : ∃ p vs, x = .ref p ∧ g p = some (.sto r) ∧ H p = some (.lst vs) ∧ Reps T nm X.K g ds vs := by
  cases h.rep m rfl with
  | @ref p _ gp =>
    obtain ⟨a, o, ga, ha, vs, eo, rr⟩ := m.sto r _ e
    have z := m.uniq _ _ _ ga gp
    subst z
    subst eo
    exact ⟨a, vs, rfl, gp, ha, rr⟩
theorem lstS_ok {d : D} {ds : List D} {x : V} {g : Gh} {ρ : Rho} {σ : L2.St} {H : Hp} {st : Sto} (h : LkR T nm X.K g ρ σ d x) (m : Mt T nm X.K g ρ st σ H) (e : lstS st d = some ds) : ∃ p vs, x = .ref p ∧ H p = some (.lst vs) ∧ Reps T nm X.K g ds vs := by
  cases d with
  | lst es =>
    cases e
    cases h.rep m rfl with
    | lst s r => exact ⟨_, _, rfl, m.imm _ _ s, r⟩
  | own es =>
    cases e
    exact h.own m
  | ref r =>
    cases h1 : st[r]? with
    | none => simp only [lstS, h1] at e; cases e
    | some ob =>
      cases ob with
      | lst es =>
        simp only [lstS, h1] at e
        cases e
        obtain ⟨p, vs, a, _, b, c⟩ := sto_lst h m h1
        exact ⟨p, vs, a, b, c⟩
      | _ => simp only [lstS, h1] at e; cases e
  | _ => cases e
theorem tru_of {g : Gh} {ρ : Rho} {σ : L2.St} {H : Hp} {st : Sto} {d : D} {v : V} {b : Bool} (m : Mt T nm X.K g ρ st σ H) (l : LkR T nm X.K g ρ σ d v) (h : truth d = some b) : TruV X.K v H b := by
  cases d with
  | non =>
    cases l.rep m rfl
    exact (Option.some.inj h).symm
  | bl k =>
    cases l.rep m rfl
    exact (Option.some.inj h).symm
  | int i =>
    cases l.rep m rfl
    exact (Option.some.inj h).symm
  | tup ds =>
    cases l.rep m rfl with
    | tup s r =>
      refine .inr (.inl ⟨_, same_seqT (fun a o e => m.imm a o (of_imH e)) s, ?_⟩)
      rw [← Option.some.inj h]
      cases r <;> rfl
  | lst ds =>
    cases l.rep m rfl with
    | lst s r =>
      refine .inl ⟨_, .of (m.imm _ _ s), ?_⟩
      rw [← Option.some.inj h]
      cases r <;> rfl
  | own ds =>
    obtain ⟨p, vs, e, hp, r⟩ := l.own m
    subst e
    refine .inl ⟨_, .of hp, ?_⟩
    rw [← Option.some.inj h]
    cases r <;> rfl
  | _ => cases h
theorem tru_ofS {g : Gh} {ρ : Rho} {σ : L2.St} {H : Hp} {st : Sto} {d : D} {v : V} {b : Bool} (m : Mt T nm X.K g ρ st σ H) (l : LkR T nm X.K g ρ σ d v) (h : truthS st d = some b) : TruV X.K v H b := by
  cases d with
  | ref r =>
    cases h1 : st[r]? with
    | none => simp only [truthS, h1] at h; cases h
    | some ob =>
      cases ob with
      | lst es =>
        simp only [truthS, h1] at h
        obtain ⟨p, vs, a, _, hp, r⟩ := sto_lst l m h1
        subst a
        refine .inl ⟨_, .of hp, ?_⟩
        rw [← Option.some.inj h]
        cases r <;> rfl
      | _ => simp only [truthS, h1] at h; cases h
  | _ => exact tru_of m l h
theorem st_e {e : Expr} {a : E} (ha : PE X e (tB T nm X.K cf W a)) (he : ∀ whole, isTrue e X.env whole = (do let v ← whole; standAt e.pos; holding [v] (truthy v))) : PT X e (tT T nm X.K cf W (.e a)) :=
  PT.imp (pt_truth ha he) fun σ H Q ⟨g, ρ, st, m, o⟩ => ⟨g, ρ, st, m, Out.imp (Out.bind o) fun d st1 g1 H1 l1 m1 o1 v r => by
    obtain ⟨b, e, q⟩ := Out.of o1 m1
    exact ⟨b, tru_ofS m1 r e, q⟩⟩
theorem RepR.back {g0 g1 g : Gh} {K : PySem.W.Frag} {d : D} {v : V} (h : RepR T nm K g1 g d v) (l : Le g0 g1) : RepR T nm K g0 g d v := by
  cases d with
  | own ds =>
    obtain ⟨p, vs, e, h1, h2, h3⟩ := h
    refine ⟨p, vs, e, h1, ?_, h3⟩
    cases q : g0 p with
    | none => rfl
    | some t =>
      rw [l _ _ q] at h2
      cases h2
  | _ => exact h
theorem tE_go {g0 g : Gh} {ρ : Rho} {σ : L2.St} {H : Hp} {st : Sto} {Q : VK} {a : E} (m : Mt T nm X.K g ρ st σ H) (l : Le g0 g) (o : Out T nm X.K W g0 ρ σ (fun d _ g' H' => ∀ v, RepR T nm X.K g0 g' d v → Q v H') (evE T cf a ρ st)) : tE T nm X.K cf W a σ H Q :=
  ⟨g, ρ, st, m, Out.imp (o.le l) fun _ _ _ _ _ _ q v r => q v (r.back l)⟩
theorem se_and {a b : Expr} {rest : List Expr} {x y : E} (ha : PE X a (tE T nm X.K cf W x)) (hb : PE X (.BoolOp .And (b :: rest) pos) (tE T nm X.K cf W y)) : PE X (.BoolOp .And (a :: b :: rest) pos) (tE T nm X.K cf W (.and x y)) :=
  PE.imp (pe_and ha hb) fun σ H Q ⟨g, ρ, st, m, o⟩ => ⟨g, ρ, st, m, Out.imp (Out.bind0 o) fun d st1 g1 H1 l1 m1 o1 v r => by
    cases d with
    | bl k =>
      cases r
      refine ⟨k, rfl, ?_⟩
      cases k with
      | true => exact tE_go m1 l1 o1
      | false => exact (o1.le l1).ok m1 _ (.bl _)
    | _ => exact o1.elim⟩
theorem reps_len {g : Gh} {K : PySem.W.Frag} {ds : List D} {vs : List V} (r : Reps T nm K g ds vs) (h : ds.length ≤ LINE) : vs.length ≤ sizeLine := by
  rw [← r.len]
  exact Nat.le_trans h (by decide)
theorem new_own {g0 g1 : Gh} {ρ : Rho} {σ : L2.St} {H : Hp} {st : Sto} {Q : VK} {ds : List D} {vs : List V} (l1 : Le g0 g1) (m1 : Mt T nm X.K g1 ρ st σ H) (r : Reps T nm X.K g1 ds vs) (o : Out T nm X.K W g0 ρ σ (fun d _ g' H' => ∀ v, RepR T nm X.K g0 g' d v → Q v H') (.ok (.own ds) st)) {p : Addr} (hp : H p = none) : Q (.ref p) (upd H p (.lst vs)) := by
  have l2 : Le g1 (put g1 p (.held (.lst vs))) := le_put (m1.fresh hp)
  refine o _ _ (l1.trans l2) (m1.new hp (.inr rfl)) _ ⟨p, vs, rfl, put_same, ?_, r.mono l2.lim⟩
  cases q : g0 p with
  | none => rfl
  | some t =>
    have z := m1.fresh hp
    rw [l1 _ _ q] at z
    cases z
theorem se_lst {es : List Expr} {as : Es} (h : PA X es (tA T nm X.K cf W as)) : PE X (.List es pos) (tE T nm X.K cf W (.lst as)) :=
  PE.imp (pe_lst h) fun σ H Q ⟨g, ρ, st, m, o⟩ => ⟨g, ρ, st, m, Out.imp (Out.bind0 o) fun ds st1 g1 H1 l1 m1 o1 vs r => by
    by_cases z : ds.length ≤ LINE
    · rw [if_pos z] at o1
      exact ⟨reps_len r z, fun p hp => new_own l1 m1 r o1 hp⟩
    · rw [if_neg z] at o1
      exact o1.elim⟩
end

def hold (g : Gh) (H : Hp) : Gh := fun a => match g a with
  | some (.slot _) => (H a).map Tag.held
  | t => t
def back (g g' : Gh) : Gh := fun a => match g a with
  | some (.slot i) => some (.slot i)
  | _ => g' a
theorem hold_slot {g : Gh} {H : Hp} {a : Addr} {i : Nat} (h : g a = some (.slot i)) : hold g H a = (H a).map Tag.held := by
  unfold hold
  rw [h]
theorem hold_of {g : Gh} {H : Hp} {a : Addr} (h : ∀ i, g a ≠ some (.slot i)) : hold g H a = g a := by
  unfold hold
  split
  · rename_i i e
    exact absurd e (h i)
  · rfl
theorem back_slot {g g' : Gh} {a : Addr} {i : Nat} (h : g a = some (.slot i)) : back g g' a = some (.slot i) := by
  unfold back
  rw [h]
theorem back_of {g g' : Gh} {a : Addr} (h : ∀ i, g a ≠ some (.slot i)) : back g g' a = g' a := by
  unfold back
  split
  · rename_i i e
    exact absurd e (h i)
  · rfl
def NoSlot (g : Gh) : Prop := ∀ a i, g a ≠ some (.slot i)
theorem noSlot_hold {g : Gh} {H : Hp} : NoSlot (hold g H) := fun a i e => by
  unfold hold at e
  split at e
  · cases q : H a with
    | none => rw [q] at e; cases e
    | some o => rw [q] at e; cases e
  · rename_i n
    exact n i e
theorem slot_em (g : Gh) (a : Addr) : (∃ i, g a = some (.slot i)) ∨ ∀ i, g a ≠ some (.slot i) := by
  by_cases h : ∃ i, g a = some (.slot i)
  · exact .inl h
  · exact .inr fun i e => h ⟨i, e⟩
section
variable {T : Tab} {nm : Nm} {K : PySem.W.Frag} {W : WX} {g g0 g1 g' : Gh} {ρ : Rho} {σ : L2.St} {H H' : Hp} {st st' : Sto}
theorem ObR.mono {a : Addr} {ob : Ob} {o : HO} (h : ObR T nm K g a ob o) (l : Lim g g1) : ObR T nm K g1 a ob o := by
  cases ob with
  | lst ds =>
    obtain ⟨vs, e3, r⟩ := h
    exact ⟨vs, e3, r.mono l⟩
  | ins c ds =>
    obtain ⟨dx, vs, e3, e4, r⟩ := h
    exact ⟨dx, vs, e3, e4, r.mono l⟩
  | dct kvs =>
    obtain ⟨kws, e, r⟩ := h
    exact ⟨kws, e, r.mono l⟩
  | dtt kvs =>
    obtain ⟨kws, e, r⟩ := h
    exact ⟨kws, e, r.mono l⟩
  | dnn cn kvs =>
    obtain ⟨xs, e, n, r⟩ := h
    exact ⟨xs, e, n, r.mono l⟩
  | exv c ds =>
    obtain ⟨dd, e, r⟩ := h
    exact ⟨dd, e, r.mono l⟩
theorem lim_hold : Lim g (hold g H) := ⟨fun a o e => by
    rw [hold_of fun i z => by rw [z] at e; cases e]
    exact e, fun a k e => by
    rw [hold_of fun i z => by rw [z] at e; cases e]
    exact e⟩
theorem mt_hold (m : Mt0 T nm K g st H) : Mt0 T nm K (hold g H) st H := by
  have sl : ∀ a t, hold g H a = some t → (∃ o, t = .held o ∧ H a = some o) ∨ g a = some t := fun a t e => by
    rcases slot_em g a with ⟨i, z⟩ | z
    · rw [hold_slot z] at e
      cases q : H a with
      | none => rw [q] at e; cases e
      | some o => rw [q] at e; exact .inl ⟨o, (Option.some.inj e).symm, rfl⟩
    · rw [hold_of z] at e
      exact .inr e
  refine ⟨fun a o e => ?_, fun a o e => ?_, fun k ob e => ?_, fun a k e => ?_, fun a b k e1 e2 => ?_, fun a t e => ?_⟩
  · rcases sl _ _ e with ⟨o', z, _⟩ | z
    · cases z
    · exact m.imm a o z
  · rcases sl _ _ e with ⟨o', z, q⟩ | z
    · cases z
      exact q
    · exact m.held a o z
  · obtain ⟨a, o, e1, e2, r⟩ := m.sto k ob e
    exact ⟨a, o, lim_hold.2 _ _ e1, e2, r.mono lim_hold⟩
  · rcases sl _ _ e with ⟨o', z, q⟩ | z
    · cases z
    · exact m.stl a k z
  · rcases sl _ _ e1 with ⟨o', z, q⟩ | z1
    · cases z
    · rcases sl _ _ e2 with ⟨o', z, q⟩ | z2
      · cases z
      · exact m.uniq a b k z1 z2
  · rcases sl _ _ e with ⟨o', z, q⟩ | z
    · exact ⟨o', q⟩
    · exact m.trk a t z
theorem le_back (m : Mt0 T nm K g st H) (l : Le (hold g H) g') : Le g (back g g') := fun a t e => by
  rcases slot_em g a with ⟨i, z⟩ | z
  · rw [z] at e
    cases e
    exact back_slot z
  · rw [back_of z]
    exact l a t (by rw [hold_of z]; exact e)
theorem held_there (m : Mt0 T nm K g st H) (l : Le (hold g H) g') {a : Addr} {i : Nat} (z : g a = some (.slot i)) : ∃ o, H a = some o ∧ g' a = some (.held o) := by
  obtain ⟨o, e⟩ := m.trk a _ z
  exact ⟨o, e, l a _ (by rw [hold_slot z, e]; rfl)⟩
theorem lim_back (m : Mt0 T nm K g st H) (l : Le (hold g H) g') : Lim g' (back g g') := ⟨fun a o e => by
    rw [back_of fun i z => by
      obtain ⟨o', _, e'⟩ := held_there m l z
      rw [e'] at e
      cases e]
    exact e, fun a k e => by
    rw [back_of fun i z => by
      obtain ⟨o', _, e'⟩ := held_there m l z
      rw [e'] at e
      cases e]
    exact e⟩
theorem mt_back (m : Mt T nm K g ρ st σ H) (l : Le (Snd.hold g H) g') (m' : Mt0 T nm K g' st' H') : Mt T nm K (back g g') ρ st' σ H' := by
  have lb := lim_back m.toMt0 l
  have sl : ∀ a t, back g g' a = some t → (∃ i, t = .slot i ∧ g a = some (.slot i)) ∨ ((∀ i, g a ≠ some (.slot i)) ∧ g' a = some t) := fun a t e => by
    rcases slot_em g a with ⟨i, z⟩ | z
    · rw [back_slot z] at e
      exact .inl ⟨i, (Option.some.inj e).symm, z⟩
    · rw [back_of z] at e
      exact .inr ⟨z, e⟩
  refine ⟨⟨fun a o e => ?_, fun a o e => ?_, fun k ob e => ?_, fun a k e => ?_, fun a b k e1 e2 => ?_, fun a t e => ?_⟩, m.len, fun i d e => ?_⟩
  · rcases sl _ _ e with ⟨i, z, _⟩ | ⟨_, z⟩
    · cases z
    · exact m'.imm a o z
  · rcases sl _ _ e with ⟨i, z, _⟩ | ⟨_, z⟩
    · cases z
    · exact m'.held a o z
  · obtain ⟨a, o, e1, e2, r⟩ := m'.sto k ob e
    exact ⟨a, o, lb.2 _ _ e1, e2, r.mono lb⟩
  · rcases sl _ _ e with ⟨i, z, _⟩ | ⟨_, z⟩
    · cases z
    · exact m'.stl a k z
  · rcases sl _ _ e1 with ⟨i, z, _⟩ | ⟨_, z1⟩
    · cases z
    · rcases sl _ _ e2 with ⟨i, z, _⟩ | ⟨_, z2⟩
      · cases z
      · exact m'.uniq a b k z1 z2
  · rcases sl _ _ e with ⟨i, z, q⟩ | ⟨_, z⟩
    · obtain ⟨o, _, h⟩ := held_there m.toMt0 l q
      exact m'.trk a _ h
    · exact m'.trk a t z
  · obtain ⟨v, e1, r⟩ := m.slots i d e
    refine ⟨v, e1, r.mono (le_back m.toMt0 l).lim fun p q => ⟨back_slot q, ?_⟩⟩
    obtain ⟨o, h1, h2⟩ := held_there m.toMt0 l q
    rw [h1]
    exact m'.held _ _ h2
theorem repR_back {d : D} {v : V} (m : Mt T nm K g ρ st σ H) (l : Le (Snd.hold g H) g') (r : RepR T nm K (Snd.hold g H) g' d v) (l0 : Le g0 g) : RepR T nm K g0 (Snd.back g g') d v := by
  have lb := lim_back m.toMt0 l
  cases d with
  | own ds =>
    obtain ⟨p, vs, e, h1, h2, h3⟩ := r
    have np : ∀ i, g p ≠ some (.slot i) := fun i z => by
      obtain ⟨o, ho⟩ := m.trk p _ z
      rw [hold_slot z, ho] at h2
      cases h2
    refine ⟨p, vs, e, by rw [Snd.back_of np]; exact h1, ?_, h3.mono lb⟩
    rw [hold_of np] at h2
    cases q : g0 p with
    | none => rfl
    | some t =>
      rw [l0 _ _ q] at h2
      cases h2
  | _ => exact Rep.mono lb r
end
section
variable (T : Tab) (nm : Nm) (K : PySem.W.Frag) (cf : Nat → List D → Sto → R D)
def OutC (g : Gh) (Q : VK) (E : XK) : R D → Prop
  | .ok d st => ∀ g' v H', Le g g' → Mt0 T nm K g' st H' → RepR T nm K g g' d v → Q v H'
  | .er x st => ∀ g' cv dd H', Le g g' → Mt0 T nm K g' st H' → XnR T nm K g' x cv dd → E cv dd H'
  | .no => False
def SP (np f : Nat) : Sp := fun vs H Q E => vs.length = np ∧ ∃ g ds st, NoSlot g ∧ Mt0 T nm K g st H ∧ Reps T nm K g ds vs ∧ OutC T nm K g Q E (cf f ds st)
def SPI (np f c : Nat) : Sp := fun vs H Q E => vs.length = np + 1 ∧ ∃ x dx g ds st ws, vs = .ref x :: ws ∧ H x = some (.ins (cad nm K c) dx []) ∧ g x = none ∧ NoSlot g ∧ Mt0 T nm K g st H ∧ Reps T nm K g ds ws ∧ (match cf f ds st with
  | .ok d st => ∀ es g' H' us, d = .ins c es → Le g g' → Mt0 T nm K g' st H' → g' x = none → H' x = some (.ins (cad nm K c) dx ((fnames T nm c).zip us)) → us.length = (fnames T nm c).length → Reps T nm K g' es us → Q .non H'
  | .er x st => ∀ g' cv dd H', Le g g' → Mt0 T nm K g' st H' → XnR T nm K g' x cv dd → E cv dd H'
  | .no => False)
end
section
variable {T : Tab} {nm : Nm} {K : PySem.W.Frag} {W : WX} {g g0 : Gh} {ρ : Rho} {σ : L2.St} {H : Hp} {st : Sto} {cf : Nat → List D → Sto → R D}
theorem sp_of {f np : Nat} {ds : List D} {vs : List V} {Q : VK} (m : Mt T nm K g ρ st σ H) (r : Reps T nm K g ds vs) (l0 : Le g0 g) (hn : vs.length = np)
    (o : Out T nm K W g0 ρ σ (fun d _ g' H' => ∀ v, RepR T nm K g0 g' d v → Q v H') (cf f ds st)) : SP T nm K cf np f vs H Q (fun cv dd H' => W cv dd σ H') := by
  refine ⟨hn, hold g H, ds, st, noSlot_hold, mt_hold m.toMt0, r.mono lim_hold, ?_⟩
  cases q : cf f ds st with
  | no =>
    rw [q] at o
    exact o.elim
  | er x st' =>
    rw [q] at o
    exact fun g' cv dd H' l m' x' => o (back g g') cv dd H' (l0.trans (le_back m.toMt0 l)) (mt_back m l m') (x'.mono (lim_back m.toMt0 l))
  | ok d st' =>
    rw [q] at o
    exact fun g' v H' l m' r' => o (back g g') H' (l0.trans (le_back m.toMt0 l)) (mt_back m l m') v (repR_back m l r' l0)
end
structure FnI (X : Core) (T : Tab) (nm : Nm) (cf : Nat → List D → Sto → R D) (k f np : Nat) : Prop where
  kp : PySem.W.keepIn X.K (.ref (fad nm X.K f)) = true
  ok : ∃ fd ps, FnOk X.prog X.w X.K X.mg X.base (L2.CX X.prog X.w) k (fad nm X.K f) fd ps (SP T nm X.K cf np f) ∧ Binds X.K fd ps [] ∧ ps.length = np
section
variable {X : Cx} {T : Tab} {nm : Nm} {W : WX} {cf : Nat → List D → Sto → R D} {pos : Pos} {k : Nat}
theorem run_call {f np : Nat} {pins : List (Addr × Obj)} {σ : L2.St} {H : Hp} {s : Shared} {Q : VK} {g g0 : Gh} {ρ : Rho} {st : Sto} {ds : List D} {vs : List V} {us : List Value} (F : FnI (co X) T nm cf k f np) (hr : Room k X.A) (tk : Takes X W)
    (I : Inv X pins σ H s) (rv : Vals vs us) (hn : vs.length = np) (m : Mt T nm X.K g ρ st σ H) (r : Reps T nm X.K g ds vs) (l0 : Le g0 g)
    (o : Out T nm X.K W g0 ρ σ (fun d _ g' H' => ∀ v, RepR T nm X.K g0 g' d v → Q v H') (cf f ds st)) : wpAny (model X.prog X.w) X.A (call (.ref (fad nm X.K f)) us) (EP X pins σ Q) X.xe s := by
  obtain ⟨fd, ps, F1, b, e⟩ := F.ok
  exact run_fnS (E := WE W) F1 hr b (passAt tk σ) I rv (sp_of m r l0 hn o)
theorem evA_len : ∀ {as : Es} {ρ : Rho} {st st' : Sto} {ds : List D}, evA T cf as ρ st = .ok ds st' → ds.length = as.len
  | .nil, ρ, st, st', ds, h => by
    unfold evA at h
    cases h
    rfl
  | .cons a as, ρ, st, st', ds, h => by
    unfold evA at h
    cases q : evE T cf a ρ st with
    | no => rw [q] at h; cases h
    | er x s => rw [q] at h; cases h
    | ok d s =>
      rw [q] at h
      have h1 : ((evA T cf as ρ s).bind fun ds st => R.ok (fz d :: ds) st) = .ok ds st' := h
      cases q1 : evA T cf as ρ s with
      | no => rw [q1] at h1; cases h1
      | er x s => rw [q1] at h1; cases h1
      | ok ds1 s1 =>
        rw [q1] at h1
        have ih := evA_len q1
        have h2 : R.ok (fz d :: ds1) s1 = .ok ds st' := h1
        cases h2
        show ds1.length + 1 = as.len + 1
        rw [ih]
theorem args_go {as : Es} {es : List Expr} {pins : List (Addr × Obj)} {σ : L2.St} {H : Hp} {s : Shared} {g : Gh} {ρ : Rho} {st : Sto} {α : Type} {P : α → Sto → Gh → Hp → Prop} {k : List D → Sto → R α} (ha : PA X es (tA T nm X.K cf W as))
    (I : Inv X pins σ H s) (m : Mt T nm X.K g ρ st σ H) (o : Out T nm X.K W g ρ σ P ((evA T cf as ρ st).bind k)) (pos : Pos) :
    wpAny (model X.prog X.w) X.A (spliced (backTo pos (starEach es X.env))) (fun us s' => ∃ vs H' ds st' g', Inv X pins σ H' s' ∧ Vals vs us ∧ Reps T nm X.K g' ds vs ∧ Le g g' ∧ ds.length = as.len ∧ Mt T nm X.K g' ρ st' σ H' ∧ Out T nm X.K W g ρ σ P (k ds st')) X.xe s := by
  have o2 : Out T nm X.K W g ρ σ (fun ds st1 g1 H1 => ∀ vs, Reps T nm X.K g1 ds vs → ∃ ds' st' g', Reps T nm X.K g' ds' vs ∧ Le g g' ∧ ds'.length = as.len ∧ Mt T nm X.K g' ρ st' σ H1 ∧ Out T nm X.K W g ρ σ P (k ds' st')) (evA T cf as ρ st) := by
    have o' := Out.bind0 o
    cases q : evA T cf as ρ st with
    | ok ds st1 =>
      rw [q] at o'
      exact fun g' H' l m' vs r => ⟨ds, st1, g', r, l, evA_len q, m', o' g' H' l m'⟩
    | er x st1 =>
      rw [q] at o'
      exact o'
    | no =>
      rw [q] at o'
      exact o'
  exact thn (ha.run pos pins s σ H _ I ⟨g, ρ, st, m, o2⟩) fun us s1 ⟨vs, H1, I1, rv, ds, st1, g1, r, l1, hn, m1, q⟩ => ⟨vs, H1, ds, st1, g1, I1, rv, r, l1, hn, m1, q⟩
theorem se_call {f np : Nat} {x : Str} {p : Pos} {e : Expr} {es : List Expr} {as : Es} (F : FnI (co X) T nm cf k f np) (hr : Room k X.A) (tk : Takes X W) (hg : Gl X x) (hm : X.mg x = some (.ref (fad nm X.K f))) (hl : as.len = np)
    (ha : PA X (e :: es) (tA T nm X.K cf W as)) (hdb : (x == ("__debug__" : Str)) = false) (he : starEach (e :: es) X.env = (false, eval e X.env) :: starEach es X.env) (hpl : (backTo pos (starEach es X.env)).any (·.1) = false) :
    PE X (.Call (.Name x p) (e :: es) [] pos) (tE T nm X.K cf W (.call f as)) := by
  refine ⟨fun pins s σ H Q I ⟨g, ρ, st, m, o⟩ => ?_⟩
  refine wpAny_Call_Name_kw (ld_glob I hg hm ?_ hdb)
  refine PySem.W.callWith_K (h₀ := X.base) I.ok.mod.kin F.kp (thn (args_go ha I m o pos) fun us s1 ⟨vs, H1, ds, st1, g1, I1, rv, r, l1, hn, m1, q⟩ => ⟨I1.kIn, ?_⟩) he hpl
  exact run_call F hr tk I1 rv (by rw [← r.len, hn, hl]) m1 r l1 q
structure MkI (X : Core) (T : Tab) (nm : Nm) (cf : Nat → List D → Sto → R D) (k c : Nat) (C : Ev.Cls) : Prop where
  made : Mk X.K (cad nm X.K c) (fad nm X.K C.init)
  ok : ∃ fd ps, FnOk X.prog X.w X.K X.mg X.base (L2.CX X.prog X.w) k (fad nm X.K C.init) fd ps (SPI T nm X.K cf C.np C.init c) ∧
    ∀ n, n + (mis C n).length = C.np → ∃ dvs ds, Binds X.K fd ps ds ∧ Vals dvs ds ∧ ∀ g, Reps T nm X.K g (mis C n) dvs
structure ClI (X : Core) (T : Tab) (nm : Nm) (cf : Nat → List D → Sto → R D) (k c : Nat) (C : Ev.Cls) : Prop where
  cl : L2.Cls X.K (cad nm X.K c)
  ta : PySem.W.findIn X.K (.ref (cad nm X.K c)) "__class__" = some (some (.builtin "object.__class__"))
  tn : PySem.W.specialIn X.K (.builtin "object.__class__") "__get__" = some (some (.builtin "getset_descriptor.__get__"))
  tt : PySem.W.takesIn X.K (.builtin "object.__class__") = some true
  tm : PySem.W.mroIn X.K (cad nm X.K c) (.type "object") = some true
  nd : (C.fields.map nm.attr).Nodup
  few : C.fields.length ≤ 100
  noat : ∀ m ∈ C.fields, NoAttr X.K (cad nm X.K c) (nm.attr m)
  mt : ∀ m f, nameOf m C.meths = some f → Meth X.K (cad nm X.K c) (nm.attr m) (fad nm X.K f) ∧ nm.attr m ∉ C.fields.map nm.attr ∧ ∃ np, FnI X T nm cf k f np ∧ ∀ ds st, ds.length ≠ np → cf f ds st = .no
  km : ∀ m f, nameOf m C.kmeths = some f → Meth X.K (cad nm X.K c) (nm.attr m) (fad nm X.K f) ∧ nm.attr m ∉ C.fields.map nm.attr
  pr : ∀ m f, nameOf m C.props = some f → (∃ p, PropOf X.K (cad nm X.K c) (nm.attr m) p (fad nm X.K f)) ∧ FnI X T nm cf k f 1
  sf : PySem.W.selfFirst X.K (cad nm X.K c) = true
  st : ∀ m f, nameOf m C.sets = some f → (∃ p a rest, PySem.W.findIn X.K (.ref (cad nm X.K c)) (nm.attr m) = some (some (.ref p)) ∧ PySem.W.takesIn X.K (.ref p) = some true ∧ PySem.W.recIn X.K p "property" = some (a :: .ref (fad nm X.K f) :: rest)) ∧ FnI X T nm cf k f 2
theorem posOf_at {m : Nat} : ∀ {l : List Nat} {j : Nat}, posOf m l = some j → l[j]? = some m
  | [], _, h => by cases h
  | x :: r, j, h => by
    by_cases e : x = m
    · have h' : (if x = m then some 0 else (posOf m r).map (· + 1)) = some j := h
      rw [if_pos e] at h'
      cases h'
      rw [e]
      rfl
    · have h' : (if x = m then some 0 else (posOf m r).map (· + 1)) = some j := h
      rw [if_neg e] at h'
      cases q : posOf m r with
      | none => rw [q] at h'; cases h'
      | some i =>
        rw [q] at h'
        cases h'
        have ih := posOf_at q
        rw [List.getElem?_cons_succ]
        exact ih
theorem lookup_zip : ∀ {ns : List Str} {vs : List V} {j : Nat} {x : Str} {v : V}, ns.Nodup → ns[j]? = some x → vs[j]? = some v → (ns.zip vs).lookup x = some v
  | [], _, _, _, _, _, h, _ => by simp at h
  | _ :: _, [], _, _, _, _, _, h => by simp at h
  | n :: ns, w :: vs, 0, x, v, _, h, h2 => by
    simp at h h2
    subst h h2
    simp [List.zip, List.lookup]
  | n :: ns, w :: vs, j + 1, x, v, nd, h, h2 => by
    have hx : ns[j]? = some x := by simpa using h
    have hne : (x == n) = false := by
      have hm : x ∈ ns := List.mem_of_getElem? hx
      exact beq_eq_false_iff_ne.mpr fun z => (List.nodup_cons.mp nd).1 (z ▸ hm)
    show (match x == n with | true => some w | false => (ns.zip vs).lookup x) = some v
    rw [hne]
    exact lookup_zip (List.nodup_cons.mp nd).2 hx (by simpa using h2)
theorem field_at {c m : Nat} {C : Ev.Cls} {ds : List D} {vs : List V} {d : D} {g : Gh} (hC : T.cls c = some C) (nd : (C.fields.map nm.attr).Nodup) (r : Reps T nm X.K g ds vs) (h : fieldD T c m ds = some d) :
    ∃ v, ((fnames T nm c).zip vs).lookup (nm.attr m) = some v ∧ Rep T nm X.K g d v ∧ m ∈ C.fields := by
  unfold fieldD at h
  rw [hC] at h
  have h1 : (posOf m C.fields).bind (fun j => ds[j]?) = some d := h
  cases q : posOf m C.fields with
  | none => rw [q] at h1; cases h1
  | some j =>
    rw [q] at h1
    have h2 : ds[j]? = some d := h1
    have h3 := posOf_at q
    obtain ⟨v, e, rv⟩ := r.at h2
    refine ⟨v, ?_, rv, List.mem_of_getElem? h3⟩
    unfold fnames
    rw [hC]
    exact lookup_zip nd (by rw [List.getElem?_map, h3]; rfl) e
theorem LkR.obj {c : Nat} {ds : List D} {v : V} {g : Gh} {ρ : Rho} {σ : L2.St} {H : Hp} {st : Sto} (h : LkR T nm X.K g ρ σ (.obj c ds) v) (m : Mt T nm X.K g ρ st σ H) :
    ∃ p dx vs, v = .ref p ∧ H p = some (.ins (cad nm X.K c) dx ((fnames T nm c).zip vs)) ∧ vs.length = ds.length ∧ Reps T nm X.K g ds vs := by
  rcases h with ⟨i, h1, h2⟩ | h
  · obtain ⟨w, e, p, dx, vs, ⟨_, ew⟩, _, hp, hl, _, r⟩ := m.slots i _ h1
    rw [h2] at e
    cases e
    exact ⟨p, dx, vs, ew, hp, hl, r⟩
  · cases h
theorem Rep.plain {d : D} {v : V} {g : Gh} (h : Rep T nm X.K g d v) : Snd.plain d = true := by
  cases h <;> rfl
theorem clsI_some {c : Nat} {C : Ev.Cls} (h : clsI T c = some C) : T.cls c = some C ∧ C.exc = false := by
  unfold clsI at h
  cases q : T.cls c with
  | none => rw [q] at h; cases h
  | some C' =>
    rw [q] at h
    have h1 : (if C'.exc then none else some C') = some C := h
    by_cases e : C'.exc = true
    · rw [if_pos e] at h1
      cases h1
    · rw [if_neg e] at h1
      cases h1
      exact ⟨rfl, by simpa using e⟩
theorem look_go {a : E} {e : Expr} {pins : List (Addr × Obj)} {σ : L2.St} {H : Hp} {s : Shared} {g0 g : Gh} {ρ : Rho} {st : Sto} {α : Type} {P : α → Sto → Gh → Hp → Prop} {kk : D → Sto → R α} (ha : PE X e (tB T nm X.K cf W a)) (I : Inv X pins σ H s) (m : Mt T nm X.K g ρ st σ H) (l0 : Le g0 g)
    (o : Out T nm X.K W g0 ρ σ P ((bor a ρ st (evE T cf a ρ st)).bind kk)) :
    wpAny (model X.prog X.w) X.A (eval e X.env) (fun u s' => ∃ v H' d st' g', Inv X pins σ H' s' ∧ RelV v u ∧ Le g g' ∧ Mt T nm X.K g' ρ st' σ H' ∧ LkR T nm X.K g' ρ σ d v ∧ Out T nm X.K W g0 ρ σ P (kk d st')) X.xe s :=
  thn (ha.run pins s σ H (fun v H1 => ∃ d st1 g1, Le g g1 ∧ Mt T nm X.K g1 ρ st1 σ H1 ∧ LkR T nm X.K g1 ρ σ d v ∧ Out T nm X.K W g0 ρ σ P (kk d st1)) I
    ⟨g, ρ, st, m, Out.imp ((Out.bind0 o).le l0) fun d st1 g1 H1 l1 m1 q v r => ⟨d, st1, g1, l1, m1, r, q⟩⟩) fun u s1 ⟨v, H1, I1, rv, d, st1, g1, l1, m1, lk, q⟩ => ⟨v, H1, d, st1, g1, I1, rv, l1, m1, lk, q⟩
theorem val_go {a : E} {e : Expr} {pins : List (Addr × Obj)} {σ : L2.St} {H : Hp} {s : Shared} {g0 g : Gh} {ρ : Rho} {st : Sto} {α : Type} {P : α → Sto → Gh → Hp → Prop} {kk : D → Sto → R α} (ha : PE X e (tE T nm X.K cf W a)) (I : Inv X pins σ H s) (m : Mt T nm X.K g ρ st σ H) (l0 : Le g0 g)
    (o : Out T nm X.K W g0 ρ σ P ((evE T cf a ρ st).bind kk)) :
    wpAny (model X.prog X.w) X.A (eval e X.env) (fun u s' => ∃ v H' d st' g', Inv X pins σ H' s' ∧ RelV v u ∧ Le g g' ∧ Mt T nm X.K g' ρ st' σ H' ∧ RepR T nm X.K g g' d v ∧ Out T nm X.K W g0 ρ σ P (kk d st')) X.xe s :=
  thn (ha.run pins s σ H (fun v H1 => ∃ d st1 g1, Le g g1 ∧ Mt T nm X.K g1 ρ st1 σ H1 ∧ RepR T nm X.K g g1 d v ∧ Out T nm X.K W g0 ρ σ P (kk d st1)) I
    ⟨g, ρ, st, m, Out.imp ((Out.bind0 o).le l0) fun d st1 g1 H1 l1 m1 q v r => ⟨d, st1, g1, l1, m1, r, q⟩⟩) fun u s1 ⟨v, H1, I1, rv, d, st1, g1, l1, m1, lk, q⟩ => ⟨v, H1, d, st1, g1, I1, rv, l1, m1, lk, q⟩
def opOf : BO → Operator
  | .add => .Add | .sub => .Sub | .mul => .Mult | .fdv => .FloorDiv | .mod => .Mod | .pow => .Pow | .band => .BitAnd | .shr => .RShift
def copOf : CO → CmpOp
  | .eq => .Eq | .ne => .NotEq | .lt => .Lt | .le => .LtE | .gt => .Gt | .ge => .GtE | .is_ => .Is | .isn => .IsNot | .in_ => .In | .nin => .NotIn
theorem LkR.int {i : Int} {v : V} {g : Gh} {ρ : Rho} {σ : L2.St} {H : Hp} {st : Sto} (h : LkR T nm X.K g ρ σ (.int i) v) (m : Mt T nm X.K g ρ st σ H) : v = .int i := by
  cases h.rep m rfl
  rfl
theorem LkR.bl {i : Bool} {v : V} {g : Gh} {ρ : Rho} {σ : L2.St} {H : Hp} {st : Sto} (h : LkR T nm X.K g ρ σ (.bl i) v) (m : Mt T nm X.K g ρ st σ H) : v = .bl i := by
  cases h.rep m rfl
  rfl
theorem LkR.non {v : V} {g : Gh} {ρ : Rho} {σ : L2.St} {H : Hp} {st : Sto} (h : LkR T nm X.K g ρ σ .non v) (m : Mt T nm X.K g ρ st σ H) : v = .non := by
  cases h.rep m rfl
  rfl
theorem LkR.str {s : List Nat} {v : V} {g : Gh} {ρ : Rho} {σ : L2.St} {H : Hp} {st : Sto} (h : LkR T nm X.K g ρ σ (.str s) v) (m : Mt T nm X.K g ρ st σ H) : v = .str (strOf s) := by
  cases h.rep m rfl
  rfl
theorem small_ok {i : Int} (h : small i = true) : -(2 ^ 64) < i ∧ i < 2 ^ 64 := by
  unfold small at h
  rw [Bool.and_eq_true, decide_eq_true_iff, decide_eq_true_iff] at h
  have e : (2 : Int) ^ 64 = 18446744073709551616 := by decide
  rw [e]
  exact h
theorem small_nat {i : Int} (h : small i = true) : i.natAbs < 2 ^ 64 := by
  obtain ⟨a, b⟩ := small_ok h
  have e : (2 : Int) ^ 64 = 18446744073709551616 := by decide
  have e2 : (2 : Nat) ^ 64 = 18446744073709551616 := by decide
  rw [e] at a b
  rw [e2]
  omega
theorem op_mulG : OpR X (binaryOp .Mult) (rI (fun i j => mulOk i j = true) fun i j => .int (i * j)) := fun pins s σ H x y v u Q I rx ry ⟨i, j, ex, ey, h, q⟩ => by
  have h' : (small i || small j || decide (i.natAbs.log2 + j.natAbs.log2 < 1000000)) = true := h
  rw [Bool.or_eq_true, Bool.or_eq_true, decide_eq_true_iff] at h'
  replace h := h'
  rcases h with (h | h) | h
  · exact op_mul pins s σ H x y v u Q I rx ry ⟨i, j, ex, ey, .inl (small_ok h), q⟩
  · exact op_mul pins s σ H x y v u Q I rx ry ⟨i, j, ex, ey, .inr (small_ok h), q⟩
  · exact op_mulW pins s σ H x y v u Q I rx ry ⟨i, j, ex, ey, h, q⟩
theorem op_fdivG : OpR X (binaryOp .FloorDiv) (rI (fun _ j => divOk j = true) fun i j => .int (i.fdiv j)) := opI fun i j _ _ _ _ _ hc q => by
  unfold divOk at hc
  rw [Bool.and_eq_true, decide_eq_true_iff, decide_eq_true_iff] at hc
  exact floordiv_int hc.1 q (.inl (PyProof.noPylong_of_log2 hc.2))
theorem line_le {n : Nat} (h : n ≤ LINE) : n ≤ sizeLine := Nat.le_trans h (by decide)
theorem line_lt {n : Nat} (h : n < LINE) : n < sizeLine := Nat.lt_of_lt_of_le h (by decide)
theorem flat_out {g0 g : Gh} {ρ : Rho} {σ : L2.St} {H : Hp} {st : Sto} {Q : VK} {d : D} {v : V} (o : Out T nm X.K W g0 ρ σ (fun d _ g' H' => ∀ v, RepR T nm X.K g0 g' d v → Q v H') (.ok d st)) (l : Le g0 g) (m : Mt T nm X.K g ρ st σ H) (r : Rep T nm X.K g d v) : Q v H :=
  (o.le l).ok m v (RepR.plain r r.plain)
def InsOps (X : Cx) (T : Tab) (nm : Nm) (W : WX) (cf : Nat → List D → Sto → R D) : Prop :=
  ∀ (op : BO) (pins : List (Addr × Obj)) (s : Shared) (σ : L2.St) (H : Hp) (g0 g : Gh) (ρ : Rho) (st : Sto) (d e : D) (x y : V) (u w : Value) (Q : VK), ((∃ c ds, d = .ins c ds) ∨ ∃ i c ds, d = .int i ∧ e = .ins c ds) →
    Inv X pins σ H s → Mt T nm X.K g ρ st σ H → LkR T nm X.K g ρ σ d x → LkR T nm X.K g ρ σ e y → RelV x u → RelV y w → Le g0 g →
    Out T nm X.K W g0 ρ σ (fun d _ g' H' => ∀ v, RepR T nm X.K g0 g' d v → Q v H') (binE T cf op d e st) → wpAny (model X.prog X.w) X.A (binaryOp (opOf op) u w) (EP X pins σ Q) X.xe s
theorem Reps.flat {g : Gh} {ds : List D} {vs : List V} (r : Reps T nm X.K g ds vs) : ∀ n : Nat, Reps T nm X.K g (List.replicate n ds).flatten (List.replicate n vs).flatten
  | 0 => .nil
  | n + 1 => by
    rw [List.replicate_succ, List.replicate_succ, List.flatten_cons, List.flatten_cons]
    exact r.append (Reps.flat r n)
theorem tup_bin {op : BO} {pins : List (Addr × Obj)} {s : Shared} {σ : L2.St} {H : Hp} {g0 g : Gh} {ρ : Rho} {st : Sto} {ds : List D} {e : D} {x y : V} {u w : Value} {Q : VK}
    (I : Inv X pins σ H s) (m : Mt T nm X.K g ρ st σ H) (ld : LkR T nm X.K g ρ σ (.tup ds) x) (le : LkR T nm X.K g ρ σ e y) (rx : RelV x u) (ry : RelV y w) (l0 : Le g0 g)
    (o : Out T nm X.K W g0 ρ σ (fun d _ g' H' => ∀ v, RepR T nm X.K g0 g' d v → Q v H') (R.of (binD op (.tup ds) e) st)) : wpAny (model X.prog X.w) X.A (binaryOp (opOf op) u w) (EP X pins σ Q) X.xe s := by
  have sq : ∀ {p : Addr} {vs : List V}, SqT X.K (imH g) p vs → SqT X.K H p vs := fun h => same_seqT (fun a o z => m.imm a o (of_imH z)) h
  cases ld.rep m rfl with
  | @tup p _ vs h1 r1 =>
    have new : ∀ {es : List D} {ws : List V}, Reps T nm X.K g es ws → Out T nm X.K W g0 ρ σ (fun d _ g' H' => ∀ v, RepR T nm X.K g0 g' d v → Q v H') (.ok (.tup es) st) → ∀ q, H q = none → Q (.ref q) (upd H q (.tup ws)) := fun {es ws} rr o' q hq => by
      have lp : Le g (put g q (.imm (.tup ws))) := le_put (m.fresh hq)
      exact o' _ _ (l0.trans lp) (m.new hq (.inl rfl)) (.ref q) (.tup (SqT.of (imH_of put_same)) (rr.mono lp.lim))
    cases e with
    | tup es =>
      cases op with
      | add =>
        cases le.rep m rfl with
        | @tup p2 _ vs2 h2 r2 =>
          have o' : Out T nm X.K W g0 ρ σ (fun d _ g' H' => ∀ v, RepR T nm X.K g0 g' d v → Q v H') (R.of (if ds.length + es.length ≤ LINE then some (.tup (ds ++ es)) else none) st) := o
          by_cases h : ds.length + es.length ≤ LINE
          · rw [if_pos h] at o'
            refine op_catA pins s σ H _ _ u w Q I rx ry ⟨p, p2, vs, vs2, rfl, rfl, sq h1, sq h2, by rw [← r1.len, ← r2.len]; exact line_le h, fun z => ?_, fun _ z => ?_, fun _ _ => new (r1.append r2) o'⟩
            · have z' : ds = [] := List.eq_nil_of_length_eq_zero (by rw [r1.len, z]; rfl)
              rw [z', List.nil_append] at o'
              exact (o'.le l0).ok m _ (.tup h2 r2)
            · have z' : es = [] := List.eq_nil_of_length_eq_zero (by rw [r2.len, z]; rfl)
              rw [z', List.append_nil] at o'
              exact (o'.le l0).ok m _ (.tup h1 r1)
          · rw [if_neg h] at o'
            exact o'.elim
      | _ => exact o.elim
    | int n =>
      cases op with
      | mul =>
        have o' : Out T nm X.K W g0 ρ σ (fun d _ g' H' => ∀ v, RepR T nm X.K g0 g' d v → Q v H') (R.of (if ds.isEmpty = false ∧ -1000 ≤ n ∧ n ≤ 1000 ∧ ds.length ≤ 1000 then some (.tup (List.replicate n.toNat ds).flatten) else none) st) := o
        by_cases h : ds.isEmpty = false ∧ -1000 ≤ n ∧ n ≤ 1000 ∧ ds.length ≤ 1000
        · rw [if_pos h] at o'
          refine op_tm pins s σ H _ _ u w Q I rx ry ⟨p, n, vs, rfl, le.int m, sq h1, fun z => ?_, h.2.1, h.2.2.1, by rw [← r1.len]; exact h.2.2.2, fun z => ?_, fun _ => new (r1.flat _) o'⟩
          · have z' : ds = [] := List.eq_nil_of_length_eq_zero (by rw [r1.len, z]; rfl)
            rw [z'] at h
            cases h.1
          · subst z
            rw [show (1 : Int).toNat = 1 from rfl, show (List.replicate 1 ds).flatten = ds by simp] at o'
            exact (o'.le l0).ok m _ (.tup h1 r1)
        · rw [if_neg h] at o'
          exact o'.elim
      | _ => exact o.elim
    | _ => cases op <;> exact o.elim
theorem flat_bin {op : BO} {pins : List (Addr × Obj)} {s : Shared} {σ : L2.St} {H : Hp} {g0 g : Gh} {ρ : Rho} {st : Sto} {d e : D} {x y : V} {u w : Value} {Q : VK}
    (I : Inv X pins σ H s) (m : Mt T nm X.K g ρ st σ H) (ld : LkR T nm X.K g ρ σ d x) (le : LkR T nm X.K g ρ σ e y) (rx : RelV x u) (ry : RelV y w) (l0 : Le g0 g)
    (o : Out T nm X.K W g0 ρ σ (fun d _ g' H' => ∀ v, RepR T nm X.K g0 g' d v → Q v H') (R.of (binD op d e) st)) : wpAny (model X.prog X.w) X.A (binaryOp (opOf op) u w) (EP X pins σ Q) X.xe s := by
  cases d with
  | int i =>
    have ex := ld.int m
    cases e with
    | int j =>
      have ey := le.int m
      cases op with
      | add => exact op_add pins s σ H x y u w Q I rx ry ⟨i, j, ex, ey, flat_out o l0 m (.int _)⟩
      | sub => exact op_sub pins s σ H x y u w Q I rx ry ⟨i, j, ex, ey, flat_out o l0 m (.int _)⟩
      | mul =>
        have o' : Out T nm X.K W g0 ρ σ (fun d _ g' H' => ∀ v, RepR T nm X.K g0 g' d v → Q v H') (R.of (if mulOk i j then some (.int (i * j)) else none) st) := o
        by_cases h : mulOk i j = true
        · rw [if_pos h] at o'
          exact op_mulG pins s σ H x y u w Q I rx ry ⟨i, j, ex, ey, h, flat_out o' l0 m (.int _)⟩
        · rw [if_neg h] at o'
          exact o'.elim
      | fdv =>
        have o' : Out T nm X.K W g0 ρ σ (fun d _ g' H' => ∀ v, RepR T nm X.K g0 g' d v → Q v H') (R.of (if divOk j then some (.int (i.fdiv j)) else none) st) := o
        by_cases h : divOk j = true
        · rw [if_pos h] at o'
          exact op_fdivG pins s σ H x y u w Q I rx ry ⟨i, j, ex, ey, h, flat_out o' l0 m (.int _)⟩
        · rw [if_neg h] at o'
          exact o'.elim
      | mod =>
        have o' : Out T nm X.K W g0 ρ σ (fun d _ g' H' => ∀ v, RepR T nm X.K g0 g' d v → Q v H') (R.of (if j ≠ 0 then some (.int (i.fmod j)) else none) st) := o
        by_cases h : j ≠ 0
        · rw [if_pos h] at o'
          exact op_modN pins s σ H x y u w Q I rx ry ⟨i, j, ex, ey, h, flat_out o' l0 m (.int _)⟩
        · rw [if_neg h] at o'
          exact o'.elim
      | pow =>
        have o' : Out T nm X.K W g0 ρ σ (fun d _ g' H' => ∀ v, RepR T nm X.K g0 g' d v → Q v H') (R.of (if 0 ≤ j ∧ j ≤ 1000000 ∧ small i then some (.int (i ^ j.toNat)) else none) st) := o
        by_cases h : 0 ≤ j ∧ j ≤ 1000000 ∧ small i = true
        · rw [if_pos h] at o'
          exact op_pow pins s σ H x y u w Q I rx ry ⟨i, j, ex, ey, ⟨h.1, h.2.1, small_nat h.2.2⟩, flat_out o' l0 m (.int _)⟩
        · rw [if_neg h] at o'
          exact o'.elim
      | band =>
        have o' : Out T nm X.K W g0 ρ σ (fun d _ g' H' => ∀ v, RepR T nm X.K g0 g' d v → Q v H') (R.of (if 0 ≤ i ∧ j = 1 then some (.int (i.fmod 2)) else none) st) := o
        by_cases h : 0 ≤ i ∧ j = 1
        · rw [if_pos h] at o'
          exact op_odd1 pins s σ H x y u w Q I rx ry ⟨i, j, ex, ey, h, flat_out o' l0 m (.int _)⟩
        · rw [if_neg h] at o'
          exact o'.elim
      | shr =>
        have o' : Out T nm X.K W g0 ρ σ (fun d _ g' H' => ∀ v, RepR T nm X.K g0 g' d v → Q v H') (R.of (if 0 ≤ j ∧ j ≤ 1000 then some (.int (i / 2 ^ j.toNat)) else none) st) := o
        by_cases h : 0 ≤ j ∧ j ≤ 1000
        · rw [if_pos h] at o'
          exact op_shr pins s σ H x y u w Q I rx ry ⟨i, j, ex, ey, h.1, flat_out o' l0 m (.int _)⟩
        · rw [if_neg h] at o'
          exact o'.elim
    | _ => cases op <;> exact o.elim
  | tup ds => exact tup_bin I m ld le rx ry l0 o
  | str a =>
    have ex := ld.str m
    cases e with
    | str b =>
      have ey := le.str m
      cases op with
      | add =>
        have o' : Out T nm X.K W g0 ρ σ (fun d _ g' H' => ∀ v, RepR T nm X.K g0 g' d v → Q v H') (R.of (if a.length + b.length ≤ LINE then some (.str (a ++ b)) else none) st) := o
        by_cases h : a.length + b.length ≤ LINE
        · rw [if_pos h] at o'
          refine op_add_str pins s σ H x y u w Q I rx ry ⟨_, _, ex, ey, by rw [strOf_len, strOf_len]; exact line_le h, ?_⟩
          rw [strOf_app]
          exact flat_out o' l0 m (.str _)
        · rw [if_neg h] at o'
          exact o'.elim
      | _ => exact o.elim
    | _ => cases op <;> exact o.elim
  | _ => cases op <;> exact o.elim
theorem row_bin {op : BO} {pins : List (Addr × Obj)} {s : Shared} {σ : L2.St} {H : Hp} {g0 g : Gh} {ρ : Rho} {st : Sto} {d e : D} {x y : V} {u w : Value} {Q : VK}
    (I : Inv X pins σ H s) (m : Mt T nm X.K g ρ st σ H) (ld : LkR T nm X.K g ρ σ d x) (le : LkR T nm X.K g ρ σ e y) (rx : RelV x u) (ry : RelV y w) (l0 : Le g0 g)
    (o : Out T nm X.K W g0 ρ σ (fun d _ g' H' => ∀ v, RepR T nm X.K g0 g' d v → Q v H') (match rowB op d e st with
      | some ds => .ok (.own ds) st
      | none => .no)) : wpAny (model X.prog X.w) X.A (binaryOp (opOf op) u w) (EP X pins σ Q) X.xe s := by
  cases h : lstS st d with
  | none =>
    have z : rowB op d e st = none := by
      unfold rowB
      cases op <;> simp [h]
    rw [z] at o
    exact o.elim
  | some xs =>
    obtain ⟨p, vs, ex, hp, r⟩ := lstS_ok ld m h
    cases op with
    | add =>
      cases h2 : lstS st e with
      | none =>
        have z : rowB .add d e st = none := by simp [rowB, h, h2]
        rw [z] at o
        exact o.elim
      | some ys =>
        obtain ⟨p2, vs2, ey, hp2, r2⟩ := lstS_ok le m h2
        by_cases hl : xs.length + ys.length ≤ LINE
        · have z : rowB .add d e st = some (xs ++ ys) := by simp [rowB, h, h2, hl]
          rw [z] at o
          exact op_cat pins s σ H x y u w Q I rx ry ⟨p, p2, vs, vs2, ex, ey, hp, hp2, by rw [← r.len, ← r2.len]; exact line_le hl, fun q hq => new_own l0 m (r.append r2) o hq⟩
        · have z : rowB .add d e st = none := by simp [rowB, h, h2, hl]
          rw [z] at o
          exact o.elim
    | mul =>
      cases e with
      | int n =>
        by_cases hl : -1000 ≤ n ∧ n ≤ 1000 ∧ xs.length ≤ 1000
        · have z : rowB .mul d (.int n) st = some (List.replicate n.toNat xs).flatten := by simp [rowB, h, hl]
          rw [z] at o
          refine op_rep pins s σ H x y u w Q I rx ry ⟨p, n, vs, ex, le.int m, hp, by omega, by omega, ?_, fun q hq => new_own l0 m (r.flat _) o hq⟩
          rw [← r.len]
          have h1 : n.toNat ≤ 1000 := by omega
          have h2 : xs.length * n.toNat ≤ 1000 * 1000 := Nat.mul_le_mul hl.2.2 h1
          exact Nat.le_trans h2 (by decide)
        · have z : rowB .mul d (.int n) st = none := by simp [rowB, h, hl]
          rw [z] at o
          exact o.elim
      | _ =>
        have z : ∀ e, (∀ n, e ≠ .int n) → rowB .mul d e st = none := fun e hn => by
          unfold rowB
          rw [h]
          cases e <;> first | rfl | exact absurd rfl (hn _)
        rw [z _ (by intro n q; cases q)] at o
        exact o.elim
    | _ =>
      exact (show False from by
        have z : ∀ op, op ≠ BO.add → op ≠ BO.mul → rowB op d e st = none := fun op h1 h2 => by
          cases op <;> first | exact absurd rfl h1 | exact absurd rfl h2 | rfl
        rw [z _ (by intro q; cases q) (by intro q; cases q)] at o
        exact o).elim
theorem bin_ok {op : BO} {pins : List (Addr × Obj)} {s : Shared} {σ : L2.St} {H : Hp} {g0 g : Gh} {ρ : Rho} {st : Sto} {d e : D} {x y : V} {u w : Value} {Q : VK} (hi : InsOps X T nm W cf)
    (I : Inv X pins σ H s) (m : Mt T nm X.K g ρ st σ H) (ld : LkR T nm X.K g ρ σ d x) (le : LkR T nm X.K g ρ σ e y) (rx : RelV x u) (ry : RelV y w) (l0 : Le g0 g)
    (o : Out T nm X.K W g0 ρ σ (fun d _ g' H' => ∀ v, RepR T nm X.K g0 g' d v → Q v H') (binE T cf op d e st)) : wpAny (model X.prog X.w) X.A (binaryOp (opOf op) u w) (EP X pins σ Q) X.xe s := by
  cases d with
  | ins c ds => exact hi op pins s σ H g0 g ρ st _ e x y u w Q (.inl ⟨c, ds, rfl⟩) I m ld le rx ry l0 o
  | int i =>
    cases e with
    | ins c ds => exact hi op pins s σ H g0 g ρ st _ _ x y u w Q (.inr ⟨i, c, ds, rfl, rfl⟩) I m ld le rx ry l0 o
    | _ => exact flat_bin I m ld le rx ry l0 o
  | lst ds => exact row_bin I m ld le rx ry l0 o
  | own ds => exact row_bin I m ld le rx ry l0 o
  | ref r => exact row_bin I m ld le rx ry l0 o
  | _ => exact flat_bin I m ld le rx ry l0 o
theorem se_bin {op : BO} {e1 e2 : Expr} {a b : E} (hi : InsOps X T nm W cf) (ha : PE X e1 (tB T nm X.K cf W a)) (hb : PE X e2 (tB T nm X.K cf W b)) : PE X (.BinOp e1 (opOf op) e2 pos) (tE T nm X.K cf W (.bin op a b)) := by
  refine ⟨fun pins s σ H Q I ⟨g, ρ, st, m, o⟩ => ?_⟩
  refine wpAny_BinOp (thn (look_go ha I m (Le.refl g) o) fun u s1 ⟨v, H1, d, st1, g1, I1, rv, l1, m1, lk, q⟩ => ?_)
  refine thn (look_go hb I1 m1 l1 q) fun w s2 ⟨y, H2, e, st2, g2, I2, rw2, l2, m2, lk2, q2⟩ => ?_
  exact bin_ok hi I2 m2 (lk.le l2) lk2 rv rw2 (l1.trans l2) q2
theorem eqF_ok {d e : D} {x y : V} {b : Bool} {g : Gh} {K : PySem.W.Frag} (rd : Rep T nm K g d x) (re : Rep T nm K g e y) (h : eqF d e = some b) : scal x y = true ∧ decide (x = y) = b := by
  cases rd <;> cases re <;> first
    | (cases h; done)
    | (cases h; exact ⟨rfl, rfl⟩)
    | (cases h; refine ⟨rfl, ?_⟩; simp [strOf_inj])
theorem eqF_plain {d e : D} {b : Bool} (h : eqF d e = some b) : plain d = true ∧ plain e = true := by
  cases d <;> cases e <;> first | exact ⟨rfl, rfl⟩ | cases h
def InsCmp (X : Cx) (T : Tab) (nm : Nm) (W : WX) (cf : Nat → List D → Sto → R D) : Prop :=
  X.A.units + 1 < cLine ∧ ∀ (op : CO) (pins : List (Addr × Obj)) (s : Shared) (σ : L2.St) (H : Hp) (g0 g : Gh) (ρ : Rho) (st : Sto) (d e : D) (x y : V) (u w : Value) (Q : Bool → Hp → Prop), spec op d e = true →
    Inv X pins σ H s → Mt T nm X.K g ρ st σ H → LkR T nm X.K g ρ σ d x → LkR T nm X.K g ρ σ e y → RelV x u → RelV y w → Le g0 g →
    Out T nm X.K W g0 ρ σ (fun b _ _ H' => Q b H') (cmpS T cf op d e st) → wpAny (model X.prog X.w) X.A (compareOp (copOf op) u w) (EP X pins σ fun v H' => ∃ b, v = .bl b ∧ Q b H') X.xe s
theorem isNon_ok {d : D} {x : V} {g : Gh} {ρ : Rho} {σ : L2.St} {H : Hp} {st : Sto} (h : LkR T nm X.K g ρ σ d x) (m : Mt T nm X.K g ρ st σ H) : decide (x = .non) = isNon d := by
  cases d with
  | own ds =>
    obtain ⟨p, vs, e, _⟩ := h.own m
    rw [e]
    rfl
  | obj c ds =>
    obtain ⟨p, dx, vs, e, _⟩ := h.obj m
    rw [e]
    rfl
  | exc c ds =>
    rcases h with ⟨i, h1, h2⟩ | h
    · obtain ⟨w, e, a', cv, dd, h3, h4, _⟩ := m.slots i _ h1
      rw [h2] at e
      cases e
      rw [h4]
      rfl
    · cases h
  | _ => cases h.rep m rfl <;> rfl
theorem seqOf_ok {d : D} {ds : List D} {x : V} {g : Gh} {ρ : Rho} {σ : L2.St} {H : Hp} {st : Sto} (h : LkR T nm X.K g ρ σ d x) (m : Mt T nm X.K g ρ st σ H) (e : seqOf d = some ds) :
    ∃ p vs, x = .ref p ∧ (SqL X.K H p vs ∨ SqT X.K H p vs) ∧ Reps T nm X.K g ds vs := by
  cases d with
  | own es =>
    cases e
    obtain ⟨p, vs, e, hp, r⟩ := h.own m
    exact ⟨p, vs, e, .inl (.of hp), r⟩
  | lst es =>
    cases e
    cases h.rep m rfl with
    | lst s r => exact ⟨_, _, rfl, .inl (.of (m.imm _ _ s)), r⟩
  | tup es =>
    cases e
    cases h.rep m rfl with
    | tup s r => exact ⟨_, _, rfl, .inr (same_seqT (fun a o e => m.imm a o (of_imH e)) s), r⟩
  | _ => cases e
theorem leaf_V {d e : D} {v w : V} {g : Gh} (rd : Rep T nm X.K g d v) (re : Rep T nm X.K g e w) (p : noBl d = true) (q : noBl e = true) : flatV v = true ∧ eqV v w = leafEq d e := by
  cases rd <;> first | (cases p; done) | (cases re <;> first | (cases q; done) | exact ⟨rfl, rfl⟩ | (refine ⟨rfl, ?_⟩; simp [eqV, leafEq, strOf_inj, Bool.beq_eq_decide_eq]))
theorem leaf_Vs {e : D} {w : V} {g : Gh} (re : Rep T nm X.K g e w) (q : noBl e = true) : ∀ {ds : List D} {vs : List V}, Reps T nm X.K g ds vs → ds.all noBl = true → vs.all flatV = true ∧ (vs.any fun y => eqV y w) = ds.any fun d => leafEq d e
  | _, _, .nil, _ => ⟨rfl, rfl⟩
  | _, _, .cons r t, h => by
    rw [List.all_cons, Bool.and_eq_true] at h
    obtain ⟨h1, h2⟩ := leaf_V r re h.1 q
    obtain ⟨h3, h4⟩ := leaf_Vs re q t h.2
    exact ⟨by rw [List.all_cons, h1, h3]; rfl, by rw [List.any_cons, List.any_cons, h2, h4]⟩
theorem noBl_plain {d : D} (h : noBl d = true) : plain d = true := by
  cases d <;> first | rfl | cases h
theorem inF_ok {d e : D} {x y : V} {b : Bool} {g : Gh} {ρ : Rho} {σ : L2.St} {H : Hp} {st : Sto} (ld : LkR T nm X.K g ρ σ d x) (le : LkR T nm X.K g ρ σ e y) (m : Mt T nm X.K g ρ st σ H) (h : (seqOf e).bind (inF d) = some b) :
    ∃ p vs, y = .ref p ∧ (SqL X.K H p vs ∨ SqT X.K H p vs) ∧ flatV x = true ∧ vs.all flatV = true ∧ inV x vs = b := by
  cases h1 : seqOf e with
  | none => rw [h1] at h; cases h
  | some ds =>
    rw [h1] at h
    have h2 : (if (noBl d && ds.all noBl) = true then some (ds.any fun z => leafEq z d) else none) = some b := h
    by_cases c : (noBl d && ds.all noBl) = true
    · rw [if_pos c] at h2
      cases h2
      rw [Bool.and_eq_true] at c
      obtain ⟨p, vs, ey, hs, r⟩ := seqOf_ok le m h1
      have rd := ld.rep m (noBl_plain c.1)
      obtain ⟨f2, f3⟩ := leaf_Vs rd c.1 r c.2
      exact ⟨p, vs, ey, hs, (leaf_V rd rd c.1 c.1).1, f2, f3⟩
    · rw [if_neg c] at h2
      cases h2
theorem flat_cmp {op : CO} {pins : List (Addr × Obj)} {s : Shared} {σ : L2.St} {H : Hp} {g0 g : Gh} {ρ : Rho} {st : Sto} {d e : D} {x y : V} {u w : Value} {Q : Bool → Hp → Prop}
    (I : Inv X pins σ H s) (m : Mt T nm X.K g ρ st σ H) (ld : LkR T nm X.K g ρ σ d x) (le : LkR T nm X.K g ρ σ e y) (rx : RelV x u) (ry : RelV y w) (l0 : Le g0 g)
    (o : Out T nm X.K W g0 ρ σ (fun b _ _ H' => Q b H') (R.of (cmpD op d e) st)) : wpAny (model X.prog X.w) X.A (compareOp (copOf op) u w) (EP X pins σ fun v H' => ∃ b, v = .bl b ∧ Q b H') X.xe s := by
  obtain ⟨b, e1, q⟩ := Out.of (o.le l0) m
  cases op with
  | eq =>
    have h : eqF d e = some b := e1
    obtain ⟨p1, p2⟩ := eqF_plain h
    obtain ⟨h1, h2⟩ := eqF_ok (ld.rep m p1) (le.rep m p2) h
    exact op_eq pins s σ H x y u w _ I rx ry ⟨h1, _, by rw [h2], q⟩
  | ne =>
    cases h : eqF d e with
    | none =>
      have e2 : (eqF d e).map (!·) = some b := e1
      rw [h] at e2
      cases e2
    | some k =>
      have e2 : (eqF d e).map (!·) = some b := e1
      rw [h] at e2
      cases e2
      obtain ⟨p1, p2⟩ := eqF_plain h
      obtain ⟨h1, h2⟩ := eqF_ok (ld.rep m p1) (le.rep m p2) h
      exact op_ne pins s σ H x y u w _ I rx ry ⟨h1, _, by rw [h2], q⟩
  | lt =>
    cases d <;> cases e <;> first | (cases e1; done) | (cases e1; exact op_lt pins s σ H x y u w _ I rx ry ⟨_, _, ld.int m, le.int m, _, rfl, q⟩)
  | le =>
    cases d <;> cases e <;> first | (cases e1; done) | (cases e1; exact op_le pins s σ H x y u w _ I rx ry ⟨_, _, ld.int m, le.int m, _, rfl, q⟩)
  | gt =>
    cases d <;> cases e <;> first | (cases e1; done) | (cases e1; exact op_gt pins s σ H x y u w _ I rx ry ⟨_, _, ld.int m, le.int m, _, rfl, q⟩)
  | ge =>
    cases d <;> cases e <;> first | (cases e1; done) | (cases e1; exact op_ge pins s σ H x y u w _ I rx ry ⟨_, _, ld.int m, le.int m, _, rfl, q⟩)
  | is_ =>
    cases e with
    | non =>
      have e2 : some (isNon d) = some b := by cases d <;> exact e1
      cases e2
      rw [le.non m] at ry
      exact op_isN pins s σ H x .non u w _ I rx ry ⟨rfl, _, by rw [isNon_ok ld m], q⟩
    | bl k =>
      cases d with
      | bl j =>
        cases e1
        exact op_isBl pins s σ H x y u w _ I rx ry ⟨_, _, ld.bl m, le.bl m, _, rfl, q⟩
      | _ => cases e1
    | _ => cases d <;> cases e1
  | isn =>
    cases e with
    | non =>
      have e2 : some (!isNon d) = some b := by cases d <;> exact e1
      cases e2
      rw [le.non m] at ry
      exact op_notN pins s σ H x .non u w _ I rx ry ⟨rfl, _, by rw [isNon_ok ld m], q⟩
    | bl k =>
      cases d with
      | bl j =>
        cases e1
        exact op_notBl pins s σ H x y u w _ I rx ry ⟨_, _, ld.bl m, le.bl m, _, rfl, q⟩
      | _ => cases e1
    | _ => cases d <;> cases e1
  | in_ =>
    have e2 : (seqOf e).bind (inF d) = some b := by cases d <;> cases e <;> exact e1
    obtain ⟨p, vs, ey, hs, f1, f2, f3⟩ := inF_ok ld le m e2
    exact op_in_seq pins s σ H x y u w _ I rx ry ⟨p, vs, ey, hs, f1, f2, _, by rw [f3]; rfl, q⟩
  | nin =>
    cases h : (seqOf e).bind (inF d) with
    | none =>
      have e2 : ((seqOf e).bind (inF d)).map (!·) = some b := by cases d <;> cases e <;> exact e1
      rw [h] at e2
      cases e2
    | some k =>
      have e2 : ((seqOf e).bind (inF d)).map (!·) = some b := by cases d <;> cases e <;> exact e1
      rw [h] at e2
      cases e2
      obtain ⟨p, vs, ey, hs, f1, f2, f3⟩ := inF_ok ld le m h
      exact op_notIn_seq pins s σ H x y u w _ I rx ry ⟨p, vs, ey, hs, f1, f2, _, by rw [f3]; rfl, q⟩
theorem sto_dct {r : Nat} {kvs : List (D × D)} {x : V} {g : Gh} {ρ : Rho} {σ : L2.St} {H : Hp} {st : Sto} (h : LkR T nm X.K g ρ σ (.ref r) x) (m : Mt T nm X.K g ρ st σ H) (e : st[r]? = some (.dct kvs)) : ∃ p kws, x = .ref p ∧ g p = some (.sto r) ∧ H p = some (.dK kws) ∧ KvR T nm X.K g kvs kws := by
  cases h.rep m rfl with
  | @ref p _ gp =>
    obtain ⟨a, o, ga, ha, kws, eo, rr⟩ := m.sto r _ e
    have z := m.uniq _ _ _ ga gp
    subst z
    subst eo
    exact ⟨a, kws, rfl, gp, ha, rr⟩
theorem key_is {k : D} (h : isKey k = true) {v : V} {g : Gh} {ρ : Rho} {σ : L2.St} {H : Hp} {st : Sto} (l : LkR T nm X.K g ρ σ k v) (m : Mt T nm X.K g ρ st σ H) : ∃ q, keyOf k = some q ∧ v = kV q := by
  cases k with
  | int i => exact ⟨_, rfl, l.int m⟩
  | str z => exact ⟨_, rfl, l.str m⟩
  | _ => cases h
theorem keyOf_eq {a b : D} {p q : Key} (h1 : keyOf a = some p) (h2 : keyOf b = some q) : keyEq a b = decide (p = q) := by
  cases a <;> first | (cases h1; done) | skip
  all_goals (cases b <;> first | (cases h2; done) | skip)
  all_goals (cases h1; cases h2; simp [keyEq, strOf_inj])
theorem kv_get {g : Gh} {k : D} {q : Key} (hk : keyOf k = some q) : ∀ {kvs : List (D × D)} {kws : List (Key × V)}, KvR T nm X.K g kvs kws → (match dGet kvs k with
    | some d => ∃ v, valV kws q = some v ∧ Rep T nm X.K g d v
    | none => valV kws q = none)
  | [], [], _ => rfl
  | p :: r, t :: ts, ⟨h1, h2, h3⟩ => by
    have ih := kv_get hk h3
    have e := keyOf_eq h1 hk
    by_cases z : t.1 = q
    · have e1 : keyEq p.1 k = true := by rw [e]; simpa using z
      have e2 : dGet (p :: r) k = some p.2 := by simp [dGet, List.find?_cons, e1]
      rw [e2]
      exact ⟨t.2, valV_pos z, h2⟩
    · have e1 : keyEq p.1 k = false := by rw [e]; simpa using z
      have e2 : dGet (p :: r) k = dGet r k := by simp [dGet, List.find?_cons, e1]
      rw [e2, valV_neg z]
      exact ih
  | [], _ :: _, h => h.elim
  | _ :: _, [], h => h.elim
theorem cmp_ok {op : CO} {pins : List (Addr × Obj)} {s : Shared} {σ : L2.St} {H : Hp} {g0 g : Gh} {ρ : Rho} {st : Sto} {d e : D} {x y : V} {u w : Value} {Q : Bool → Hp → Prop} (hi : InsCmp X T nm W cf)
    (I : Inv X pins σ H s) (m : Mt T nm X.K g ρ st σ H) (ld : LkR T nm X.K g ρ σ d x) (le : LkR T nm X.K g ρ σ e y) (rx : RelV x u) (ry : RelV y w) (l0 : Le g0 g)
    (o : Out T nm X.K W g0 ρ σ (fun b _ _ H' => Q b H') (cmpE T cf op d e st)) : wpAny (model X.prog X.w) X.A (compareOp (copOf op) u w) (EP X pins σ fun v H' => ∃ b, v = .bl b ∧ Q b H') X.xe s := by
  unfold cmpE at o
  by_cases hs : spec op d e = true
  · rw [if_pos hs] at o
    exact hi.2 op pins s σ H g0 g ρ st d e x y u w Q hs I m ld le rx ry l0 o
  · rw [if_neg hs] at o
    cases e with
    | ref r =>
      cases h1 : st[r]? with
      | none => simp only [h1] at o; exact o.elim
      | some ob =>
        cases ob with
        | dct kvs =>
          simp only [h1] at o
          obtain ⟨b, e1, q⟩ := Out.of (o.le l0) m
          unfold inD at e1
          by_cases hk : isKey d = true
          · rw [if_pos hk] at e1
            obtain ⟨p, kws, ey, _, hp, rr⟩ := sto_dct le m h1
            obtain ⟨kk, k1, k2⟩ := key_is hk ld m
            subst ey
            have g1 := kv_get k1 rr
            have hd : DGet H p x (valV kws kk) := by rw [k2]; exact DGet.k hp
            have hsome : (valV kws kk).isSome = (dGet kvs d).isSome := by
              cases h3 : dGet kvs d with
              | none => rw [h3] at g1; rw [g1]; rfl
              | some dd => rw [h3] at g1; obtain ⟨v, g2, _⟩ := g1; rw [g2]; rfl
            obtain rfl : w = Value.ref p := ry
            cases op with
            | in_ =>
              cases e1
              exact d_in hi.1 I hd rx fun s' I' => ⟨.bl _, H, I', rfl, _, rfl, by rw [hsome]; exact q⟩
            | nin =>
              cases e1
              exact d_notIn hi.1 I hd rx fun s' I' => ⟨.bl _, H, I', rfl, _, rfl, by rw [hsome]; exact q⟩
            | _ => cases e1
          · rw [if_neg hk] at e1
            cases e1
        | dtt kvs => simp only [h1] at o; exact o.elim
        | dnn cn kvs => simp only [h1] at o; exact o.elim
        | exv c es => simp only [h1] at o; exact o.elim
        | lst ds =>
          simp only [h1] at o
          obtain ⟨p, vs, ey, _, hp, rr⟩ := sto_lst le m h1
          cases op with
          | in_ =>
            obtain ⟨b, e1, q⟩ := Out.of (o.le l0) m
            have e2 : inF d ds = some b := by cases d <;> exact e1
            unfold inF at e2
            by_cases hb : (noBl d && ds.all noBl) = true
            · rw [if_pos hb] at e2
              cases e2
              obtain ⟨b1, b2⟩ := Bool.and_eq_true_iff.mp hb
              have rd := ld.rep m (noBl_plain b1)
              obtain ⟨f1, f2⟩ := leaf_Vs rd b1 rr b2
              exact op_in_seq pins s σ H x y u w _ I rx ry ⟨p, vs, ey, .inl (.of hp), (leaf_V rd rd b1 b1).1, f1, _, by rw [show inV x vs = _ from f2]; rfl, q⟩
            · rw [if_neg hb] at e2
              cases e2
          | nin =>
            obtain ⟨b, e1, q⟩ := Out.of (o.le l0) m
            have e2 : (inF d ds).map (!·) = some b := by cases d <;> exact e1
            unfold inF at e2
            by_cases hb : (noBl d && ds.all noBl) = true
            · rw [if_pos hb] at e2
              cases e2
              obtain ⟨b1, b2⟩ := Bool.and_eq_true_iff.mp hb
              have rd := ld.rep m (noBl_plain b1)
              obtain ⟨f1, f2⟩ := leaf_Vs rd b1 rr b2
              exact op_notIn_seq pins s σ H x y u w _ I rx ry ⟨p, vs, ey, .inl (.of hp), (leaf_V rd rd b1 b1).1, f1, _, by rw [show inV x vs = _ from f2]; rfl, q⟩
            · rw [if_neg hb] at e2
              cases e2
          | _ =>
            obtain ⟨b, e1, q⟩ := Out.of (o.le l0) m
            cases d <;> cases e1
        | ins c es => simp only [h1] at o; exact o.elim
    | _ => exact flat_cmp I m ld le rx ry l0 o
theorem cop_mark (b : Expr) (op : CO) (hb : ∀ es k p, b ≠ .Set es k p) : behindInMarks (copOf op) b = false := by
  cases b <;> first | rfl | exact absurd rfl (hb _ _ _)
theorem se_cmp {op : CO} {e1 e2 : Expr} {a b : E} (hi : InsCmp X T nm W cf) (ha : PE X e1 (tB T nm X.K cf W a)) (hb : PE X e2 (tB T nm X.K cf W b)) (hs : ∀ es k p, e2 ≠ .Set es k p) : PE X (.Compare e1 [copOf op] [e2] pos) (tE T nm X.K cf W (.cmp op a b)) := by
  refine ⟨fun pins s σ H Q I ⟨g, ρ, st, m, o⟩ => ?_⟩
  refine wpAny_Compare1 (thn (look_go ha I m (Le.refl g) o) fun u s1 ⟨v, H1, d, st1, g1, I1, rv, l1, m1, lk, q⟩ => ?_) (cop_mark e2 op hs)
  refine thn (look_go hb I1 m1 l1 q) fun w s2 ⟨y, H2, e, st2, g2, I2, rw2, l2, m2, lk2, q2⟩ => ?_
  refine thn (cmp_ok (g0 := g) (Q := fun b H' => ∀ v, v = V.bl b → Q v H') hi I2 m2 (lk.le l2) lk2 rv rw2 (l1.trans l2) (Out.imp (Out.bind0 q2) fun b st3 g3 H3 l3 m3 q3 v e => by
    subst e
    exact flat_out q3 l3 m3 (.bl b))) fun c s3 ⟨z, H3, I3, r3, k, ez, q3⟩ => ⟨z, H3, I3, r3, q3 z ez⟩
theorem st_cmp {op : CO} {e1 e2 : Expr} {a b : E} (hi : InsCmp X T nm W cf) (ha : PE X e1 (tB T nm X.K cf W a)) (hb : PE X e2 (tB T nm X.K cf W b)) (hs : ∀ es k p, e2 ≠ .Set es k p) : PT X (.Compare e1 [copOf op] [e2] pos) (tT T nm X.K cf W (.e (.cmp op a b))) := by
  refine ⟨fun pins s σ H Q I ⟨g, ρ, st, m, o⟩ => ?_⟩
  have o1 : Out T nm X.K W g ρ σ (fun b _ _ H' => Q b H') ((bor a ρ st (evE T cf a ρ st)).bind fun x st => (bor b ρ st (evE T cf b ρ st)).bind fun y st => cmpE T cf op x y st) := by
    have e : ∀ r : R D, (((r.bind fun x st => (bor b ρ st (evE T cf b ρ st)).bind fun y st => (cmpE T cf op x y st).bind fun k st => R.ok (D.bl k) st)).bind fun d st => R.of (truthS st d) st) = r.bind fun x st => (bor b ρ st (evE T cf b ρ st)).bind fun y st => cmpE T cf op x y st := fun r => by
      cases r with
      | ok x st1 =>
        show (((bor b ρ st1 (evE T cf b ρ st1)).bind fun y st => (cmpE T cf op x y st).bind fun k st => R.ok (D.bl k) st).bind fun d st => R.of (truthS st d) st) = _
        show _ = (bor b ρ st1 (evE T cf b ρ st1)).bind fun y st => cmpE T cf op x y st
        cases bor b ρ st1 (evE T cf b ρ st1) with
        | ok y st2 =>
          show (((cmpE T cf op x y st2).bind fun k st => R.ok (D.bl k) st).bind fun d st => R.of (truthS st d) st) = cmpE T cf op x y st2
          cases cmpE T cf op x y st2 <;> rfl
        | er x st2 => rfl
        | no => rfl
      | er x st1 => rfl
      | no => rfl
    have o' : Out T nm X.K W g ρ σ (fun b _ _ H' => Q b H') (((bor a ρ st (evE T cf a ρ st)).bind fun x st => (bor b ρ st (evE T cf b ρ st)).bind fun y st => (cmpE T cf op x y st).bind fun k st => R.ok (D.bl k) st).bind fun d st => R.of (truthS st d) st) := o
    rw [e] at o'
    exact o'
  refine wpAny_isTrue_Compare1 (thn (look_go ha I m (Le.refl g) o1) fun u s1 ⟨v, H1, d, st1, g1, I1, rv, l1, m1, lk, q⟩ => ?_) (cop_mark e2 op hs)
  refine thn (look_go hb I1 m1 l1 q) fun w s2 ⟨y, H2, e, st2, g2, I2, rw2, l2, m2, lk2, q2⟩ => ?_
  refine thn (cmp_ok hi I2 m2 (lk.le l2) lk2 rv rw2 (l1.trans l2) q2) fun c s3 ⟨z, H3, I3, r3, k, ez, q3⟩ => ?_
  subst ez
  cases r3
  exact wpAny_truthy_bool ⟨H3, I3, q3⟩
def kdV (nm : Nm) (K : PySem.W.Frag) : Kd → Value
  | .int => .type "int" | .bool => .type "bool" | .str => .type "str" | .non => .type "NoneType" | .tuple => .type "tuple" | .list => .type "list" | .dict => .type "dict"
  | .ins c => .ref (cad nm K c) | .exc c => .ref (cad nm K c)
def tyV (nm : Nm) (K : PySem.W.Frag) : TY → Value
  | .int => .type "int" | .bool => .type "bool" | .str => .type "str" | .tuple => .type "tuple" | .list => .type "list" | .dict => .type "dict" | .verr => .type "ValueError"
  | .cls c => .ref (cad nm K c)
def tyW (nm : Nm) (K : PySem.W.Frag) : TY → V
  | .int => .ty "int" | .bool => .ty "bool" | .str => .ty "str" | .tuple => .ty "tuple" | .list => .ty "list" | .dict => .ty "dict" | .verr => .ty "ValueError"
  | .cls c => .ref (cad nm K c)
def Kit (X : Core) (T : Tab) (nm : Nm) : Prop := ∀ k t b, T.isi.contains t = true → kdIs T k t = some b → PySem.W.kitOne X.K (kdV nm X.K k) (tyV nm X.K t) = some b
theorem ixN_eq (n : Nat) (i : Int) : Ev.ixN n i = L2.ixN n i := rfl
theorem atI_rep {g : Gh} {ds : List D} {vs : List V} {i : Int} {d : D} (r : Reps T nm X.K g ds vs) (h : Ev.atI ds i = some d) : ∃ v, L2.atI vs i = some v ∧ Rep T nm X.K g d v := by
  unfold Ev.atI at h
  unfold L2.atI
  rw [← r.len]
  cases q : Ev.ixN ds.length i with
  | none => rw [q] at h; cases h
  | some j =>
    rw [q] at h
    obtain ⟨v, e, rv⟩ := r.at (show ds[j]? = some d from h)
    rw [← ixN_eq, q]
    exact ⟨v, e, rv⟩
theorem atI_map {α β : Type} (f : α → β) (xs : List α) (i : Int) : L2.atI (xs.map f) i = (Ev.atI xs i).map f := by
  unfold L2.atI Ev.atI
  rw [List.length_map, ← ixN_eq]
  cases Ev.ixN xs.length i with
  | none => rfl
  | some j =>
    show (xs.map f)[j]? = _
    rw [List.getElem?_map]
    rfl
theorem atI_nats (s : List Nat) (i : Int) : L2.atI s i = Ev.atI s i := rfl
def InsIx (X : Cx) (T : Tab) (nm : Nm) (W : WX) (cf : Nat → List D → Sto → R D) : Prop :=
  X.A.units + 1 < cLine ∧ ∀ (value slice : Expr) (pins : List (Addr × Obj)) (s : Shared) (σ : L2.St) (H : Hp) (g0 g : Gh) (ρ : Rho) (st : Sto) (c : Nat) (ds : List D) (e : D) (x y : V) (u w : Value) (Q : VK), (∀ l h p, slice ≠ .Slice l h none p) →
    Inv X pins σ H s → Mt T nm X.K g ρ st σ H → LkR T nm X.K g ρ σ (.ins c ds) x → Rep T nm X.K g e y → RelV x u → RelV y w → Le g0 g →
    Out T nm X.K W g0 ρ σ (fun d _ g' H' => ∀ v, RepR T nm X.K g0 g' d v → Q v H') (ixE T cf (.ins c ds) e st) → wpAny (model X.prog X.w) X.A (subscriptTail value slice u w) (EP X pins σ Q) X.xe s
theorem ix_dct {value slice : Expr} {pins : List (Addr × Obj)} {s : Shared} {σ : L2.St} {H : Hp} {a : Addr} {y v : V} {w : Value} {Q : VK} (hu : X.A.units + 1 < cLine) (I : Inv X pins σ H s) (hd : DGet H a y (some v)) (ry : RelV y w) (hs : subscripted slice false (.ref a) w = operate [.ref a, w] (getItem (.ref a) w)) (q : Q v H) :
    wpAny (model X.prog X.w) X.A (subscriptTail value slice (.ref a) w) (EP X pins σ Q) X.xe s := by
  have hT := dict_typeIs I hd
  unfold subscriptTail
  refine wpAny_bind ?_
  rw [getitemInPython_of_ne hT.not_modules]
  refine wpAny_bind (wpAny_specialOf hT PySem.F.slot_dict_getitem.lookup ?_)
  have h2 : wpAny (model X.prog X.w) X.A (getItem (.ref a) w) (EP X pins σ Q) X.xe s := d_getItem hu I hd ry fun w' s3 I3 rw' => ⟨v, H, I3, rw', q⟩
  have fin : wpAny (model X.prog X.w) X.A (subscripted slice false (.ref a) w) (fun r s₃ => wpAny (model X.prog X.w) X.A (letTemporaryGo value (.ref a) r >>= fun _ => pure r) (EP X pins σ Q) X.xe s₃) X.xe s := by
    rw [hs]
    exact wpAny_operating (wpAny_mono h2 (fun r s₃ h₃ => wpAny_bind (wpAny_letTemporaryGo (wpAny_pure h₃))) fun _ _ x => x)
  first
    | exact wpAny_pure (wpAny_bind fin)
    | exact wpAny_bind (wpAny_pure (wpAny_bind fin))
    | exact wpAny_bind fin
theorem ix_sto {value slice : Expr} {pins : List (Addr × Obj)} {s : Shared} {σ : L2.St} {H : Hp} {g0 g g1 : Gh} {ρ : Rho} {st : Sto} {r : Nat} {e : D} {x y : V} {u w : Value} {Q : VK} (hu : X.A.units + 1 < cLine)
    (I : Inv X pins σ H s) (m : Mt T nm X.K g ρ st σ H) (ld : LkR T nm X.K g ρ σ (.ref r) x) (le : RepR T nm X.K g1 g e y) (rx : RelV x u) (ry : RelV y w) (l0 : Le g0 g) (hs : subscripted slice false u w = operate [u, w] (getItem u w))
    (o : Out T nm X.K W g0 ρ σ (fun d _ g' H' => ∀ v, RepR T nm X.K g0 g' d v → Q v H') (match st[r]? with
      | some (.lst ds) => (match e with
        | .int k => R.of (Ev.atI ds k) st
        | _ => .no)
      | some (.dct kvs) => if isKey e then R.of (dGet kvs e) st else .no
      | _ => .no)) : wpAny (model X.prog X.w) X.A (subscriptTail value slice u w) (EP X pins σ Q) X.xe s := by
  cases h1 : st[r]? with
  | none => simp only [h1] at o; exact o.elim
  | some ob =>
    cases ob with
    | lst ds =>
      simp only [h1] at o
      cases e with
      | int i =>
        have ey : y = .int i := by cases le; rfl
        obtain ⟨d, h, q⟩ := Out.of (o.le l0) m
        obtain ⟨p, vs, ex, gp, hp, rr⟩ := sto_lst ld m h1
        obtain ⟨v, e2, rv⟩ := atI_rep rr h
        exact ix_list value slice pins s σ H _ y u w Q I rx ry ⟨_, _, i, v, ex, ey, .of hp, e2, q v (RepR.plain rv rv.plain)⟩ hs
      | _ => exact o.elim
    | dct kvs =>
      simp only [h1] at o
      by_cases hk : isKey e = true
      · rw [if_pos hk] at o
        obtain ⟨d, h, q⟩ := Out.of (o.le l0) m
        obtain ⟨p, kws, ex, gp, hp, rr⟩ := sto_dct ld m h1
        have lk : LkR T nm X.K g ρ σ e y := .of_rep le
        obtain ⟨kk, k1, k2⟩ := key_is hk lk m
        have gg := kv_get k1 rr
        rw [h] at gg
        obtain ⟨v, g2, rv⟩ := gg
        subst ex
        obtain rfl : u = Value.ref p := rx
        have hd : DGet H p y (some v) := by rw [k2, ← g2]; exact DGet.k hp
        exact ix_dct hu I hd ry hs (q v (RepR.plain rv rv.plain))
      · rw [if_neg hk] at o
        exact o.elim
    | ins c es => simp only [h1] at o; exact o.elim
    | dtt es => simp only [h1] at o; exact o.elim
    | dnn cn es => simp only [h1] at o; exact o.elim
    | exv c es => simp only [h1] at o; exact o.elim
theorem ix_ok {value slice : Expr} {pins : List (Addr × Obj)} {s : Shared} {σ : L2.St} {H : Hp} {g0 g g1 : Gh} {ρ : Rho} {st : Sto} {d e : D} {x y : V} {u w : Value} {Q : VK} (hi : InsIx X T nm W cf) (hsl : ∀ l h p, slice ≠ .Slice l h none p)
    (I : Inv X pins σ H s) (m : Mt T nm X.K g ρ st σ H) (ld : LkR T nm X.K g ρ σ d x) (le : RepR T nm X.K g1 g e y) (rx : RelV x u) (ry : RelV y w) (l0 : Le g0 g) (hs : subscripted slice false u w = operate [u, w] (getItem u w))
    (o : Out T nm X.K W g0 ρ σ (fun d _ g' H' => ∀ v, RepR T nm X.K g0 g' d v → Q v H') (ixE T cf d e st)) : wpAny (model X.prog X.w) X.A (subscriptTail value slice u w) (EP X pins σ Q) X.xe s := by
  cases e with
  | int i =>
    have ey : y = .int i := by cases le; rfl
    cases d with
    | tup ds =>
      obtain ⟨d, h, q⟩ := Out.of (o.le l0) m
      cases ld.rep m rfl with
      | tup sq r =>
        obtain ⟨v, e2, rv⟩ := atI_rep r h
        exact ix_tup value slice pins s σ H _ y u w Q I rx ry ⟨_, _, i, v, rfl, ey, same_seqT (fun a o e => m.imm a o (of_imH e)) sq, e2, q v (RepR.plain rv rv.plain)⟩ hs
    | lst ds =>
      obtain ⟨d, h, q⟩ := Out.of (o.le l0) m
      cases ld.rep m rfl with
      | lst sq r =>
        obtain ⟨v, e2, rv⟩ := atI_rep r h
        exact ix_list value slice pins s σ H _ y u w Q I rx ry ⟨_, _, i, v, rfl, ey, .of (m.imm _ _ sq), e2, q v (RepR.plain rv rv.plain)⟩ hs
    | own ds =>
      obtain ⟨d, h, q⟩ := Out.of (o.le l0) m
      obtain ⟨p, vs, ex, hp, r⟩ := ld.own m
      obtain ⟨v, e2, rv⟩ := atI_rep r h
      exact ix_list value slice pins s σ H _ y u w Q I rx ry ⟨_, _, i, v, ex, ey, .of hp, e2, q v (RepR.plain rv rv.plain)⟩ hs
    | scr ns =>
      obtain ⟨d, h, q⟩ := Out.of (o.le l0) m
      cases ld.rep m rfl with
      | scr sq =>
        cases h' : Ev.atI ns i with
        | none => rw [h'] at h; cases h
        | some n =>
          rw [h'] at h
          cases h
          exact ix_list value slice pins s σ H _ y u w Q I rx ry ⟨_, _, i, .int n, rfl, ey, Same.seq (fun a o e => m.imm a o (of_imH e)) sq, by rw [atI_map, h']; rfl, q _ (.int n)⟩ hs
    | str z =>
      have o' : Out T nm X.K W g0 ρ σ (fun d _ g' H' => ∀ v, RepR T nm X.K g0 g' d v → Q v H') (if z.length ≤ LINE then R.of ((Ev.atI z i).map fun c => D.str [c]) st else .no) := o
      by_cases hl : z.length ≤ LINE
      · rw [if_pos hl] at o'
        obtain ⟨d, h, q⟩ := Out.of (o'.le l0) m
        cases h' : Ev.atI z i with
        | none => rw [h'] at h; cases h
        | some c =>
          rw [h'] at h
          cases h
          exact ix_str value slice pins s σ H _ y u w Q I rx ry ⟨_, i, c, ld.str m, ey, by rw [strOf_len]; exact line_le hl, by rw [strOf_cps, atI_nats, h'], q _ (.str [c])⟩ hs
      · rw [if_neg hl] at o'
        exact o'.elim
    | ref r => exact ix_sto hi.1 I m ld le rx ry l0 hs o
    | ins c ds =>
      cases le with
      | int i => exact hi.2 value slice pins s σ H g0 g ρ st c ds _ x _ u w Q hsl I m ld (.int i) rx ry l0 o
    | _ => exact o.elim
  | own es =>
    cases d with
    | ref r => exact ix_sto hi.1 I m ld le rx ry l0 hs o
    | _ => exact o.elim
  | _ =>
    cases d with
    | ins c ds => exact hi.2 value slice pins s σ H g0 g ρ st c ds _ x _ u w Q hsl I m ld le rx ry l0 o
    | ref r => exact ix_sto hi.1 I m ld le rx ry l0 hs o
    | _ => exact o.elim
theorem se_ix {e1 e2 : Expr} {a b : E} (hi : InsIx X T nm W cf) (ha : PE X e1 (tB T nm X.K cf W a)) (hb : PE X e2 (tE T nm X.K cf W b)) (hs : ∀ l h p, e2 ≠ .Slice l h none p) : PE X (.Subscript e1 e2 pos) (tE T nm X.K cf W (.ix a b)) := by
  refine ⟨fun pins s σ H Q I ⟨g, ρ, st, m, o⟩ => ?_⟩
  refine Subscript_ (thn (look_go ha I m (Le.refl g) o) fun u s1 ⟨v, H1, d, st1, g1, I1, rv, l1, m1, lk, q⟩ => ?_)
  refine thn (val_go hb I1 m1 l1 q) fun w s2 ⟨y, H2, e, st2, g2, I2, rw2, l2, m2, rr, q2⟩ => ?_
  exact ix_ok hi hs I2 m2 (lk.le l2) rr rv rw2 (l1.trans l2) (by cases e2 <;> first | rfl | (rename_i l h z p; cases z <;> first | rfl | exact absurd rfl (hs _ _ _))) q2
theorem bi_no {b : BI} {ds : List D} {st : Sto} (h : ds.length ≠ 1) (hb : b = .len ∨ b = .int ∨ b = .list ∨ b = .tuple ∨ b = .sum ∨ b = .sorted ∨ b = .abs ∨ b = .str ∨ b = .min1 ∨ b = .max1) : biE T cf b ds st = .no := by
  match ds, h with
  | [], _ => rcases hb with rfl | rfl | rfl | rfl | rfl | rfl | rfl | rfl | rfl | rfl <;> rfl
  | [_], h => exact absurd rfl h
  | d :: e :: r, _ => rcases hb with rfl | rfl | rfl | rfl | rfl | rfl | rfl | rfl | rfl | rfl <;> (cases d <;> rfl)
def InsLen (X : Cx) (T : Tab) (nm : Nm) (W : WX) (cf : Nat → List D → Sto → R D) : Prop :=
  ∀ (pins : List (Addr × Obj)) (s : Shared) (σ : L2.St) (H : Hp) (g0 g : Gh) (ρ : Rho) (st : Sto) (c : Nat) (ds : List D) (x : V) (u : Value) (Q : VK),
    Inv X pins σ H s → Mt T nm X.K g ρ st σ H → LkR T nm X.K g ρ σ (.ins c ds) x → RelV x u → Le g0 g →
    Out T nm X.K W g0 ρ σ (fun d _ g' H' => ∀ v, RepR T nm X.K g0 g' d v → Q v H') (biE T cf .len [.ins c ds] st) → wpAny (model X.prog X.w) X.A (call (.builtin "len") [u]) (EP X pins σ Q) X.xe s
theorem bi_len {pins : List (Addr × Obj)} {s : Shared} {σ : L2.St} {H : Hp} {g0 g : Gh} {ρ : Rho} {st : Sto} {ds : List D} {vs : List V} {us : List Value} {Q : VK} (hi : InsLen X T nm W cf) (I : Inv X pins σ H s) (m : Mt T nm X.K g ρ st σ H) (l : LkRs T nm X.K g ρ σ ds vs) (rv : Vals vs us) (l0 : Le g0 g)
    (o : Out T nm X.K W g0 ρ σ (fun d _ g' H' => ∀ v, RepR T nm X.K g0 g' d v → Q v H') (biE T cf .len ds st)) : wpAny (model X.prog X.w) X.A (call (.builtin "len") us) (EP X pins σ Q) X.xe s := by
  match ds, vs, l with
  | [], [], _ => rw [bi_no (by decide) (.inl rfl)] at o; exact o.elim
  | _ :: _ :: _, _ :: _ :: _, _ => rw [bi_no (by simp) (.inl rfl)] at o; exact o.elim
  | [d], [v], ⟨lk, _⟩ =>
    have ru := rv
    match us, ru with
    | [u], .cons ru .nil =>
    cases d with
    | ins c es => exact hi pins s σ H g0 g ρ st c es v u Q I m lk ru l0 o
    | tup ds =>
      refine call_len pins s σ H _ _ Q I rv ⟨v, ?_⟩
      cases lk.rep m rfl with
      | tup sq r => exact ⟨_, rfl, .inr ⟨_, same_seqT (fun a o e => m.imm a o (of_imH e)) sq, rfl⟩, by rw [← r.len]; exact flat_out o l0 m (.int _)⟩
    | lst ds =>
      refine call_len pins s σ H _ _ Q I rv ⟨v, ?_⟩
      cases lk.rep m rfl with
      | lst sq r => exact ⟨_, rfl, .inl ⟨_, .of (m.imm _ _ sq), rfl⟩, by rw [← r.len]; exact flat_out o l0 m (.int _)⟩
    | own ds =>
      refine call_len pins s σ H _ _ Q I rv ⟨v, ?_⟩
      obtain ⟨p, vs, ex, hp, r⟩ := lk.own m
      subst ex
      exact ⟨_, rfl, .inl ⟨_, .of hp, rfl⟩, by rw [← r.len]; exact flat_out o l0 m (.int _)⟩
    | scr ns =>
      refine call_len pins s σ H _ _ Q I rv ⟨v, ?_⟩
      cases lk.rep m rfl with
      | scr sq =>
        refine ⟨_, rfl, .inl ⟨_, Same.seq (fun a o e => m.imm a o (of_imH e)) sq, rfl⟩, ?_⟩
        rw [List.length_map]
        exact flat_out o l0 m (.int _)
    | str z =>
      refine call_len pins s σ H _ _ Q I rv ⟨v, ?_⟩
      have o' : Out T nm X.K W g0 ρ σ (fun d _ g' H' => ∀ v, RepR T nm X.K g0 g' d v → Q v H') (R.of (if z.length ≤ LINE then some (.int z.length) else none) st) := o
      by_cases hl : z.length ≤ LINE
      · rw [if_pos hl] at o'
        refine ⟨_, rfl, ?_, flat_out o' l0 m (.int _)⟩
        rw [lk.str m]
        exact ⟨by rw [strOf_len]; exact line_le hl, by rw [strOf_len]⟩
      · rw [if_neg hl] at o'
        exact o'.elim
    | ref r =>
      cases h1 : st[r]? with
      | none =>
        simp only [biE, h1] at o
        exact o.elim
      | some ob =>
        cases ob with
        | lst ds =>
          simp only [biE, h1] at o
          obtain ⟨p, vs, ex, gp, hp, rr⟩ := sto_lst lk m h1
          subst ex
          refine call_len pins s σ H _ _ Q I rv ⟨.ref p, ?_⟩
          exact ⟨_, rfl, .inl ⟨_, .of hp, rfl⟩, by rw [← rr.len]; exact flat_out o l0 m (.int _)⟩
        | ins c ds =>
          simp only [biE, h1] at o
          exact o.elim
        | dtt ds =>
          simp only [biE, h1] at o
          exact o.elim
        | dnn cn ds =>
          simp only [biE, h1] at o
          exact o.elim
        | exv c ds =>
          simp only [biE, h1] at o
          exact o.elim
        | dct kvs =>
          simp only [biE, h1] at o
          obtain ⟨p, kws, ex, gp, hp, rr⟩ := sto_dct lk m h1
          subst ex
          cases (show u = Value.ref p from ru)
          have hl : ∀ {kvs : List (D × D)} {kws : List (Key × V)}, KvR T nm X.K g kvs kws → kws.length = kvs.length := fun {kvs kws} rr => by
            induction kvs generalizing kws with
            | nil => cases kws with
              | nil => rfl
              | cons _ _ => exact rr.elim
            | cons q qs ih => cases kws with
              | nil => exact rr.elim
              | cons t ts => simp only [List.length_cons]; rw [ih rr.2.2]
          exact d_len I (.inl hp) fun t s' I' => ⟨.int kws.length, H, I', ⟨t, rfl⟩, by rw [hl rr]; exact flat_out o l0 m (.int _)⟩
    | _ => exact o.elim
theorem bi_int {pins : List (Addr × Obj)} {s : Shared} {σ : L2.St} {H : Hp} {g0 g : Gh} {ρ : Rho} {st : Sto} {ds : List D} {vs : List V} {us : List Value} {Q : VK} (I : Inv X pins σ H s) (m : Mt T nm X.K g ρ st σ H) (l : LkRs T nm X.K g ρ σ ds vs) (rv : Vals vs us) (l0 : Le g0 g)
    (o : Out T nm X.K W g0 ρ σ (fun d _ g' H' => ∀ v, RepR T nm X.K g0 g' d v → Q v H') (biE T cf .int ds st)) : wpAny (model X.prog X.w) X.A (call (.type "int") us) (EP X pins σ Q) X.xe s := by
  match ds, vs, l with
  | [], [], _ => rw [bi_no (by decide) (.inr (.inl rfl))] at o; exact o.elim
  | _ :: _ :: _, _ :: _ :: _, _ => rw [bi_no (by simp) (.inr (.inl rfl))] at o; exact o.elim
  | [d], [v], ⟨lk, _⟩ =>
    refine call_int1 pins s σ H _ us Q I rv ?_
    cases d with
    | int i => exact .inl ⟨i, by rw [lk.int m], flat_out o l0 m (.int _)⟩
    | bl b => exact .inr ⟨b, by rw [lk.bl m], flat_out o l0 m (.int _)⟩
    | ref r =>
      cases h1 : st[r]? with
      | none => simp only [biE, h1] at o; exact o.elim
      | some ob => cases ob <;> (simp only [biE, h1] at o; exact o.elim)
    | _ => exact o.elim
theorem biE_seq {b : BI} {d : D} {st : Sto} {f : List D → Option D} (hb : ∀ d, biD b [d] = (match seqOf d with
    | some ds => f ds
    | none => none)) (hn : b ≠ .len ∧ b ≠ .str ∧ b ≠ .abs) : biE T cf b [d] st = R.of (match seqS st d with
    | some ds => f ds
    | none => none) st := by
  have z : ∀ d, (∀ r, d ≠ .ref r) → biE T cf b [d] st = R.of (biD b [d]) st := fun d hd => by
    cases b <;> first | exact absurd rfl hn.1 | exact absurd rfl hn.2.1 | exact absurd rfl hn.2.2 | (cases d <;> first | rfl | exact absurd rfl (hd _))
  cases d with
  | ref r =>
    have e : biE T cf b [.ref r] st = (match st[r]? with
      | some (.lst ds) => R.of (biD b [.lst ds]) st
      | _ => .no) := by cases b <;> first | exact absurd rfl hn.1 | exact absurd rfl hn.2.1 | exact absurd rfl hn.2.2 | rfl
    rw [e]
    cases h1 : st[r]? with
    | none => simp only [seqS, h1]; rfl
    | some ob =>
      cases ob with
      | lst ds => simp only [seqS, h1]; rw [hb]; rfl
      | _ => simp only [seqS, h1]; rfl
  | _ => rw [z _ (by intro r q; cases q), hb]; rfl
theorem bi_tuple {pins : List (Addr × Obj)} {s : Shared} {σ : L2.St} {H : Hp} {g0 g : Gh} {ρ : Rho} {st : Sto} {ds : List D} {vs : List V} {us : List Value} {Q : VK} (I : Inv X pins σ H s) (m : Mt T nm X.K g ρ st σ H) (l : LkRs T nm X.K g ρ σ ds vs) (rv : Vals vs us) (l0 : Le g0 g)
    (o : Out T nm X.K W g0 ρ σ (fun d _ g' H' => ∀ v, RepR T nm X.K g0 g' d v → Q v H') (biE T cf .tuple ds st)) : wpAny (model X.prog X.w) X.A (call (.type "tuple") us) (EP X pins σ Q) X.xe s := by
  match ds, vs, l with
  | [], [], _ => rw [bi_no (by decide) (.inr (.inr (.inr (.inl rfl))))] at o; exact o.elim
  | _ :: _ :: _, _ :: _ :: _, _ => rw [bi_no (by simp) (.inr (.inr (.inr (.inl rfl))))] at o; exact o.elim
  | [d], [v], ⟨lk, _⟩ =>
    rw [biE_seq (f := fun ds => some (.tup ds)) (fun d => by cases d <;> rfl) (by decide)] at o
    have make : ∀ {es : List D} {ws : List V}, Reps T nm X.K g es ws → Out T nm X.K W g0 ρ σ (fun d _ g' H' => ∀ v, RepR T nm X.K g0 g' d v → Q v H') (.ok (.tup es) st) → ∀ p, H p = none → Q (.ref p) (upd H p (.tup ws)) := fun {es ws} r o p hp => by
      have l2 : Le g (put g p (.imm (.tup ws))) := le_put (m.fresh hp)
      exact o _ _ (l0.trans l2) (m.new hp (.inl rfl)) _ (.tup (.inl (.inl (imH_of put_same))) (r.mono l2.lim))
    have seql : ∀ d : D, (∀ es, d ≠ .tup es) → seqS st d = lstS st d := fun d h => by cases d <;> first | rfl | exact absurd rfl (h _)
    by_cases ht : ∃ es, d = .tup es
    · obtain ⟨es, rfl⟩ := ht
      cases lk.rep m rfl with
      | tup sq r => exact call_tuple_of pins s σ H _ us Q I rv ⟨_, _, rfl, .inr ⟨same_seqT (fun a o e => m.imm a o (of_imH e)) sq, flat_out o l0 m (.tup sq r)⟩⟩
    · rw [seql d fun es z => ht ⟨es, z⟩] at o
      cases h : lstS st d with
      | none =>
        rw [h] at o
        exact o.elim
      | some es =>
        rw [h] at o
        obtain ⟨p, ws, ex, hp, r⟩ := lstS_ok lk m h
        subst ex
        exact call_tuple_of pins s σ H _ us Q I rv ⟨_, _, rfl, .inl ⟨.of hp, make r o⟩⟩
theorem looks_go {as : Es} {es : List Expr} {pins : List (Addr × Obj)} {σ : L2.St} {H : Hp} {s : Shared} {g : Gh} {ρ : Rho} {st : Sto} {α : Type} {P : α → Sto → Gh → Hp → Prop} {kk : List D → Sto → R α} (ha : PA X es (tL T nm X.K cf W as))
    (I : Inv X pins σ H s) (m : Mt T nm X.K g ρ st σ H) (o : Out T nm X.K W g ρ σ P ((evL T cf as ρ st).bind kk)) (pos : Pos) :
    wpAny (model X.prog X.w) X.A (spliced (backTo pos (starEach es X.env))) (fun us s' => ∃ vs H' ds st' g', Inv X pins σ H' s' ∧ Vals vs us ∧ LkRs T nm X.K g' ρ σ ds vs ∧ Le g g' ∧ Mt T nm X.K g' ρ st' σ H' ∧ Out T nm X.K W g ρ σ P (kk ds st')) X.xe s :=
  thn (ha.run pos pins s σ H (fun vs H1 => ∃ ds st1 g1, LkRs T nm X.K g1 ρ σ ds vs ∧ Le g g1 ∧ Mt T nm X.K g1 ρ st1 σ H1 ∧ Out T nm X.K W g ρ σ P (kk ds st1)) I
    ⟨g, ρ, st, m, Out.imp (Out.bind0 o) fun ds st1 g1 H1 l1 m1 q vs r => ⟨ds, st1, g1, r, l1, m1, q⟩⟩) fun us s1 ⟨vs, H1, I1, rv, ds, st1, g1, r, l1, m1, q⟩ => ⟨vs, H1, ds, st1, g1, I1, rv, r, l1, m1, q⟩
theorem se_biB {b : BI} {id : String} {x : Str} {p : Pos} {e : Expr} {es : List Expr} {as : Es} (hx : bootBuiltins x = some (.builtin id)) (hg : Gl X x) (hm : X.mg x = none) (ha : PA X (e :: es) (tL T nm X.K cf W as)) (hn : x ≠ "__name__") (hdb : (x == ("__debug__" : Str)) = false)
    (he : starEach (e :: es) X.env = (false, eval e X.env) :: starEach es X.env) (hpl : (backTo pos (starEach es X.env)).any (·.1) = false)
    (hr : ∀ {pins : List (Addr × Obj)} {s : Shared} {σ : L2.St} {H : Hp} {g0 g : Gh} {ρ : Rho} {st : Sto} {ds : List D} {vs : List V} {us : List Value} {Q : VK}, Inv X pins σ H s → Mt T nm X.K g ρ st σ H → LkRs T nm X.K g ρ σ ds vs → Vals vs us → Le g0 g →
      Out T nm X.K W g0 ρ σ (fun d _ g' H' => ∀ v, RepR T nm X.K g0 g' d v → Q v H') (biE T cf b ds st) → wpAny (model X.prog X.w) X.A (call (.builtin id) us) (EP X pins σ Q) X.xe s) :
    PE X (.Call (.Name x p) (e :: es) [] pos) (tE T nm X.K cf W (.bi b as)) := by
  refine ⟨fun pins s σ H Q I ⟨g, ρ, st, m, o⟩ => ?_⟩
  refine wpAny_Call_Name_kw (ld_blt I hg hm hx ?_ hn hdb)
  exact PyProof.Rows.callWith_builtin1 (thn (looks_go ha I m o pos) fun us s1 ⟨vs, H1, ds, st1, g1, I1, rv, r, l1, m1, q⟩ => hr I1 m1 r rv l1 q) he hpl
theorem se_biT {b : BI} {id : String} {x : Str} {p : Pos} {e : Expr} {es : List Expr} {as : Es} (hx : bootBuiltins x = some (.type id)) (hg : Gl X x) (hm : X.mg x = none) (ha : PA X (e :: es) (tL T nm X.K cf W as)) (hn : x ≠ "__name__") (hdb : (x == ("__debug__" : Str)) = false)
    (he : starEach (e :: es) X.env = (false, eval e X.env) :: starEach es X.env) (hpl : (backTo pos (starEach es X.env)).any (·.1) = false)
    (hr : ∀ {pins : List (Addr × Obj)} {s : Shared} {σ : L2.St} {H : Hp} {g0 g : Gh} {ρ : Rho} {st : Sto} {ds : List D} {vs : List V} {us : List Value} {Q : VK}, Inv X pins σ H s → Mt T nm X.K g ρ st σ H → LkRs T nm X.K g ρ σ ds vs → Vals vs us → Le g0 g →
      Out T nm X.K W g0 ρ σ (fun d _ g' H' => ∀ v, RepR T nm X.K g0 g' d v → Q v H') (biE T cf b ds st) → wpAny (model X.prog X.w) X.A (call (.type id) us) (EP X pins σ Q) X.xe s) :
    PE X (.Call (.Name x p) (e :: es) [] pos) (tE T nm X.K cf W (.bi b as)) := by
  refine ⟨fun pins s σ H Q I ⟨g, ρ, st, m, o⟩ => ?_⟩
  refine wpAny_Call_Name_kw (ld_blt I hg hm hx ?_ hn hdb)
  exact PyProof.Rows.callWith_type1 (thn (looks_go ha I m o pos) fun us s1 ⟨vs, H1, ds, st1, g1, I1, rv, r, l1, m1, q⟩ => hr I1 m1 r rv l1 q) he hpl
end

section
variable (T : Tab) (nm : Nm) (K : PySem.W.Frag)
def OutS (W : WX) (gb : Gh) (D : Ends) : F → Prop
  | .nx ρ st => ∀ g' σ' H', Le gb g' → Mt T nm K g' ρ st σ' H' → D.nx σ' H'
  | .rt d st => ∀ g' v H', Le gb g' → Mt0 T nm K g' st H' → RepR T nm K gb g' d v → D.rt v H'
  | .bk ρ st => ∀ g' σ' H', Le gb g' → Mt T nm K g' ρ st σ' H' → D.bk σ' H'
  | .ct ρ st => ∀ g' σ' H', Le gb g' → Mt T nm K g' ρ st σ' H' → D.ct σ' H'
  | .er x ρ st => ∀ g' cv dd σ' H', Le gb g' → Mt T nm K g' ρ st σ' H' → XnR T nm K g' x cv dd → W cv dd σ' H'
  | .no => False
variable (cf : Nat → List D → Sto → R D)
def tS (W : WX) (s : S) : TS := fun D σ H => ∃ gb g ρ st, Mt T nm K g ρ st σ H ∧ Le gb g ∧ NoSlot gb ∧ OutS T nm K W gb D (exS T cf s ρ st)
end
section
variable {T : Tab} {nm : Nm} {K : PySem.W.Frag} {W : WX} {g g0 g1 gb : Gh} {ρ : Rho} {σ : L2.St} {H : Hp} {st : Sto} {D : Ends}
theorem OutS.go {α : Type} {r : R α} {k : α → Sto → F} (o : OutS T nm K W gb D (r.f ρ k)) (l : Le gb g) : Out T nm K W g ρ σ (fun a st _ _ => OutS T nm K W gb D (k a st)) r := by
  cases r with
  | ok a st => exact fun _ _ _ _ => o
  | er x st => exact fun g' cv dd H' l' m x' => o g' cv dd σ H' (l.trans l') m x'
  | no => exact o
theorem getElem_set {α : Type} {xs : List α} {i j : Nat} {a b : α} (h : (xs.set i a)[j]? = some b) : (i = j ∧ i < xs.length ∧ a = b) ∨ (i ≠ j ∧ xs[j]? = some b) := by
  by_cases e : i = j
  · subst e
    by_cases hl : i < xs.length
    · rw [List.getElem?_set_self hl] at h
      exact .inl ⟨rfl, hl, Option.some.inj h⟩
    · rw [List.getElem?_eq_none (by rw [List.length_set]; omega)] at h
      cases h
  · rw [List.getElem?_set_ne e] at h
    exact .inr ⟨e, h⟩
theorem SlR.rep {i : Nat} {d : Ev.D} {v : V} (h : Rep T nm K g d v) : SlR T nm K g H i d v := by
  cases h <;> first
    | exact .non
    | exact .bl _
    | exact .int _
    | exact .str _
    | (rename_i a b; exact .tup a b)
    | (rename_i a b; exact .lst a b)
    | (rename_i a; exact .scr a)
    | (rename_i a b c; exact .ins a b c)
    | (rename_i a; exact .ref a)
theorem Mt.set (m : Mt T nm K g ρ st σ H) {i : Nat} {d : Ev.D} {v : V} (r : SlR T nm K g H i d v) : Mt T nm K g (ρ.set i (some d)) st (σ.set i (some v)) H := by
  refine ⟨m.toMt0, by rw [List.length_set, List.length_set]; exact m.len, fun j e h => ?_⟩
  rcases getElem_set h with ⟨e1, e2, e3⟩ | ⟨e1, e2⟩
  · subst e1
    cases e3
    exact ⟨v, by rw [List.getElem?_set_self (by rw [← m.len]; exact e2)], r⟩
  · obtain ⟨w, h1, h2⟩ := m.slots j e e2
    exact ⟨w, by rw [List.getElem?_set_ne e1]; exact h1, h2⟩
theorem Mt.drop (m : Mt T nm K g ρ st σ H) {i : Nat} {x : Option V} : Mt T nm K g (ρ.set i none) st (σ.set i x) H := by
  refine ⟨m.toMt0, by rw [List.length_set, List.length_set]; exact m.len, fun j e h => ?_⟩
  rcases getElem_set h with ⟨e1, e2, e3⟩ | ⟨e1, e2⟩
  · cases e3
  · obtain ⟨w, h1, h2⟩ := m.slots j e e2
    exact ⟨w, by rw [List.getElem?_set_ne e1]; exact h1, h2⟩
theorem Mt0.word (m : Mt0 T nm K g st H) {p : Addr} {o : HO} {t : Tag} (hp : H p = some o) (h : (∃ i, g p = some (.slot i)) ∨ ∃ u, g p = some (.held u)) (ht : (t = .imm o ∨ t = .held o) ∨ ∃ i, t = .slot i) : Mt0 T nm K (put g p t) st H ∧ Lim g (put g p t) := by
  have nl : (∀ u, g p ≠ some (.imm u)) ∧ ∀ k, g p ≠ some (.sto k) := by
    rcases h with ⟨i, h⟩ | ⟨u, h⟩ <;> rw [h] <;> exact ⟨(fun _ z => nomatch z), (fun _ z => nomatch z)⟩
  have lm : Lim g (put g p t) := ⟨fun a o e => by rw [put_ne (fun z => by rw [z] at e; exact nl.1 _ e)]; exact e, fun a k e => by rw [put_ne (fun z => by rw [z] at e; exact nl.2 _ e)]; exact e⟩
  have old : ∀ a u, a ≠ p → put g p t a = some u → g a = some u := fun a u n e => by rw [put_ne n] at e; exact e
  have ns : ∀ k, t ≠ .sto k := fun k z => by rcases ht with (y | y) | ⟨i, y⟩ <;> rw [y] at z <;> cases z
  refine ⟨⟨fun a o' e => ?_, fun a o' e => ?_, fun k ob e => ?_, fun a k e => ?_, fun a b k e1 e2 => ?_, fun a u e => ?_⟩, lm⟩
  · by_cases n : a = p
    · subst n
      rw [put_same] at e
      rcases ht with (z | z) | ⟨i, z⟩ <;> rw [z] at e <;> cases e
      exact hp
    · exact m.imm a o' (old a _ n e)
  · by_cases n : a = p
    · subst n
      rw [put_same] at e
      rcases ht with (z | z) | ⟨i, z⟩ <;> rw [z] at e <;> cases e
      exact hp
    · exact m.held a o' (old a _ n e)
  · obtain ⟨a, o', e1, e2, r⟩ := m.sto k ob e
    exact ⟨a, o', lm.2 _ _ e1, e2, r.mono lm⟩
  · by_cases n : a = p
    · subst n
      rw [put_same] at e
      exact absurd (Option.some.inj e) (ns k)
    · exact m.stl a k (old a _ n e)
  · have na : a ≠ p := fun z => by
      rw [z, put_same] at e1
      exact absurd (Option.some.inj e1) (ns k)
    have nb : b ≠ p := fun z => by
      rw [z, put_same] at e2
      exact absurd (Option.some.inj e2) (ns k)
    exact m.uniq a b k (old a _ na e1) (old b _ nb e2)
  · by_cases n : a = p
    · subst n
      exact ⟨o, hp⟩
    · exact m.trk a u (old a _ n e)
theorem Le.word {p : Addr} {t : Tag} (l : Le gb g) (n : gb p = none) : Le gb (put g p t) := fun a u e => by
  rw [put_ne (fun z => by rw [z, n] at e; cases e)]
  exact l a u e
theorem Mt.take (m : Mt T nm K g ρ st σ H) {p : Addr} {vs : List V} {ds : List Ev.D} {i : Nat} (h : g p = some (.held (.lst vs))) (r : Reps T nm K g ds vs) : Mt T nm K (put g p (.slot i)) (ρ.set i (some (.own ds))) st (σ.set i (some (.ref p))) H := by
  have hp := m.held _ _ h
  obtain ⟨m0, lm⟩ := m.toMt0.word hp (.inr ⟨_, h⟩) (t := .slot i) (.inr ⟨i, rfl⟩)
  have m1 : Mt T nm K (put g p (.slot i)) ρ st σ H := ⟨m0, m.len, fun j e z => by
    obtain ⟨w, h1, h2⟩ := m.slots j e z
    exact ⟨w, h1, h2.mono lm fun q e2 => ⟨by rw [put_ne (fun z => by rw [z, h] at e2; cases e2)]; exact e2, rfl⟩⟩⟩
  exact m1.set ⟨p, vs, rfl, put_same, hp, r.mono lm⟩
theorem Mt.sto_upO (m : Mt T nm K g ρ st σ H) {k : Nat} {p : Addr} {ob : Ob} {o : HO} (h1 : g p = some (.sto k)) (r : ObR T nm K g p ob o) : Mt T nm K g ρ (st.set k ob) σ (upd H p o) := by
  have nn : ∀ a t, g a = some t → t ≠ .sto k → upd H p o a = H a := fun a t e n => upd_ne fun z => by
    rw [z, h1] at e
    cases e
    exact n rfl
  refine ⟨⟨fun a o e => by rw [nn a _ e (fun z => nomatch z)]; exact m.imm a o e, fun a o e => by rw [nn a _ e (fun z => nomatch z)]; exact m.held a o e, fun j ob e => ?_, fun a j e => by rw [List.length_set]; exact m.stl a j e, m.uniq, fun a t e => ?_⟩, m.len, fun j d z => ?_⟩
  · rcases getElem_set e with ⟨z1, z2, z3⟩ | ⟨z1, z2⟩
    · subst z1
      subst z3
      exact ⟨p, _, h1, upd_same, r⟩
    · obtain ⟨a, o, e1, e2, rr⟩ := m.sto j ob z2
      refine ⟨a, o, e1, by rw [nn a _ e1 (fun z => z1 (by cases z; rfl))]; exact e2, rr⟩
  · by_cases n : a = p
    · rw [n, upd_same]
      exact ⟨_, rfl⟩
    · rw [upd_ne n]
      exact m.trk a t e
  · obtain ⟨w, h3, h4⟩ := m.slots j d z
    exact ⟨w, h3, h4.mono (Lim.refl g) fun q e3 => ⟨e3, nn q _ e3 (fun z => nomatch z)⟩⟩
theorem Mt.sto_upd (m : Mt T nm K g ρ st σ H) {k : Nat} {p : Addr} {es : List Ev.D} {ws : List V} (h1 : g p = some (.sto k)) (r : Reps T nm K g es ws) : Mt T nm K g ρ (st.set k (.lst es)) σ (upd H p (.lst ws)) := m.sto_upO h1 ⟨ws, rfl, r⟩
theorem Mt.sto_updD (m : Mt T nm K g ρ st σ H) {k : Nat} {p : Addr} {kvs : List (Ev.D × Ev.D)} {kws : List (Key × V)} (h1 : g p = some (.sto k)) (r : KvR T nm K g kvs kws) : Mt T nm K g ρ (st.set k (.dct kvs)) σ (upd H p (.dK kws)) := m.sto_upO h1 ⟨kws, rfl, r⟩
end

section
variable {X : Cx} {T : Tab} {nm : Nm} {W : WX} {cf : Nat → List D → Sto → R D} {pos : Pos} {k : Nat}
theorem ss_skip : PSs X [] (tS T nm X.K cf W .skip) := PSs.imp pss_nil fun D σ H ⟨gb, g, ρ, st, m, l, n, o⟩ => o g σ H l m
theorem out_then {gb : Gh} {D : Ends} {r : F} {s2 : S} (n : NoSlot gb) (o : OutS T nm X.K W gb D (r.then fun ρ st => exS T cf s2 ρ st)) : OutS T nm X.K W gb { D with nx := tS T nm X.K cf W s2 D } r := by
  cases r with
  | nx ρ st => exact fun g' σ' H' l m => ⟨gb, g', ρ, st, m, l, n, o⟩
  | rt d st => exact o
  | bk ρ st => exact o
  | ct ρ st => exact o
  | er x ρ st => exact o
  | no => exact o
theorem ss_cons {st : Stmt} {rest : List Stmt} {a b : S} (h1 : PS X st (tS T nm X.K cf W a)) (h2 : PSs X rest (tS T nm X.K cf W b)) : PSs X (st :: rest) (tS T nm X.K cf W (.seq a b)) :=
  PSs.imp (pss_cons h1 h2) fun D σ H ⟨gb, g, ρ, st, m, l, n, o⟩ => ⟨gb, g, ρ, st, m, l, n, out_then n o⟩
theorem ss_set {e : Expr} {a : E} {i : Nat} {x : Str} {p : Pos} (hN : X.N.Nodup) (hi : X.N[i]? = some x) (hx : Loc X.env.scope x) (h : PE X e (tE T nm X.K cf W a)) (hs : swapsWith e (some (.Name x p)) pos.line X.env = pure false) (hf : X.fn x = true ∨ X.env.scope.names.lookup x = some .local) :
    PS X (.Assign [.Name x p] e pos) (tS T nm X.K cf W (.set i a)) :=
  PS.imp (ps_set hN hi hx h hs hf) fun D σ H ⟨gb, g, ρ, st, m, l, n, o⟩ => ⟨g, ρ, st, m, Out.imp (OutS.go o l) fun d st1 g1 H1 l1 m1 q v r => by
    obtain ⟨g2, l2, m2, r2⟩ := kept r m1 l1
    exact q g2 _ H1 (l.trans l2) (m2.set (SlR.rep r2))⟩
theorem ss_ret {e : Expr} {a : E} (h : PE X e (tE T nm X.K cf W a)) : PS X (.Return (some e) pos) (tS T nm X.K cf W (.ret a)) :=
  PS.imp (ps_ret h) fun D σ H ⟨gb, g, ρ, st, m, l, n, o⟩ => ⟨g, ρ, st, m, Out.imp (OutS.go o l) fun d st1 g1 H1 l1 m1 q v r => q g1 v H1 (l.trans l1) m1.toMt0 (r.back l)⟩
theorem ss_if {c : Expr} {a b : List Stmt} {t : Tt} {s1 s2 : S} (hc : PT X c (tT T nm X.K cf W t)) (ha : PSs X a (tS T nm X.K cf W s1)) (hb : PSs X b (tS T nm X.K cf W s2)) : PS X (.If c a b pos) (tS T nm X.K cf W (.ifs t s1 s2)) :=
  PS.imp (ps_if hc ha hb) fun D σ H ⟨gb, g, ρ, st, m, l, n, o⟩ => ⟨g, ρ, st, m, Out.imp (OutS.go o l) fun b st1 g1 H1 l1 m1 q => by
    cases b with
    | true => exact ⟨gb, g1, ρ, st1, m1, l.trans l1, n, q⟩
    | false => exact ⟨gb, g1, ρ, st1, m1, l.trans l1, n, q⟩⟩
def rSetA : V → V → V → Hp → (Hp → Prop) → Prop := fun o i v H Q => rSetL o i v H Q ∨ ∃ p H4, o = .ref p ∧ DPut H p i v H4 ∧ Q H4
theorem set_any (hu : X.A.units + 1 < cLine) : PSet X rSetA := by
  intro pins s σ H o i v ov iv u Q I ro ri rv h
  rcases h with h | ⟨p, H4, rfl, hd, q⟩
  · exact set_list pins s σ H o i v ov iv u Q I ro ri rv h
  · cases ro
    exact d_setItem hu I hd ri rv fun s' I' => ⟨H4, I', q⟩
theorem kv_put {g : Gh} {k d : D} {q : Key} {v : V} (hk : keyOf k = some q) (hv : Rep T nm X.K g d v) {kvs : List (D × D)} {kws : List (Key × V)} (h : KvR T nm X.K g kvs kws) : KvR T nm X.K g (dPut kvs k d) (putK kws q v) := by
  have g1 := kv_get hk h
  have app : ∀ {kvs : List (D × D)} {kws : List (Key × V)}, KvR T nm X.K g kvs kws → KvR T nm X.K g (kvs ++ [(k, d)]) (kws ++ [(q, v)]) := fun {kvs kws} h => by
    induction kvs generalizing kws with
    | nil => cases kws with
      | nil => exact ⟨hk, hv, trivial⟩
      | cons _ _ => exact h.elim
    | cons p r ih => cases kws with
      | nil => exact h.elim
      | cons t ts => exact ⟨h.1, h.2.1, ih h.2.2⟩
  have mp : ∀ {kvs : List (D × D)} {kws : List (Key × V)}, KvR T nm X.K g kvs kws → KvR T nm X.K g (kvs.map fun kv => if keyEq kv.1 k then (kv.1, d) else kv) (kws.map fun kv => if kv.1 = q then (kv.1, v) else kv) := fun {kvs kws} h => by
    induction kvs generalizing kws with
    | nil => cases kws with
      | nil => trivial
      | cons _ _ => exact h.elim
    | cons p r ih => cases kws with
      | nil => exact h.elim
      | cons t ts =>
        have e := keyOf_eq h.1 hk
        by_cases z : t.1 = q
        · have e1 : keyEq p.1 k = true := by rw [e]; simpa using z
          simp only [List.map_cons, if_pos z, e1, if_true]
          exact ⟨h.1, hv, ih h.2.2⟩
        · have e1 : keyEq p.1 k = false := by rw [e]; simpa using z
          simp only [List.map_cons, if_neg z, e1, Bool.false_eq_true, if_false]
          exact ⟨h.1, h.2.1, ih h.2.2⟩
  unfold dPut
  cases z : dGet kvs k with
  | none =>
    rw [z] at g1
    rw [putK_new v g1]
    exact app h
  | some d' =>
    rw [z] at g1
    obtain ⟨w, g2, _⟩ := g1
    have e : putK kws q v = kws.map fun kv => if kv.1 = q then (kv.1, v) else kv := by
      unfold putK
      rw [if_pos (by rw [valV_any, g2]; rfl)]
    rw [e]
    exact mp h
theorem kv_len {g : Gh} : ∀ {kvs : List (D × D)} {kws : List (Key × V)}, KvR T nm X.K g kvs kws → kws.length = kvs.length
  | [], [], _ => rfl
  | _ :: _, _ :: _, h => by simp only [List.length_cons]; rw [kv_len h.2.2]
  | [], _ :: _, h => h.elim
  | _ :: _, [], h => h.elim
theorem ss_seti {e1 e2 e3 : Expr} {a b c : E} {p : Pos} (hu : X.A.units + 1 < cLine) (ha : PE X e1 (tE T nm X.K cf W a)) (hb : PE X e2 (tE T nm X.K cf W b)) (hc : PE X e3 (tE T nm X.K cf W c)) (hns : ∀ l h s q, e2 ≠ .Slice l h s q) (hsw : swapsWithSole [.Subscript e1 e2 p] e3 pos.line X.env = pure false) (hst : swappedStores [.Subscript e1 e2 p] e3 X.env = pure none) :
    PS X (.Assign [.Subscript e1 e2 p] e3 pos) (tS T nm X.K cf W (.seti a b c)) :=
  PS.imp (ps_asg hc (pg_sub ha hb (set_any hu) (by cases e2 <;> first | (intro v; rfl) | exact absurd rfl (hns _ _ _ _))) hsw hst) fun D σ H ⟨gb, g, ρ, st, m, l, n, o⟩ => ⟨g, ρ, st, m, Out.imp (OutS.go o l) fun d st1 g1 H1 l1 m1 q v r => by
    obtain ⟨g2, l2, m2, r2⟩ := kept r m1 l1
    refine ⟨g2, ρ, st1, m2, Out.imp (OutS.go q (l.trans l2)) fun x st3 g3 H3 l3 m3 q3 w rx => ?_⟩
    refine ⟨g3, ρ, st3, m3, Out.imp (OutS.go q3 ((l.trans l2).trans l3)) fun y st4 g4 H4 l4 m4 q4 z ry => ?_⟩
    have q5 : OutS T nm X.K W gb D (match setiD x y (fz d) st4 with
      | some st => F.nx ρ st
      | none => .no) := q4
    have lk4 := LkR.le (LkR.of_rep (ρ := ρ) (σ := σ) rx) l4
    have rv4 : Rep T nm X.K g4 (fz d) v := (r2.mono l3.lim).mono l4.lim
    have dput : ∀ {k : Nat} {kvs : List (Ev.D × Ev.D)} {key : Ev.D}, x = .ref k → st4[k]? = some (.dct kvs) → isKey key = true → LkR T nm X.K g4 ρ σ key z → OutS T nm X.K W gb D (match (if kvs.length < LINE then some (st4.set k (.dct (dPut kvs key (fz d)))) else none : Option Sto) with
        | some st => F.nx ρ st
        | none => .no) → rSetA w z v H4 fun H' => D.nx σ H' := fun {k kvs key} ex h1 hk lz q5 => by
      by_cases hl : kvs.length < LINE
      · rw [if_pos hl] at q5
        rw [ex] at lk4
        obtain ⟨pp, kws, ew, gp, hp, rr⟩ := sto_dct lk4 m4 h1
        obtain ⟨kk, k1, k2⟩ := key_is hk lz m4
        subst ew
        refine .inr ⟨pp, _, rfl, ?_, q5 g4 σ _ (((l.trans l2).trans l3).trans l4) (m4.sto_updD gp (kv_put k1 rv4 rr))⟩
        rw [k2]
        exact DPut.k hp (by rw [kv_len rr]; exact line_lt hl)
      · rw [if_neg hl] at q5
        exact q5.elim
    unfold setiD at q5
    cases x with
    | ref k =>
      cases y with
      | int j =>
        have lz : LkR T nm X.K g4 ρ σ (.int j) z := .of_rep ry
        cases h1 : st4[k]? with
        | none =>
          simp only [h1] at q5
          exact q5.elim
        | some ob =>
          cases ob with
          | lst ds =>
            simp only [h1] at q5
            cases h2 : Ev.ixN ds.length j with
            | none =>
              rw [h2] at q5
              exact q5.elim
            | some jj =>
              rw [h2] at q5
              obtain ⟨pp, vs, ex, gp, hp, rr⟩ := sto_lst lk4 m4 h1
              subst ex
              have ez : z = .int j := by cases ry; rfl
              subst ez
              refine .inl ⟨pp, vs, j, jj, rfl, rfl, hp, by rw [← rr.len, ← ixN_eq]; exact h2, ?_⟩
              exact q5 g4 σ _ (((l.trans l2).trans l3).trans l4) (m4.sto_upd gp (Reps.set rv4 jj rr))
          | ins c ds =>
            simp only [h1] at q5
            exact q5.elim
          | dtt ds =>
            simp only [h1] at q5
            exact q5.elim
          | dnn cn ds =>
            simp only [h1] at q5
            exact q5.elim
          | exv c ds =>
            simp only [h1] at q5
            exact q5.elim
          | dct kvs =>
            simp only [h1] at q5
            exact dput rfl h1 rfl lz q5
      | str j =>
        have lz : LkR T nm X.K g4 ρ σ (.str j) z := .of_rep ry
        cases h1 : st4[k]? with
        | none =>
          simp only [h1] at q5
          exact q5.elim
        | some ob =>
          cases ob with
          | dct kvs =>
            simp only [h1] at q5
            exact dput rfl h1 rfl lz q5
          | _ =>
            simp only [h1] at q5
            exact q5.elim
      | _ => exact q5.elim
    | _ => cases y <;> exact q5.elim⟩
end
end Snd
set_option Elab.async false
set_option linter.all false
set_option maxRecDepth 100000
namespace PySem
namespace OwnX
open PySem.W PySem.Calls PyProof.Rows PySem.HandSPX
inductive TextE : Bool → List Str → Expr → Prop where
  | con (x : Str) (k : Nat) (p : Pos) (fs : List Str) (h : x.length ≤ 1000) : TextE false fs (.Constant (.str x) k p)
  | cat (x : Str) (k : Nat) (p p2 p3 : Pos) (f : Str) (fs : List Str) (h : x.length ≤ 1000) : TextE true (f :: fs) (.BinOp (.Constant (.str x) k p) .Add (.Name f p2) p3)
inductive Asg : List Str → List Stmt → Prop where
  | nil : Asg [] []
  | cons (f : Str) (p1 p2 p3 p4 : Pos) {fs : List Str} {b : List Stmt} (h : Asg fs b) : Asg (f :: fs) (.Assign [.Attribute (.Name "self" p1) f p2] (.Name f p3) p4 :: b)
theorem TextE.star {c : Bool} {fs : List Str} {e : Expr} (h : TextE c fs e) (env : Env) : starEach [e] env = [(false, eval e env)] := by
  cases h <;> rfl
theorem super_call {p0 p1 p2 p3 : Pos} {e : Expr} {env : Env} (hl : (p2.endLine == p3.line) = true) (hs : ∀ env, starEach [e] env = [(false, eval e env)]) : eval (.Call (.Attribute (.Call (.Name "super" p0) [] [] p1) "__init__" p2) [e] [] p3) env = (do
    let ov ← attributeBase (.Call (.Name "super" p0) [] [] p1) "__init__" env (eval (.Call (.Name "super" p0) [] [] p1) env)
    standAt p2.atName
    let (f, first) ← holding [ov] (getMethod ov "__init__" (L2.plainOf (.Call (.Name "super" p0) [] [] p1) env))
    callWith p3 f first (backTo p3 (starEach [e] env)) []) := by
  rw [arm_eval_Call]
  have hf : methodCallForm [e].length (backTo p3 (starEach [e] env)) (backToKw p3 (keywordEach [] env)) = true := by
    rw [hs]
    rfl
  refine congrArg _ (funext fun ov => ?_)
  refine congrArg _ (funext fun _ => ?_)
  exact L2.mcall_line hf hl
structure Scp (fs : List Str) (scope : Scope) : Prop where
  kind : scope.kind = .function
  self : scope.names.lookup ("self" : Str) = some .local
  fld : ∀ f ∈ fs, scope.names.lookup f = some .local
  sup : scope.names.lookup ("super" : Str) = some .globalImplicit
  cls : scope.names.lookup ("__class__" : Str) = some .free
  nocell : ∀ x ∈ scope.names, x.2 ≠ .cell
  co : scope.isCoroutine = false
  gen : scope.isGenerator = false
structure OwnX (prog : Program) (K : Frag) (C fI : Addr) (cat : Bool) (fs : List Str) : Prop where
  cls : ∃ nm q N bs bm sn sub ab col dd k0 k1 k2 k3 k5, K.lookup C = some (excClassObj nm q C N bs bm true sn sub ab col dd k0 k1 k2 k3 k5 "ValueError.__new__") ∧ refsVE bm = true ∧ alongIn K "__init__" bm = some (some (.builtin "ValueError.__init__"))
  sa : findIn K (.ref C) "__setattr__" = some (some (.builtin "object.__setattr__"))
  iC : findIn K (.ref C) "__init__" = some (some (.ref fI))
  tC : typeIn K (.ref fI) = some (.type "function")
  kC : keepIn K (.ref C) = true
  exC : subIn K (.ref C) (.type "BaseException") = some true
  veC : subIn K (.ref C) (.type "ValueError") = some true
  meC : mroIn K C (.ref C) = some true
  tyC : typeIn K (.ref C) = some (.type "type")
  noN : ∀ f ∈ fs, findIn K (.ref C) f = some none
  nd : fs.Nodup
  few : fs.length ≤ 20
  nsf : ("self" : Str) ∉ fs
  dbg : ∀ f ∈ fs, (f == ("__debug__" : Str)) = false
  any : nsIn K cStatics "thirdparty.any" = some none
  sup : nsIn K mainGlobals "super" = some none
  top : (prog.main.scope.names.lookup ("super" : Str)).isSome = false
  fn : ∃ (oc : Value) (od : Option Addr) (osl : Array (Option Value)) (qual : Str) (params : Arguments) (te : Expr) (b : List Stmt) (scope : Scope) (dV kV doc pm : Value) (an : Option Addr) (cda : Addr) (ct : Value) (cc : Addr) (p0 p1 p2 p3 p4 : Pos)
    (ccl : Value) (cdd : Option Addr) (cvs : Array Value) (ccs : Array (Option Value)) (file : Str) (tf : Tok) (cl : Value) (cld : Option Addr) (csl : Array (Option Value)) (cdD : ClassData) (ar : Arg),
    K.lookup fI = some ⟨oc, od, .func (ksFn "__init__" qual params (.Expr (.Call (.Attribute (.Call (.Name "super" p0) [] [] p1) "__init__" p2) [te] [] p3) p4 :: b) scope dV kV doc pm an (.ref cda) ct cc), osl⟩ ∧
    codeIn K (.ref cda) qual = true ∧ TextE cat fs te ∧ Asg fs b ∧ Scp fs scope ∧ K.lookup cda = some ⟨ccl, cdd, .fields cvs, ccs⟩ ∧ cvs[2]? = some (.str file tf) ∧ ((prog.main.file : Str) == file) = true ∧
    K.lookup cc = some ⟨cl, cld, .cell (some (.ref C)), csl⟩ ∧ clsIn K C = some cdD ∧ (params.posonlyargs ++ params.args).head? = some ar ∧ ar.arg = ("self" : Str) ∧ (p2.endLine == p3.line) = true ∧
    (∀ us : List Value, us.length = fs.length + 1 → bindArgs (ksFn "__init__" qual params (.Expr (.Call (.Attribute (.Call (.Name "super" p0) [] [] p1) "__init__" p2) [te] [] p3) p4 :: b) scope dV kV doc pm an (.ref cda) ct cc) ⟨us, []⟩ = pure ((("self" : Str) :: fs).zip us))
structure InitEnd (h h' : Heap) (x C dx t1 : Addr) (m : Str → Option Value) : Prop where
  keep : ∀ b o, b ≠ x → h.get? b = some o → h'.get? b = some o
  obj : h'.get? x = some { cls := .ref C, dict := some dx, data := .fields #[.ref t1, .none, .none, .none, .bool false, .none] }
  dbig : h.objs.size ≤ dx
  dne : dx ≠ x
  ns : h'.Ns1 dx m
section
variable {prog : Program} {w : World} {A : Around} {E : Value → Shared → Prop} {h : Heap} {g : Array GenState} {d : Drawn} {t : Nat} {os : OsState}
variable {nm q : Str} {C N : Addr} {bs bm : List Value} {hdct : Bool} {sn : List Str} {sub : List Value} {ab : Bool} {col : Option Bool} {dd : Option Addr} {k0 k1 k2 k3 k5 : Option Value}
theorem call_mw {u e t0 : Addr} {rest : List Value} {Q : Value → Shared → Prop}
    (hC : h.get? C = some (excClassObj nm q C N bs bm hdct sn sub ab col dd k0 k1 k2 k3 k5 "ValueError.__new__")) (he : h.get? e = some (excO C t0)) (hu : KxsAt "ValueError.__init__" u e h) (hrest : rest.length ≤ sizeLine)
    (hq : ∀ h' t1, (∀ b o, b ≠ e → h.get? b = some o → h'.get? b = some o) → h'.get? e = some (excO C t1) → Q .none ⟨h', g, d, t, os⟩) :
    wpAny (model prog w) A (call (.ref u) rest) Q E ⟨h, g, d, t, os⟩ := by
  unfold KxsAt at hu
  refine wpAny_call (codeAny_of_tree ?_)
  show wpAny _ A.in1 (callAny (.ref u) ⟨rest, []⟩) _ _ _
  simp only [callAny]
  refine wpAny_bind (wpAny_load hu ?_)
  simp only [kxs_mw, show (Value.type "method-wrapper" == Value.type "method" || Value.type "method-wrapper" == Value.type "builtin_function_or_method" || Value.type "method-wrapper" == Value.type "method-wrapper") = true by decide, if_true]
  refine W.KFB.if_so (by decide) ?_
  refine wpAny_bind (ESX.check_bound F.excBase_ValueError hC he rfl ?_)
  refine wpAny_bind (wpAny_pure (wpAny_pure ?_))
  refine ⟨Code.quiet_builtin _ (by decide +kernel), codeAny_builtin F.excBase_ValueError.initEntry ?_⟩
  rw [Around.under_plainId F.excBase_ValueError.init.plain _]
  wp_walk
  refine hq _ h.objs.size (fun b o hb ho => ?_) ?_
  · rw [Heap.get?_update_other _ _ (Ne.symm hb)]
    exact Heap.get?_push_of_some _ ho
  · rw [Heap.get?_update_self _ (Heap.get?_push_of_some _ he) rfl]
    rfl
end
section
variable {prog : Program} {w : World} {A : Around} {R : Result → Shared → Prop} {s : Shared} {K : Frag} {C fI : Addr} {cat : Bool} {fs : List Str}
theorem asgs_old {env : Env} {E : Value → Shared → Prop} {x dx t1 : Addr} {L : Addr} {mL : Str → Option Value} {bm : List Value} {nm q : Str} {N : Addr} {bs : List Value} {sn : List Str} {sub : List Value} {ab : Bool} {col : Option Bool} {dd : Option Addr} {k0 k1 k2 k3 k5 : Option Value} {Q : Flow → Shared → Prop}
    (hC : K.lookup C = some (excClassObj nm q C N bs bm true sn sub ab col dd k0 k1 k2 k3 k5 "ValueError.__new__")) (hbm : refsVE bm = true) (sa : findIn K (.ref C) "__setattr__" = some (some (.builtin "object.__setattr__")))
    (hk : env.scope.kind = .function) (hself : env.kindOf ("self" : Str) = some .local) (eL : env.locals = L) (hms : mL "self" = some (.ref x)) (hnx : K.lookup x = none) (hLx : L ≠ x) :
    ∀ (fs : List Str) (b : List Stmt) (us : List Value) (s : Shared) (m : Str → Option Value) (nl : List Str), Asg fs b → (∀ f ∈ fs, env.kindOf f = some .local) → (∀ f ∈ fs, (f == ("__debug__" : Str)) = false) → (∀ f ∈ fs, findIn K (.ref C) f = some none) → fs.length = us.length → (∀ p ∈ fs.zip us, mL p.1 = some p.2) → fs.Nodup → nl.length + fs.length ≤ 1000 →
      K.In s.heap → s.heap.Ns L mL → s.heap.get? x = some { cls := .ref C, dict := some dx, data := .fields #[.ref t1, .none, .none, .none, .bool false, .none] } → s.heap.Ns1 dx m → Within m nl → dx ≠ x → dx ≠ L → K.lookup dx = none →
      (∀ h' tk, (∀ b o, b ≠ dx → s.heap.get? b = some o → h'.get? b = some o) → h'.get? x = some { cls := .ref C, dict := some dx, data := .fields #[.ref t1, .none, .none, .none, .bool false, .none] } → h'.Ns1 dx (fun y => match (fs.zip us).reverse.lookup y with | some v => some v | none => m y) → Q .next { s with heap := h', toks := tk }) →
      wpAny (model prog w) A (execs b env) Q E s
  | [], _, us, s, m, nl, .nil, _, _, _, _, _, _, _, X, hn, hx, hd, _, _, _, _, hq => by
    refine wpAny_execs_nil ?_
    obtain ⟨hp, g, d, t, os⟩ := s
    exact hq hp t (fun _ _ _ e => e) hx hd
  | f :: fs, _, [], s, m, nl, .cons _ p1 p2 p3 p4 hb, _, _, _, hl, _, _, _, X, hn, hx, hd, _, _, _, _, hq => by cases hl
  | f :: fs, _, u :: us, s, m, nl, .cons _ p1 p2 p3 p4 (b := b) hb, hloc, hdb, hno, hl, hm, nd, hz, X, hn, hx, hd, hw, ne, neL, hnd, hq => by
    refine wpAny_execs_cons (plainObj_wpAny_Assign_Attribute ?_)
    refine wpAny_Name (wpAny_loadName_local hk (hloc f List.mem_cons_self) (by rw [eL]; exact hn) (hm (f, u) List.mem_cons_self) ?_) (hdb f List.mem_cons_self)
    refine wpAny_Name (wpAny_loadName_local hk hself (by rw [eL]; exact hn) hms ?_)
    have hcl : clsIn K C = some { name := nm, bases := bs, mro := .ref C :: bm, ns := N, qualname := q, hasDict := true, slotNames := sn, subclasses := sub, abstract := ab, collection := col, hasDel := false } := by unfold clsIn; rw [hC] <;> rfl
    obtain ⟨oD, _, _, hoD, _, _⟩ := hd.count hw
    obtain ⟨hp, g, d, t, os⟩ := s
    refine set_plain X (ox := { cls := .ref C, dict := some dx, data := .fields #[.ref t1, .none, .none, .none, .bool false, .none] }) (od := some oD) ⟨hx, rfl, rfl, hoD⟩ sa ?_
    refine PySem.OEX.osa_old X hx hd hw (by simp at hz; omega) hcl (show refsVE (.ref C :: bm) = true from hbm) rfl (hno f List.mem_cons_self) fun h' tk' k hn' => ?_
    have keepN : ∀ {a : Addr} {o : Obj}, a ≠ dx → hp.get? a = some o → h'.get? a = some o := fun n e => k _ _ n e
    refine asgs_old hC hbm sa hk hself eL hms hnx hLx fs b us ⟨h', g, d, tk', os⟩ (fun y => if y = f then some u else m y) (f :: nl) hb (fun f hf => hloc f (List.mem_cons_of_mem _ hf)) (fun f hf => hdb f (List.mem_cons_of_mem _ hf)) (fun f hf => hno f (List.mem_cons_of_mem _ hf)) (by simpa using hl) (fun p hp => hm p (List.mem_cons_of_mem _ hp)) (List.nodup_cons.mp nd).2 (by simp at hz ⊢; omega)
      (fun a o e => k _ _ (fun z => by rw [z, hnd] at e; cases e) (X a o e)) (hn.at fun o e => k _ _ (Ne.symm neL) e) (k _ _ (Ne.symm ne) hx) hn' (Within.cons f u hw) ne neL hnd fun h2 tk2 k2 hx2 hd2 => ?_
    refine hq h2 tk2 (fun b o n e => k2 b o n (k b o n e)) hx2 ?_
    have e : (fun y => match ((f :: fs).zip (u :: us)).reverse.lookup y with | some v => some v | none => m y) = fun y => match (fs.zip us).reverse.lookup y with | some v => some v | none => if y = f then some u else m y := by
      funext y
      show (match List.lookup y ((f, u) :: fs.zip us).reverse with | some v => some v | none => m y) = _
      rw [List.reverse_cons, List.lookup_append]
      cases List.lookup y (fs.zip us).reverse with
      | some v => rfl
      | none =>
        by_cases z : y = f
        · subst z
          simp [List.lookup]
        · have z2 : (y == f) = false := by simpa using z
          simp [List.lookup, z2, z]
    rw [e]
    exact hd2
theorem zip_mem_look : ∀ {fs : List Str} {us : List Value} {p : Str × Value}, fs.Nodup → p ∈ fs.zip us → (fs.zip us).reverse.lookup p.1 = some p.2
  | [], _, _, _, h => by simp at h
  | _ :: _, [], _, _, h => by simp at h
  | f :: fs, u :: us, p, nd, h => by
    show List.lookup p.1 ((f, u) :: fs.zip us).reverse = some p.2
    rw [List.reverse_cons, List.lookup_append]
    rcases List.mem_cons.mp (show p ∈ (f, u) :: fs.zip us from h) with e | h
    · subst e
      have z : List.lookup f (fs.zip us).reverse = none := by
        rw [List.lookup_eq_none_iff]
        intro q hq
        have h2 := List.of_mem_zip (List.mem_reverse.mp hq)
        exact bne_iff_ne.mpr (fun e : f = q.1 => (List.nodup_cons.mp nd).1 (e ▸ h2.1))
      rw [show List.lookup (f, u).1 (fs.zip us).reverse = none from z]
      simp [List.lookup]
    · have z2 := zip_mem_look (List.nodup_cons.mp nd).2 h
      simp only [z2, Option.some_or]
theorem interactive_fn {env : Env} (h : env.scope.kind = .function) : interactive env = false := by
  unfold interactive
  rw [h]
  rfl
theorem own_init (T : OwnX prog K C fI cat fs) {mg mb : Str → Option Value} {x t0 : Addr} {us : List Value} (X : K.In s.heap) (hlim : s.heap.NoLimit) (G : s.heap.Ns mainGlobals mg) (hb : s.heap.Ns builtinsNs mb) (hbs : ∀ x : Str, x ≠ "__name__" → mb x = bootBuiltins x)
    (hx : s.heap.get? x = some (excO C t0)) (hnx : K.lookup x = none) (hroom : A.depth < recursionLimit) (hl : us.length = fs.length) (hne : fs ≠ []) (hcat : cat = true → ∃ z tk r, us = .str z tk :: r ∧ z.length ≤ 10000000)
    (hq : ∀ h' tk dx t1, InitEnd s.heap h' x C dx t1 (fun y => (fs.zip us).reverse.lookup y) → R (.ok (.ret .none)) { s with heap := h', toks := tk }) :
    codeAny (model prog w) A (.call (.ref fI) ⟨.ref x :: us, []⟩) R s := by
  obtain ⟨oc, od, osl, qual, params, te, b, scope, dV, kV, doc, pm, an, cda, ct, cc, p0, p1, p2, p3, p4, ccl, cdd, cvs, ccs, file, tf, cl, cld, csl, cdD, ar, ho, hcd, hte, hasg, hsc, hcda, hfile, hfe, hcell, hclsD, har, hare, hln, hbind⟩ := T.fn
  obtain ⟨nm, q, N, bs, bm, sn, sub, ab, col, dd, k0, k1, k2, k3, k5, hC, hbm, hal⟩ := T.cls
  have hcl : clsIn K C = some { name := nm, bases := bs, mro := .ref C :: bm, ns := N, qualname := q, hasDict := true, slotNames := sn, subclasses := sub, abstract := ab, collection := col, hasDel := false } := by unfold clsIn; rw [hC] <;> rfl
  refine ks_codeAny_call_defAt (binds := (("self" : Str), Value.ref x) :: fs.zip us) hroom (X _ _ ho) rfl hlim (codeRec_of X hcd) rfl (BindsTo.of_eq (by
    have z := hbind (.ref x :: us) (by simp [hl])
    exact z)) hsc.nocell (fun y hy => ?_) (fun h₁ hns k => ?_) hsc.co hsc.gen hsc.kind
  · rcases List.mem_cons.mp hy with e | hy
    · rw [e]
      exact hsc.self
    · exact hsc.fld _ (List.of_mem_zip hy).1
  have X1 : K.In h₁ := X.keeps k
  have hx1 := k _ _ hx
  have nd1 : ((("self" : Str)) :: fs).Nodup := List.nodup_cons.mpr ⟨T.nsf, T.nd⟩
  have look : ∀ p ∈ (("self" : Str) :: fs).zip (.ref x :: us), ((("self" : Str), Value.ref x) :: fs.zip us).reverse.lookup p.1 = some p.2 := fun p hp => zip_mem_look (us := .ref x :: us) nd1 hp
  have lself : ((("self" : Str), Value.ref x) :: fs.zip us).reverse.lookup ("self" : Str) = some (.ref x) := look (("self" : Str), .ref x) List.mem_cons_self
  have hxL : s.heap.objs.size ≠ x := Nat.ne_of_gt (Heap.lt_size hx)
  -- super().__init__(text)
  refine ks_wpAt_execs_cons (ks_wpAt_Expr_any (ks_wpAt_MethodCall ?_ (super_call hln hte.star)) (interactive_fn hsc.kind) rfl)
  obtain ⟨oD, hD1, hD2⟩ : ∃ oD, h₁.get? C = some oD ∧ oD.data = .cls { name := nm, bases := bs, mro := .ref C :: bm, ns := N, qualname := q, hasDict := true, slotNames := sn, subclasses := sub, abstract := ab, collection := col, hasDel := false } := ⟨_, X1 _ _ hC, rfl⟩
  refine ks_wpAt_super_base hsc.sup hsc.cls (by decide) rfl (X1 _ _ ho) rfl har rfl (X1 _ _ hcda) rfl hfile hfe T.top ?_
  refine ks_loadName_global hsc.kind hsc.sup (loadGlobal_builtin (G.keeps k) (mg_none_of X1 (G.keeps k) T.sup) (hb.keeps k) ((hbs _ (by decide)).trans PyProof.Rows.Boot.«super») ⟨rfl, ?_⟩)
  refine wpAny_loadName_free hsc.kind hsc.cls rfl ⟨_, X1 _ _ hcell, rfl⟩ ?_
  rw [hare]
  refine wpAny_loadName_local hsc.kind hsc.self hns lself ?_
  refine ks_wpAny_isType_cls hD1 hD2 ⟨rfl, ?_⟩
  have I1 : PySem.W.InstAt h₁ x (excO C t0) C none := ⟨hx1, rfl, rfl, trivial⟩
  refine ks_wpAny_call_super hD1 hD2 hx1 rfl (fun c e => by cases e) (looks_mroIn X1 T.meC) fun h2 hso k2 => ?_
  have X2 : K.In h2 := X1.keeps k2
  have hx2 := k2 _ _ hx1
  have I2 : PySem.W.InstAt h2 x (excO C t0) C none := ⟨hx2, rfl, rfl, trivial⟩
  have hmr : Looks (model prog w) h2 (mroOf (.ref C)) (.ref C :: bm) := (looks_clsIn X2 hcl).andThen .now
  refine kxs_getMethod kxs_ValueError hso (looks_opaque X2 T.any) hmr (ESX.drop_own C bm) X2 hal (I2.type.andThen (looks_subIn X2 T.veC)) (fun z => by rw [z] at hx1; rw [X1 _ _ hC] at hx1; cases hx1) (by decide) ?_
  have ns2 : Heap.Ns (h2.push (kxs_mw "ValueError.__init__" x)) s.heap.objs.size _ := (hns.keeps k2).keeps fun b o e => Heap.get?_push_of_some _ e
  have k3 : ∀ b o, h2.get? b = some o → (h2.push (kxs_mw "ValueError.__init__" x)).get? b = some o := fun b o e => Heap.get?_push_of_some _ e
  have hu : (h2.push (kxs_mw "ValueError.__init__" x)).get? h2.objs.size = some (kxs_mw "ValueError.__init__" x) := Heap.get?_push_at rfl rfl
  have hx3 := k3 _ _ hx2
  -- the rest, behind it
  have rest : ∀ (h4 : Heap) (t1 : Addr) (tk : Tok), (∀ b o, b ≠ x → (h2.push (kxs_mw "ValueError.__init__" x)).get? b = some o → h4.get? b = some o) → h4.get? x = some (excO C t1) → wpAny (model prog w) (A.deeper (callEnv (ksFn "__init__" qual params (.Expr (.Call (.Attribute (.Call (.Name "super" p0) [] [] p1) "__init__" p2) [te] [] p3) p4 :: b) scope dV kV doc pm an (.ref cda) ct cc) s.heap.objs.size fI))
      (execs b (callEnv (ksFn "__init__" qual params (.Expr (.Call (.Attribute (.Call (.Name "super" p0) [] [] p1) "__init__" p2) [te] [] p3) p4 :: b) scope dV kV doc pm an (.ref cda) ct cc) s.heap.objs.size fI)) (fun f s' => R (.ok (.ret (match f with | .ret v => v | _ => .none))) s')
      (fun e s' => wpAny (model prog w) (A.deeper (callEnv (ksFn "__init__" qual params (.Expr (.Call (.Attribute (.Call (.Name "super" p0) [] [] p1) "__init__" p2) [te] [] p3) p4 :: b) scope dV kV doc pm an (.ref cda) ct cc) s.heap.objs.size fI)) (leaving (callEnv (ksFn "__init__" qual params (.Expr (.Call (.Attribute (.Call (.Name "super" p0) [] [] p1) "__init__" p2) [te] [] p3) p4 :: b) scope dV kV doc pm an (.ref cda) ct cc) s.heap.objs.size fI) e) (fun _ s'' => R (.error e) s'') (fun e' s'' => R (.error e') s'') s') ⟨h4, s.gens, s.drawn, tk, s.os⟩ := fun h4 t1 tk k4 hx4 => by
    have X4 : K.In h4 := fun a o e => k4 a o (fun z => by rw [z, hnx] at e; cases e) (k3 _ _ (X2 a o e))
    have ns4 : Heap.Ns h4 s.heap.objs.size _ := ns2.at fun o e => k4 _ _ hxL e
    cases hasg with
    | nil => exact absurd rfl hne
    | @cons f q1 q2 q3 q4 fs' b' hb' =>
      cases us with
      | nil => simp at hl
      | cons u us' =>
        refine wpAny_execs_cons (plainObj_wpAny_Assign_Attribute ?_)
        refine wpAny_Name (wpAny_loadName_local hsc.kind (hsc.fld f List.mem_cons_self) ns4 (look (f, u) (List.mem_cons_of_mem _ List.mem_cons_self)) ?_) (T.dbg f List.mem_cons_self)
        refine wpAny_Name (wpAny_loadName_local hsc.kind hsc.self ns4 lself ?_)
        refine set_plain X4 (ox := excO C t1) (od := none) ⟨hx4, rfl, rfl, trivial⟩ T.sa ?_
        refine exc_osa X4 hx4 hcl (show refsVE (.ref C :: bm) = true from hbm) rfl (T.noN f List.mem_cons_self) fun h5 tk5 dx k5 dn dne hx5 hn5 => ?_
        have hs4 : s.heap.objs.size < h4.objs.size := ns4.lt
        have X5 : K.In h5 := fun a o e => k5 a o (fun z => by rw [z, hnx] at e; cases e) (X4 a o e)
        have ndx : K.lookup dx = none := by
          cases e : K.lookup dx with
          | none => rfl
          | some o => exact absurd (Heap.lt_size (X4 _ _ e)) (Nat.not_lt.mpr dn)
        refine asgs_old (K := K) (t1 := t1) hC hbm T.sa (by exact hsc.kind) (by exact hsc.self) rfl lself hnx hxL fs' b' us' ⟨h5, s.gens, s.drawn, tk5, s.os⟩ (fun y => if y = f then some u else none) [f] hb' (fun g hg => hsc.fld g (List.mem_cons_of_mem _ hg)) (fun g hg => T.dbg g (List.mem_cons_of_mem _ hg)) (fun g hg => T.noN g (List.mem_cons_of_mem _ hg)) (by simpa using hl.symm) (fun p hp => look p (List.mem_cons_of_mem _ (List.mem_cons_of_mem _ hp))) (List.nodup_cons.mp T.nd).2 (by have := T.few; simp at this ⊢; omega)
          X5 (ns4.at fun o e => k5 _ _ hxL e) hx5 hn5 (Within.cons f u Within.nil) dne (Nat.ne_of_gt (Nat.lt_of_lt_of_le hs4 dn)) ndx fun h6 tk6 k6 hx6 hn6 => ?_
        refine hq h6 tk6 dx t1 ⟨fun b o hb e => ?_, hx6, Nat.le_of_lt (Nat.lt_of_lt_of_le hs4 dn), dne, ?_⟩
        · have h4b := k4 b o hb (k3 _ _ (k2 _ _ (k _ _ e)))
          exact k6 b o (Nat.ne_of_lt (Nat.lt_of_lt_of_le (Heap.lt_size h4b) dn)) (k5 b o hb h4b)
        · have e : (fun y => match (fs'.zip us').reverse.lookup y with | some v => some v | none => if y = f then some u else none) = fun y => ((f :: fs').zip (u :: us')).reverse.lookup y := by
            funext y
            show _ = List.lookup y ((f, u) :: fs'.zip us').reverse
            rw [List.reverse_cons, List.lookup_append]
            cases List.lookup y (fs'.zip us').reverse with
            | some v => rfl
            | none =>
              by_cases z : y = f
              · subst z
                simp [List.lookup]
              · have z2 : (y == f) = false := by simpa using z
                simp [List.lookup, z2, z]
          rw [← e]
          exact hn6
  -- the text, the call
  have after : ∀ (v : Value) (tk : Tok), wpAny (model prog w) (A.deeper (callEnv (ksFn "__init__" qual params (.Expr (.Call (.Attribute (.Call (.Name "super" p0) [] [] p1) "__init__" p2) [te] [] p3) p4 :: b) scope dV kV doc pm an (.ref cda) ct cc) s.heap.objs.size fI)) (call (.ref h2.objs.size) [v])
      (fun _ s' => PySem.wpAt (model prog w) (A.deeper (callEnv (ksFn "__init__" qual params (.Expr (.Call (.Attribute (.Call (.Name "super" p0) [] [] p1) "__init__" p2) [te] [] p3) p4 :: b) scope dV kV doc pm an (.ref cda) ct cc) s.heap.objs.size fI)) (.func (.Expr (.Call (.Attribute (.Call (.Name "super" p0) [] [] p1) "__init__" p2) [te] [] p3) p4 :: b) (callEnv (ksFn "__init__" qual params (.Expr (.Call (.Attribute (.Call (.Name "super" p0) [] [] p1) "__init__" p2) [te] [] p3) p4 :: b) scope dV kV doc pm an (.ref cda) ct cc) s.heap.objs.size fI)) (execs b (callEnv (ksFn "__init__" qual params (.Expr (.Call (.Attribute (.Call (.Name "super" p0) [] [] p1) "__init__" p2) [te] [] p3) p4 :: b) scope dV kV doc pm an (.ref cda) ct cc) s.heap.objs.size fI)) (fun f s' => R (.ok (.ret (match f with | .ret v => v | _ => .none))) s')
        (fun e s' => wpAny (model prog w) (A.deeper (callEnv (ksFn "__init__" qual params (.Expr (.Call (.Attribute (.Call (.Name "super" p0) [] [] p1) "__init__" p2) [te] [] p3) p4 :: b) scope dV kV doc pm an (.ref cda) ct cc) s.heap.objs.size fI)) (leaving (callEnv (ksFn "__init__" qual params (.Expr (.Call (.Attribute (.Call (.Name "super" p0) [] [] p1) "__init__" p2) [te] [] p3) p4 :: b) scope dV kV doc pm an (.ref cda) ct cc) s.heap.objs.size fI) e) (fun _ s'' => R (.error e) s'') (fun e' s'' => R (.error e') s'') s') s')
      (fun e s' => wpAny (model prog w) (A.deeper (callEnv (ksFn "__init__" qual params (.Expr (.Call (.Attribute (.Call (.Name "super" p0) [] [] p1) "__init__" p2) [te] [] p3) p4 :: b) scope dV kV doc pm an (.ref cda) ct cc) s.heap.objs.size fI)) (leaving (callEnv (ksFn "__init__" qual params (.Expr (.Call (.Attribute (.Call (.Name "super" p0) [] [] p1) "__init__" p2) [te] [] p3) p4 :: b) scope dV kV doc pm an (.ref cda) ct cc) s.heap.objs.size fI) e) (fun _ s'' => R (.error e) s'') (fun e' s'' => R (.error e') s'') s')
      ⟨h2.push (kxs_mw "ValueError.__init__" x), s.gens, s.drawn, tk, s.os⟩ := fun v tk =>
    call_mw ((X2.keeps k3) _ _ hC) hx3 hu (by rw [sizeLine_eq]; exact (by decide : 1 ≤ 16777216)) fun h4 t1 k4 hx4 => wpAt_of_wpAny (rest h4 t1 tk k4 hx4)
  refine kxs_callWith (i := "ValueError.__init__") (x := x) (by cases hte <;> rfl) ?_
  cases hte with
  | con z kk pp _ hz => exact evalArgs_plain (spliced_cons (Constant_str (k := kk) (pos := pp) (spliced_nil ⟨hu, after _ _⟩)))
  | @cat z kk pp pp2 pp3 f fs' hz =>
    obtain ⟨y, ty, r, eu, hy⟩ := hcat rfl
    subst eu
    refine evalArgs_plain (spliced_cons (wpAny_BinOp (pos := pp3) (Constant_str (k := kk) (pos := pp) (wpAny_Name (pos := pp2) (wpAny_loadName_local hsc.kind (hsc.fld f List.mem_cons_self) ns2 (look (f, .str y ty) (List.mem_cons_of_mem _ List.mem_cons_self)) ?_) (T.dbg f List.mem_cons_self)))))
    exact add_str (fun t' tk => spliced_nil ⟨hu, after _ _⟩) (by rw [sizeLine_eq]; omega)
end
end OwnX
end PySem

namespace PySem
namespace OwnX
open PySem.W PySem.Calls PyProof.Rows PySem.HandSPX
structure OwnMade (h h' : Heap) (e C d : Addr) (m : Str → Option Value) : Prop where
  keep : ∀ b o, h.get? b = some o → h'.get? b = some o
  new : h.objs.size ≤ e
  obj : ∃ oe vs, h'.get? e = some oe ∧ oe.cls = .ref C ∧ oe.dict = some d ∧ oe.data = .fields vs ∧ vs[1]? = some .none
  dbig : h.objs.size ≤ d
  dne : d ≠ e
  ns : h'.Ns1 d m
section
variable {prog : Program} {w : World} {A : Around} {R : Result → Shared → Prop} {s : Shared} {K : Frag} {C fI : Addr} {cat : Bool} {fs : List Str}
theorem own_made (T : OwnX prog K C fI cat fs) {mg mb : Str → Option Value} {us : List Value} (X : K.In s.heap) (hlim : s.heap.NoLimit) (G : s.heap.Ns mainGlobals mg) (hb : s.heap.Ns builtinsNs mb) (hbs : ∀ x : Str, x ≠ "__name__" → mb x = bootBuiltins x)
    (hroom : A.depth + 1 < recursionLimit) (hl : us.length = fs.length) (hne : fs ≠ []) (hcat : cat = true → ∃ z tk r, us = .str z tk :: r ∧ z.length ≤ 10000000)
    (hq : ∀ h' tk e d, OwnMade s.heap h' e C d (fun y => (fs.zip us).reverse.lookup y) → R (.ok (.ret (.ref e))) { s with heap := h', toks := tk }) :
    codeAny (model prog w) A (.call (.ref C) ⟨us, []⟩) R s := by
  obtain ⟨nm, q, N, bs, bm, sn, sub, ab, col, dd, k0, k1, k2, k3, k5, hC, hbm, _⟩ := T.cls
  obtain ⟨hp, g, dr, tk, os⟩ := s
  have k : ∀ b o, hp.get? b = some o → ((hp.push (kdv_tup us)).push (excO C hp.objs.size)).get? b = some o := fun b o e => Heap.get?_push_of_some _ (Heap.get?_push_of_some _ e)
  have hget : ((hp.push (kdv_tup us)).push (excO C hp.objs.size)).get? (hp.objs.size + 1) = some (excO C hp.objs.size) := by heap_get
  have hnx : K.lookup (hp.objs.size + 1) = none := by
    cases e : K.lookup (hp.objs.size + 1) with
    | none => rfl
    | some o =>
      have z : hp.get? (hp.objs.size + 1) = some o := X _ _ e
      exact absurd (Nat.lt_of_succ_lt (Heap.lt_size z)) (Nat.lt_irrefl _)
  refine call_own F.excBase_ValueError (fun X => refsVE_contains X bm hbm) (X _ _ hC) (looks_findIn X T.iC) (fun self => bind_fn X self T.tC) (by have := T.few; rw [sizeLine_eq]; omega) ?_
  refine own_init (s := ⟨(hp.push (kdv_tup us)).push (excO C hp.objs.size), g, dr, tk, os⟩) T (X.keeps k) (hlim.keeps k) (G.keeps k) (hb.keeps k) hbs hget hnx ?_ hl hne hcat fun h' tk' dx t1 ⟨k', hx, dn, dne, hns⟩ => ?_
  · show A.depth + 1 < recursionLimit
    exact hroom
  · have old : ∀ b o, hp.get? b = some o → h'.get? b = some o := fun b o e => k' b o (Nat.ne_of_lt (Nat.lt_succ_of_lt (Heap.lt_size e))) (k b o e)
    have z : hp.objs.size + 1 + 1 ≤ dx := by
      first
        | (simpa only [Heap.size_push] using dn)
        | exact dn
        | (have q := dn; rw [Heap.size_push, Heap.size_push] at q; exact q)
    exact ⟨rfl, hq h' tk' (hp.objs.size + 1) dx ⟨old, Nat.le_succ _, ⟨_, _, hx, rfl, rfl, rfl, rfl⟩, Nat.le_trans (Nat.le_trans (Nat.le_succ _) (Nat.le_succ _)) z, dne, hns⟩⟩
end
end OwnX
end PySem
namespace Snd
open PySem PySem.Spec PyProof.Rows L2 Ev
theorem look_rev {β : Type} : ∀ {fs : List Str} {us : List β} (y : Str), fs.Nodup → (fs.zip us).reverse.lookup y = (fs.zip us).lookup y
  | [], _, _, _ => rfl
  | _ :: _, [], _, _ => rfl
  | f :: fs, u :: us, y, nd => by
    show List.lookup y ((f, u) :: fs.zip us).reverse = List.lookup y ((f, u) :: fs.zip us)
    rw [List.reverse_cons, List.lookup_append, look_rev y (List.nodup_cons.mp nd).2]
    by_cases e : y = f
    · subst e
      have z : List.lookup y (fs.zip us) = none := by
        rw [List.lookup_eq_none_iff]
        intro q hq
        exact bne_iff_ne.mpr (fun e : y = q.1 => (List.nodup_cons.mp nd).1 (e ▸ (List.of_mem_zip hq).1))
      rw [z]
      simp [List.lookup]
    · have z2 : (y == f) = false := by simpa using e
      show _ = (match y == f with | true => some u | false => List.lookup y (fs.zip us))
      rw [z2]
      cases List.lookup y (fs.zip us) <;> simp [List.lookup, z2]
theorem relO_zip : ∀ {fs : List Str} {vs : List V} {us : List Value}, Vals vs us → ∀ y, RelO ((fs.zip vs).lookup y) ((fs.zip us).lookup y)
  | [], _, _, _, _ => trivial
  | _ :: _, [], [], .nil, _ => trivial
  | f :: fs, v :: vs, u :: us, .cons r t, y => by
    show RelO (match y == f with | true => some v | false => List.lookup y (fs.zip vs)) (match y == f with | true => some u | false => List.lookup y (fs.zip us))
    cases y == f with
    | true => exact r
    | false => exact relO_zip t y
structure ErC (X : Core) (T : Tab) (nm : Nm) (c : Nat) (C : Ev.Cls) : Prop where
  keep : PySem.W.keepIn X.K (.ref (cad nm X.K c)) = true
  r1 : PySem.W.subIn X.K (.ref (cad nm X.K c)) (.type "BaseException") = some true
  r2 : PySem.W.typeIn X.K (.ref (cad nm X.K c)) = some (.type "type")
  made : (C.fields = [] ∧ PySem.W.excIn X.K (cad nm X.K c) He.veBase "ValueError.__new__" = true) ∨
    (C.fields ≠ [] ∧ ∃ fI, PySem.OwnX.OwnX X.prog X.K (cad nm X.K c) fI C.cat (fnames T nm c))
section
variable {X : Cx} {T : Tab} {nm : Nm} {W : WX} {cf : Nat → List D → Sto → R D} {pos : Pos} {k : Nat}
theorem ErC.r {c : Nat} {C : Ev.Cls} (E : ErC (co X) T nm c C) : Raises X (.ref (cad nm X.K c)) := raises_own E.r1 E.r2
def tMk (W : WX) (c : Nat) (C : Ev.Cls) (as : Es) : L2.St → Hp → XK → Prop := fun σ H Q => ∃ g ρ st, Mt T nm X.K g ρ st σ H ∧ Out T nm X.K W g ρ σ (fun ds st' g' _ => raisable C ds = true ∧ ∀ cv dd g'' H'', Le g' g'' → Mt T nm X.K g'' ρ st' σ H'' → XnR T nm X.K g'' ⟨c, ds⟩ cv dd → Q cv dd H'') (evA T cf as ρ st)
theorem fnames_len {c : Nat} {C : Ev.Cls} (hC : T.cls c = some C) : (fnames T nm c).length = C.fields.length := by
  unfold fnames
  rw [hC]
  exact List.length_map ..
theorem mk_own {c : Nat} {C : Ev.Cls} {x : Str} {p : Pos} {e : Expr} {es : List Expr} {as : Es} (hC : T.cls c = some C) (E : ErC (co X) T nm c C) (hf : C.fields ≠ []) (hr : Room k X.A) (hg : Gl X x) (hm : X.mg x = some (.ref (cad nm X.K c)))
    (ha : PA X (e :: es) (tA T nm X.K cf W as)) (hdb : (x == ("__debug__" : Str)) = false) (he : starEach (e :: es) X.env = (false, eval e X.env) :: starEach es X.env) (hpl : (backTo pos (starEach es X.env)).any (·.1) = false) :
    PMk X (.Call (.Name x p) (e :: es) [] pos) (tMk (X := X) (T := T) (nm := nm) (cf := cf) W c C as) := by
  intro pins s σ H Q I ⟨g, ρ, st, m, o⟩
  rcases E.made with ⟨z, _⟩ | ⟨_, fI, OX⟩
  · exact absurd z hf
  refine wpAny_Call_Name_kw (ld_glob I hg hm ?_ hdb)
  refine PySem.W.callWith_K (h₀ := X.base) I.ok.mod.kin E.keep (thn (ha.run pos pins s σ H (fun vs H1 => ∃ ds st1 g1, Reps T nm X.K g1 ds vs ∧ Mt T nm X.K g1 ρ st1 σ H1 ∧ raisable C ds = true ∧ ∀ cv dd g'' H'', Le g1 g'' → Mt T nm X.K g'' ρ st1 σ H'' → XnR T nm X.K g'' ⟨c, ds⟩ cv dd → Q cv dd H'') I
    ⟨g, ρ, st, m, Out.imp o fun ds st1 g1 H1 l1 m1 q vs r => ⟨ds, st1, g1, r, m1, q.1, q.2⟩⟩) fun us s1 ⟨vs, H1, I1, rv, ds, st1, g1, r, m1, ok, q⟩ => ⟨I1.kIn, ?_⟩) he hpl
  show wpAny _ _ (call (.ref (cad nm X.K c)) us) _ _ _
  have hlim := I1.nolimit
  obtain ⟨mb, hb1, hb2⟩ := I1.mod.blt
  obtain ⟨hp, gg, dr, tk, os⟩ := s1
  have hn : ds.length = (fnames T nm c).length := by
    have z : ds.length == C.fields.length := by
      unfold raisable at ok
      simp only [Bool.and_eq_true] at ok
      exact ok.1.2
    rw [fnames_len hC]
    exact beq_iff_eq.mp z
  have hus : us.length = (fnames T nm c).length := by rw [← rv.length, ← r.len, hn]
  refine wpAny_call (PySem.OwnX.own_made OX I1.kIn hlim (I1.mod.glob.keeps I1.bk) (hb1.keeps I1.bk) hb2 (by have := hr.dp; omega) hus ?_ ?_ fun h' tk' e d M => ?_)
  · intro z
    exact hf (List.eq_nil_of_length_eq_zero (by rw [← fnames_len (nm := nm) hC, z]; rfl))
  · intro hcat
    unfold raisable at ok
    simp only [Bool.and_eq_true, hcat, Bool.not_true, Bool.false_or] at ok
    cases ds with
    | nil => exact (by cases ok.2)
    | cons d0 ds' =>
      cases d0 with
      | str z =>
        have hz : z.length ≤ LINE := by simpa [isTxt] using ok.2
        cases r with
        | cons r0 rr =>
          cases r0
          cases rv with
          | cons u0 ur =>
            obtain ⟨t, rfl⟩ := u0
            exact ⟨_, _, _, rfl, by rw [strOf_len]; exact Nat.le_trans hz (by decide)⟩
      | _ => cases ok.2
  show MkP X pins σ Q (.ref e) ⟨h', gg, dr, tk', os⟩
  obtain ⟨oe, fv, hoe, hc, hd, hdat, h1⟩ := M.obj
  have hns := M.ns
  obtain ⟨G', g1', g2'⟩ := restrict h' fun b => decide (b ≠ e)
  have gk : ∀ b, b ≠ e → G'.get? b = h'.get? b := fun b hb => g1' b (decide_eq_true hb)
  have ge : G'.get? e = none := g2' e (by simp)
  have old : ∀ b o, hp.get? b = some o → G'.get? b = some o := fun b o q => (gk b (Nat.ne_of_lt (Nat.lt_of_lt_of_le (Heap.lt_size q) M.new))).trans (M.keep b o q)
  have ob : ObjOk X.prog X.w (upd H1 d (.xd ((fnames T nm c).zip vs))) G' d (.xd ((fnames T nm c).zip vs)) :=
    ⟨_, hns.at (fun o q => (gk d M.dne).trans q), fun f => by
      rw [look_rev f OX.nd]
      exact relO_zip rv f⟩
  have J : Inv X pins σ (upd H1 d (.xd ((fnames T nm c).zip vs))) ⟨G', gg, dr, tk', os⟩ := I1.laid (t' := tk') old M.dbig ob
  have hdn : H1 d = none := I1.hok.fresh M.dbig
  have l2 : Le g1 (put g1 d (.imm (.xd ((fnames T nm c).zip vs)))) := le_put (m1.fresh hdn)
  refine ⟨e, oe, fv, ⟨G', gg, dr, tk', os⟩, _, .ref (cad nm X.K c), some d, rfl, J, fun b o q => ?_, ge, hoe, ⟨hc, hd⟩, hdat, h1, ?_, rfl, I1.bare, E.r, ?_⟩
  · by_cases hb : b = e
    · have q' : G'.get? b = some o := q
      rw [hb, ge] at q'; cases q'
    · exact (gk b hb).symm.trans q
  · rw [upd_ne (Ne.symm M.dne)]
    exact I1.hok.fresh M.new
  · exact q _ _ _ _ l2 (m1.new hdn (.inl rfl)) ⟨rfl, .inr ⟨d, vs, rfl, put_same, by rw [← r.len, hn], r.mono l2.lim⟩⟩
theorem mk_pass0 {c : Nat} {C : Ev.Cls} {x : Str} {p : Pos} (E : ErC (co X) T nm c C) (hf : C.fields = []) (hcat : C.cat = false) (hex : C.exc = true) (hg : Gl X x) (hm : X.mg x = some (.ref (cad nm X.K c))) (hdb : (x == ("__debug__" : Str)) = false) :
    PMk X (.Call (.Name x p) [] [] pos) (tMk (X := X) (T := T) (nm := nm) (cf := cf) W c C .nil) := by
  intro pins s σ H Q I ⟨g, ρ, st, m, o⟩
  rcases E.made with ⟨_, ex⟩ | ⟨z, _⟩
  · refine wpAny_Call_Name_kw (ld_glob I hg hm ?_ hdb)
    refine PySem.W.callWith_K0 I.kIn E.keep ?_
    obtain ⟨bm, N, nm', qn, bs, hdct, sn, sub, ab, col, dd, k0, k1, k2, k3, k5, mN, hC, hN, hni, TT⟩ := exc_obj I.kIn ex
    have q := Out.ok o m
    refine wpAny_call_exc_subT F.excBase_ValueError TT hC hN hni (fun h' e hm' => ?_) (by rw [sizeLine_eq]; exact (by decide : 0 ≤ 16777216))
    exact mk_of I hm' E.r (q.2 _ none g H (Le.refl g) m ⟨rfl, .inl ⟨rfl, rfl⟩⟩) (I.hok.gone hm'.new)
  · exact absurd hf z
end
end Snd
set_option Elab.async false
set_option linter.all false
set_option maxRecDepth 100000
namespace PySem.W
open PySem PySem.Spec PySem.Calls PyProof.Rows
section
variable {prog : Program} {w : World} {A : Around} {E : Value → Shared → Prop} {s : Shared} {K : Frag} {x D : Addr} {ox : Obj} {od : Option Obj}
theorem findObj_dataX {C : Addr} {name : Str} {a g : Value} (hc : (clsIn K C).isSome = true) (ha : findIn K (.ref C) name = some (some a)) (hg : specialIn K a "__get__" = some (some g)) (ht : takesIn K a = some true) : findObj K C od name = some (.bind g a) := by
  obtain ⟨cd, hc⟩ := Option.isSome_iff_exists.mp hc
  unfold findObj
  rw [hc, Option.bind_some, ha, Option.bind_some]
  simp [hg, ht]
theorem kin_classX {Q : Option Value → Shared → Prop} (C : L2.ExcC K D) (X : K.In s.heap) (I : InstAt s.heap x ox D od) (h : Q (some (.ref D)) { s with toks := s.toks + 1 }) : wpAny (model prog w) A (getAttr? (.ref x) "__class__") Q E s := by
  have hf : findObj K D od "__class__" = some (.bind (.builtin "getset_descriptor.__get__") (.builtin "object.__class__")) := findObj_dataX (by obtain ⟨cd, hc, _⟩ := any_some C.hd; rw [hc]; rfl) C.ha C.hn C.ht
  obtain ⟨hp, g, d, t, os⟩ := s
  have L0 := I.type (M := model prog w)
  have L1 := looks_findIn (M := model prog w) X C.hg
  have L2 := looks_findIn (M := model prog w) X C.hk
  have L3 := looks_find (M := model prog w) X I hf
  have sub : Looks (model prog w) hp (isInstance (.ref x) (.type "BaseException")) true := L0.andThen (looks_subIn X C.hs)
  have hx0 : (false && onTheHeap (Value.builtin "BaseException.__getattribute__")) = false := rfl
  have hx2 : (Value.builtin "BaseException.__getattribute__" == Value.builtin "object.__getattribute__") = false := by decide +kernel
  have hx1 : (onTheHeap (Value.ref D) && Value.builtin "BaseException.__getattribute__" == Value.builtin "object.__getattribute__") = false := by rw [hx2]; rfl
  unfold getAttr? getAttrBy? getAttrBy
  refine wpAny_bind (wpAny_mkText (wpAny_bind (wpAny_attempt (wpAny_holding (wpAny_bind (L0.at (wpAny_bind (L1.at ?_))))))))
  show wpAny _ _ (if (onTheHeap (Value.ref D) && Value.builtin "BaseException.__getattribute__" == Value.builtin "object.__getattribute__") = true then _ else _) _ _ _
  rw [hx1, if_neg Bool.false_ne_true]
  unfold getAttrByItsOwn hookBefore
  refine wpAny_bind ?_
  rw [if_pos (show onTheHeap (Value.ref D) = true from rfl)]
  refine L2.at ?_
  refine wpAny_bind (wpAny_attempt (wpAny_holding ?_))
  unfold callGetattribute
  rw [hx0, if_neg Bool.false_ne_true]
  unfold boundAndCalled
  rw [PySem.F.excAttr_ValueError.ga.bind (.ref x)]
  refine wpAny_bind (wpAny_pure ?_)
  show wpAny _ _ (call (.builtin "BaseException.__getattribute__") [.ref x, .str "__class__" t]) _ _ _
  refine wpAny_call (codeAny_call_builtin PySem.F.excAttr_ValueError.ga.plain PySem.F.entry_bexc_ga ?_)
  refine @check_slot (model prog w) _ _ ⟨hp, g, d, t + 1, os⟩ "BaseException.__getattribute__" "BaseException" "__getattribute__" (.ref x) [.str "__class__" t] [] _ (by decide +kernel) (by decide +kernel) sub (PySem.F.args_bexc_ga (.ref x) (.str "__class__" t)) ?_
  unfold Builtin.«object.__getattribute__»
  refine wpAny_bind (wpAny_of_eq (a := ((Value.ref x : Value), [Value.str "__class__" t])) (by first | rfl | (simp only [slotArgs]; rfl)) ?_)
  refine wpAny_bind (wpAny_pure (wpAny_bind (L0.at (wpAny_bind (L3.at ?_)))))
  show wpAny _ _ (holding [Value.builtin "object.__class__"] (call (.builtin "getset_descriptor.__get__") [.builtin "object.__class__", .ref x, .ref D]) >>= ret) _ _ _
  refine wpAny_bind (wpAny_holding (wpAny_call (class_get (s := ⟨hp, g, d, t + 1, os⟩) (ox := ox) (od := od) X I C.hm ?_)))
  refine wpAny_pure ?_
  show wpAny _ _ (handedOut (.ref D)) _ _ _
  rw [handedOut_of (v := .ref D) rfl]
  first
    | exact wpAny_pure (wpAny_pure h)
    | exact wpAny_pure h
    | exact wpAny_pure (wpAny_bind (wpAny_pure (wpAny_pure h)))
theorem kitx_excX (C : L2.ExcC K D) : KitX K (.ref x) (.ref D) (fun h => InstAt h x ox D od) where
  ty := fun _ _ _ I => I.type
  it := fun _ _ X _ => by
    obtain ⟨cdD, hcD, _⟩ := any_some C.hd
    unfold clsIn at hcD
    split at hcD
    · rename_i c' d' cd' sl' ho
      intro A' Q' E' s' k q
      unfold isType loadHead
      exact wpAny_bind (wpAny_loadPart (k _ _ (X _ _ ho)) (wpAny_pure q))
    · cases hcD
  ne := fun h tp dd its n sl X htp => by
    obtain ⟨cdD, hcD, _⟩ := any_some C.hd
    refine Bool.eq_false_iff.mpr fun q => ?_
    have e : D = tp := Value.ref.inj (beq_iff_eq.mp q)
    subst e
    unfold clsIn at hcD
    split at hcD
    · rename_i c' d' cd' sl' ho
      have z := (X _ _ ho).symm.trans htp
      cases z
    · cases hcD
  ca := fun X I k => kin_classX C X I k
end
end PySem.W
namespace Snd
open PySem PySem.Spec PyProof.Rows L2 Ev
section
variable {T : Tab} {nm nm' : Nm} {K : PySem.W.Frag} {W : WX} {g g0 g1 gb : Gh} {ρ : Rho} {σ : L2.St} {H : Hp} {st : Sto} {D : Ends}
structure SameN (nm nm' : Nm) : Prop where
  cls : nm'.cls = nm.cls
  attr : nm'.attr = nm.attr
theorem SameN.symm (h : SameN nm nm') : SameN nm' nm := ⟨h.cls.symm, h.attr.symm⟩
theorem SameN.cad (h : SameN nm nm') (c : Nat) : Snd.cad nm' K c = Snd.cad nm K c := by
  unfold Snd.cad
  rw [h.cls]
theorem SameN.fn (h : SameN nm nm') (c : Nat) : fnames T nm' c = fnames T nm c := by
  unfold fnames
  rw [h.attr]
mutual
theorem Rep.cast (h : SameN nm nm') : ∀ {d : Ev.D} {v : V}, Rep T nm K g d v → Rep T nm' K g d v
  | _, _, .non => .non
  | _, _, .bl b => .bl b
  | _, _, .int i => .int i
  | _, _, .str s => .str s
  | _, _, .tup s r => .tup s (Reps.cast h r)
  | _, _, .lst s r => .lst s (Reps.cast h r)
  | _, _, .scr s => .scr s
  | _, _, .ins e l r => .ins (by rw [h.cad, h.fn]; exact e) (by rw [h.fn]; exact l) (Reps.cast h r)
  | _, _, .ref e => .ref e
theorem Reps.cast (h : SameN nm nm') : ∀ {ds : List Ev.D} {vs : List V}, Reps T nm K g ds vs → Reps T nm' K g ds vs
  | _, _, .nil => .nil
  | _, _, .cons a r => .cons (Rep.cast h a) (Reps.cast h r)
end
theorem RepR.cast {d : Ev.D} {v : V} (h : SameN nm nm') (r : RepR T nm K g0 g d v) : RepR T nm' K g0 g d v := by
  cases d with
  | own ds =>
    obtain ⟨p, vs, e, h1, h2, h3⟩ := r
    exact ⟨p, vs, e, h1, h2, h3.cast h⟩
  | _ => exact Rep.cast h r
theorem KvR.cast (h : SameN nm nm') : ∀ {kvs : List (Ev.D × Ev.D)} {kws : List (Key × V)}, KvR T nm K g kvs kws → KvR T nm' K g kvs kws
  | [], [], r => r
  | _ :: _, _ :: _, ⟨a, b, r⟩ => ⟨a, b.cast h, KvR.cast h r⟩
  | [], _ :: _, r => r.elim
  | _ :: _, [], r => r.elim
theorem KtR.cast (h : SameN nm nm') : ∀ {kvs : List (List Ev.D × Ev.D)} {kws : List (List Key × V)}, KtR T nm K g kvs kws → KtR T nm' K g kvs kws
  | [], [], r => r
  | _ :: _, _ :: _, ⟨a, b, r⟩ => ⟨a, b.cast h, KtR.cast h r⟩
  | [], _ :: _, r => r.elim
  | _ :: _, [], r => r.elim
theorem KnR.cast (h : SameN nm nm') : ∀ {kvs : List (List Ev.D × Ev.D)} {xs : List (L2.KeyN × Addr × Value)}, KnR T nm K g kvs xs → KnR T nm' K g kvs xs
  | [], [], r => r
  | _ :: _, _ :: _, ⟨a, b, ⟨v, c, d⟩, r⟩ => ⟨a, b, ⟨v, c.cast h, d⟩, KnR.cast h r⟩
  | [], _ :: _, r => r.elim
  | _ :: _, [], r => r.elim
theorem XnR.cast {x : Xn} {cv : Value} {dd : Option Addr} (h : SameN nm nm') (r : XnR T nm K g x cv dd) : XnR T nm' K g x cv dd := by
  obtain ⟨e, r⟩ := r
  refine ⟨by rw [h.cad]; exact e, ?_⟩
  rcases r with r | ⟨d, vs, e1, e2, e3, r⟩
  · exact .inl r
  · exact .inr ⟨d, vs, e1, by rw [h.fn]; exact e2, by rw [h.fn]; exact e3, r.cast h⟩
theorem ObR.cast {a : Addr} {ob : Ob} {o : HO} (h : SameN nm nm') (r : ObR T nm K g a ob o) : ObR T nm' K g a ob o := by
  cases ob with
  | lst ds =>
    obtain ⟨vs, e, r⟩ := r
    exact ⟨vs, e, r.cast h⟩
  | ins c ds =>
    obtain ⟨dx, vs, e, l, r⟩ := r
    exact ⟨dx, vs, by rw [h.cad, h.fn]; exact e, by rw [h.fn]; exact l, r.cast h⟩
  | dct kvs =>
    obtain ⟨kws, e, r⟩ := r
    exact ⟨kws, e, r.cast h⟩
  | dtt kvs =>
    obtain ⟨kws, e, r⟩ := r
    exact ⟨kws, e, r.cast h⟩
  | dnn cn kvs =>
    obtain ⟨xs, e, n, r⟩ := r
    exact ⟨xs, e, n, r.cast h⟩
  | exv c ds =>
    obtain ⟨dd, e, r⟩ := r
    exact ⟨dd, by rw [h.cad]; exact e, by rw [h.cad]; exact r.cast h⟩
theorem Mt0.cast (h : SameN nm nm') (m : Mt0 T nm K g st H) : Mt0 T nm' K g st H :=
  ⟨m.imm, m.held, fun k ob e => by
    obtain ⟨a, o, e1, e2, r⟩ := m.sto k ob e
    exact ⟨a, o, e1, e2, r.cast h⟩, m.stl, m.uniq, m.trk⟩
theorem SlR.cast {i : Nat} {d : Ev.D} {v : V} (h : SameN nm nm') (hme : nm'.me = nm.me) (n : notExc (some d) = true) (r : SlR T nm K g H i d v) : SlR T nm' K g H i d v := by
  cases d with
  | own ds =>
    obtain ⟨p, vs, e, h1, h2, h3⟩ := r
    exact ⟨p, vs, e, h1, h2, h3.cast h⟩
  | obj c ds =>
    obtain ⟨p, dx, vs, e, h1, h2, h3, h4, h5⟩ := r
    exact ⟨p, dx, vs, by rw [hme]; exact e, h1, by rw [h.cad, h.fn]; exact h2, h3, by rw [h.fn]; exact h4, h5.cast h⟩
  | exc c ds => cases n
  | _ => exact Rep.cast h r
theorem Mt.cast (h : SameN nm nm') (hme : nm'.me = nm.me) (n : ρ.all notExc = true) (m : Mt T nm K g ρ st σ H) : Mt T nm' K g ρ st σ H :=
  ⟨m.toMt0.cast h, m.len, fun i d e => by
    obtain ⟨v, e1, r⟩ := m.slots i d e
    exact ⟨v, e1, r.cast h hme (List.all_eq_true.mp n _ (List.mem_of_getElem? e))⟩⟩
end
section
variable {X : Cx} {T : Tab} {nm : Nm} {W : WX} {cf : Nat → List D → Sto → R D} {pos : Pos} {k : Nat}
def ErI (X : Core) (T : Tab) (nm : Nm) (c : Nat) : Prop := ∀ j, isErr T j = true → PySem.W.exmOne X.K (.ref (cad nm X.K j)) (.ref (cad nm X.K c)) = some (under T j c)
structure XcI (X : Core) (T : Tab) (nm : Nm) (c : Nat) (C : Ev.Cls) : Prop where
  x : ExcC X.K (cad nm X.K c)
  nd : (C.fields.map nm.attr).Nodup
  noat : ∀ m ∈ C.fields, PySem.W.findIn X.K (.ref (cad nm X.K c)) (nm.attr m) = some none
theorem XcI.xf {c : Nat} {C : Ev.Cls} (h : XcI (co X) T nm c C) : XfC X.K (cad nm X.K c) := ⟨h.x.hg, h.x.hk, h.x.hs, h.x.hd⟩
theorem isErr_some {c : Nat} (h : isErr T c = true) : ∃ C, T.cls c = some C ∧ C.exc = true := by
  unfold isErr at h
  cases q : T.cls c with
  | none => rw [q] at h; cases h
  | some C => rw [q] at h; exact ⟨C, rfl, h⟩
theorem tyW_only (nm : Nm) (K : PySem.W.Frag) (t : TY) (u : Value) (r : RelV (tyW nm K t) u) : u = tyV nm K t := by
  cases t <;> exact r
end
end Snd
set_option Elab.async false
set_option linter.all false
set_option maxRecDepth 100000
namespace Snd
open PySem PySem.Spec PyProof.Rows L2 Ev
section
variable {T : Tab} {nm : Nm} {K : PySem.W.Frag} {W : WX} {g g0 g1 gb : Gh} {ρ : Rho} {σ : L2.St} {H : Hp} {st : Sto}
theorem Mt.stored (m : Mt T nm K g ρ st σ H) {p : Addr} {vs : List V} {ds : List Ev.D} (h : g p = some (.held (.lst vs))) (r : Reps T nm K g ds vs) : Mt T nm K (put g p (.sto st.length)) ρ (st ++ [.lst ds]) σ H ∧ Lim g (put g p (.sto st.length)) := by
  have hp := m.held _ _ h
  have lm : Lim g (put g p (.sto st.length)) := ⟨fun a o e => by rw [put_ne (fun z => by rw [z, h] at e; cases e)]; exact e, fun a k e => by rw [put_ne (fun z => by rw [z, h] at e; cases e)]; exact e⟩
  have old : ∀ a u, a ≠ p → put g p (.sto st.length) a = some u → g a = some u := fun a u n e => by rw [put_ne n] at e; exact e
  refine ⟨⟨⟨fun a o' e => ?_, fun a o' e => ?_, fun k ob e => ?_, fun a k e => ?_, fun a b k e1 e2 => ?_, fun a u e => ?_⟩, m.len, fun i d e => ?_⟩, lm⟩
  · by_cases n : a = p
    · subst n
      rw [put_same] at e
      cases e
    · exact m.imm a o' (old a _ n e)
  · by_cases n : a = p
    · subst n
      rw [put_same] at e
      cases e
    · exact m.held a o' (old a _ n e)
  · by_cases n : k < st.length
    · rw [List.getElem?_append_left n] at e
      obtain ⟨a, o', e1, e2, r⟩ := m.sto k ob e
      exact ⟨a, o', lm.2 _ _ e1, e2, r.mono lm⟩
    · rw [List.getElem?_append_right (by omega)] at e
      have hk : k = st.length := by
        cases q : k - st.length with
        | zero => omega
        | succ j => rw [q] at e; simp at e
      subst hk
      simp at e
      subst e
      exact ⟨p, _, put_same, hp, vs, rfl, r.mono lm⟩
  · rw [List.length_append]
    by_cases n : a = p
    · subst n
      rw [put_same] at e
      cases e
      exact Nat.lt_succ_self _
    · exact Nat.lt_succ_of_lt (m.stl a k (old a _ n e))
  · by_cases na : a = p
    · by_cases nb : b = p
      · rw [na, nb]
      · subst na
        rw [put_same] at e1
        cases e1
        have z := m.stl b _ (old b _ nb e2)
        exact absurd z (Nat.lt_irrefl _)
    · by_cases nb : b = p
      · subst nb
        rw [put_same] at e2
        cases e2
        have z := m.stl a _ (old a _ na e1)
        exact absurd z (Nat.lt_irrefl _)
      · exact m.uniq a b k (old a _ na e1) (old b _ nb e2)
  · by_cases n : a = p
    · subst n
      exact ⟨_, hp⟩
    · exact m.trk a u (old a _ n e)
  · obtain ⟨v, e1, r⟩ := m.slots i d e
    refine ⟨v, e1, r.mono lm fun q e2 => ⟨?_, rfl⟩⟩
    rw [put_ne (fun z => by rw [z, h] at e2; cases e2)]
    exact e2
end
section
variable {X : Cx} {T : Tab} {nm : Nm} {W : WX} {cf : Nat → List D → Sto → R D} {pos : Pos} {k : Nat}
def ConI (X : Core) (T : Tab) (nm : Nm) (j : Nat) : Prop := ∃ u v, X.mg (nm.con j) = some u ∧ RelV v u ∧ ∀ g, Rep T nm X.K g (T.con j) v
theorem se_sto {es : List Expr} {as : Es} (h : PA X es (tA T nm X.K cf W as)) : PE X (.List es pos) (tE T nm X.K cf W (.sto (.lst as))) :=
  PE.imp (se_lst h) fun σ H Q ⟨g, ρ, st, m, o⟩ => ⟨g, ρ, st, m, by
    have o1 := Out.bind0 (r := evE T cf (.lst as) ρ st) o
    refine Out.imp o1 fun d st1 g1 H1 l1 m1 q v r => ?_
    cases d with
    | own ds =>
      obtain ⟨p, vs, ev, h1, h2, h3⟩ := r
      subst ev
      obtain ⟨m2, lm⟩ := m1.stored h1 h3
      have l2 : Le g (put g1 p (.sto st1.length)) := fun a t e => by
        rw [put_ne (fun z => by rw [z, h2] at e; cases e)]
        exact l1 a t e
      exact q _ H1 l2 m2 _ (.ref put_same)
    | _ => exact q g1 H1 l1 m1 v r⟩
end
section
variable {T : Tab} {nm : Nm} {K : PySem.W.Frag} {g gb : Gh} {st : Sto} {H : Hp}
abbrev cxF (Y : Core) (N : List Str) (qual : Str) (scope : Scope) (f : Addr) (cd : Value) (A : Around) (outer : List Env) (s : Shared) (H : Hp) (E : XK) : Cx := cxOf (L2.CX Y.prog Y.w) Y.prog Y.w Y.K Y.mg Y.base N qual scope f cd A outer s H E
abbrev wF (E : XK) : WX := fun cls d _ H => E cls d H
theorem start_at {n i : Nat} {ds : List Ev.D} {d : Ev.D} (h : (Ev.start n ds)[i]? = some (some d)) : ds[i]? = some d := by
  unfold Ev.start at h
  by_cases hi : i < ds.length
  · rw [List.getElem?_append_left (by simpa using hi), List.getElem?_map] at h
    cases e : ds[i]? with
    | none => rw [e] at h; cases h
    | some a => rw [e] at h; cases h; rfl
  · rw [List.getElem?_append_right (by simpa using hi), List.getElem?_replicate] at h
    split at h <;> cases h
theorem mt_start {N : List Str} {n : Nat} {ds : List Ev.D} {vs : List V} (m : Mt0 T nm K g st H) (r : Reps T nm K g ds vs) (hn : N.length = n) (hl : ds.length ≤ n) : Mt T nm K g (Ev.start n ds) st (L2.start N vs) H := by
  refine ⟨m, ?_, fun i d e => ?_⟩
  · unfold Ev.start L2.start
    simp only [List.length_append, List.length_map, List.length_replicate]
    rw [← r.len, hn]
  · obtain ⟨v, e1, rv⟩ := r.at (start_at e)
    refine ⟨v, ?_, SlR.rep rv⟩
    unfold L2.start
    rw [List.getElem?_append_left (by rw [List.length_map]; exact (List.getElem?_eq_some_iff.mp e1).1), List.getElem?_map, e1]
    rfl
theorem fn_sp {Y : Core} {k f : Nat} {fn : Fn} {x qual : Str} {params : Arguments} {body : List Stmt} {scope : Scope} {dvs : List V} {kws : List (Str × V)} {fa : Addr} {fd : FuncData} {N ps : List Str} {cf cf' : Nat → List Ev.D → Sto → R Ev.D} (F : FunD Y.K x qual params body scope dvs kws fa fd) (S : FnScope N ps scope)
    (hcf : cf f = runB T cf' fn) (hi : fn.ini = none) (hps : ps.length = fn.np) (hN : N.length = fn.nl) (hle : fn.np ≤ fn.nl)
    (hb : ∀ (cdv : Value) (A : Around) (outer : List Env) (s : Shared) (H : Hp) (E : XK), Room k (A.deeper (envOfC qual scope s.heap.objs.size fa cdv)) → PSs (cxF Y N qual scope fa cdv A outer s H E) body (tS T nm Y.K cf' (wF E) fn.body)) :
    FnOk Y.prog Y.w Y.K Y.mg Y.base (L2.CX Y.prog Y.w) (k + 1) fa fd ps (SP T nm Y.K cf fn.np f) := by
  refine F.ok S (fun vs H Q E h => h.1.trans hps.symm) fun cdv A outer s H vs Q E hr h => ⟨_, hb cdv A outer s H E hr, ?_⟩
  obtain ⟨hl, g, ds, st, ns, m, r, o⟩ := h
  have hdl : ds.length = fn.np := r.len.trans hl
  refine ⟨g, g, Ev.start fn.nl ds, st, mt_start m r hN (by rw [hdl]; exact hle), Le.refl g, ns, ?_⟩
  rw [hcf] at o
  unfold runB at o
  rw [if_pos hdl, hi] at o
  have o' : OutC T nm Y.K g Q E (fin T none (exS T cf' fn.body (Ev.start fn.nl ds) st)) := o
  cases q : exS T cf' fn.body (Ev.start fn.nl ds) st with
  | nx ρ st1 =>
    rw [q] at o'
    exact fun g' σ' H' l m => o' g' .non H' l m.toMt0 .non
  | rt d st1 =>
    rw [q] at o'
    exact fun g' v H' l m r => o' g' v H' l m r
  | er xx ρ st1 =>
    rw [q] at o'
    exact fun g' cv dd σ' H' l m x => o' g' cv dd H' l m.toMt0 x
  | bk ρ st1 => rw [q] at o'; exact o'.elim
  | ct ρ st1 => rw [q] at o'; exact o'.elim
  | no => rw [q] at o'; exact o'.elim
def nmM (nm : Nm) (x dx : Addr) : Nm := { nm with me := some (x, dx) }
theorem sameM (nm : Nm) (x dx : Addr) : SameN nm (nmM nm x dx) := ⟨rfl, rfl⟩
def without (g : Gh) (x : Addr) : Gh := fun a => if a = x then none else g a
theorem without_ne {x a : Addr} (h : a ≠ x) : without g x a = g a := if_neg h
theorem without_same {x : Addr} : without g x x = none := if_pos rfl
theorem lim_without {x : Addr} {i : Nat} (h : g x = some (.slot i)) : Lim g (without g x) := ⟨fun a o e => by rw [without_ne (fun z => by rw [z, h] at e; cases e)]; exact e, fun a k e => by rw [without_ne (fun z => by rw [z, h] at e; cases e)]; exact e⟩
theorem Mt0.without (m : Mt0 T nm K g st H) {x : Addr} {i : Nat} (h : g x = some (.slot i)) : Mt0 T nm K (without g x) st H := by
  have old : ∀ a t, Snd.without g x a = some t → g a = some t := fun a t e => by
    by_cases n : a = x
    · rw [n, without_same] at e
      cases e
    · rw [without_ne n] at e
      exact e
  exact ⟨fun a o e => m.imm a o (old _ _ e), fun a o e => m.held a o (old _ _ e), fun k ob e => by
    obtain ⟨a, o, e1, e2, r⟩ := m.sto k ob e
    exact ⟨a, o, (lim_without h).2 _ _ e1, e2, r.mono (lim_without h)⟩, fun a k e => m.stl a k (old _ _ e), fun a b k e1 e2 => m.uniq a b k (old _ _ e1) (old _ _ e2), fun a t e => m.trk a t (old _ _ e)⟩
theorem fn_spi {Y : Core} {k f c : Nat} {fn : Fn} {x qual : Str} {params : Arguments} {body : List Stmt} {scope : Scope} {dvs : List V} {kws : List (Str × V)} {fa : Addr} {fd : FuncData} {N ps : List Str} {cf cf' : Nat → List Ev.D → Sto → R Ev.D} {C : Ev.Cls} (F : FunD Y.K x qual params body scope dvs kws fa fd) (S : FnScope N ps scope)
    (hcf : cf f = runB T cf' fn) (hi : fn.ini = some c) (hC : T.cls c = some C) (hps : ps.length = fn.np + 1) (hN : N.length = fn.nl)
    (hb : ∀ (p dx : Addr) (cdv : Value) (A : Around) (outer : List Env) (s : Shared) (H : Hp) (E : XK), Room k (A.deeper (envOfC qual scope s.heap.objs.size fa cdv)) → PSs (cxF Y N qual scope fa cdv A outer s H E) body (tS T (nmM nm p dx) Y.K cf' (wF E) fn.body)) :
    FnOk Y.prog Y.w Y.K Y.mg Y.base (L2.CX Y.prog Y.w) (k + 1) fa fd ps (SPI T nm Y.K cf fn.np f c) := by
  refine F.ok S (fun vs H Q E h => h.1.trans hps.symm) fun cdv A outer s H vs Q E hr h => ?_
  obtain ⟨hl, p, dx, g, ds, st, ws, ev, hx, gx, ns, m, r, o⟩ := h
  subst ev
  refine ⟨_, hb p dx cdv A outer s H E hr, ?_⟩
  have hwl : ws.length = fn.np := by simpa using hl
  have hdl : ds.length = fn.np := r.len.trans hwl
  have l0 : Le g (put g p (.slot 0)) := le_put gx
  have m0 : Mt0 T (nmM nm p dx) Y.K (put g p (.slot 0)) st H := by
    have z := m.cast (sameM nm p dx)
    have old : ∀ a u, a ≠ p → put g p (.slot 0) a = some u → g a = some u := fun a u n e => by rw [put_ne n] at e; exact e
    refine ⟨fun a o e => ?_, fun a o e => ?_, fun j ob e => ?_, fun a j e => ?_, fun a b j e1 e2 => ?_, fun a u e => ?_⟩
    · by_cases n : a = p
      · rw [n, put_same] at e; cases e
      · exact z.imm a o (old a _ n e)
    · by_cases n : a = p
      · rw [n, put_same] at e; cases e
      · exact z.held a o (old a _ n e)
    · obtain ⟨a, o, e1, e2, rr⟩ := z.sto j ob e
      exact ⟨a, o, l0 _ _ e1, e2, rr.mono l0.lim⟩
    · by_cases n : a = p
      · rw [n, put_same] at e; cases e
      · exact z.stl a j (old a _ n e)
    · have na : a ≠ p := fun y => by rw [y, put_same] at e1; cases e1
      have nb : b ≠ p := fun y => by rw [y, put_same] at e2; cases e2
      exact z.uniq a b j (old a _ na e1) (old b _ nb e2)
    · by_cases n : a = p
      · rw [n]
        exact ⟨_, hx⟩
      · exact z.trk a u (old a _ n e)
  have r0 : Reps T (nmM nm p dx) Y.K (put g p (.slot 0)) ds ws := (r.cast (sameM nm p dx)).mono l0.lim
  have mt : Mt T (nmM nm p dx) Y.K (put g p (.slot 0)) (Ev.start fn.nl (.obj c [] :: ds)) st (L2.start N (.ref p :: ws)) H := by
    refine ⟨m0, ?_, fun i d e => ?_⟩
    · unfold Ev.start L2.start
      simp only [List.length_append, List.length_map, List.length_replicate, List.length_cons]
      rw [r.len, hN]
    · have e1 := start_at e
      cases i with
      | zero =>
        simp at e1
        subst e1
        refine ⟨.ref p, rfl, p, dx, [], ⟨rfl, rfl⟩, put_same, ?_, rfl, Nat.zero_le _, .nil⟩
        rw [hx, List.zip_nil_right]
        rfl
      | succ j =>
        obtain ⟨v, e2, rv⟩ := r0.at (show ds[j]? = some d by simpa using e1)
        refine ⟨v, ?_, SlR.rep rv⟩
        unfold L2.start
        rw [List.getElem?_append_left (by rw [List.length_map, List.length_cons]; exact Nat.succ_lt_succ (List.getElem?_eq_some_iff.mp e2).1), List.getElem?_map, List.getElem?_cons_succ, e2]
        rfl
  refine ⟨g, _, _, st, mt, l0, ns, ?_⟩
  rw [hcf] at o
  have o' : (match fin T fn.ini (exS T cf' fn.body (Ev.start fn.nl (.obj c [] :: ds)) st) with
    | .ok d st => ∀ es g' H' us, d = .ins c es → Le g g' → Mt0 T nm Y.K g' st H' → g' p = none → H' p = some (.ins (cad nm Y.K c) dx ((fnames T nm c).zip us)) → us.length = (fnames T nm c).length → Reps T nm Y.K g' es us → Q .non H'
    | .er xx st => ∀ g' cv dd H', Le g g' → Mt0 T nm Y.K g' st H' → XnR T nm Y.K g' xx cv dd → E cv dd H'
    | .no => False) := by
    unfold runB at o
    rw [if_pos hdl] at o
    rw [hi] at o ⊢
    exact o
  rw [hi] at o'
  have sm := sameM nm p dx
  cases q : exS T cf' fn.body (Ev.start fn.nl (.obj c [] :: ds)) st with
  | nx ρ st1 =>
    rw [q] at o'
    intro g1 σ1 H1 l1 m1
    cases e0 : ρ[0]? with
    | none => simp only [fin, e0] at o'
    | some o0 =>
      cases o0 with
      | none => simp only [fin, e0] at o'
      | some d0 =>
        cases d0 with
        | obj c1 ds1 =>
          simp only [fin, e0, hC] at o'
          by_cases z : c1 = c ∧ ds1.length = C.fields.length
          · rw [if_pos z] at o'
            obtain ⟨z1, z2⟩ := z
            subst z1
            obtain ⟨w, e1, pp, dx1, us, ⟨hme, ev⟩, gp, hp, hl1, hlf, rr⟩ := m1.slots 0 _ e0
            cases hme
            have hu : us.length = (fnames T nm c1).length := by
              rw [hl1, z2]
              unfold fnames
              rw [hC, List.length_map]
            have lx : Le g (without g1 p) := fun a t e => by
              rw [without_ne (fun y => by rw [y, gx] at e; cases e)]
              exact l1 a t e
            exact o' ds1 (without g1 p) H1 us rfl lx ((m1.toMt0.without gp).cast sm.symm) without_same hp hu ((rr.mono (lim_without gp)).cast sm.symm)
          · rw [if_neg z] at o'
            exact o'.elim
        | _ => simp only [fin, e0] at o'
  | rt d st1 => rw [q] at o'; exact o'.elim
  | er xx ρ st1 =>
    rw [q] at o'
    exact fun g' cv dd σ' H' l m xr => o' g' cv dd H' l (m.toMt0.cast sm.symm) (xr.cast sm.symm)
  | bk ρ st1 => rw [q] at o'; exact o'.elim
  | ct ρ st1 => rw [q] at o'; exact o'.elim
  | no => rw [q] at o'; exact o'.elim
end
end Snd
set_option Elab.async false
set_option linter.all false
set_option maxRecDepth 100000
set_option maxHeartbeats 0
namespace GQ2
open PySem PySem.SeqAt
open AutoSeq1 (wpAny_loadPart')
open MeetsSeq MeetsSeq2 MeetsSeq3 SeqRoads2 GQ
section
variable {prog : Program} {w : World} {A : Around} {R : Result → Shared → Prop}
def ListJ (prog : Program) (w : World) (A : Around) (E : Value → Shared → Prop) (l b : Addr) (N : Nat) (I : Nat → Shared → Prop) (J : Shared → Prop) : Prop :=
  (∀ i s, I i s → ∃ (items items2 : Array Value) (n n2 : Nat), s.heap.get? l = some { cls := .type "list", data := .seq items n } ∧ s.heap.get? b = some { cls := .type "list", data := .seq items2 n2 } ∧ items.size = N ∧ items2.size = N ∧
    ∀ (h1 : i < items.size) (h2 : i < items2.size), wpAny (model prog w) A.in1 (eqBool items[i] items2[i]) (fun r s' => if r then I (i + 1) s' else J s') E s) ∧
  ∀ s, J s → ∃ (items items2 : Array Value) (n n2 : Nat), s.heap.get? l = some { cls := .type "list", data := .seq items n } ∧ s.heap.get? b = some { cls := .type "list", data := .seq items2 n2 } ∧ items.size = N ∧ items2.size = N
theorem eq_loopJ (l b : Addr) (N : Nat) (I : Nat → Shared → Prop) (J : Shared → Prop) (ne : Bool) (hl : ListJ prog w A (fun e s' => R (.error e) s') l b N I J)
    (fin : ∀ s, I N s → R (.ok (.ret (.bool !ne))) s) (fin2 : ∀ s, J s → R (.ok (.ret (.bool ne))) s) (k : Nat) :
    ∀ i : Nat, N - i = k → i ≤ N → ∀ s, I i s →
      wpAny (model prog w) A.in1 (Builtin.«list.__eq__.loop» ⟨[.ref l, .ref b, rawInt i, rawInt (if ne then 3 else 2)], []⟩) (FinOf prog w A R) (fun e s' => R (.error e) s') s := by
  induction k with
  | zero =>
    intro i hk hi s h
    obtain ⟨items, items2, n, n2, hl1, hb1, hs1, hs2, _⟩ := hl.1 _ _ h
    have hi' : i = N := by omega
    have hR := fin s (hi' ▸ h)
    obtain ⟨hp, g, d, tk, os⟩ := s
    cases ne with
    | false =>
      wp_walk using wpAny_loadPart' hl1, wpAny_loadPart' hb1
      have hi1 : items[((i : Nat) : Int).toNat]? = none := by simp; omega
      have hi2 : items2[((i : Nat) : Int).toNat]? = none := by simp; omega
      rw [hi1, hi2]
      wp_walk using wpAny_loadPart' hl1, wpAny_loadPart' hb1
      show R (.ok (.ret (.bool (items.size == items2.size)))) _
      rw [hs1, hs2]
      simpa using hR
    | true =>
      wp_walk using wpAny_loadPart' hl1, wpAny_loadPart' hb1
      have hi1 : items[((i : Nat) : Int).toNat]? = none := by simp; omega
      have hi2 : items2[((i : Nat) : Int).toNat]? = none := by simp; omega
      rw [hi1, hi2]
      wp_walk using wpAny_loadPart' hl1, wpAny_loadPart' hb1
      show R (.ok (.ret (.bool (items.size != items2.size)))) _
      rw [hs1, hs2]
      simpa using hR
  | succ k ih =>
    intro i hk hi s h
    obtain ⟨items, items2, n, n2, hl1, hb1, hs1, hs2, turn⟩ := hl.1 _ _ h
    have hlt : i < items.size := by omega
    have hlt2 : i < items2.size := by omega
    have ht := turn hlt hlt2
    obtain ⟨hp, g, d, tk, os⟩ := s
    cases ne with
    | false =>
      wp_walk using wpAny_loadPart' hl1, wpAny_loadPart' hb1
      have hi1 : items[((i : Nat) : Int).toNat]? = some items[i] := by simp [hlt]
      have hi2 : items2[((i : Nat) : Int).toNat]? = some items2[i] := by simp [hlt2]
      have hc : ((i : Int) + 1) = ((i + 1 : Nat) : Int) := by omega
      rw [hi1, hi2]
      refine wpAny_bind (wpAny_mono ht (fun r s2 h2 => ?_) fun _ _ x => x)
      cases r with
      | true =>
        have hrec := ih (i + 1) (by omega) (by omega) s2 h2
        obtain ⟨hp2, g2, d2, tk2, os2⟩ := s2
        wp_walk
        rw [hc]
        exact ⟨plainId_quiet plain_eq_loop _, codeAny_builtin entry_eq_loop (by
          rw [Around.under_plainId plain_eq_loop _]
          exact hrec)⟩
      | false =>
        have hJ : J s2 := h2
        obtain ⟨items, items2, n, n2, hl1, hb1, hs1, hs2⟩ := hl.2 _ hJ
        have hR := fin2 s2 hJ
        obtain ⟨hp2, g2, d2, tk2, os2⟩ := s2
        have hi1 : items[((i : Nat) : Int).toNat]? = some items[i] := by simp [hs1]
        have hi2 : items2[((i : Nat) : Int).toNat]? = some items2[i] := by simp [hs2]
        wp_walk using wpAny_loadPart' hl1, wpAny_loadPart' hb1
        rw [hi1, hi2]
        wp_walk
        exact hR
    | true =>
      wp_walk using wpAny_loadPart' hl1, wpAny_loadPart' hb1
      have hi1 : items[((i : Nat) : Int).toNat]? = some items[i] := by simp [hlt]
      have hi2 : items2[((i : Nat) : Int).toNat]? = some items2[i] := by simp [hlt2]
      have hc : ((i : Int) + 1) = ((i + 1 : Nat) : Int) := by omega
      rw [hi1, hi2]
      refine wpAny_bind (wpAny_mono ht (fun r s2 h2 => ?_) fun _ _ x => x)
      cases r with
      | true =>
        have hrec := ih (i + 1) (by omega) (by omega) s2 h2
        obtain ⟨hp2, g2, d2, tk2, os2⟩ := s2
        wp_walk
        rw [hc]
        exact ⟨plainId_quiet plain_eq_loop _, codeAny_builtin entry_eq_loop (by
          rw [Around.under_plainId plain_eq_loop _]
          exact hrec)⟩
      | false =>
        have hJ : J s2 := h2
        obtain ⟨items, items2, n, n2, hl1, hb1, hs1, hs2⟩ := hl.2 _ hJ
        have hR := fin2 s2 hJ
        obtain ⟨hp2, g2, d2, tk2, os2⟩ := s2
        have hi1 : items[((i : Nat) : Int).toNat]? = some items[i] := by simp [hs1]
        have hi2 : items2[((i : Nat) : Int).toNat]? = some items2[i] := by simp [hs2]
        wp_walk using wpAny_loadPart' hl1, wpAny_loadPart' hb1
        rw [hi1, hi2]
        wp_walk
        exact hR
theorem list_eqJ (l b : Addr) (N : Nat) (I : Nat → Shared → Prop) (J : Shared → Prop) (hl : ListJ prog w A (fun e s' => R (.error e) s') l b N I J)
    (fin : ∀ s, I N s → R (.ok (.ret (.bool true))) s) (fin2 : ∀ s, J s → R (.ok (.ret (.bool false))) s) {s : Shared} (h : I 0 s) :
    wpAny (model prog w) A.in1 (Builtin.«list.__eq__» ⟨[.ref l, .ref b], []⟩) (FinOf prog w A R) (fun e s' => R (.error e) s') s := by
  obtain ⟨items, items2, n, n2, hl1, hb1, hs1, hs2, _⟩ := hl.1 _ _ h
  have hrec := eq_loopJ (A := A) (R := R) l b N I J false hl fin fin2 _ 0 rfl (Nat.zero_le _) s h
  obtain ⟨hp, g, d, tk, os⟩ := s
  have f3 := AutoSeq1.sub_list_list
  have hne : ¬ (items.size != items2.size) = true := by simp [hs1, hs2]
  wp_walk using wpAny_loadPart' hl1, wpAny_loadPart' hb1
  exact ⟨plainId_quiet plain_eq_loop _, codeAny_builtin entry_eq_loop (by
    rw [Around.under_plainId plain_eq_loop _]
    exact hrec)⟩
theorem list_neJ (l b : Addr) (N : Nat) (I : Nat → Shared → Prop) (J : Shared → Prop) (hl : ListJ prog w A (fun e s' => R (.error e) s') l b N I J)
    (fin : ∀ s, I N s → R (.ok (.ret (.bool false))) s) (fin2 : ∀ s, J s → R (.ok (.ret (.bool true))) s) {s : Shared} (h : I 0 s) :
    wpAny (model prog w) A.in1 (Builtin.«list.__ne__» ⟨[.ref l, .ref b], []⟩) (FinOf prog w A R) (fun e s' => R (.error e) s') s := by
  obtain ⟨items, items2, n, n2, hl1, hb1, hs1, hs2, _⟩ := hl.1 _ _ h
  have hrec := eq_loopJ (A := A) (R := R) l b N I J true hl fin fin2 _ 0 rfl (Nat.zero_le _) s h
  obtain ⟨hp, g, d, tk, os⟩ := s
  have f3 := AutoSeq1.sub_list_list
  have hne : ¬ (items.size != items2.size) = true := by simp [hs1, hs2]
  wp_walk using wpAny_loadPart' hl1, wpAny_loadPart' hb1
  exact ⟨plainId_quiet plain_eq_loop _, codeAny_builtin entry_eq_loop (by
    rw [Around.under_plainId plain_eq_loop _]
    exact hrec)⟩
theorem tuple_eqJ (l b : Addr) (items items2 : Array Value) (n n2 : Nat) (dd dd2 : Option Addr) (sl sl2 : Array (Option Value)) (I : Nat → Shared → Prop) (J : Shared → Prop)
    (turn : ∀ i (h1 : i < items.size) (h2 : i < items2.size) s, I i s → wpAny (model prog w) A.in1 (eqBool items[i] items2[i]) (fun r s' => if r then I (i + 1) s' else J s') (fun e s' => R (.error e) s') s)
    (fin : ∀ s, I (min items.size items2.size) s → R (.ok (.ret (.bool (items.size == items2.size)))) s) (fin2 : ∀ s, J s → R (.ok (.ret (.bool false))) s) {s : Shared} (hl1 : s.heap.get? l = some { cls := .type "tuple", dict := dd, data := .seq items n, slots := sl }) (hb1 : s.heap.get? b = some { cls := .type "tuple", dict := dd2, data := .seq items2 n2, slots := sl2 }) (h : I 0 s) :
    wpAny (model prog w) A.in1 (Builtin.«tuple.__eq__» ⟨[.ref l, .ref b], []⟩) (FinOf prog w A R) (fun e s' => R (.error e) s') s := by
  have f2 := AutoSeq1.sub_tuple_tuple
  have hZ : (items.toList.zip items2.toList).length = min items.size items2.size := by simp
  have h0 := h
  obtain ⟨hp, g, d, tk, os⟩ := s
  wp_walk using wpAny_loadPart' hl1, wpAny_loadPart' hb1, wpAny_forIn_list _ (fun rest b s' => b.1 = none ∧ ∃ i, rest = (items.toList.zip items2.toList).drop i ∧ i ≤ min items.size items2.size ∧ I i s') _
  case turn =>
    rintro ⟨y, x⟩ rest b s' ⟨hb', i, hz, hi, hI⟩
    have hlt : i < (items.toList.zip items2.toList).length := by
      rcases Nat.lt_or_ge i (items.toList.zip items2.toList).length with h' | h'
      · exact h'
      · rw [List.drop_of_length_le h'] at hz; cases hz
    have h1 : i < items.size := by rw [hZ] at hlt; omega
    have h2 : i < items2.size := by rw [hZ] at hlt; omega
    rw [List.drop_eq_getElem_cons hlt] at hz
    injection hz with hyx hrest
    have hy : y = items[i] := by have := congrArg Prod.fst hyx; simpa using this
    have hx : x = items2[i] := by have := congrArg Prod.snd hyx; simpa using this
    subst hy hx
    refine wpAny_bind (wpAny_mono (turn i h1 h2 s' hI) (fun r s2 q2 => ?_) fun _ _ x => x)
    cases r with
    | true =>
      wp_walk
      exact ⟨rfl, i + 1, hrest, by omega, q2⟩
    | false =>
      have hR := fin2 s2 q2
      wp_walk
      first | exact hR | exact ⟨_, rfl, hR⟩
  case fin =>
    rintro ⟨b1, b2⟩ s' ⟨hb', i, hz, hi, hI⟩
    simp only at hb'
    subst hb'
    have hge : min items.size items2.size ≤ i := by
      rcases Nat.lt_or_ge i (items.toList.zip items2.toList).length with h' | h'
      · rw [List.drop_eq_getElem_cons h'] at hz; cases hz
      · exact hZ ▸ h'
    have hi' : i = min items.size items2.size := by omega
    have hR := fin s' (hi' ▸ hI)
    wp_walk
    first | exact hR | exact ⟨_, rfl, by simpa [Builtin.Tuple.tupleCompareSizes] using hR⟩ | simpa [Builtin.Tuple.tupleCompareSizes] using hR
  case h =>
    exact ⟨rfl, 0, rfl, Nat.zero_le _, h0⟩
theorem tuple_neJ (l b : Addr) (items items2 : Array Value) (n n2 : Nat) (dd dd2 : Option Addr) (sl sl2 : Array (Option Value)) (I : Nat → Shared → Prop) (J : Shared → Prop)
    (turn : ∀ i (h1 : i < items.size) (h2 : i < items2.size) s, I i s → wpAny (model prog w) A.in1 (eqBool items[i] items2[i]) (fun r s' => if r then I (i + 1) s' else J s') (fun e s' => R (.error e) s') s)
    (fin : ∀ s, I (min items.size items2.size) s → R (.ok (.ret (.bool (items.size != items2.size)))) s) (fin2 : ∀ s, J s → R (.ok (.ret (.bool true))) s) {s : Shared} (hl1 : s.heap.get? l = some { cls := .type "tuple", dict := dd, data := .seq items n, slots := sl }) (hb1 : s.heap.get? b = some { cls := .type "tuple", dict := dd2, data := .seq items2 n2, slots := sl2 }) (h : I 0 s) :
    wpAny (model prog w) A.in1 (Builtin.«tuple.__ne__» ⟨[.ref l, .ref b], []⟩) (FinOf prog w A R) (fun e s' => R (.error e) s') s := by
  have f2 := AutoSeq1.sub_tuple_tuple
  have hZ : (items.toList.zip items2.toList).length = min items.size items2.size := by simp
  have h0 := h
  obtain ⟨hp, g, d, tk, os⟩ := s
  wp_walk using wpAny_loadPart' hl1, wpAny_loadPart' hb1, wpAny_forIn_list _ (fun rest b s' => b.1 = none ∧ ∃ i, rest = (items.toList.zip items2.toList).drop i ∧ i ≤ min items.size items2.size ∧ I i s') _
  case turn =>
    rintro ⟨y, x⟩ rest b s' ⟨hb', i, hz, hi, hI⟩
    have hlt : i < (items.toList.zip items2.toList).length := by
      rcases Nat.lt_or_ge i (items.toList.zip items2.toList).length with h' | h'
      · exact h'
      · rw [List.drop_of_length_le h'] at hz; cases hz
    have h1 : i < items.size := by rw [hZ] at hlt; omega
    have h2 : i < items2.size := by rw [hZ] at hlt; omega
    rw [List.drop_eq_getElem_cons hlt] at hz
    injection hz with hyx hrest
    have hy : y = items[i] := by have := congrArg Prod.fst hyx; simpa using this
    have hx : x = items2[i] := by have := congrArg Prod.snd hyx; simpa using this
    subst hy hx
    refine wpAny_bind (wpAny_mono (turn i h1 h2 s' hI) (fun r s2 q2 => ?_) fun _ _ x => x)
    cases r with
    | true =>
      wp_walk
      exact ⟨rfl, i + 1, hrest, by omega, q2⟩
    | false =>
      have hR := fin2 s2 q2
      wp_walk
      first | exact hR | exact ⟨_, rfl, hR⟩
  case fin =>
    rintro ⟨b1, b2⟩ s' ⟨hb', i, hz, hi, hI⟩
    simp only at hb'
    subst hb'
    have hge : min items.size items2.size ≤ i := by
      rcases Nat.lt_or_ge i (items.toList.zip items2.toList).length with h' | h'
      · rw [List.drop_eq_getElem_cons h'] at hz; cases hz
      · exact hZ ▸ h'
    have hi' : i = min items.size items2.size := by omega
    have hR := fin s' (hi' ▸ hI)
    wp_walk
    first | exact hR | exact ⟨_, rfl, by simpa [Builtin.Tuple.tupleCompareSizes] using hR⟩ | simpa [Builtin.Tuple.tupleCompareSizes] using hR
  case h =>
    exact ⟨rfl, 0, rfl, Nat.zero_le _, h0⟩
end
section
variable {prog : Program} {w : World} {A : Around} {E : Value → Shared → Prop} {s : Shared}
theorem rc_listJ {l b : Addr} {N : Nat} {Q : Value → Shared → Prop} (hu : A.units < cLine) (I : Nat → Shared → Prop) (J : Shared → Prop) (hl : ListJ prog w A E l b N I J)
    (fin : ∀ s, I N s → Q (.bool true) s) (fin2 : ∀ s, J s → Q (.bool false) s) (h : I 0 s) : wpAny (model prog w) A (richCompare .Eq (.ref l) (.ref b)) Q E s := by
  obtain ⟨items, items2, n, n2, hl1, hb1, _, _, _⟩ := hl.1 _ _ h
  refine wpAny_richCompare_same_room (op := .Eq) ⟨_, hl1, rfl⟩ ⟨_, hb1, rfl⟩ F.slot_list_eq (call_here F.slot_list_eq ⟨_, hl1, rfl⟩ F.entry_list_eq (F.args_list_eq_2 _ _) ?_) hu
  exact list_eqJ (R := wants (fun v s' => v ≠ .notImplemented ∧ Q v s') E) l b N I J hl (fun s' q => ⟨(fun x => nomatch x), fin s' q⟩) (fun s' q => ⟨(fun x => nomatch x), fin2 s' q⟩) h
theorem rcn_listJ {l b : Addr} {N : Nat} {Q : Value → Shared → Prop} (hu : A.units < cLine) (I : Nat → Shared → Prop) (J : Shared → Prop) (hl : ListJ prog w A E l b N I J)
    (fin : ∀ s, I N s → Q (.bool false) s) (fin2 : ∀ s, J s → Q (.bool true) s) (h : I 0 s) : wpAny (model prog w) A (richCompare .NotEq (.ref l) (.ref b)) Q E s := by
  obtain ⟨items, items2, n, n2, hl1, hb1, _, _, _⟩ := hl.1 _ _ h
  refine wpAny_richCompare_same_room (op := .NotEq) ⟨_, hl1, rfl⟩ ⟨_, hb1, rfl⟩ F.slot_list_ne (call_here F.slot_list_ne ⟨_, hl1, rfl⟩ F.entry_list_ne (F.args_list_ne_2 _ _) ?_) hu
  exact list_neJ (R := wants (fun v s' => v ≠ .notImplemented ∧ Q v s') E) l b N I J hl (fun s' q => ⟨(fun x => nomatch x), fin s' q⟩) (fun s' q => ⟨(fun x => nomatch x), fin2 s' q⟩) h
theorem rc_tupJ {l b : Addr} {items items2 : Array Value} {Q : Value → Shared → Prop} (hu : A.units < cLine) (I : Nat → Shared → Prop) (J : Shared → Prop)
    (hl : s.heap.IsTuple l items) (hb : s.heap.IsTuple b items2)
    (turn : ∀ i (h1 : i < items.size) (h2 : i < items2.size) s, I i s → wpAny (model prog w) A.in1 (eqBool items[i] items2[i]) (fun r s' => if r then I (i + 1) s' else J s') E s)
    (fin : ∀ s, I (min items.size items2.size) s → Q (.bool (items.size == items2.size)) s) (fin2 : ∀ s, J s → Q (.bool false) s) (h : I 0 s) : wpAny (model prog w) A (richCompare .Eq (.ref l) (.ref b)) Q E s := by
  obtain ⟨⟨cls, dd, data, sl⟩, ho, hc, n, hd⟩ := id hl
  obtain ⟨⟨cls2, dd2, data2, sl2⟩, ho2, hc2, n2, hd2⟩ := id hb
  simp only at hc hd hc2 hd2
  subst hc hd hc2 hd2
  refine wpAny_richCompare_same_room (op := .Eq) ⟨_, ho, rfl⟩ ⟨_, ho2, rfl⟩ F.slot_tuple_eq (call_here F.slot_tuple_eq ⟨_, ho, rfl⟩ F.entry_tuple_eq (F.args_tuple_eq_2 _ _) ?_) hu
  exact tuple_eqJ (R := wants (fun v s' => v ≠ .notImplemented ∧ Q v s') E) l b items items2 n n2 dd dd2 sl sl2 I J turn (fun s' q => ⟨(fun x => nomatch x), fin s' q⟩) (fun s' q => ⟨(fun x => nomatch x), fin2 s' q⟩) ho ho2 h
theorem rcn_tupJ {l b : Addr} {items items2 : Array Value} {Q : Value → Shared → Prop} (hu : A.units < cLine) (I : Nat → Shared → Prop) (J : Shared → Prop)
    (hl : s.heap.IsTuple l items) (hb : s.heap.IsTuple b items2)
    (turn : ∀ i (h1 : i < items.size) (h2 : i < items2.size) s, I i s → wpAny (model prog w) A.in1 (eqBool items[i] items2[i]) (fun r s' => if r then I (i + 1) s' else J s') E s)
    (fin : ∀ s, I (min items.size items2.size) s → Q (.bool (items.size != items2.size)) s) (fin2 : ∀ s, J s → Q (.bool true) s) (h : I 0 s) : wpAny (model prog w) A (richCompare .NotEq (.ref l) (.ref b)) Q E s := by
  obtain ⟨⟨cls, dd, data, sl⟩, ho, hc, n, hd⟩ := id hl
  obtain ⟨⟨cls2, dd2, data2, sl2⟩, ho2, hc2, n2, hd2⟩ := id hb
  simp only at hc hd hc2 hd2
  subst hc hd hc2 hd2
  refine wpAny_richCompare_same_room (op := .NotEq) ⟨_, ho, rfl⟩ ⟨_, ho2, rfl⟩ F.slot_tuple_ne (call_here F.slot_tuple_ne ⟨_, ho, rfl⟩ F.entry_tuple_ne (F.args_tuple_ne_2 _ _) ?_) hu
  exact tuple_neJ (R := wants (fun v s' => v ≠ .notImplemented ∧ Q v s') E) l b items items2 n n2 dd dd2 sl sl2 I J turn (fun s' q => ⟨(fun x => nomatch x), fin s' q⟩) (fun s' q => ⟨(fun x => nomatch x), fin2 s' q⟩) ho ho2 h
theorem eqBool_J {u v : Value} {Q : Bool → Shared → Prop} (hne : (u == v) = false) (hf : ∀ a t b t', u = .float a t → v = .float b t' → False) (h : wpAny (model prog w) A (richCompare .Eq u v) (fun v s' => ∃ r, v = .bool r ∧ Q r s') E s) : wpAny (model prog w) A (eqBool u v) Q E s := by
  unfold eqBool
  refine wpAny_holding ?_
  refine wpAny_ite_split (fun hab => absurd hab (by rw [hne]; exact Bool.false_ne_true)) (fun _ => ?_)
  have key : wpAny (model prog w) A (do truthOfDropped (← richCompare .Eq u v)) Q E s := by
    refine wpAny_bind (wpAny_mono h (fun v s' hv => ?_) fun _ _ x => x)
    obtain ⟨r, rfl, q⟩ := hv
    exact wpAny_truthy_bool q
  cases u <;> cases v <;> first | exact key | exact (hf _ _ _ _ rfl rfl).elim
end
end GQ2
set_option Elab.async false
set_option linter.all false
set_option maxRecDepth 100000
set_option maxHeartbeats 0
namespace GQ3
open PySem PySem.SeqAt
open AutoSeq1 (wpAny_loadPart')
open MeetsSeq MeetsSeq2 MeetsSeq3
theorem int_add_ref (b : Int) (u : Tok) (l C dx : Addr) : Meets (Builtin.«int.__add__» ⟨[.int b u, .ref l], []⟩) (fun _ R s => s.heap.get? l = some (PySem.W.instObj C dx) ∧ R (.ok (.ret .notImplemented)) s) :=
  .of_wp fun prog w A R s h => by obtain ⟨hp, g, d, tk, os⟩ := s; obtain ⟨hl, h⟩ := h; wp_walk using wpAny_loadPart' hl, wpAny_load hl; exact ⟨_, rfl, h⟩
theorem int_sub_ref (b : Int) (u : Tok) (l C dx : Addr) : Meets (Builtin.«int.__sub__» ⟨[.int b u, .ref l], []⟩) (fun _ R s => s.heap.get? l = some (PySem.W.instObj C dx) ∧ R (.ok (.ret .notImplemented)) s) :=
  .of_wp fun prog w A R s h => by obtain ⟨hp, g, d, tk, os⟩ := s; obtain ⟨hl, h⟩ := h; wp_walk using wpAny_loadPart' hl, wpAny_load hl; exact ⟨_, rfl, h⟩
theorem int_mul_ref (b : Int) (u : Tok) (l C dx : Addr) : Meets (Builtin.«int.__mul__» ⟨[.int b u, .ref l], []⟩) (fun _ R s => s.heap.get? l = some (PySem.W.instObj C dx) ∧ R (.ok (.ret .notImplemented)) s) :=
  .of_wp fun prog w A R s h => by obtain ⟨hp, g, d, tk, os⟩ := s; obtain ⟨hl, h⟩ := h; wp_walk using wpAny_loadPart' hl, wpAny_load hl; exact ⟨_, rfl, h⟩
theorem int_floordiv_ref (b : Int) (u : Tok) (l C dx : Addr) : Meets (Builtin.«int.__floordiv__» ⟨[.int b u, .ref l], []⟩) (fun _ R s => s.heap.get? l = some (PySem.W.instObj C dx) ∧ R (.ok (.ret .notImplemented)) s) :=
  .of_wp fun prog w A R s h => by obtain ⟨hp, g, d, tk, os⟩ := s; obtain ⟨hl, h⟩ := h; wp_walk using wpAny_loadPart' hl, wpAny_load hl; exact ⟨_, rfl, h⟩
theorem int_mod_ref (b : Int) (u : Tok) (l C dx : Addr) : Meets (Builtin.«int.__mod__» ⟨[.int b u, .ref l], []⟩) (fun _ R s => s.heap.get? l = some (PySem.W.instObj C dx) ∧ R (.ok (.ret .notImplemented)) s) :=
  .of_wp fun prog w A R s h => by obtain ⟨hp, g, d, tk, os⟩ := s; obtain ⟨hl, h⟩ := h; wp_walk using wpAny_loadPart' hl, wpAny_load hl; exact ⟨_, rfl, h⟩
theorem int_lt_ref (b : Int) (u : Tok) (l C dx : Addr) : Meets (Builtin.«int.__lt__» ⟨[.int b u, .ref l], []⟩) (fun _ R s => s.heap.get? l = some (PySem.W.instObj C dx) ∧ R (.ok (.ret .notImplemented)) s) :=
  .of_wp fun prog w A R s h => by obtain ⟨hp, g, d, tk, os⟩ := s; obtain ⟨hl, h⟩ := h; wp_walk using wpAny_loadPart' hl, wpAny_load hl; exact ⟨_, rfl, h⟩
theorem int_le_ref (b : Int) (u : Tok) (l C dx : Addr) : Meets (Builtin.«int.__le__» ⟨[.int b u, .ref l], []⟩) (fun _ R s => s.heap.get? l = some (PySem.W.instObj C dx) ∧ R (.ok (.ret .notImplemented)) s) :=
  .of_wp fun prog w A R s h => by obtain ⟨hp, g, d, tk, os⟩ := s; obtain ⟨hl, h⟩ := h; wp_walk using wpAny_loadPart' hl, wpAny_load hl; exact ⟨_, rfl, h⟩
theorem int_gt_ref (b : Int) (u : Tok) (l C dx : Addr) : Meets (Builtin.«int.__gt__» ⟨[.int b u, .ref l], []⟩) (fun _ R s => s.heap.get? l = some (PySem.W.instObj C dx) ∧ R (.ok (.ret .notImplemented)) s) :=
  .of_wp fun prog w A R s h => by obtain ⟨hp, g, d, tk, os⟩ := s; obtain ⟨hl, h⟩ := h; wp_walk using wpAny_loadPart' hl, wpAny_load hl; exact ⟨_, rfl, h⟩
theorem int_ge_ref (b : Int) (u : Tok) (l C dx : Addr) : Meets (Builtin.«int.__ge__» ⟨[.int b u, .ref l], []⟩) (fun _ R s => s.heap.get? l = some (PySem.W.instObj C dx) ∧ R (.ok (.ret .notImplemented)) s) :=
  .of_wp fun prog w A R s h => by obtain ⟨hp, g, d, tk, os⟩ := s; obtain ⟨hl, h⟩ := h; wp_walk using wpAny_loadPart' hl, wpAny_load hl; exact ⟨_, rfl, h⟩
theorem int_eq_ref (b : Int) (u : Tok) (l C dx : Addr) : Meets (Builtin.«int.__eq__» ⟨[.int b u, .ref l], []⟩) (fun _ R s => s.heap.get? l = some (PySem.W.instObj C dx) ∧ R (.ok (.ret .notImplemented)) s) :=
  .of_wp fun prog w A R s h => by obtain ⟨hp, g, d, tk, os⟩ := s; obtain ⟨hl, h⟩ := h; wp_walk using wpAny_loadPart' hl, wpAny_load hl; exact ⟨_, rfl, h⟩
theorem int_ne_ref (b : Int) (u : Tok) (l C dx : Addr) : Meets (Builtin.«int.__ne__» ⟨[.int b u, .ref l], []⟩) (fun _ R s => s.heap.get? l = some (PySem.W.instObj C dx) ∧ R (.ok (.ret .notImplemented)) s) :=
  .of_wp fun prog w A R s h => by obtain ⟨hp, g, d, tk, os⟩ := s; obtain ⟨hl, h⟩ := h; wp_walk using wpAny_loadPart' hl, wpAny_load hl; exact ⟨_, rfl, h⟩
theorem str_eq_ref (b : Str) (u : Tok) (l C dx : Addr) : Meets (Builtin.«str.__eq__» ⟨[.str b u, .ref l], []⟩) (fun _ R s => s.heap.get? l = some (PySem.W.instObj C dx) ∧ R (.ok (.ret .notImplemented)) s) :=
  .of_wp fun prog w A R s h => by obtain ⟨hp, g, d, tk, os⟩ := s; obtain ⟨hl, h⟩ := h; wp_walk using wpAny_loadPart' hl, wpAny_load hl; exact ⟨_, rfl, h⟩
theorem none_eq_ref (l C dx : Addr) : Meets (Builtin.«NoneType.__eq__» ⟨[.none, .ref l], []⟩) (fun _ R s => s.heap.get? l = some (PySem.W.instObj C dx) ∧ R (.ok (.ret .notImplemented)) s) :=
  .of_wp fun prog w A R s h => by obtain ⟨hp, g, d, tk, os⟩ := s; obtain ⟨hl, h⟩ := h; wp_walk using wpAny_loadPart' hl, wpAny_load hl; exact ⟨_, rfl, h⟩
theorem bool_eq_ref (b : Bool) (l C dx : Addr) : Meets (Builtin.«int.__eq__» ⟨[.bool b, .ref l], []⟩) (fun _ R s => s.heap.get? l = some (PySem.W.instObj C dx) ∧ R (.ok (.ret .notImplemented)) s) :=
  .of_wp fun prog w A R s h => by obtain ⟨hp, g, d, tk, os⟩ := s; obtain ⟨hl, h⟩ := h; wp_walk using wpAny_loadPart' hl, wpAny_load hl; exact ⟨_, rfl, h⟩
theorem str_ne_ref (b : Str) (u : Tok) (l C dx : Addr) : Meets (Builtin.«str.__ne__» ⟨[.str b u, .ref l], []⟩) (fun _ R s => s.heap.get? l = some (PySem.W.instObj C dx) ∧ R (.ok (.ret .notImplemented)) s) :=
  .of_wp fun prog w A R s h => by obtain ⟨hp, g, d, tk, os⟩ := s; obtain ⟨hl, h⟩ := h; wp_walk using wpAny_loadPart' hl, wpAny_load hl; exact ⟨_, rfl, h⟩
theorem none_ne_ref (l C dx : Addr) : Meets (Builtin.«NoneType.__ne__» ⟨[.none, .ref l], []⟩) (fun _ R s => s.heap.get? l = some (PySem.W.instObj C dx) ∧ R (.ok (.ret .notImplemented)) s) :=
  .of_wp fun prog w A R s h => by obtain ⟨hp, g, d, tk, os⟩ := s; obtain ⟨hl, h⟩ := h; wp_walk using wpAny_loadPart' hl, wpAny_load hl; exact ⟨_, rfl, h⟩
theorem bool_ne_ref (b : Bool) (l C dx : Addr) : Meets (Builtin.«int.__ne__» ⟨[.bool b, .ref l], []⟩) (fun _ R s => s.heap.get? l = some (PySem.W.instObj C dx) ∧ R (.ok (.ret .notImplemented)) s) :=
  .of_wp fun prog w A R s h => by obtain ⟨hp, g, d, tk, os⟩ := s; obtain ⟨hl, h⟩ := h; wp_walk using wpAny_loadPart' hl, wpAny_load hl; exact ⟨_, rfl, h⟩
end GQ3
namespace PySem.W
open PySem PySem.Calls PyProof.Rows Builtin
section
variable {prog : Program} {w : World} {M : Model} {A : Around} {E : Value → Shared → Prop} {s : Shared} {K : Frag} {x C dx f : Addr} {ox : Obj} {od : Option Obj} {nm : String}
def Decl (a : Value) (T : String) (name : Str) (C dx x : Addr) : Prop := ∃ id, Slot T name id ∧ ∀ (prog : Program) (w : World) (A : Around) (E : Value → Shared → Prop) (s : Shared) (Q : Value → Shared → Prop), s.heap.get? x = some (instObj C dx) → Q .notImplemented s → wpAny (model prog w) A (call (.builtin id) [a, .ref x]) Q E s
theorem decl_try {a : Value} {T : String} {name : Str} {Q : Option Value → Shared → Prop} (hT : s.TypeIs a T) (D : Decl a T name C dx x) (hx : s.heap.get? x = some (instObj C dx)) (q : Q none s) : wpAny (model prog w) A (tryMethod a name (.ref x)) Q E s := by
  obtain ⟨id, S, h⟩ := D
  exact wpAny_tryMethod_declines hT S (h prog w A E s _ hx ⟨rfl, q⟩)
theorem decl_cmp {a : Value} {T : String} {name : Str} {Q : Option Value → Shared → Prop} (hT : s.TypeIs a T) (D : Decl a T name C dx x) (hx : s.heap.get? x = some (instObj C dx)) (q : Q none s) : wpAny (model prog w) A (tryCompare a name (.ref x)) Q E s := by
  obtain ⟨id, S, h⟩ := D
  exact wpAny_tryCompare_declines hT S (h prog w A E s _ hx ⟨rfl, q⟩)
theorem bin_right {op : Operator} {a : Value} {T : String} {Q : Value → Shared → Prop} {fl : Addr} (X : K.In s.heap) (I : InstAt s.heap x (instObj C dx) C od) (hT : typeOf a = pure (.type T)) (hTi : s.TypeIs a T) (hc : selfFirst K C = true) (hfl : fillsNumberSlot (.type T) op.info.2 = pure true)
    (hs : findIn K (.ref C) (PySem.dunder op.info.2) = some (some (.ref fl))) (hr : findIn K (.ref C) (dunderR op.info.2) = some (some (.ref f))) (hf : isFn K (.ref f) = true) (hsub : subIn K (.ref C) (.type T) = some false)
    (D : Decl a T (PySem.dunder op.info.2) C dx x) (h : wpAny (model prog w) A (call (.ref f) [.ref x, a]) (CmpBack Q) E s) : wpAny (model prog w) A (binaryOp op a (.ref x)) Q E s := by
  obtain ⟨cd, rest, hcd, hm⟩ := ksp_first hc
  have one := ksp_try X I hr hf h
  have hx := I.at_
  rcases hi : op.info with ⟨sym, nm'⟩
  rw [hi] at hs hr hfl D one
  dsimp only at hs hr hfl D one
  obtain ⟨hh, g, d, tt, os⟩ := s
  have L1 : Looks (model prog w) hh (typeOf (.ref x)) (.ref C) := I.type
  have L2 : Looks (model prog w) hh (typeOf a) (.type T) := Looks.of_pure hT
  have L3 : Looks (model prog w) hh (fillsNumberSlot (.ref C) nm') true := fills_K X hcd hm hs
  have L4 : Looks (model prog w) hh (fillsNumberSlot (.type T) nm') true := Looks.of_pure hfl
  have L5 : Looks (model prog w) hh (isSubtype (.ref C) (.type T)) false := looks_subIn X hsub
  have L7 : Looks (model prog w) hh (numberSlotInPython (.type T) nm') false := Looks.of_pure rfl
  have hne : (Value.type T == Value.ref C) = false := Bool.eq_false_iff.mpr fun q => by cases beq_iff_eq.mp q
  simp only [binaryOp, hi]
  refine wpAny_holding (wpAny_bind ?_)
  unfold binaryOp1
  refine wpAny_bind (L2.at (wpAny_bind (L1.at (wpAny_bind (L4.at ?_)))))
  simp only [hne, Bool.false_eq_true, if_false]
  refine wpAny_bind (L3.at ?_)
  simp only [Bool.and_self, if_true]
  refine wpAny_bind (L5.at ?_)
  simp only [Bool.false_eq_true, if_false, pure_bind, Bool.not_false, Bool.and_self, if_true]
  refine wpAny_bind (L7.at ?_)
  simp only [Bool.false_eq_true, if_false, pure_bind]
  refine wpAny_bind (decl_try hTi D hx ?_)
  refine wpAny_bind (wpAny_mono one (fun r s' hr' => ?_) fun _ _ e => e)
  obtain ⟨v, rfl, hq⟩ := hr'
  exact wpAny_bind (wpAny_rule (wpAny_pure (wpAny_pure hq)))
theorem cmp_try {name : Str} {b : Value} {Q : Option Value → Shared → Prop} (X : K.In s.heap) (I : InstAt s.heap x ox C od) (hs : findIn K (.ref C) name = some (some (.ref f))) (hf : isFn K (.ref f) = true)
    (h : wpAny M A (call (.ref f) [.ref x, b]) (CmpBack fun v => Q (some v)) E s) : wpAny M A (tryCompare (.ref x) name b) Q E s := by
  unfold tryCompare
  refine wpAny_bind (ifBound_K X I hs hf (wpAny_mono h (fun v s' hv => ?_) fun _ _ e => e))
  cases v <;> first | exact hv.elim | exact wpAny_pure hv
theorem cmp_right {op : CmpOp} {a : Value} {T : String} {Q : Value → Shared → Prop} (hu : A.units < cLine) (ho : oneThing? op a (.ref x) = none) (X : K.In s.heap) (I : InstAt s.heap x (instObj C dx) C od) (hT : typeOf a = pure (.type T)) (hTi : s.TypeIs a T) (hsub : subIn K (.ref C) (.type T) = some false)
    (D : Decl a T (cmpInfo op).2.1 C dx x) (h : ∀ Q' : Option Value → Shared → Prop, (∀ v s', v ≠ .notImplemented → Q v s' → Q' (some v) s') → wpAny (model prog w) A (tryCompare (.ref x) (cmpInfo op).2.2 a) Q' E s) :
    wpAny (model prog w) A (richCompare op a (.ref x)) Q E s := by
  have hx := I.at_
  unfold richCompare
  simp only [ho]
  refine wpAny_holding (wpAny_bind (wpAny_cRoomFor hu ?_))
  refine wpAny_bind ((Looks.of_pure hT).here (wpAny_bind (I.type.here ?_)))
  rw [if_pos (by simp)]
  refine wpAny_bind ((looks_subIn X hsub).here ?_)
  simp only [Bool.false_eq_true, if_false, Bool.not_false, if_true]
  refine wpAny_bind (decl_cmp hTi D hx ?_)
  refine wpAny_bind (h _ fun v s' _ q => ?_)
  exact wpAny_pure q
theorem check_K {id owner n : String} {rest : List Value} {Q : Unit → Shared → Prop} (hk : builtinKind id = some .slot) (hs : splitId id = some (owner, n))
    (ha : argsOk id ⟨.ref x :: rest, []⟩) (X : K.In s.heap) (I : InstAt s.heap x ox C od) (hsub : subIn K (.ref C) (.type owner) = some true) (hq : Q () s) :
    wpAny M A (checkBuiltinCall id ⟨.ref x :: rest, []⟩) Q E s := by
  simp only [checkBuiltinCall, hk, hs]
  refine wpAny_bind ?_
  · unfold isInstance
    obtain ⟨hh, g, d, tt, os⟩ := s
    have L1 : Looks M hh (typeOf (.ref x)) (.ref C) := I.type
    have L5 : Looks M hh (isSubtype (.ref C) (.type owner)) true := looks_subIn X hsub
    repeat (first | lk | wp_step)
    cases hsig : Manifest.signature? id with
    | none => exact wpAny_pure hq
    | some sig =>
      simp only [argsOk, hsig] at ha
      have h2 : Bind.checkArgs id sig ⟨.ref x :: rest, []⟩ = pure () := ha
      show wpAny M A (Bind.checkArgs id sig ⟨.ref x :: rest, []⟩) Q E _
      rw [h2]; exact wpAny_pure hq
theorem ne_try {b : Value} {Q : Option Value → Shared → Prop} (hu : A.units + 1 < cLine) (X : K.In s.heap) (I : InstAt s.heap x ox C od) (hn : findIn K (.ref C) "__ne__" = some (some (.builtin "object.__ne__"))) (hsub : subIn K (.ref C) (.type "object") = some true)
    (hs : findIn K (.ref C) "__eq__" = some (some (.ref f))) (hf : isFn K (.ref f) = true)
    (h : wpAny (model prog w) A.in1 (call (.ref f) [.ref x, b]) (fun v s' => ∃ k, v = .bool k ∧ Q (some (.bool !k)) s') E s) : wpAny (model prog w) A (tryCompare (.ref x) "__ne__" b) Q E s := by
  have inner : wpAny (model prog w) A (call (.builtin "object.__ne__") [.ref x, b]) (fun v s' => v ≠ .notImplemented ∧ Q (some v) s') E s := by
    refine wpAny_call (codeAny_call_builtin F.cmp_object.ne.plain F.cmpEntry_ne (check_K F.cmpKind_ne F.cmpSplit_ne (F.cmpArgs_ne _ _) X I hsub ?_))
    have eqt : ∀ Q' : Option Value → Shared → Prop, (∀ k s', Q (some (.bool !k)) s' → Q' (some (.bool k)) s') → wpAny (model prog w) A.in1 (callSpecialIfBound? (.ref x) (Str.ofString "__eq__") [b]) Q' E s := fun Q' hq' =>
      ifBound_K X I hs hf (wpAny_mono h (fun v s' hv => by
        obtain ⟨k, rfl, q⟩ := hv
        exact hq' k s' q) fun _ _ e => e)
    unfold Builtin.«object.__ne__»
    refine wpAny_bind (m := slotArgs "__ne__" 1 _) (wpAny_pure ?_)
    refine wpAny_bind (wpAny_cRoomFor (A := A.in1) hu ?_)
    refine wpAny_bind (eqt _ fun k s' q => ?_)
    refine wpAny_bind (wpAny_truthy_bool ?_)
    exact wpAny_pure ⟨(fun z => nomatch z), q⟩
  have fin : wpAny (model prog w) A (call (.builtin "object.__ne__") ([.ref x] ++ [b]) >>= fun v => pure (some v)) (fun r s' => ∃ v, r = some v ∧ v ≠ .notImplemented ∧ Q (some v) s') E s :=
    wpAny_bind (wpAny_mono inner (fun v s' h' => wpAny_pure ⟨v, rfl, h'.1, h'.2⟩) fun _ _ h' => h')
  simp only [tryCompare, callSpecialIfBound?, bindSpecialIfBound?]
  refine wpAny_bind (wpAny_holding (wpAny_bind (wpAny_bind (wpAny_bind (I.type.here ((looks_findIn X hn).here ?_))))))
  simp only [F.cmp_object.ne.bind]
  have fin2 : wpAny (model prog w) A (call (.builtin "object.__ne__") ([.ref x] ++ [b]) >>= fun v => pure (some v)) (fun r s' => wpAny (model prog w) A (match r with
      | some Value.notImplemented => pure none
      | none => pure none
      | some v => pure (some v)) Q E s') E s := wpAny_mono fin (fun r s' h' => by
    obtain ⟨v, rfl, hv, hq⟩ := h'
    cases v <;> first | exact absurd rfl hv | exact wpAny_pure hq) fun _ _ e => e
  refine wpAny_bind (wpAny_askSetting (wpAny_ite ?_))
  split
  · exact wpAny_bind (wpAny_pure (wpAny_pure fin2))
  · exact wpAny_tryCatch (wpAny_bind (wpAny_pure (wpAny_pure fin2)))
end
end PySem.W
set_option Elab.async false
set_option linter.all false
set_option maxRecDepth 100000
namespace Snd
open PySem PySem.Spec PyProof.Rows L2 Ev
abbrev FnM : Type := Option (Str × Str × Arguments × FuncBody × Scope × Addr × List Str × Addr)
def fnM (K : PySem.W.Frag) (a : Addr) : FnM := match K.lookup a with
  | some ⟨_, _, .func fd, _⟩ => some (fd.name, fd.qualname, fd.params, fd.body, fd.scope, fd.globals, fd.closure.map (·.1), fd.builtins)
  | _ => none
abbrev AlM : Type := Bool × List FnM
def obsK (ck : PySem.W.Frag → Bool) (fas : PySem.W.Frag → List Addr) (K : PySem.W.Frag) : AlM := (ck K, (fas K).map (fnM K))
def obsM (n : List Addr) (ck : PySem.W.Frag → Bool) (fas : PySem.W.Frag → List Addr) (g : Addr → Option Obj) : AlM := obsK ck fas (He.frG g n)
def hookM (n : List Addr) (ck : PySem.W.Frag → Bool) (fas : PySem.W.Frag → List Addr) (val : List FnM) : PySem.W.Hook where
  α := AlM
  obs := fun s => obsM n ck fas s.heap.get?
  val := fun _ => (true, val)
  says := fun _ h => ∃ K : PySem.W.Frag, K.In h ∧ ck K = true ∧ (fas K).map (fnM K) = val
  of := fun _ _ e => ⟨_, He.frG_in, congrArg (fun z : AlM => z.1) e, congrArg (fun z : AlM => z.2) e⟩
  keeps := fun _ _ _ ⟨K, hK, c⟩ k => ⟨K, PySem.W.Frag.In.keeps hK k, c⟩
theorem obsM_eq {n : List Addr} {ck : PySem.W.Frag → Bool} {fas : PySem.W.Frag → List Addr} {val : List FnM} {g : Addr → Option Obj} {s : Shared} (h : ∀ a, g a = s.heap.get? a) : obsM n ck fas g = (hookM n ck fas val).obs s := by
  have e : g = s.heap.get? := funext h
  rw [e] <;> rfl
def defM (d : He.DefD) (cl : List Str) : FnM := some (d.name, d.qual, d.params, .stmts d.body, d.scope, mainGlobals, cl, builtinsNs)
def defOk (K : PySem.W.Frag) (a : Addr) (d : He.DefD) : Bool := PySem.W.keepIn K (.ref a) && (match K.lookup a with
  | some ⟨_, _, .func fd, _⟩ => PySem.W.codeIn K fd.code d.qual && (He.dflB K fd.defaults (d.dvs K) && He.kwdB K fd.kwdefaults (d.kws K))
  | _ => false)
theorem funD_of {K : PySem.W.Frag} {a : Addr} {d : He.DefD} (e : fnM K a = defM d []) (c : defOk K a d = true) : ∃ fd, FunD K d.name d.qual d.params d.body d.scope (d.dvs K) (d.kws K) a fd := by
  obtain ⟨kp, c2⟩ := He.ba c
  unfold fnM at e
  cases q : K.lookup a with
  | none =>
    rw [q] at c2
    cases c2
  | some o =>
    obtain ⟨oc, od, dt, osl⟩ := o
    rw [q] at c2 e
    cases dt with
    | func fd =>
      obtain ⟨n1, n2, n3, n4, n5, n6, n7, n8, n9, n10, n11, n12, n13, n14, n15⟩ := fd
      have e2 : (some (n1, n2, n3, n4, n5, n6, n7.map (·.1), n15) : FnM) = some (d.name, d.qual, d.params, .stmts d.body, d.scope, mainGlobals, [], builtinsNs) := e
      simp only [Option.some.injEq, Prod.mk.injEq, List.map_eq_nil_iff] at e2
      obtain ⟨h1, h2, h3, h4, h5, h6, h7, h8⟩ := e2
      subst h1 h2 h3 h4 h5 h6 h7 h8
      have c3 : (PySem.W.codeIn K n13 d.qual && (He.dflB K n8 (d.dvs K) && He.kwdB K n9 (d.kws K))) = true := c2
      obtain ⟨k1, k2⟩ := He.ba c3
      obtain ⟨k3, k4⟩ := He.ba k2
      exact ⟨_, ⟨oc, od, n8, n9, n10, n11, n12, n13, n14, osl, rfl, q, k1, He.dflB_ok k3, He.kwdB_ok k4⟩, kp⟩
    | _ => cases c2
structure FnS where
  fn : Ev.Fn
  prop : Bool := false
  /-- an error's __init__ (it closes over __class__) -/
  err : Bool := false
  /-- a generator (then err, too: no promise of a call) -/
  gen : Bool := false
  /-- how many parameters take keywords only -/
  kw : Nat := 0
  d : He.DefD
  N : List Str
  ps : List Str
structure Src where
  prog : Program
  /-- by their numbers -/
  fns : List (Nat × FnS)
  cls : List (Nat × Ev.Cls)
  cn : List Str
  at_ : List Str
  con : List (Nat × Str × D) := []
  free : List Str := []
  isi : List TY := []
  caught : List Nat := []
  bop : List (Nat × BO × Nat) := []
  rop : List (Nat × BO × Nat) := []
  cop : List (Nat × CO × Nat) := []
  neg : List (Nat × Nat) := []
  abs : List (Nat × Nat) := []
  str : List (Nat × Nat) := []
  get : List (Nat × Nat) := []
  len : List (Nat × Nat) := []
  inv : List (Nat × Nat) := []
  /-- names of other modules' functions -/
  imp : List (Str × String) := []
def Src.fnAt (S : Src) (f : Nat) : Option FnS := nameOf f S.fns
def Src.clAt (S : Src) (c : Nat) : Option Ev.Cls := nameOf c S.cls
def Src.coAt (S : Src) (j : Nat) : Option (Str × D) := nameOf j S.con
def look2 {α : Type} [DecidableEq α] (c : Nat) (o : α) : List (Nat × α × Nat) → Option Nat
  | [] => none
  | (k, p, f) :: r => if k = c ∧ p = o then some f else look2 c o r
def Src.T (S : Src) : Ev.Tab where
  cls := fun c => S.clAt c
  con := fun j => match S.coAt j with
    | some q => q.2
    | none => .non
  fn := fun f => match S.fnAt f with
    | some F => if F.err then none else some F.fn
    | none => none
  bop := fun c o => look2 c o S.bop
  rop := fun c o => look2 c o S.rop
  cop := fun c o => look2 c o S.cop
  neg := fun c => nameOf c S.neg
  abs := fun c => nameOf c S.abs
  str := fun c => nameOf c S.str
  get := fun c => nameOf c S.get
  hk := fun k => L2.hashX k
  len := fun c => nameOf c S.len
  inv := fun c => nameOf c S.inv
  isi := S.isi
def Src.nm (S : Src) : Nm where
  attr := fun m => S.at_.getD m "?"
  cls := fun c => S.cn.getD c "?"
  fn := fun f => match S.fnAt f with
    | some F => (F.d.at_, F.prop)
    | none => (("?", none), false)
  con := fun j => match S.coAt j with
    | some q => q.1
    | none => "?"
def Src.val (S : Src) : List FnM := S.fns.map fun q => let F := q.2; defM F.d (if F.err && !F.gen then ["__class__"] else [])
def Src.fas (S : Src) (K : PySem.W.Frag) : List Addr := S.fns.map fun q => fpA K (q.2.d.at_, q.2.prop)
def dvOf : D → He.Dv
  | .bl b => .bl b
  | .int i => .int i
  | .str s => .str (strOf s)
  | _ => .non
def conB (K : PySem.W.Frag) (x : Str) (d : D) : Bool := match d with
  | .tup ds => ds.all flat && (He.tupB K x (ds.map dvOf) && (He.Fa.glo x).ok K)
  | d => flat d && (match PySem.W.nsIn K mainGlobals x with
    | some (some u) => He.relB ((dvOf d).v K) u
    | _ => false)
def clsX (S : Src) (K : PySem.W.Frag) (c : Nat) (C : Ev.Cls) : Bool := PySem.W.selfFirst K (cad S.nm K c) &&
  C.sets.all (fun q => (match PySem.W.findIn K (.ref (cad S.nm K c)) (S.nm.attr q.1) with
    | some (some (.ref p)) => decide (PySem.W.takesIn K (.ref p) = some true) && (match PySem.W.recIn K p "property" with
      | some (_ :: .ref g :: _) => decide (g = fad S.nm K q.2)
      | _ => false)
    | _ => false))
def clsB (S : Src) (K : PySem.W.Frag) (c : Nat) (C : Ev.Cls) : Bool :=
  (He.Fa.glo (S.nm.cls c)).ok K && ((He.Fa.cls (S.nm.cls c)).ok K && (He.eqO (PySem.W.findIn K (.ref (cad S.nm K c)) "__class__") (some (some (.builtin "object.__class__"))) && (decide (PySem.W.mroIn K (cad S.nm K c) (.type "object") = some true) &&
    (decide (C.fields.map S.nm.attr).Nodup && (decide (C.fields.length ≤ 100) && (C.fields.all (fun m => He.eqO (PySem.W.findIn K (.ref (cad S.nm K c)) (S.nm.attr m)) (some none)) &&
      (C.meths.all (fun q => He.eqO (PySem.W.findIn K (.ref (cad S.nm K c)) (S.nm.attr q.1)) (some (some (.ref (fad S.nm K q.2)))) && (PySem.W.isFn K (.ref (fad S.nm K q.2)) && (PySem.W.keepIn K (.ref (fad S.nm K q.2)) && decide (S.nm.attr q.1 ∉ C.fields.map S.nm.attr)))) &&
        (C.kmeths.all (fun q => He.eqO (PySem.W.findIn K (.ref (cad S.nm K c)) (S.nm.attr q.1)) (some (some (.ref (fad S.nm K q.2)))) && (PySem.W.isFn K (.ref (fad S.nm K q.2)) && (PySem.W.keepIn K (.ref (fad S.nm K q.2)) && decide (S.nm.attr q.1 ∉ C.fields.map S.nm.attr)))) &&
        (C.props.all (fun q => (match PySem.W.findIn K (.ref (cad S.nm K c)) (S.nm.attr q.1) with
          | some (some (.ref p)) => He.eqO (PySem.W.specialIn K (.ref p) "__get__") (some (some (.builtin "property.__get__"))) && (decide (PySem.W.takesIn K (.ref p) = some true) && (match PySem.W.recIn K p "property" with
            | some (.ref g :: _) => decide (g = fad S.nm K q.2)
            | _ => false))
          | _ => false)) &&
          ((He.Fa.mkr (S.nm.cls c)).ok K && (decide (fad S.nm K C.init = He.ma K (He.ga K (S.nm.cls c)) "__init__") && clsX S K c C)))))))))))
def erB (S : Src) (K : PySem.W.Frag) (c : Nat) (C : Ev.Cls) : Bool :=
  (He.Fa.glo (S.nm.cls c)).ok K && (PySem.W.keepIn K (.ref (cad S.nm K c)) && (decide (PySem.W.subIn K (.ref (cad S.nm K c)) (.type "BaseException") = some true) && (decide (PySem.W.typeIn K (.ref (cad S.nm K c)) = some (.type "type")) &&
    (He.eqO (PySem.W.findIn K (.ref (cad S.nm K c)) "__getattribute__") (some (some (.builtin "BaseException.__getattribute__"))) && (He.eqO (PySem.W.findIn K (.ref (cad S.nm K c)) "__getattr__") (some none) && (PySem.W.hasDictIn K (cad S.nm K c) &&
      (He.eqO (PySem.W.findIn K (.ref (cad S.nm K c)) "__class__") (some (some (.builtin "object.__class__"))) && (decide (PySem.W.mroIn K (cad S.nm K c) (.type "object") = some true) &&
        (decide (C.fields.map S.nm.attr).Nodup && C.fields.all (fun m => He.eqO (PySem.W.findIn K (.ref (cad S.nm K c)) (S.nm.attr m)) (some none)))))))))))
def noneV : Value → Bool
  | .none => true
  | _ => false
def erM (S : Src) (K : PySem.W.Frag) (c : Nat) (C : Ev.Cls) : Bool := match C.fields with
  | [] => PySem.W.excIn K (cad S.nm K c) He.veBase "ValueError.__new__"
  | _ => (match K.lookup (cad S.nm K c) with
    | some ⟨.type "type", _, .cls cd, sl⟩ => (match cd.mro, sl.toList with
      | .ref C' :: bm, [_, _, _, _, some (.builtin n), _] => C' == cad S.nm K c && (n == "ValueError.__new__" && (!cd.hasDel && (cd.hasDict && (PySem.HandSPX.refsVE bm && He.eqO (PySem.W.alongIn K "__init__" bm) (some (some (.builtin "ValueError.__init__")))))))
      | _, _ => false)
    | _ => false) && (He.eqO (PySem.W.findIn K (.ref (cad S.nm K c)) "__setattr__") (some (some (.builtin "object.__setattr__"))) && (He.eqO (PySem.W.findIn K (.ref (cad S.nm K c)) "__init__") (some (some (.ref (fad S.nm K C.init)))) &&
      (decide (PySem.W.typeIn K (.ref (fad S.nm K C.init)) = some (.type "function")) && (decide (PySem.W.subIn K (.ref (cad S.nm K c)) (.type "ValueError") = some true) && (decide (PySem.W.mroIn K (cad S.nm K c) (.ref (cad S.nm K c)) = some true) &&
        (decide (C.fields.length ≤ 20) && (!(C.fields.map S.nm.attr).contains "self" && ((C.fields.map S.nm.attr).all (fun f => !(f == ("__debug__" : Str))) && (match K.lookup (fad S.nm K C.init) with
          | some ⟨_, _, .func fd, _⟩ => (match fd.closure, fd.code with
            | [(y, cc)], .ref cda => (y == ("__class__" : Str)) && (noneV fd.defaults && ((match K.lookup cc with
              | some ⟨_, _, .cell (some (.ref D)), _⟩ => D == cad S.nm K c
              | _ => false) && (PySem.W.codeIn K (.ref cda) fd.qualname && (match K.lookup cda with
                | some ⟨_, _, .fields cvs, _⟩ => (match (cvs[2]? : Option Value) with
                  | some (.str file _) => (S.prog.main.file : Str) == file
                  | _ => false)
                | _ => false))))
            | _, _ => false)
          | _ => false)))))))))
def kinds (S : Src) : List Kd := [.int, .bool, .str, .non, .tuple, .list, .dict] ++ (S.cls.map (fun q => Kd.ins q.1) ++ S.cls.map fun q => Kd.exc q.1)
def kitB (S : Src) (K : PySem.W.Frag) : Bool := S.isi.all fun t => (kinds S).all fun k => (match kdIs S.T k t with
  | some b => decide (PySem.W.kitOne K (kdV S.nm K k) (tyV S.nm K t) = some b)
  | none => true)
def eriB (S : Src) (K : PySem.W.Frag) : Bool := S.caught.all fun c => S.cls.all fun q => !isErr S.T q.1 || decide (PySem.W.exmOne K (.ref (cad S.nm K q.1)) (.ref (cad S.nm K c)) = some (under S.T q.1 c))
theorem nameOf_mem {β : Type} {m : Nat} {b : β} : ∀ {l : List (Nat × β)}, nameOf m l = some b → (m, b) ∈ l
  | [], h => by cases h
  | (k, c) :: r, h => by
    have h' : (if k = m then some c else nameOf m r) = some b := h
    by_cases e : k = m
    · rw [if_pos e] at h'
      cases h'
      rw [e]
      exact List.mem_cons_self
    · rw [if_neg e] at h'
      exact List.mem_cons_of_mem _ (nameOf_mem h')
theorem all_at {β : Type} {p : Nat → β → Bool} {l : List (Nat × β)} {m : Nat} {b : β} (h : l.all (fun q => p q.1 q.2) = true) (e : nameOf m l = some b) : p m b = true := List.all_eq_true.mp h _ (nameOf_mem e)
def fnB (S : Src) (f n : Nat) : Bool := match S.fnAt f with
  | some F => !F.err && (F.fn.ini.isNone && (decide (F.fn.np = n) && decide (F.kw = 0)))
  | none => false
def ownB (S : Src) (K : PySem.W.Frag) (c f : Nat) (name : Str) : Bool := He.eqO (PySem.W.findIn K (.ref (cad S.nm K c)) name) (some (some (.ref (fad S.nm K f)))) && PySem.W.isFn K (.ref (fad S.nm K f))
def noneOrRef : Option (Option Value) → Bool
  | some none => true
  | some (some (.ref _)) => true
  | _ => false
def notT (K : PySem.W.Frag) (C : Addr) (T : String) : Bool := decide (PySem.W.subIn K (.ref C) (.type T) = some false)
def impB (S : Src) (K : PySem.W.Frag) : Bool := S.imp.all fun q => He.eqO (PySem.W.nsIn K mainGlobals q.1) (some (some (.builtin q.2)))
def opsB (S : Src) (K : PySem.W.Frag) : Bool :=
  S.bop.all (fun q => (S.clAt q.1).any (fun C => !C.exc) && (fnB S q.2.2 2 && (ownB S K q.1 q.2.2 (PySem.dunder (opOf q.2.1).info.2) && (PySem.W.selfFirst K (cad S.nm K q.1) && (noneOrRef (PySem.W.findIn K (.ref (cad S.nm K q.1)) (dunderR (opOf q.2.1).info.2)) &&
    ((PySem.W.findIn K (.type "int") (PySem.dunder (opOf q.2.1).info.2)).isSome && ((PySem.W.findIn K (.type "int") (dunderR (opOf q.2.1).info.2)).isSome && decide (PySem.W.subIn K (.type "int") (.ref (cad S.nm K q.1)) = some false)))))))) &&
  (S.rop.all (fun q => (S.clAt q.1).any (fun C => !C.exc) && (fnB S q.2.2 2 && (ownB S K q.1 q.2.2 (dunderR (opOf q.2.1).info.2) && (PySem.W.selfFirst K (cad S.nm K q.1) && ((match PySem.W.findIn K (.ref (cad S.nm K q.1)) (PySem.dunder (opOf q.2.1).info.2) with
      | some (some (.ref _)) => true
      | _ => false) && (notT K (cad S.nm K q.1) "int" && (q.2.1 == .add || (q.2.1 == .sub || (q.2.1 == .mul || (q.2.1 == .fdv || q.2.1 == .mod)))))))))) &&
  (S.cop.all (fun q => (S.clAt q.1).any (fun C => !C.exc) && (fnB S q.2.2 2 && (ownB S K q.1 q.2.2 (cmpInfo (copOf q.2.1)).2.1 && ((q.2.1 == .eq || (q.2.1 == .lt || (q.2.1 == .le || (q.2.1 == .gt || q.2.1 == .ge)))) &&
      (["int", "NoneType", "str", "bool", "tuple", "list"].all (fun T => PySem.W.notFirst K (cad S.nm K q.1) (.type T)) && (S.cls.all (fun r => r.2.exc || PySem.W.notFirst K (cad S.nm K q.1) (.ref (cad S.nm K r.1))) &&
        (["int", "NoneType", "str", "bool"].all (fun T => notT K (cad S.nm K q.1) T) && (He.eqO (PySem.W.findIn K (.ref (cad S.nm K q.1)) "__ne__") (some (some (.builtin "object.__ne__"))) && decide (PySem.W.subIn K (.ref (cad S.nm K q.1)) (.type "object") = some true)))))))) ) &&
  (S.neg.all (fun q => (S.clAt q.1).any (fun C => !C.exc) && (fnB S q.2 1 && ownB S K q.1 q.2 "__neg__")) && (S.abs.all (fun q => (S.clAt q.1).any (fun C => !C.exc) && (fnB S q.2 1 && ownB S K q.1 q.2 "__abs__")) && (S.str.all (fun q => (S.clAt q.1).any (fun C => !C.exc) && (fnB S q.2 1 && ownB S K q.1 q.2 "__str__")) &&
    (S.get.all (fun q => (S.clAt q.1).any (fun C => !C.exc) && (fnB S q.2 2 && (ownB S K q.1 q.2 "__getitem__" && PySem.W.fnIn K (fad S.nm K q.2)))) && (S.len.all (fun q => (S.clAt q.1).any (fun C => !C.exc) && (fnB S q.2 1 && ownB S K q.1 q.2 "__len__")) &&
      S.inv.all (fun q => (S.clAt q.1).any (fun C => !C.exc) && (fnB S q.2 2 && (ownB S K q.1 q.2 "__call__" && PySem.W.fnIn K (fad S.nm K q.2))))))))))) 
def Src.ckF (S : Src) (K : PySem.W.Frag) : Bool := S.fns.all (fun q => let F := q.2; if F.err && !F.gen then true else defOk K (fpA K (F.d.at_, F.prop)) F.d && (match F.d.at_ with
    | (x, none) => (He.Fa.glo x).ok K
    | _ => true))
def Src.ckC (S : Src) (K : PySem.W.Frag) : Bool := S.cls.all (fun q => if q.2.exc then erB S K q.1 q.2 && erM S K q.1 q.2 else clsB S K q.1 q.2)
def Src.ckR (S : Src) (K : PySem.W.Frag) : Bool := S.con.all (fun q => conB K q.2.1 q.2.2) && (S.free.all (fun x => (He.Fa.free x).ok K) && (kitB S K && (eriB S K &&
    (He.eqO (PySem.W.specialIn K (.builtin "object.__class__") "__get__") (some (some (.builtin "getset_descriptor.__get__"))) && (decide (PySem.W.takesIn K (.builtin "object.__class__") = some true) &&
      (He.eqO (PySem.W.nsIn K cStatics "thirdparty.any") (some none) && (He.eqO (PySem.W.nsIn K mainGlobals "super") (some none) && (impB S K && opsB S K))))))))
def Src.ck (S : Src) (K : PySem.W.Frag) : Bool := S.ckF K && (S.ckC K && S.ckR K)

def nmE (S : Src) (me : Option (Addr × Addr)) : Nm := { S.nm with me := me }
structure HeadOk (S : Src) (Y : Core) : Prop where
  ck : S.ck Y.K = true
  val : (S.fas Y.K).map (fnM Y.K) = S.val
  kin : Y.K.In Y.base
  glob : Y.base.Ns mainGlobals Y.mg
  prog : Y.prog = S.prog
structure FnK (X : Core) (T : Tab) (nm : Nm) (cf : Nat → List D → Sto → R D) (k f : Nat) (F : FnS) : Prop where
  ok : ∃ fd, FnOk X.prog X.w X.K X.mg X.base (L2.CX X.prog X.w) k (fad nm X.K f) fd F.ps (SP T nm X.K cf F.fn.np f) ∧ FunD X.K F.d.name F.d.qual F.d.params F.d.body F.d.scope (F.d.dvs X.K) (F.d.kws X.K) (fad nm X.K f) fd
  n : F.ps.length = F.fn.np
structure Facts (S : Src) (Y : Core) (nm : Nm) (cf : Nat → List D → Sto → R D) (k : Nat) : Prop where
  fn : ∀ f F, S.fnAt f = some F → F.err = false → F.fn.ini = none → F.kw = 0 → FnI Y S.T nm cf k f F.fn.np
  fk : ∀ f F, S.fnAt f = some F → F.err = false → F.fn.ini = none → FnK Y S.T nm cf k f F
  mk_ : ∀ c C, clsI S.T c = some C → MkI Y S.T nm cf k c C
  cl : ∀ c C, S.T.cls c = some C → C.exc = false → ClI Y S.T nm cf k c C
  er : ∀ c C, S.T.cls c = some C → C.exc = true → ErC Y S.T nm c C
  xc : ∀ c C, S.T.cls c = some C → C.exc = true → XcI Y S.T nm c C
  eri : ∀ c, c ∈ S.caught → ErI Y S.T nm c
  kit : Kit Y S.T nm
  con : ∀ j q, S.coAt j = some q → ConI Y S.T nm j
  mgf : ∀ f F x, S.fnAt f = some F → F.err = false → F.prop = false → F.d.at_ = (x, none) → Y.mg x = some (.ref (fad nm Y.K f))
  mgc : ∀ c C, S.clAt c = some C → Y.mg (nm.cls c) = some (.ref (cad nm Y.K c))
  free : ∀ x, x ∈ S.free → Y.mg x = none
  ops : opsB S Y.K = true
  gn : ∀ f F, S.fnAt f = some F → F.gen = true → ∃ fd, FunD Y.K F.d.name F.d.qual F.d.params F.d.body F.d.scope (F.d.dvs Y.K) (F.d.kws Y.K) (fad nm Y.K f) fd
  imp : ∀ x id, (x, id) ∈ S.imp → Y.mg x = some (.builtin id)
  kin : Y.K.In Y.base
  tb : ∃ l, cf = tbl S.T l
inductive EBody (cat : Bool) (fs : List Str) : List Stmt → Prop where
  | mk (p0 p1 p2 p3 p4 : Pos) {te : Expr} {b : List Stmt} (hl : (p2.endLine == p3.line) = true) (ht : PySem.OwnX.TextE cat fs te) (ha : PySem.OwnX.Asg fs b) : EBody cat fs (.Expr (.Call (.Attribute (.Call (.Name "super" p0) [] [] p1) "__init__" p2) [te] [] p3) p4 :: b)
structure GoodE (fs : List Str) (cat : Bool) (d : He.DefD) : Prop where
  nam : d.name = "__init__"
  body : EBody cat fs d.body
  scp : PySem.OwnX.Scp fs d.scope
  head : ∃ ar, (d.params.posonlyargs ++ d.params.args).head? = some ar ∧ ar.arg = ("self" : Str)
  bind : ∀ (dV kV doc pm : Value) (an : Option Addr) (cdv ct : Value) (cc : Addr) (us : List Value), us.length = fs.length + 1 → dV = .none → bindArgs (PySem.W.ksFn d.name d.qual d.params d.body d.scope dV kV doc pm an cdv ct cc) ⟨us, []⟩ = pure ((("self" : Str) :: fs).zip us)
structure GoodF (S : Src) (Y : Core) (F : FnS) : Prop where
  sc : FnScope F.N F.ps F.d.scope
  n1 : F.ps.length = F.fn.np + (if F.fn.ini.isSome then 1 else 0)
  n2 : F.N.length = F.fn.nl
  n3 : F.fn.np ≤ F.fn.nl
  kwd : F.kw = 0 → F.d.kwd = []
  dfl : F.fn.ini = none → F.d.dfl = []
  bindD : F.d.dfl ≠ [] → ∀ n j, j ≤ F.d.dfl.length → n + (F.d.dfl.length - j) = F.ps.length → ∀ (T : Addr) (kV doc pm : Value) (an : Option Addr) (cdv ct : Value) (us its : List Value), us.length = n → its.length = F.d.dfl.length →
    ∃ k, bindArgs (PySem.W.fnOf F.d.name F.d.qual F.d.params F.d.body F.d.scope (.ref T) kV doc pm an cdv ct) ⟨us, []⟩ = seqItems? (.ref T) >>= k ∧ k (some its.toArray) = pure (F.ps.zip (us ++ its.drop j))
  bind : F.kw = 0 → F.d.dfl = [] → ∀ (kV doc pm : Value) (an : Option Addr) (cdv ct : Value) (us : List Value), us.length = F.ps.length → bindArgs (PySem.W.fnOf F.d.name F.d.qual F.d.params F.d.body F.d.scope .none kV doc pm an cdv ct) ⟨us, []⟩ = pure (F.ps.zip us)
  body : ∀ (me : Option (Addr × Addr)) (cf : Nat → List D → Sto → R D) (k : Nat), Facts S Y (nmE S me) cf k → ∀ (fa : Addr) (cdv : Value) (A : Around) (outer : List Env) (s : Shared) (H : Hp) (E : XK), Room (k + 6) (A.deeper (envOfC F.d.qual F.d.scope s.heap.objs.size fa cdv)) →
    PSs (cxF Y F.N F.d.qual F.d.scope fa cdv A outer s H E) F.d.body (tS S.T (nmE S me) Y.K cf (wF E) F.fn.body)
def dvD1 : He.Dv → Option D
  | .non => some .non
  | .bl b => some (.bl b)
  | .int i => some (.int i)
  | _ => none
def dvD : List He.Dv → Option (List D)
  | [] => some []
  | d :: r => (dvD1 d).bind fun x => (dvD r).map (x :: ·)
theorem dvD_reps {K : PySem.W.Frag} (g : Gh) (T : Tab) (nm : Nm) : ∀ {l : List He.Dv} {ds : List D}, dvD l = some ds → Reps T nm K g ds (l.map (He.Dv.v K))
  | [], ds, h => by
    cases h
    exact .nil
  | d :: r, ds, h => by
    unfold dvD at h
    cases h1 : dvD1 d with
    | none => rw [h1] at h; cases h
    | some x =>
      rw [h1] at h
      cases h2 : dvD r with
      | none => rw [h2] at h; cases h
      | some xs =>
        rw [h2] at h
        cases h
        refine .cons ?_ (dvD_reps g T nm h2)
        cases d <;> cases h1
        · exact .non
        · exact .bl _
        · exact .int _
theorem dvD_len : ∀ {l : List He.Dv} {ds : List D}, dvD l = some ds → ds.length = l.length
  | [], ds, h => by
    cases h
    rfl
  | d :: r, ds, h => by
    unfold dvD at h
    cases h1 : dvD1 d with
    | none => rw [h1] at h; cases h
    | some x =>
      rw [h1] at h
      cases h2 : dvD r with
      | none => rw [h2] at h; cases h
      | some xs =>
        rw [h2] at h
        cases h
        show xs.length + 1 = r.length + 1
        rw [dvD_len h2]
def clsW (S : Src) (c : Nat) (C : Ev.Cls) : Bool := if C.exc then (match C.fields with
    | [] => !C.cat
    | _ => (match S.fnAt C.init with
      | some F => (F.err && !F.gen) && decide (F.d.at_ = (S.nm.cls c, some ("__init__" : Str))) && !F.prop
      | none => false)) else (match S.fnAt C.init with
      | some F => (!F.err && decide (F.kw = 0)) && (decide (F.fn.ini = some c) && (decide (F.fn.np = C.np) && (match dvD F.d.dfl with
        | some ds => dsBeq ds C.dfl
        | none => false)))
      | none => false) && (C.meths.all (fun q => (match S.fnAt q.2 with
        | some F => (!F.err && decide (F.kw = 0)) && F.fn.ini.isNone
        | none => false)) && (C.props.all (fun q => (match S.fnAt q.2 with
        | some F => (!F.err && decide (F.kw = 0)) && (F.fn.ini.isNone && decide (F.fn.np = 1))
        | none => false)) && C.sets.all (fun q => (match S.fnAt q.2 with
        | some F => (!F.err && decide (F.kw = 0)) && (F.fn.ini.isNone && decide (F.fn.np = 2))
        | none => false))))
def Src.wf (S : Src) : Bool := S.cls.all (fun q => clsW S q.1 q.2) && !(S.prog.main.scope.names.lookup ("super" : Str)).isSome
section
variable {S : Src} {Y : Core} {me : Option (Addr × Addr)}
theorem HeadOk.parts (h : HeadOk S Y) : (∀ f F, S.fnAt f = some F → (F.err && !F.gen) = false → defOk Y.K (fpA Y.K (F.d.at_, F.prop)) F.d = true ∧ ∀ x, F.d.at_ = (x, none) → (He.Fa.glo x).ok Y.K = true) ∧
    (∀ c C, S.clAt c = some C → (if C.exc then erB S Y.K c C && erM S Y.K c C else clsB S Y.K c C) = true) ∧ (∀ j q, S.coAt j = some q → conB Y.K q.1 q.2 = true) ∧ (∀ x ∈ S.free, (He.Fa.free x).ok Y.K = true) ∧ kitB S Y.K = true ∧ eriB S Y.K = true ∧
    PySem.W.specialIn Y.K (.builtin "object.__class__") "__get__" = some (some (.builtin "getset_descriptor.__get__")) ∧ PySem.W.takesIn Y.K (.builtin "object.__class__") = some true ∧ PySem.W.nsIn Y.K cStatics "thirdparty.any" = some none ∧ PySem.W.nsIn Y.K mainGlobals "super" = some none ∧ impB S Y.K = true ∧ opsB S Y.K = true := by
  have z := h.ck
  unfold Src.ck Src.ckF Src.ckC Src.ckR at z
  obtain ⟨h1, z⟩ := He.ba z
  obtain ⟨h2, z⟩ := He.ba z
  obtain ⟨h3, z⟩ := He.ba z
  obtain ⟨h4, z⟩ := He.ba z
  obtain ⟨h5, z⟩ := He.ba z
  obtain ⟨h6, z⟩ := He.ba z
  obtain ⟨h7, z⟩ := He.ba z
  obtain ⟨h8, z⟩ := He.ba z
  obtain ⟨h9, z⟩ := He.ba z
  obtain ⟨h10, z⟩ := He.ba z
  obtain ⟨h11, h12⟩ := He.ba z
  refine ⟨fun f F hF he => ?_, fun c C hc => ?_, fun j q hj => all_at (p := fun _ q => conB Y.K q.1 q.2) h3 hj, List.all_eq_true.mp h4, h5, h6, He.eqO_ok h7, of_decide_eq_true h8, He.eqO_ok h9, He.eqO_ok h10, h11, h12⟩
  · have q := all_at (p := fun _ F => if F.err && !F.gen then true else defOk Y.K (fpA Y.K (F.d.at_, F.prop)) F.d && (match F.d.at_ with
      | (x, none) => (He.Fa.glo x).ok Y.K
      | _ => true)) h1 hF
    rw [he] at q
    obtain ⟨q1, q2⟩ := He.ba q
    refine ⟨q1, fun x ex => ?_⟩
    rw [ex] at q2
    exact q2
  · exact all_at (p := fun c C => if C.exc then erB S Y.K c C && erM S Y.K c C else clsB S Y.K c C) h2 hc
theorem map_at {α β : Type} {f g : α → β} : ∀ {l : List α} {x : α}, l.map f = l.map g → x ∈ l → f x = g x
  | [], _, _, h => by cases h
  | y :: r, x, e, h => by
    simp only [List.map_cons, List.cons.injEq] at e
    rcases List.mem_cons.mp h with rfl | h
    · exact e.1
    · exact map_at e.2 h
theorem HeadOk.defAt (h : HeadOk S Y) {f : Nat} {F : FnS} (hf : S.fnAt f = some F) : fnM Y.K (fpA Y.K (F.d.at_, F.prop)) = defM F.d (if F.err && !F.gen then ["__class__"] else []) := by
  have e : (S.fas Y.K).map (fnM Y.K) = S.val := h.val
  unfold Src.fas Src.val at e
  rw [List.map_map] at e
  exact map_at e (nameOf_mem hf)
theorem HeadOk.fun_ (h : HeadOk S Y) {f : Nat} {F : FnS} (hf : S.fnAt f = some F) (he : (F.err && !F.gen) = false) : ∃ fd, FunD Y.K F.d.name F.d.qual F.d.params F.d.body F.d.scope (F.d.dvs Y.K) (F.d.kws Y.K) (fad S.nm Y.K f) fd := by
  have e3 := h.defAt hf
  rw [he] at e3
  have ea : fad S.nm Y.K f = fpA Y.K (F.d.at_, F.prop) := by
    unfold fad Src.nm
    simp only [hf]
  rw [ea]
  exact funD_of e3 (h.parts.1 f F hf he).1
theorem dvOf_rel {K : PySem.W.Frag} {d : D} (h : flat d = true) (g : Gh) (T : Tab) (nm : Nm) : Rep T nm K g d ((dvOf d).v K) := by
  cases d with
  | non => exact .non
  | bl b => exact .bl b
  | int i => exact .int i
  | str z => exact .str z
  | _ => cases h
theorem dvOf_reps {K : PySem.W.Frag} (g : Gh) (T : Tab) (nm : Nm) : ∀ {ds : List D}, ds.all flat = true → Reps T nm K g ds ((ds.map dvOf).map (He.Dv.v K))
  | [], _ => .nil
  | d :: ds, h => by
    obtain ⟨h1, h2⟩ := Bool.and_eq_true_iff.mp (show (flat d && ds.all flat) = true from h)
    exact .cons (dvOf_rel h1 g T nm) (dvOf_reps g T nm h2)
theorem conB_flat {K : PySem.W.Frag} {x : Str} {d : D} (n : ∀ ds, d ≠ .tup ds) (z : conB K x d = true) : flat d = true ∧ (match PySem.W.nsIn K mainGlobals x with
    | some (some u) => He.relB ((dvOf d).v K) u
    | _ => false) = true := by
  cases d with
  | tup ds => exact absurd rfl (n ds)
  | _ => exact He.ba z
theorem HeadOk.con_ (h : HeadOk S Y) {j : Nat} {q : Str × D} (hj : S.coAt j = some q) : ConI Y S.T (nmE S me) j := by
  have z := h.parts.2.2.1 j q hj
  have ec : (nmE S me).con j = q.1 := by
    show (match S.coAt j with
      | some q => q.1
      | none => "?") = q.1
    rw [hj]
  have ed : S.T.con j = q.2 := by
    show (match S.coAt j with
      | some q => q.2
      | none => .non) = q.2
    rw [hj]
  unfold ConI
  rw [ec, ed]
  obtain ⟨x, d⟩ := q
  show ∃ u v, Y.mg x = some u ∧ RelV v u ∧ ∀ g, Rep S.T (nmE S me) Y.K g d v
  have flatc : flat d = true → (match PySem.W.nsIn Y.K mainGlobals x with
    | some (some u) => He.relB ((dvOf d).v Y.K) u
    | _ => false) = true → ∃ u v, Y.mg x = some u ∧ RelV v u ∧ ∀ g, Rep S.T (nmE S me) Y.K g d v := fun fl z => by
    cases e : PySem.W.nsIn Y.K mainGlobals x with
    | none => rw [e] at z; cases z
    | some o =>
      rw [e] at z
      cases o with
      | none => cases z
      | some u => exact ⟨u, _, PySem.W.mg_of h.kin h.glob e, He.relB_ok z, fun g => dvOf_rel fl g _ _⟩
  cases d with
  | tup ds =>
    obtain ⟨z1, z2⟩ := He.ba z
    obtain ⟨z2, z3⟩ := He.ba z2
    exact ⟨_, .ref (He.ga Y.K x), He.glo_ok h.kin h.glob z3, rfl, fun g => .tup (He.tupB_ok z2 _) (dvOf_reps g _ _ z1)⟩
  | non => exact flatc (conB_flat (fun _ y => by cases y) z).1 (conB_flat (fun _ y => by cases y) z).2
  | bl b => exact flatc (conB_flat (fun _ y => by cases y) z).1 (conB_flat (fun _ y => by cases y) z).2
  | int i => exact flatc (conB_flat (fun _ y => by cases y) z).1 (conB_flat (fun _ y => by cases y) z).2
  | str i => exact flatc (conB_flat (fun _ y => by cases y) z).1 (conB_flat (fun _ y => by cases y) z).2
  | _ => cases z
theorem HeadOk.kit_ (h : HeadOk S Y) : Kit Y S.T (nmE S me) := fun k t b hin hk => by
  have z := h.parts.2.2.2.2.1
  unfold kitB at z
  have z1 := List.all_eq_true.mp z t (by simpa using (show S.isi.contains t = true from hin))
  have hm : k ∈ kinds S := by
    unfold kinds
    cases k with
    | int => simp
    | bool => simp
    | str => simp
    | non => simp
    | tuple => simp
    | list => simp
    | dict => simp
    | ins c =>
      cases e : S.clAt c with
      | some C => exact List.mem_append_right _ (List.mem_append_left _ (List.mem_map.mpr ⟨(c, C), nameOf_mem e, rfl⟩))
      | none =>
        have e' : S.T.cls c = none := e
        cases t <;> simp only [kdIs, e'] at hk <;> first | (cases hk; done) | (split at hk <;> cases hk)
    | exc c =>
      cases e : S.clAt c with
      | some C => exact List.mem_append_right _ (List.mem_append_right _ (List.mem_map.mpr ⟨(c, C), nameOf_mem e, rfl⟩))
      | none =>
        have e' : S.T.cls c = none := e
        cases t <;> simp only [kdIs, e'] at hk <;> first | (cases hk; done) | (split at hk <;> cases hk)
  have z2 := List.all_eq_true.mp z1 k hm
  rw [hk] at z2
  exact of_decide_eq_true z2
theorem HeadOk.eri_ (h : HeadOk S Y) {c : Nat} (hc : c ∈ S.caught) : ErI Y S.T (nmE S me) c := fun j hj => by
  have z := h.parts.2.2.2.2.2.1
  unfold eriB at z
  obtain ⟨C, hC, _⟩ := isErr_some hj
  have z2 := List.all_eq_true.mp (List.all_eq_true.mp z c hc) (j, C) (nameOf_mem (show S.clAt j = some C from hC))
  dsimp only at z2
  rw [hj] at z2
  exact of_decide_eq_true (show decide (PySem.W.exmOne Y.K (.ref (cad S.nm Y.K j)) (.ref (cad S.nm Y.K c)) = some (under S.T j c)) = true from z2)
theorem HeadOk.clsP (h : HeadOk S Y) {c : Nat} {C : Ev.Cls} (hC : S.clAt c = some C) (he : C.exc = false) : clsB S Y.K c C = true := by
  have z := h.parts.2.1 c C hC
  rw [he] at z
  exact z
theorem HeadOk.erP (h : HeadOk S Y) {c : Nat} {C : Ev.Cls} (hC : S.clAt c = some C) (he : C.exc = true) : erB S Y.K c C = true ∧ erM S Y.K c C = true := by
  have z := h.parts.2.1 c C hC
  rw [he] at z
  exact He.ba z
theorem HeadOk.mgc_ (h : HeadOk S Y) {c : Nat} {C : Ev.Cls} (hC : S.clAt c = some C) : Y.mg (S.nm.cls c) = some (.ref (cad S.nm Y.K c)) := by
  cases he : C.exc with
  | false => exact He.glo_ok h.kin h.glob (He.ba (h.clsP hC he)).1
  | true => exact He.glo_ok h.kin h.glob (He.ba (h.erP hC he).1).1
theorem wf_at (hw : S.wf = true) {c : Nat} {C : Ev.Cls} (hC : S.clAt c = some C) : clsW S c C = true := all_at (p := clsW S) (He.ba hw).1 hC
theorem wf_top (hw : S.wf = true) : (S.prog.main.scope.names.lookup ("super" : Str)).isSome = false := by
  unfold Src.wf at hw
  have z := (He.ba hw).2
  simpa using z
end
end Snd
set_option Elab.async false
set_option linter.all false
namespace Lib
open Ev
def B0 : Ev.S := (.seq (.ifs (.and (.e (.cmp .eq (.ix (.var 1) (.int 0)) (.int 0))) (.e (.cmp .lt (.ix (.var 1) (.int 1)) (.bi .len (.cons (.var 0) .nil))))) (.seq (.set 3 (.ix (.var 0) (.ix (.var 1) (.int 1)))) (.seq (.seti (.var 1) (.int 1) (.bin .add (.ix (.var 1) (.int 1)) (.int 1))) (.seq (.ifs (.e (.cmp .ge (.var 3) (.bin .pow (.int 10) (.int 18)))) (.seq (.seti (.var 1) (.int 0) (.var 3)) .skip) (.seq (.seti (.var 1) (.int 2) (.bin .mod (.bi .int (.cons (.bin .add (.bin .mul (.ix (.var 1) (.int 2)) (.int 69621)) (.var 3)) .nil)) (.int 2147483647))) .skip)) .skip))) .skip) (.seq (.ifs (.e (.cmp .gt (.ix (.var 1) (.int 0)) (.int 0))) (.seq (.set 4 (.bin .mod (.bi .int (.cons (.ix (.var 1) (.int 0)) .nil)) (.var 2))) (.seq (.seti (.var 1) (.int 0) (.bin .fdv (.ix (.var 1) (.int 0)) (.var 2))) (.seq (.ret (.var 4)) .skip))) .skip) (.seq (.seti (.var 1) (.int 3) (.bin .add (.ix (.var 1) (.int 3)) (.int 1))) (.seq (.seti (.var 1) (.int 2) (.bin .mod (.bi .int (.cons (.bin .add (.bin .add (.bin .mul (.ix (.var 1) (.int 2)) (.int 48271)) (.bin .mul (.ix (.var 1) (.int 3)) (.int 7919))) (.int 30103)) .nil)) (.int 2147483647))) (.seq (.set 5 (.bin .mod (.bi .int (.cons (.bin .mul (.ix (.var 1) (.int 2)) (.bin .add (.bin .fdv (.ix (.var 1) (.int 2)) (.int 1009)) (.int 69621))) .nil)) (.int 2147483647))) (.seq (.ret (.bin .mod (.bin .mod (.bi .int (.cons (.bin .mul (.var 5) (.bin .add (.bin .fdv (.var 5) (.int 2003)) (.int 40692))) .nil)) (.int 2147483399)) (.var 2))) .skip))))))
def B100 : Ev.S := (.seq (.set 1 (.lst (.cons (.isX (.var 0) (.cls 2)) (.cons (.isX (.var 0) (.cls 4)) (.cons (.isX (.var 0) (.cls 3)) .nil))))) (.seq (.set 2 (.lst (.cons (.isX (.var 0) (.cls 6)) (.cons (.isX (.var 0) (.cls 9)) (.cons (.isX (.var 0) (.cls 12)) .nil))))) (.seq (.set 3 (.lst (.cons (.isX (.var 0) (.cls 8)) (.cons (.isX (.var 0) (.cls 10)) (.cons (.isX (.var 0) (.cls 30)) .nil))))) (.seq (.set 4 (.lst (.cons (.isX (.var 0) (.cls 31)) (.cons (.isX (.var 0) (.cls 32)) (.cons (.isX (.var 0) (.cls 33)) .nil))))) (.seq (.ret (.bin .add (.bin .add (.bin .add (.bin .add (.var 1) (.var 2)) (.var 3)) (.var 4)) (.frz (.lst (.cons (.isX (.var 0) (.cls 34)) .nil))))) .skip)))))
def B101 : Ev.S := (.seq (.set 1 (.lst (.cons (.isX (.var 0) (.cls 13)) (.cons (.isX (.var 0) (.cls 14)) (.cons (.isX (.var 0) (.cls 15)) .nil))))) (.seq (.set 2 (.lst (.cons (.isX (.var 0) (.cls 11)) (.cons (.isX (.var 0) (.cls 16)) (.cons (.isX (.var 0) (.cls 17)) .nil))))) (.seq (.set 3 (.lst (.cons (.isX (.var 0) (.cls 18)) (.cons (.isX (.var 0) (.cls 19)) (.cons (.isX (.var 0) (.cls 20)) .nil))))) (.seq (.set 4 (.lst (.cons (.isX (.var 0) (.cls 21)) (.cons (.isX (.var 0) (.cls 22)) (.cons (.isX (.var 0) (.cls 23)) .nil))))) (.seq (.set 5 (.lst (.cons (.isX (.var 0) (.cls 24)) (.cons (.isX (.var 0) (.cls 25)) (.cons (.isX (.var 0) (.cls 26)) .nil))))) (.seq (.set 6 (.lst (.cons (.isX (.var 0) (.cls 27)) (.cons (.isX (.var 0) (.cls 28)) (.cons (.isX (.var 0) (.cls 29)) .nil))))) (.seq (.ret (.bin .add (.bin .add (.bin .add (.bin .add (.bin .add (.bin .add (.call 100 (.cons (.var 0) .nil)) (.var 1)) (.var 2)) (.var 3)) (.var 4)) (.var 5)) (.var 6))) .skip)))))))
def B102 : Ev.S := (.seq (.for_ [1] (.rng (.cons (.bi .len (.cons (.var 0) .nil)) .nil)) (.seq (.ifs (.or (.not (.e (.isX (.ix (.var 0) (.var 1)) (.cls 1)))) (.not (.e (.isX (.ix (.var 0) (.var 1)) .verr)))) (.seq (.ret (.bl false)) .skip) .skip) (.seq (.set 2 (.call 101 (.cons (.ix (.var 0) (.var 1)) .nil))) (.seq (.for_ [3] (.rng (.cons (.bi .len (.cons (.var 2) .nil)) .nil)) (.seq (.ifs (.e (.cmp .ne (.ix (.var 2) (.var 3)) (.cmp .eq (.var 3) (.var 1)))) (.seq (.ret (.bl false)) .skip) .skip) .skip)) .skip)))) (.seq (.ret (.bl true)) .skip))
def B103 : Ev.S := (.seq (.set 1 (.sto (.lst (.cons (.int 0) (.cons (.int 0) (.cons (.int 0) (.cons (.int 0) .nil))))))) (.seq (.set 2 (.bin .sub (.call 0 (.cons (.var 0) (.cons (.var 1) (.cons (.int 12) .nil)))) (.int 1))) (.seq (.set 3 (.bin .sub (.call 0 (.cons (.var 0) (.cons (.var 1) (.cons (.int 12) .nil)))) (.int 1))) (.seq (.set 4 (.bin .sub (.call 0 (.cons (.var 0) (.cons (.var 1) (.cons (.int 12) .nil)))) (.int 1))) (.seq (.set 5 (.ix (.frz (.lst (.cons (.str [116, 111, 112]) (.cons (.str [98, 111, 116, 116, 111, 109]) (.cons (.str [104, 111, 117, 115, 101, 115]) (.cons (.str [116, 111, 108, 100]) (.cons (.str [98, 97, 100]) .nil))))))) (.call 0 (.cons (.var 0) (.cons (.var 1) (.cons (.int 5) .nil)))))) (.seq (.set 6 (.bi .tuple (.cons (.frz (.comp [8] (.call 0 (.cons (.var 0) (.cons (.var 1) (.cons (.int 2) .nil)))) (.rng (.cons (.bin .add (.int 2) (.call 0 (.cons (.var 0) (.cons (.var 1) (.cons (.int 8) .nil))))) .nil)) (.e (.bl true)))) .nil))) (.seq (.set 7 (.lst (.cons (.makX 2 (.cons (.var 5) .nil)) (.cons (.makX 4 .nil) (.cons (.makX 3 .nil) (.cons (.makX 6 (.cons (.var 5) .nil)) (.cons (.makX 9 (.cons (.var 2) .nil)) (.cons (.makX 12 .nil) (.cons (.makX 8 (.cons (.var 3) (.cons (.var 2) .nil))) .nil))))))))) (.seq (.set 7 (.bin .add (.var 7) (.frz (.lst (.cons (.makX 10 (.cons (.var 2) .nil)) (.cons (.makX 30 (.cons (.var 5) (.cons (.var 3) .nil))) (.cons (.makX 31 .nil) (.cons (.makX 32 .nil) (.cons (.makX 33 .nil) (.cons (.makX 34 (.cons (.var 2) .nil)) .nil)))))))))) (.seq (.set 7 (.bin .add (.var 7) (.frz (.lst (.cons (.makX 13 .nil) (.cons (.makX 14 .nil) (.cons (.makX 15 (.cons (.var 2) .nil)) (.cons (.makX 11 .nil) (.cons (.makX 16 (.cons (.var 2) .nil)) (.cons (.makX 17 .nil) (.cons (.makX 18 .nil) (.cons (.makX 19 .nil) .nil)))))))))))) (.seq (.set 7 (.bin .add (.var 7) (.frz (.lst (.cons (.makX 20 (.cons (.var 6) .nil)) (.cons (.makX 21 .nil) (.cons (.makX 22 .nil) (.cons (.makX 23 (.cons (.var 3) (.cons (.var 4) .nil))) (.cons (.makX 24 .nil) (.cons (.makX 25 .nil) (.cons (.makX 26 .nil) .nil))))))))))) (.seq (.set 7 (.bin .add (.var 7) (.frz (.lst (.cons (.makX 27 (.cons (.var 3) .nil)) (.cons (.makX 28 .nil) (.cons (.makX 29 .nil) .nil))))))) (.seq (.ifs (.not (.e (.call 102 (.cons (.var 7) .nil)))) (.seq (.ret (.bl false)) .skip) .skip) (.seq (.ifs (.or (.e (.cmp .ne (.atX (.ix (.var 7) (.int 0)) 2) (.var 5))) (.or (.e (.cmp .ne (.atX (.ix (.var 7) (.int 3)) 2) (.var 5))) (.e (.cmp .ne (.atX (.ix (.var 7) (.int 4)) 16) (.var 2))))) (.seq (.ret (.bl false)) .skip) .skip) (.seq (.ifs (.or (.e (.cmp .ne (.atX (.ix (.var 7) (.int 6)) 16) (.var 3))) (.or (.e (.cmp .ne (.atX (.ix (.var 7) (.int 6)) 17) (.var 2))) (.e (.cmp .ne (.atX (.ix (.var 7) (.int 7)) 17) (.var 2))))) (.seq (.ret (.bl false)) .skip) .skip) (.seq (.ifs (.or (.e (.cmp .ne (.atX (.ix (.var 7) (.int 8)) 2) (.var 5))) (.or (.e (.cmp .ne (.atX (.ix (.var 7) (.int 8)) 19) (.var 3))) (.e (.cmp .ne (.atX (.ix (.var 7) (.int 12)) 21) (.var 2))))) (.seq (.ret (.bl false)) .skip) .skip) (.seq (.ifs (.or (.e (.cmp .ne (.atX (.ix (.var 7) (.int 15)) 17) (.var 2))) (.or (.e (.cmp .ne (.atX (.ix (.var 7) (.int 17)) 17) (.var 2))) (.e (.cmp .ne (.atX (.ix (.var 7) (.int 21)) 18) (.var 6))))) (.seq (.ret (.bl false)) .skip) .skip) (.seq (.ret (.and (.cmp .eq (.atX (.ix (.var 7) (.int 24)) 19) (.var 3)) (.and (.cmp .eq (.atX (.ix (.var 7) (.int 24)) 20) (.var 4)) (.cmp .eq (.atX (.ix (.var 7) (.int 28)) 19) (.var 3))))) .skip)))))))))))))))))
end Lib
set_option Elab.async false
set_option linter.all false
set_option maxRecDepth 100000
set_option maxHeartbeats 0
namespace K98
open PySem PySem.Spec PyProof.Rows L2 Ev Snd Lib
def top (i : Nat) : Stmt := PySem.Challenge.pw_spreadshrinks_k98_all_errors_apart.main.body.getD i (.Pass ⟨0, 0, 0, 0⟩)
def meth (s : Stmt) (j : Nat) : Stmt := match s with
  | .ClassDef _ _ _ b _ _ _ _ _ _ _ => b.getD j (.Pass ⟨0, 0, 0, 0⟩)
  | _ => .Pass ⟨0, 0, 0, 0⟩
def F0 : FnS := { fn := { np := 3, nl := 6, body := B0, ini := none, lv := 4 }, prop := false, err := false, d := ⟨("_law_draw", none), "_law_draw", "_law_draw", defArgs (top 34), defBody (top 34), defScope (top 34), [], []⟩, N := ["_law_script", "_law_state", "_law_many", "_law_cell", "_law_digit", "_law_number"], ps := ["_law_script", "_law_state", "_law_many"] }
def B3 : Ev.S := .skip
def F3 : FnS := { fn := { np := 1, nl := 2, body := B3, ini := some 2, lv := 0 }, prop := false, err := true, d := ⟨("BadShare", some "__init__"), "__init__", "BadShare.__init__", defArgs (meth (top 2) 0), defBody (meth (top 2) 0), defScope (meth (top 2) 0), [], []⟩, N := ["self", "part"], ps := ["self", "part"] }
def B44 : Ev.S := .skip
def F44 : FnS := { fn := { np := 1, nl := 2, body := B44, ini := some 6, lv := 0 }, prop := false, err := true, d := ⟨("BadSetting", some "__init__"), "__init__", "BadSetting.__init__", defArgs (meth (top 5) 0), defBody (meth (top 5) 0), defScope (meth (top 5) 0), [], []⟩, N := ["self", "part"], ps := ["self", "part"] }
def B78 : Ev.S := .skip
def F78 : FnS := { fn := { np := 1, nl := 2, body := B78, ini := some 9, lv := 0 }, prop := false, err := true, d := ⟨("BadSize", some "__init__"), "__init__", "BadSize.__init__", defArgs (meth (top 6) 0), defBody (meth (top 6) 0), defScope (meth (top 6) 0), [], []⟩, N := ["self", "length"], ps := ["self", "length"] }
def B72 : Ev.S := .skip
def F72 : FnS := { fn := { np := 2, nl := 3, body := B72, ini := some 8, lv := 0 }, prop := false, err := true, d := ⟨("BadRule", some "__init__"), "__init__", "BadRule.__init__", defArgs (meth (top 8) 0), defBody (meth (top 8) 0), defScope (meth (top 8) 0), [], []⟩, N := ["self", "length", "at"], ps := ["self", "length", "at"] }
def B93 : Ev.S := .skip
def F93 : FnS := { fn := { np := 1, nl := 2, body := B93, ini := some 15, lv := 0 }, prop := false, err := true, d := ⟨("BadRun", some "__init__"), "__init__", "BadRun.__init__", defArgs (meth (top 17) 0), defBody (meth (top 17) 0), defScope (meth (top 17) 0), [], []⟩, N := ["self", "at"], ps := ["self", "at"] }
def B94 : Ev.S := .skip
def F94 : FnS := { fn := { np := 1, nl := 2, body := B94, ini := some 16, lv := 0 }, prop := false, err := true, d := ⟨("BadLink", some "__init__"), "__init__", "BadLink.__init__", defArgs (meth (top 19) 0), defBody (meth (top 19) 0), defScope (meth (top 19) 0), [], []⟩, N := ["self", "at"], ps := ["self", "at"] }
def B95 : Ev.S := .skip
def F95 : FnS := { fn := { np := 1, nl := 2, body := B95, ini := some 20, lv := 0 }, prop := false, err := true, d := ⟨("Lacks", some "__init__"), "__init__", "Lacks.__init__", defArgs (meth (top 23) 0), defBody (meth (top 23) 0), defScope (meth (top 23) 0), [], []⟩, N := ["self", "view"], ps := ["self", "view"] }
def B96 : Ev.S := .skip
def F96 : FnS := { fn := { np := 2, nl := 3, body := B96, ini := some 23, lv := 0 }, prop := false, err := true, d := ⟨("BadDiary", some "__init__"), "__init__", "BadDiary.__init__", defArgs (meth (top 26) 0), defBody (meth (top 26) 0), defScope (meth (top 26) 0), [], []⟩, N := ["self", "house", "sender"], ps := ["self", "house", "sender"] }
def B97 : Ev.S := .skip
def F97 : FnS := { fn := { np := 1, nl := 2, body := B97, ini := some 27, lv := 0 }, prop := false, err := true, d := ⟨("BadStart", some "__init__"), "__init__", "BadStart.__init__", defArgs (meth (top 30) 0), defBody (meth (top 30) 0), defScope (meth (top 30) 0), [], []⟩, N := ["self", "house"], ps := ["self", "house"] }
def B80 : Ev.S := .skip
def F80 : FnS := { fn := { np := 1, nl := 2, body := B80, ini := some 10, lv := 0 }, prop := false, err := true, d := ⟨("BadView", some "__init__"), "__init__", "BadView.__init__", defArgs (meth (top 9) 0), defBody (meth (top 9) 0), defScope (meth (top 9) 0), [], []⟩, N := ["self", "at"], ps := ["self", "at"] }
def B98 : Ev.S := .skip
def F98 : FnS := { fn := { np := 2, nl := 3, body := B98, ini := some 30, lv := 0 }, prop := false, err := true, d := ⟨("BadRound", some "__init__"), "__init__", "BadRound.__init__", defArgs (meth (top 10) 0), defBody (meth (top 10) 0), defScope (meth (top 10) 0), [], []⟩, N := ["self", "part", "house"], ps := ["self", "part", "house"] }
def B99 : Ev.S := .skip
def F99 : FnS := { fn := { np := 1, nl := 2, body := B99, ini := some 34, lv := 0 }, prop := false, err := true, d := ⟨("BadText", some "__init__"), "__init__", "BadText.__init__", defArgs (meth (top 14) 0), defBody (meth (top 14) 0), defScope (meth (top 14) 0), [], []⟩, N := ["self", "line"], ps := ["self", "line"] }
def F100 : FnS := { fn := { np := 1, nl := 5, body := B100, ini := none, lv := 4 }, prop := false, err := false, d := ⟨("_law_first_flags", none), "_law_first_flags", "_law_first_flags", defArgs (top 35), defBody (top 35), defScope (top 35), [], []⟩, N := ["_law_error", "_law_first", "_law_second", "_law_third", "_law_fourth"], ps := ["_law_error"] }
def F101 : FnS := { fn := { np := 1, nl := 7, body := B101, ini := none, lv := 5 }, prop := false, err := false, d := ⟨("_law_flags", none), "_law_flags", "_law_flags", defArgs (top 36), defBody (top 36), defScope (top 36), [], []⟩, N := ["_law_error", "_law_first", "_law_second", "_law_third", "_law_fourth", "_law_fifth", "_law_last"], ps := ["_law_error"] }
def F102 : FnS := { fn := { np := 1, nl := 4, body := B102, ini := none, lv := 6 }, prop := false, err := false, d := ⟨("_law_apart", none), "_law_apart", "_law_apart", defArgs (top 37), defBody (top 37), defScope (top 37), [], []⟩, N := ["_law_made", "_law_k", "_law_flags_here", "_law_j"], ps := ["_law_made"] }
def F103 : FnS := { fn := { np := 1, nl := 9, body := B103, ini := none, lv := 7 }, prop := false, err := false, d := ⟨("law", none), "law", "law", defArgs (top 38), defBody (top 38), defScope (top 38), [], []⟩, N := ["_law_script", "_law_state", "_law_at", "_law_house", "_law_sender", "_law_part", "_law_view", "_law_made", "_law_k"], ps := ["_law_script"] }
def C1 : Ev.Cls := { fields := [], exc := true, cat := false, up := [] }
def C2 : Ev.Cls := { fields := [2], exc := true, cat := true, up := [1], init := 3, np := 1, dfl := [] }
def C4 : Ev.Cls := { fields := [], exc := true, cat := false, up := [1] }
def C3 : Ev.Cls := { fields := [], exc := true, cat := false, up := [1] }
def C6 : Ev.Cls := { fields := [2], exc := true, cat := true, up := [1], init := 44, np := 1, dfl := [] }
def C9 : Ev.Cls := { fields := [16], exc := true, cat := false, up := [1], init := 78, np := 1, dfl := [] }
def C12 : Ev.Cls := { fields := [], exc := true, cat := false, up := [1] }
def C8 : Ev.Cls := { fields := [16, 17], exc := true, cat := false, up := [1], init := 72, np := 2, dfl := [] }
def C13 : Ev.Cls := { fields := [], exc := true, cat := false, up := [1] }
def C14 : Ev.Cls := { fields := [], exc := true, cat := false, up := [1] }
def C15 : Ev.Cls := { fields := [17], exc := true, cat := false, up := [1], init := 93, np := 1, dfl := [] }
def C11 : Ev.Cls := { fields := [], exc := true, cat := false, up := [1] }
def C16 : Ev.Cls := { fields := [17], exc := true, cat := false, up := [1], init := 94, np := 1, dfl := [] }
def C17 : Ev.Cls := { fields := [], exc := true, cat := false, up := [1] }
def C18 : Ev.Cls := { fields := [], exc := true, cat := false, up := [1] }
def C19 : Ev.Cls := { fields := [], exc := true, cat := false, up := [1] }
def C20 : Ev.Cls := { fields := [18], exc := true, cat := false, up := [1], init := 95, np := 1, dfl := [] }
def C21 : Ev.Cls := { fields := [], exc := true, cat := false, up := [1] }
def C22 : Ev.Cls := { fields := [], exc := true, cat := false, up := [1] }
def C23 : Ev.Cls := { fields := [19, 20], exc := true, cat := false, up := [1], init := 96, np := 2, dfl := [] }
def C24 : Ev.Cls := { fields := [], exc := true, cat := false, up := [1] }
def C25 : Ev.Cls := { fields := [], exc := true, cat := false, up := [1] }
def C26 : Ev.Cls := { fields := [], exc := true, cat := false, up := [1] }
def C27 : Ev.Cls := { fields := [19], exc := true, cat := false, up := [1], init := 97, np := 1, dfl := [] }
def C28 : Ev.Cls := { fields := [], exc := true, cat := false, up := [1] }
def C29 : Ev.Cls := { fields := [], exc := true, cat := false, up := [1] }
def C10 : Ev.Cls := { fields := [17], exc := true, cat := false, up := [1], init := 80, np := 1, dfl := [] }
def C30 : Ev.Cls := { fields := [2, 19], exc := true, cat := true, up := [1], init := 98, np := 2, dfl := [] }
def C31 : Ev.Cls := { fields := [], exc := true, cat := false, up := [1] }
def C32 : Ev.Cls := { fields := [], exc := true, cat := false, up := [1] }
def C33 : Ev.Cls := { fields := [], exc := true, cat := false, up := [1] }
def C34 : Ev.Cls := { fields := [21], exc := true, cat := false, up := [1], init := 99, np := 1, dfl := [] }
def S : Src := { prog := PySem.Challenge.pw_spreadshrinks_k98_all_errors_apart, fns := [(0, F0), (3, F3), (44, F44), (78, F78), (72, F72), (93, F93), (94, F94), (95, F95), (96, F96), (97, F97), (80, F80), (98, F98), (99, F99), (100, F100), (101, F101), (102, F102), (103, F103)], cls := [(1, C1), (2, C2), (4, C4), (3, C3), (6, C6), (9, C9), (12, C12), (8, C8), (13, C13), (14, C14), (15, C15), (11, C11), (16, C16), (17, C17), (18, C18), (19, C19), (20, C20), (21, C21), (22, C22), (23, C23), (24, C24), (25, C25), (26, C26), (27, C27), (28, C28), (29, C29), (10, C10), (30, C30), (31, C31), (32, C32), (33, C33), (34, C34)], cn := ("Share" :: "NearError" :: "BadShare" :: "BadNumber" :: "NoQuotient" :: "Setting" :: "BadSetting" :: "Rule" :: "BadRule" :: "BadSize" :: "BadView" :: "NoBound" :: "BadCut" :: "WrongKind" :: "BadRules" :: "BadRun" :: "BadLink" :: "NoLink" :: "TooMany" :: "BadTable" :: "Lacks" :: "BadCount" :: "BadSplit" :: "BadDiary" :: "BadLot" :: "NoLot" :: "BadPart" :: "BadStart" :: "BadTurn" :: "NoTurn" :: "BadRound" :: "MixedSettings" :: "NotKept" :: "NoWindows" :: "BadText" :: "Round" :: "Frame" :: "Talk" :: []), at_ := ("top" :: "bottom" :: "part" :: "over" :: "houses" :: "faults" :: "kind" :: "size" :: "first_kept" :: "kept" :: "reach" :: "true_count" :: "sizes" :: "can_agree" :: "setting" :: "rows" :: "length" :: "at" :: "view" :: "house" :: "sender" :: "line" :: "top_sum" :: "bad" :: "beginnings" :: "told" :: "counted" :: "turns" :: "states" :: "goal" :: "outer" :: "rule" :: "mirror" :: "moved" :: "true_houses" :: "nearness" :: "near" :: "left" :: "width" :: "numbers" :: "spreads" :: "keep" :: "play" :: "__iadd__" :: "__iter__" :: "back" :: "__enter__" :: "__exit__" :: []), con := [], free := ["tuple", "int", "len", "super", "range", "isinstance", "ValueError"], isi := [(.cls 3), (.cls 4), (.cls 2), (.cls 12), (.cls 9), (.cls 6), (.cls 30), (.cls 10), (.cls 8), (.cls 33), (.cls 32), (.cls 31), (.cls 34), (.cls 15), (.cls 14), (.cls 13), (.cls 17), (.cls 16), (.cls 11), (.cls 20), (.cls 19), (.cls 18), (.cls 23), (.cls 22), (.cls 21), (.cls 26), (.cls 25), (.cls 24), (.cls 29), (.cls 28), (.cls 27), (.cls 1), .verr], caught := [], imp := [], bop := [], rop := [], cop := [], neg := [], abs := [], str := [], get := [], len := [], inv := [] }
def as_0 : List Addr := [3, 2, 6, 4, 24, 46, 58, 70, 91, 112, 124, 145, 166, 187, 199, 211, 223, 244, 256, 268, 289, 301, 322, 334, 346, 358, 379, 391, 403, 424, 436, 448, 460, 481, 493, 505, 514, 521, 528, 535, 540, 0, 23, 45, 57, 69, 90, 111, 123, 144]
def as_1 : List Addr := [165, 186, 198, 210, 222, 243, 255, 267, 288, 300, 321, 333, 345, 357, 378, 390, 402, 423, 435, 447, 459, 480, 492, 504, 513, 520, 527, 534, 539, 22, 25, 43, 44, 56, 68, 88, 89, 109, 110, 122, 142, 143, 163, 164, 184, 185, 197, 209, 221, 241]
def as_2 : List Addr := [242, 254, 266, 286, 287, 299, 319, 320, 332, 344, 356, 376, 377, 389, 401, 421, 422, 434, 446, 458, 478, 479, 491, 503, 508, 509, 510, 511, 512, 515, 516, 517, 518, 519, 522, 523, 524, 525, 526, 529, 530, 531, 532, 533, 536, 537, 538, 42, 31, 87]
def as_3 : List Addr := [76, 108, 97, 141, 130, 162, 151, 183, 172, 240, 229, 285, 274, 318, 307, 375, 364, 420, 409, 477, 466, 37, 38, 39, 40, 41, 82, 83, 84, 85, 86, 103, 104, 105, 106, 107, 136, 137, 138, 139, 140, 157, 158, 159, 160, 161, 178, 179, 180, 181]
def as_4 : List Addr := [182, 235, 236, 237, 238, 239, 280, 281, 282, 283, 284, 313, 314, 315, 316, 317, 370, 371, 372, 373, 374, 415, 416, 417, 418, 419, 472, 473, 474, 475, 476]
def as_ : List Addr := as_0 ++ as_1 ++ as_2 ++ as_3 ++ as_4
abbrev Rw : PySem.W.OpenRow := PySem.W.OpenLaw.row PySem.Challenge.rw_spreadshrinks_k98_all_errors_apart
abbrev hook : PySem.W.Hook := hookM as_ S.ck S.fas S.val
def ob (s : PySem.W.SharedT) : AlM := obsM as_ S.ck S.fas (HandSHeadRun.getT s)
theorem ob_eq (s : PySem.W.SharedT) : ob s = hook.obs s.abs := obsM_eq (HandSHeadRun.getT_eq s)
def loose : List Str := ("NearError" :: "BadShare" :: "NoQuotient" :: "BadNumber" :: "BadSetting" :: "BadSize" :: "BadCut" :: "BadRule" :: "BadView" :: "BadRound" :: "MixedSettings" :: "NotKept" :: "NoWindows" :: "BadText" :: "WrongKind" :: "BadRules" :: "BadRun" :: "NoBound" :: "BadLink" :: "NoLink" :: "TooMany" :: "BadTable" :: "Lacks" :: "BadCount" :: "BadSplit" :: "BadDiary" :: "BadLot" :: "NoLot" :: "BadPart" :: "BadStart" :: "BadTurn" :: "NoTurn" :: "_law_draw" :: "_law_first_flags" :: "_law_flags" :: "_law_apart" :: [])
theorem run (w : World) : HandSHeadRun.RunEq Rw (PySem.W.view Rw.prog [38]) hook ob 20000 loose w := by
  intro os
  kernel_rfl
end K98
set_option Elab.async false
set_option linter.all false
set_option maxRecDepth 100000
namespace Snd
open PySem PySem.Spec PyProof.Rows L2 Ev
section
variable {S : Src} {Y : Core} {me : Option (Addr × Addr)}
theorem HeadOk.cl_ (h : HeadOk S Y) (hw : S.wf = true) {cf : Nat → List D → Sto → R D} {k : Nat} (hfn : ∀ f F, S.fnAt f = some F → F.err = false → F.fn.ini = none → F.kw = 0 → FnI Y S.T (nmE S me) cf k f F.fn.np) (hnp : ∀ f F, S.fnAt f = some F → F.err = false → ∀ ds st, ds.length ≠ F.fn.np → cf f ds st = .no) {c : Nat} {C : Ev.Cls} (hC : S.clAt c = some C) (he : C.exc = false) : ClI Y S.T (nmE S me) cf k c C := by
  have z := h.clsP hC he
  have wf := wf_at hw hC
  unfold clsW at wf
  rw [he] at wf
  unfold clsB at z
  obtain ⟨z1, z⟩ := He.ba z
  obtain ⟨z2, z⟩ := He.ba z
  obtain ⟨z3, z⟩ := He.ba z
  obtain ⟨z4, z⟩ := He.ba z
  obtain ⟨z5, z⟩ := He.ba z
  obtain ⟨z6, z⟩ := He.ba z
  obtain ⟨z7, z⟩ := He.ba z
  obtain ⟨z8, z⟩ := He.ba z
  obtain ⟨z8k, z⟩ := He.ba z
  obtain ⟨z9, z10⟩ := He.ba z
  obtain ⟨z10, z11⟩ := He.ba z10
  obtain ⟨z11, z12⟩ := He.ba z11
  unfold clsX at z12
  obtain ⟨z12, z13⟩ := He.ba z12
  obtain ⟨wf1, wf2⟩ := He.ba wf
  obtain ⟨wf2, wf3⟩ := He.ba wf2
  obtain ⟨wf3, wf4⟩ := He.ba wf3
  refine ⟨He.cls_ok z2, He.eqO_ok z3, h.parts.2.2.2.2.2.2.1, h.parts.2.2.2.2.2.2.2.1, of_decide_eq_true z4, of_decide_eq_true z5, of_decide_eq_true z6, fun m hm => He.eqO_ok (List.all_eq_true.mp z7 m hm), fun m f hm => ?_, fun m f hm => ?_, fun m f hm => ?_, z12, fun m f hm => ?_⟩
  · have mm := nameOf_mem hm
    have y := List.all_eq_true.mp z8 _ mm
    obtain ⟨y1, y⟩ := He.ba y
    obtain ⟨y2, y⟩ := He.ba y
    obtain ⟨y3, y4⟩ := He.ba y
    refine ⟨⟨He.eqO_ok y1, y2, y3⟩, of_decide_eq_true y4, ?_⟩
    have q := List.all_eq_true.mp wf2 _ mm
    cases e : S.fnAt f with
    | none => simp only [e] at q; cases q
    | some F =>
      simp only [e] at q
      obtain ⟨q1, q2⟩ := He.ba q
      obtain ⟨q1, q0⟩ := He.ba q1
      exact ⟨_, hfn f F e (by simpa using q1) (by simpa using q2) (of_decide_eq_true q0), hnp f F e (by simpa using q1)⟩
  · have mm := nameOf_mem hm
    have y := List.all_eq_true.mp z8k _ mm
    obtain ⟨y1, y⟩ := He.ba y
    obtain ⟨y2, y⟩ := He.ba y
    obtain ⟨y3, y4⟩ := He.ba y
    exact ⟨⟨He.eqO_ok y1, y2, y3⟩, of_decide_eq_true y4⟩
  · have mm := nameOf_mem hm
    have y := List.all_eq_true.mp z9 _ mm
    have q := List.all_eq_true.mp wf3 _ mm
    refine ⟨?_, ?_⟩
    · cases e : PySem.W.findIn Y.K (.ref (cad S.nm Y.K c)) (S.nm.attr m) with
      | none => simp only [e] at y; cases y
      | some o =>
        cases o with
        | none => simp only [e] at y; cases y
        | some u =>
          cases u with
          | ref p =>
            simp only [e] at y
            obtain ⟨y1, y⟩ := He.ba y
            obtain ⟨y2, y3⟩ := He.ba y
            refine ⟨p, e, He.eqO_ok y1, of_decide_eq_true y2, ?_⟩
            cases e2 : PySem.W.recIn Y.K p "property" with
            | none => simp only [e2] at y3; cases y3
            | some l =>
              simp only [e2] at y3
              cases l with
              | nil => cases y3
              | cons a r =>
                cases a with
                | ref g =>
                  have eg : g = fad S.nm Y.K f := of_decide_eq_true y3
                  exact ⟨r, by rw [eg]; rfl⟩
                | _ => cases y3
          | _ => simp only [e] at y; cases y
    · cases e : S.fnAt f with
      | none => simp only [e] at q; cases q
      | some F =>
        simp only [e] at q
        obtain ⟨q1, q2⟩ := He.ba q
        obtain ⟨q1, q0⟩ := He.ba q1
        obtain ⟨q2, q3⟩ := He.ba q2
        have en : F.fn.np = 1 := of_decide_eq_true q3
        rw [← en]
        exact hfn f F e (by simpa using q1) (by simpa using q2) (of_decide_eq_true q0)
  · have mm := nameOf_mem hm
    have y := List.all_eq_true.mp z13 _ mm
    have q := List.all_eq_true.mp wf4 _ mm
    refine ⟨?_, ?_⟩
    · cases e : PySem.W.findIn Y.K (.ref (cad S.nm Y.K c)) (S.nm.attr m) with
      | none => simp only [e] at y; cases y
      | some o =>
        cases o with
        | none => simp only [e] at y; cases y
        | some u =>
          cases u with
          | ref p =>
            simp only [e] at y
            obtain ⟨y2, y3⟩ := He.ba y
            cases e2 : PySem.W.recIn Y.K p "property" with
            | none => simp only [e2] at y3; cases y3
            | some l =>
              simp only [e2] at y3
              cases l with
              | nil => cases y3
              | cons a r =>
                cases r with
                | nil => cases y3
                | cons b r =>
                  cases b with
                  | ref g =>
                    have eg : g = fad S.nm Y.K f := of_decide_eq_true y3
                    exact ⟨p, a, r, e, of_decide_eq_true y2, by rw [e2, eg]; rfl⟩
                  | _ => cases y3
          | _ => simp only [e] at y; cases y
    · cases e : S.fnAt f with
      | none => simp only [e] at q; cases q
      | some F =>
        simp only [e] at q
        obtain ⟨q1, q2⟩ := He.ba q
        obtain ⟨q1, q0⟩ := He.ba q1
        obtain ⟨q2, q3⟩ := He.ba q2
        have en : F.fn.np = 2 := of_decide_eq_true q3
        rw [← en]
        exact hfn f F e (by simpa using q1) (by simpa using q2) (of_decide_eq_true q0)
theorem HeadOk.made_ (h : HeadOk S Y) {c : Nat} {C : Ev.Cls} (hC : S.clAt c = some C) (he : C.exc = false) : Mk Y.K (cad S.nm Y.K c) (fad S.nm Y.K C.init) := by
  have z := h.clsP hC he
  unfold clsB at z
  obtain ⟨z1, z⟩ := He.ba z
  obtain ⟨z2, z⟩ := He.ba z
  obtain ⟨z3, z⟩ := He.ba z
  obtain ⟨z4, z⟩ := He.ba z
  obtain ⟨z5, z⟩ := He.ba z
  obtain ⟨z6, z⟩ := He.ba z
  obtain ⟨z7, z⟩ := He.ba z
  obtain ⟨z8, z⟩ := He.ba z
  obtain ⟨z8k, z⟩ := He.ba z
  obtain ⟨z9, z⟩ := He.ba z
  obtain ⟨z10, z11⟩ := He.ba z
  obtain ⟨z11, z12⟩ := He.ba z11
  have e : fad S.nm Y.K C.init = He.ma Y.K (He.ga Y.K (S.nm.cls c)) "__init__" := of_decide_eq_true z11
  rw [e]
  exact He.mkr_ok z10
theorem HeadOk.xc_ (h : HeadOk S Y) {c : Nat} {C : Ev.Cls} (hC : S.clAt c = some C) (he : C.exc = true) : XcI Y S.T (nmE S me) c C := by
  have z := (h.erP hC he).1
  unfold erB at z
  obtain ⟨z1, z⟩ := He.ba z
  obtain ⟨z2, z⟩ := He.ba z
  obtain ⟨z3, z⟩ := He.ba z
  obtain ⟨z4, z⟩ := He.ba z
  obtain ⟨z5, z⟩ := He.ba z
  obtain ⟨z6, z⟩ := He.ba z
  obtain ⟨z7, z⟩ := He.ba z
  obtain ⟨z8, z⟩ := He.ba z
  obtain ⟨z9, z⟩ := He.ba z
  obtain ⟨z10, z11⟩ := He.ba z
  exact ⟨⟨He.eqO_ok z5, He.eqO_ok z6, of_decide_eq_true z3, z7, He.eqO_ok z8, h.parts.2.2.2.2.2.2.1, h.parts.2.2.2.2.2.2.2.1, of_decide_eq_true z9⟩, of_decide_eq_true z10, fun m hm => He.eqO_ok (List.all_eq_true.mp z11 m hm)⟩
theorem HeadOk.er_ (h : HeadOk S Y) (hw : S.wf = true) (good : ∀ (c : Nat) (C : Ev.Cls) (F : FnS), S.clAt c = some C → C.exc = true → C.fields ≠ [] → S.fnAt C.init = some F → GoodE (C.fields.map S.nm.attr) C.cat F.d) {c : Nat} {C : Ev.Cls} (hC : S.clAt c = some C) (he : C.exc = true) : ErC Y S.T (nmE S me) c C := by
  obtain ⟨z, zm⟩ := h.erP hC he
  unfold erB at z
  obtain ⟨z1, z⟩ := He.ba z
  obtain ⟨z2, z⟩ := He.ba z
  obtain ⟨z3, z⟩ := He.ba z
  obtain ⟨z4, z⟩ := He.ba z
  obtain ⟨z5, z⟩ := He.ba z
  obtain ⟨z6, z⟩ := He.ba z
  obtain ⟨z7, z⟩ := He.ba z
  obtain ⟨z8, z⟩ := He.ba z
  obtain ⟨z9, z⟩ := He.ba z
  obtain ⟨z10, z11⟩ := He.ba z
  refine ⟨z2, of_decide_eq_true z3, of_decide_eq_true z4, ?_⟩
  have wf := wf_at hw hC
  unfold clsW at wf
  rw [he] at wf
  unfold erM at zm
  cases ef : C.fields with
  | nil =>
    rw [ef] at zm
    exact .inl ⟨rfl, zm⟩
  | cons m0 ms =>
    rw [ef] at zm wf
    have hne : C.fields ≠ [] := by rw [ef]; exact List.cons_ne_nil _ _
    have hfn : fnames S.T (nmE S me) c = C.fields.map S.nm.attr := by
      unfold fnames
      rw [show S.T.cls c = some C from hC]
      rfl
    refine .inr ⟨List.cons_ne_nil _ _, fad S.nm Y.K C.init, ?_⟩
    rw [hfn]
    obtain ⟨y1, y⟩ := He.ba zm
    obtain ⟨y2, y⟩ := He.ba y
    obtain ⟨y3, y⟩ := He.ba y
    obtain ⟨y4, y⟩ := He.ba y
    obtain ⟨y5, y⟩ := He.ba y
    obtain ⟨y6, y⟩ := He.ba y
    obtain ⟨y7, y⟩ := He.ba y
    obtain ⟨y8, y⟩ := He.ba y
    obtain ⟨y9, y10⟩ := He.ba y
    have nd : (C.fields.map S.nm.attr).Nodup := of_decide_eq_true z10
    cases e : S.fnAt C.init with
    | none => simp only [e] at wf; cases wf
    | some F =>
      simp only [e] at wf
      obtain ⟨w1, w3⟩ := He.ba wf
      obtain ⟨w1, w2⟩ := He.ba w1
      have G := good c C F hC he hne e
      have ev : fnM Y.K (fad S.nm Y.K C.init) = defM F.d ["__class__"] := by
        have e3 := h.defAt e
        rw [show (F.err && !F.gen) = true from w1] at e3
        have ea : fad S.nm Y.K C.init = fpA Y.K (F.d.at_, F.prop) := by
          unfold fad Src.nm
          simp only [e]
        rw [ea]
        exact e3
      have cls : ∃ nm q N bs bm sn sub ab col dd k0 k1 k2 k3 k5, Y.K.lookup (cad S.nm Y.K c) = some (excClassObj nm q (cad S.nm Y.K c) N bs bm true sn sub ab col dd k0 k1 k2 k3 k5 "ValueError.__new__") ∧ PySem.HandSPX.refsVE bm = true ∧ PySem.W.alongIn Y.K "__init__" bm = some (some (.builtin "ValueError.__init__")) := by
        split at y1
        · rename_i dd cd sl ho
          split at y1
          · rename_i C' bm k0 k1 k2 k3 n k5 hm hs
            simp only [Bool.and_eq_true, beq_iff_eq, Bool.not_eq_true'] at y1
            obtain ⟨rfl, rfl, hdel, hdict, hrefs, hal⟩ := y1
            obtain ⟨nm, bs, mro, ns, qn, hd, sn, sub, ab, col, del⟩ := cd
            dsimp only at hm hdel hdict
            subst hm hdel hdict
            have hsl : sl = #[k0, k1, k2, k3, some (.builtin "ValueError.__new__"), k5] := by
              obtain ⟨l⟩ := sl
              simp only at hs
              rw [hs]
            subst hsl
            exact ⟨nm, qn, ns, bs, bm, sn, sub, ab, col, dd, k0, k1, k2, k3, k5, ho, hrefs, He.eqO_ok hal⟩
          · cases y1
        · cases y1
      have hclsIn : ∃ cdD, PySem.W.clsIn Y.K (cad S.nm Y.K c) = some cdD := by
        obtain ⟨nm, q, N, bs, bm, sn, sub, ab, col, dd, k0, k1, k2, k3, k5, hl, _⟩ := cls
        exact ⟨_, by unfold PySem.W.clsIn; rw [hl]⟩
      refine ⟨cls, He.eqO_ok y2, He.eqO_ok y3, of_decide_eq_true y4, z2, of_decide_eq_true z3, of_decide_eq_true y5, of_decide_eq_true y6, of_decide_eq_true z4, fun f hf => ?_, nd, ?_, fun hm => ?_, fun f hf => ?_, h.parts.2.2.2.2.2.2.2.2.1, h.parts.2.2.2.2.2.2.2.2.2.1, ?_, ?_⟩
      · obtain ⟨m, hm, em⟩ := List.mem_map.mp hf
        rw [← em]
        exact He.eqO_ok (List.all_eq_true.mp z11 m hm)
      · rw [List.length_map, ef]
        exact of_decide_eq_true y7
      · rw [ef] at hm
        have y8' := y8
        simp only [Bool.not_eq_true'] at y8'
        rw [List.contains_eq_mem] at y8'
        exact absurd hm (of_decide_eq_false y8')
      · rw [ef] at hf
        have q := List.all_eq_true.mp y9 f hf
        simpa using q
      · rw [h.prog]
        exact wf_top hw
      · split at y10
        · rename_i oc od fd osl ho
          split at y10
          · rename_i yn cc cda hcl hco
            obtain ⟨v1, v⟩ := He.ba y10
            obtain ⟨v0, v⟩ := He.ba v
            obtain ⟨v2, v⟩ := He.ba v
            obtain ⟨v3, v4⟩ := He.ba v
            have ynm : yn = ("__class__" : Str) := beq_iff_eq.mp v1
            unfold fnM at ev
            rw [ho] at ev
            obtain ⟨n1, n2, n3, n4, n5, n6, n7, n8, n9, n10, n11, n12, n13, n14, n15⟩ := fd
            dsimp only at hcl hco v3 v0
            have v0' : n8 = .none := by
              unfold noneV at v0
              split at v0
              · rfl
              · cases v0
            subst hcl hco
            subst ynm
            have e2 : (some (n1, n2, n3, n4, n5, n6, [("__class__" : Str)], n15) : FnM) = (some (F.d.name, F.d.qual, F.d.params, FuncBody.stmts F.d.body, F.d.scope, mainGlobals, [("__class__" : Str)], builtinsNs) : FnM) := ev
            simp only [Option.some.injEq, Prod.mk.injEq] at e2
            obtain ⟨h1, h2, h3, h4, h5, h6, h7, h8⟩ := e2
            subst h1 h2 h3 h4 h5 h6 h8
            split at v2
            · rename_i cl0 cd0 D0 csl hcell
              have eD : D0 = cad S.nm Y.K c := beq_iff_eq.mp v2
              subst eD
              split at v4
              · rename_i ccl cdd cvs ccs hcda
                split at v4
                · rename_i file tf hfile
                  obtain ⟨cdD, hcd⟩ := hclsIn
                  obtain ⟨ar, har, hae⟩ := G.head
                  have gb := G.bind n8 n9 n10 n11 n12 (.ref cda) n14 cc
                  have body := G.body
                  have hn := G.nam
                  generalize F.d.body = bd at body gb ho
                  generalize F.d.name = nm1 at hn gb ho
                  cases body with
                  | @mk p0 p1 p2 p3 p4 te b hl ht ha =>
                    subst hn
                    exact ⟨_, _, _, _, _, _, _, _, _, _, _, _, _, _, _, _, p0, p1, p2, p3, p4, _, _, _, _, _, _, _, _, _, cdD, ar, ho, v3, ht, ha, G.scp, hcda, hfile, by rw [h.prog]; exact v4, hcell, hcd, har, hae, hl, fun us hu => gb us hu v0'⟩
                · cases v4
              · cases v4
            · cases v2
          · cases y10
        · cases y10

structure Good (S : Src) (Y : Core) : Prop where
  wf : S.wf = true
  er : ∀ (c : Nat) (C : Ev.Cls) (F : FnS), S.clAt c = some C → C.exc = true → C.fields ≠ [] → S.fnAt C.init = some F → GoodE (C.fields.map S.nm.attr) C.cat F.d
  fn : ∀ (f : Nat) (F : FnS), S.fnAt f = some F → F.err = false → GoodF S Y F
theorem all_nil {α : Type} {P : α → Prop} : ∀ q ∈ ([] : List α), P q := fun q h => by cases h
theorem all_cons {α : Type} {P : α → Prop} {x : α} {l : List α} (h : P x) (t : ∀ q ∈ l, P q) : ∀ q ∈ x :: l, P q := fun q hq => by
  rcases List.mem_cons.mp hq with rfl | hq
  · exact h
  · exact t q hq
theorem good_of (wf : S.wf = true) (er : ∀ q ∈ S.cls, q.2.exc = true → q.2.fields ≠ [] → ∀ F, S.fnAt q.2.init = some F → GoodE (q.2.fields.map S.nm.attr) q.2.cat F.d) (fn : ∀ q ∈ S.fns, q.2.err = false → GoodF S Y q.2) : Good S Y :=
  ⟨wf, fun c C F hC hx hn hF => er (c, C) (nameOf_mem hC) hx hn F hF, fun f F hf he => fn (f, F) (nameOf_mem hf) he⟩
theorem fnOk_no {k f np : Nat} {cf : Nat → List D → Sto → R D} {nm : Nm} {T : Ev.Tab} {fa : Addr} {fd : FuncData} {ps : List Str} (h : ∀ ds st, cf f ds st = .no) : FnOk Y.prog Y.w Y.K Y.mg Y.base (L2.CX Y.prog Y.w) k fa fd ps (SP T nm Y.K cf np f) := by
  refine ⟨fun vs H Q E ⟨_, g, ds, st, _, _, _, o⟩ => ?_, fun A outer s H args us vs Q E _ _ _ _ ⟨_, g, ds, st, _, _, _, o⟩ => ?_⟩
  · rw [h] at o
    exact o.elim
  · rw [h] at o
    exact o.elim
theorem fnOkI_no {k f np c : Nat} {cf : Nat → List D → Sto → R D} {nm : Nm} {T : Ev.Tab} {fa : Addr} {fd : FuncData} {ps : List Str} (h : ∀ ds st, cf f ds st = .no) : FnOk Y.prog Y.w Y.K Y.mg Y.base (L2.CX Y.prog Y.w) k fa fd ps (SPI T nm Y.K cf np f c) := by
  refine ⟨fun vs H Q E ⟨_, x, dx, g, ds, st, ws, _, _, _, _, _, _, o⟩ => ?_, fun A outer s H args us vs Q E _ _ _ _ ⟨_, x, dx, g, ds, st, ws, _, _, _, _, _, _, o⟩ => ?_⟩
  · rw [h] at o
    exact o.elim
  · rw [h] at o
    exact o.elim
theorem sp_eq {f np : Nat} {cf cf' : Nat → List D → Sto → R D} {nm : Nm} {T : Ev.Tab} {K : PySem.W.Frag} (h : cf f = cf' f) : SP T nm K cf np f = SP T nm K cf' np f := by
  unfold SP
  rw [h]
theorem spi_eq {f np c : Nat} {cf cf' : Nat → List D → Sto → R D} {nm : Nm} {T : Ev.Tab} {K : PySem.W.Frag} (h : cf f = cf' f) : SPI T nm K cf np f c = SPI T nm K cf' np f c := by
  unfold SPI
  rw [h]
theorem tbl_suc {T : Ev.Tab} {l f : Nat} {fn : Fn} (h : T.fn f = some fn) : tbl T (l + 1) f = if fn.lv = l then runB T (tbl T l) fn else tbl T l f := by
  funext ds st
  show (match T.fn f with
    | some fn => if fn.lv = l then runB T (tbl T l) fn ds st else tbl T l f ds st
    | none => .no) = _
  rw [h]
  by_cases e : fn.lv = l
  · simp only [e, if_true]
  · simp only [e, if_false]
theorem src_fn {f : Nat} {F : FnS} (hf : S.fnAt f = some F) (he : F.err = false) : S.T.fn f = some F.fn := by
  show (match S.fnAt f with
    | some F => if F.err then none else some F.fn
    | none => none) = _
  rw [hf]
  show (if F.err then none else some F.fn) = _
  rw [he]
  rfl
theorem tbl_np : ∀ (l : Nat) (f : Nat) (F : FnS), S.fnAt f = some F → F.err = false → ∀ ds st, ds.length ≠ F.fn.np → tbl S.T l f ds st = .no
  | 0, _, _, _, _, _, _, _ => rfl
  | l + 1, f, F, hf, he, ds, st, hn => by
    rw [tbl_suc (src_fn hf he)]
    by_cases z : F.fn.lv = l
    · rw [if_pos z]
      unfold runB
      rw [if_neg hn]
    · rw [if_neg z]
      exact tbl_np l f F hf he ds st hn
theorem facts_of (h : HeadOk S Y) (G : Good S Y) {cf : Nat → List D → Sto → R D} {k : Nat} (hfn : ∀ f F, S.fnAt f = some F → F.err = false → F.fn.ini = none → F.kw = 0 → FnI Y S.T (nmE S me) cf k f F.fn.np) (hfk : ∀ f F, S.fnAt f = some F → F.err = false → F.fn.ini = none → FnK Y S.T (nmE S me) cf k f F)
    (hmk : ∀ c C, clsI S.T c = some C → MkI Y S.T (nmE S me) cf k c C) (hnp : ∀ f F, S.fnAt f = some F → F.err = false → ∀ ds st, ds.length ≠ F.fn.np → cf f ds st = .no) (htb : ∃ l, cf = tbl S.T l) : Facts S Y (nmE S me) cf k where
  fn := hfn
  fk := hfk
  mk_ := hmk
  cl := fun c C hC he => h.cl_ G.wf hfn hnp hC he
  er := fun c C hC he => h.er_ G.wf G.er hC he
  xc := fun c C hC he => h.xc_ hC he
  eri := fun c hc => h.eri_ hc
  kit := h.kit_
  con := fun j q hj => h.con_ hj
  mgf := fun f F x hf he hp ha => by
    have z := He.glo_ok h.kin h.glob ((h.parts.1 f F hf (by rw [he]; rfl)).2 x ha)
    have e : fad S.nm Y.K f = He.ga Y.K x := by
      unfold fad Src.nm fpA
      simp only [hf, hp, ha]
      rfl
    show Y.mg x = some (.ref (fad S.nm Y.K f))
    rw [e]
    exact z
  mgc := fun c C hC => h.mgc_ hC
  free := fun x hx => He.free_ok h.kin h.glob (h.parts.2.2.2.1 x hx)
  ops := h.parts.2.2.2.2.2.2.2.2.2.2.2
  gn := fun f F hf hg => h.fun_ hf (by rw [hg, Bool.not_true, Bool.and_false])
  imp := fun x id hx => PySem.W.mg_of h.kin h.glob (He.eqO_ok (List.all_eq_true.mp h.parts.2.2.2.2.2.2.2.2.2.2.1 _ hx))
  kin := h.kin
  tb := htb
theorem HeadOk.inits (h : HeadOk S Y) (G : Good S Y) {c : Nat} {C : Ev.Cls} {F : FnS} (hf : S.fnAt C.init = some F) (he : F.err = false) (hn : F.ps.length = C.np + 1) (hd : dvD F.d.dfl = some C.dfl) (hkw : F.kw = 0) :
    ∃ fd, FunD Y.K F.d.name F.d.qual F.d.params F.d.body F.d.scope (F.d.dvs Y.K) [] (fad S.nm Y.K C.init) fd ∧ ∀ n, n + (mis C n).length = C.np → ∃ dvs ds, Binds Y.K fd F.ps ds ∧ Vals dvs ds ∧ ∀ g, Reps S.T (nmE S me) Y.K g (mis C n) dvs := by
  obtain ⟨fd, FD⟩ := h.fun_ hf (by rw [he]; rfl)
  have gf := G.fn _ F hf he
  have e2 : F.d.kws Y.K = [] := by unfold He.DefD.kws; rw [gf.kwd hkw]; rfl
  rw [e2] at FD
  refine ⟨fd, FD, fun n hm => ?_⟩
  have ld := dvD_len hd
  by_cases hz : F.d.dfl = []
  · have e1 : F.d.dvs Y.K = [] := by unfold He.DefD.dvs; rw [hz]; rfl
    rw [e1] at FD
    have b := FD.bindsN (gf.bind hkw hz)
    have zn : C.dfl = [] := by rw [hz] at ld; exact List.eq_nil_of_length_eq_zero ld
    refine ⟨[], [], b, .nil, fun g => ?_⟩
    unfold mis
    rw [zn]
    simp only [List.drop_nil]
    exact .nil
  · have hl : (F.d.dvs Y.K).length = F.d.dfl.length := by unfold He.DefD.dvs; rw [List.length_map]
    have hm2 : C.dfl.length - (C.dfl.length + n - C.np) + n = C.np := by
      unfold mis at hm
      rw [List.length_drop] at hm
      omega
    have hj : C.dfl.length + n - C.np ≤ C.dfl.length := by omega
    obtain ⟨ds, rv, b⟩ := FD.binds1 (n + 1) (C.dfl.length + n - C.np) (by intro z; rw [← List.length_eq_zero_iff, hl] at z; exact hz (List.eq_nil_of_length_eq_zero z)) (by rw [hl, ← ld, hn]; omega) fun T kV doc pm an cdv ct us its hu hi =>
      gf.bindD hz (n + 1) (C.dfl.length + n - C.np) (by rw [← ld]; exact hj) (by rw [← ld, hn]; omega) T kV doc pm an cdv ct us its hu (by rw [hi, hl])
    refine ⟨_, ds, b, rv, fun g => ?_⟩
    unfold mis He.DefD.dvs
    exact (dvD_reps g S.T (nmE S me) hd).drop _
theorem all_facts (h : HeadOk S Y) (G : Good S Y) : ∀ (l : Nat) (me : Option (Addr × Addr)), Facts S Y (nmE S me) (tbl S.T l) (7 * l) := by
  have fnd : ∀ f F, S.fnAt f = some F → F.err = false → F.fn.ini = none → F.kw = 0 → ∃ fd, FunD Y.K F.d.name F.d.qual F.d.params F.d.body F.d.scope [] [] (fad S.nm Y.K f) fd ∧ Binds Y.K fd F.ps [] := fun f F hf he hi hkw => by
    obtain ⟨fd, FD⟩ := h.fun_ hf (by rw [he]; rfl)
    have gf := G.fn f F hf he
    have e1 : F.d.dvs Y.K = [] := by unfold He.DefD.dvs; rw [gf.dfl hi]; rfl
    have e2 : F.d.kws Y.K = [] := by unfold He.DefD.kws; rw [gf.kwd hkw]; rfl
    rw [e1, e2] at FD
    exact ⟨fd, FD, FD.bindsN (gf.bind hkw (gf.dfl hi))⟩
  have inis : ∀ c C, clsI S.T c = some C → ∃ F, S.fnAt C.init = some F ∧ F.err = false ∧ F.fn.ini = some c ∧ F.fn.np = C.np ∧ dvD F.d.dfl = some C.dfl ∧ F.kw = 0 := fun c C hC => by
    obtain ⟨hC, he⟩ := clsI_some hC
    have wf := wf_at G.wf (show S.clAt c = some C from hC)
    unfold clsW at wf
    rw [he] at wf
    obtain ⟨wf1, _⟩ := He.ba wf
    cases e : S.fnAt C.init with
    | none => simp only [e] at wf1; cases wf1
    | some F =>
      simp only [e] at wf1
      obtain ⟨q1, q⟩ := He.ba wf1
      obtain ⟨q1, q0⟩ := He.ba q1
      obtain ⟨q2, q⟩ := He.ba q
      obtain ⟨q3, q4⟩ := He.ba q
      refine ⟨F, rfl, by simpa using q1, of_decide_eq_true q2, of_decide_eq_true q3, ?_, of_decide_eq_true q0⟩
      cases e5 : dvD F.d.dfl with
      | none => rw [e5] at q4; cases q4
      | some ds => rw [e5] at q4; rw [dsBeq_eq q4]
  intro l
  induction l with
  | zero =>
    intro me
    refine facts_of h G (fun f F hf he hi hkw => ?_) (fun f F hf he hi => ?_) (fun c C hC => ?_) (tbl_np _) ⟨_, rfl⟩
    · obtain ⟨fd, FD, b⟩ := fnd f F hf he hi hkw
      have gf := G.fn f F hf he
      exact ⟨FD.kp, fd, F.ps, fnOk_no fun _ _ => rfl, b, by rw [gf.n1, hi]; rfl⟩
    · obtain ⟨fd, FD⟩ := h.fun_ hf (by rw [he]; rfl)
      have gf := G.fn f F hf he
      exact ⟨⟨fd, fnOk_no fun _ _ => rfl, FD⟩, by rw [gf.n1, hi]; rfl⟩
    · obtain ⟨F, hf, he, hi, hnp, hd, hkw⟩ := inis c C hC
      have gf := G.fn _ F hf he
      obtain ⟨fd, FD, b⟩ := h.inits (c := c) (me := me) G hf he (by rw [gf.n1, hi, hnp]; rfl) hd hkw
      exact ⟨h.made_ (clsI_some hC).1 (clsI_some hC).2, fd, F.ps, fnOkI_no fun _ _ => rfl, b⟩
  | succ l ih =>
    intro me
    refine facts_of h G (fun f F hf he hi hkw => ?_) (fun f F hf he hi => ?_) (fun c C hC => ?_) (tbl_np _) ⟨_, rfl⟩
    · obtain ⟨fd, FD, b⟩ := fnd f F hf he hi hkw
      have gf := G.fn f F hf he
      have np : F.ps.length = F.fn.np := by rw [gf.n1, hi]; rfl
      have ht := tbl_suc (l := l) (src_fn hf he)
      by_cases z : F.fn.lv = l
      · rw [if_pos z] at ht
        have q := fn_sp (Y := Y) (T := S.T) (nm := nmE S me) (k := 7 * l + 6) (cf := tbl S.T (l + 1)) FD gf.sc ht hi np gf.n2 gf.n3 fun cdv A outer s H E hr => gf.body me _ _ (ih me) _ cdv A outer s H E hr
        exact ⟨FD.kp, fd, F.ps, q.mono (by omega), b, np⟩
      · rw [if_neg z] at ht
        obtain ⟨kp, fd', ps', q, b', np'⟩ := (ih me).fn f F hf he hi hkw
        refine ⟨kp, fd', ps', ?_, b', np'⟩
        rw [sp_eq ht]
        exact q.mono (by omega)
    · obtain ⟨fd, FD⟩ := h.fun_ hf (by rw [he]; rfl)
      have gf := G.fn f F hf he
      have np : F.ps.length = F.fn.np := by rw [gf.n1, hi]; rfl
      have ht := tbl_suc (l := l) (src_fn hf he)
      by_cases z : F.fn.lv = l
      · rw [if_pos z] at ht
        have q := fn_sp (Y := Y) (T := S.T) (nm := nmE S me) (k := 7 * l + 6) (cf := tbl S.T (l + 1)) FD gf.sc ht hi np gf.n2 gf.n3 fun cdv A outer s H E hr => gf.body me _ _ (ih me) _ cdv A outer s H E hr
        exact ⟨⟨fd, q.mono (by omega), FD⟩, np⟩
      · rw [if_neg z] at ht
        obtain ⟨⟨fd', q, FD'⟩, np'⟩ := (ih me).fk f F hf he hi
        refine ⟨⟨fd', ?_, FD'⟩, np'⟩
        rw [sp_eq ht]
        exact q.mono (by omega)
    · obtain ⟨F, hf, he, hi, hnp, hd, hkw⟩ := inis c C hC
      have gf := G.fn _ F hf he
      have np : F.ps.length = F.fn.np + 1 := by rw [gf.n1, hi]; rfl
      obtain ⟨fd, FD, b⟩ := h.inits (c := c) (me := me) G hf he (by rw [np, hnp]) hd hkw
      have ht := tbl_suc (l := l) (src_fn hf he)
      by_cases z : F.fn.lv = l
      · rw [if_pos z] at ht
        have q := fn_spi (Y := Y) (T := S.T) (nm := nmE S me) (k := 7 * l + 6) (cf := tbl S.T (l + 1)) FD gf.sc ht hi (clsI_some hC).1 np gf.n2 fun p dx cdv A outer s H E hr => gf.body (some (p, dx)) _ _ (ih (some (p, dx))) _ cdv A outer s H E hr
        rw [hnp] at q
        exact ⟨h.made_ (clsI_some hC).1 (clsI_some hC).2, fd, F.ps, q.mono (by omega), b⟩
      · rw [if_neg z] at ht
        obtain ⟨mk, fd', ps', q, b'⟩ := (ih me).mk_ c C hC
        refine ⟨mk, fd', ps', ?_, b'⟩
        rw [spi_eq ht]
        exact q.mono (by omega)

theorem fnOk_quiet {P : Program} {w : World} {K : PySem.W.Frag} {mg : Str → Option Value} {base : Heap} {k : Nat} {fa : Addr} {fd : FuncData} {ps : List Str} {sp : Sp} (F : FnOk P w K mg base (L2.CX P w) k fa fd ps sp) : FnOk P w K mg base L2.CX0 k fa fd ps (fun vs H Q _ => sp vs H Q fun _ _ _ => False) :=
  ⟨fun vs H Q E h => F.len vs H Q _ h, fun A outer s H args us vs Q E hr e0 hb r h => codeAny_mono (F.run A outer s H args us vs Q _ hr e0 hb r h) fun r s' z => by
    cases r with
    | ok fl =>
      cases fl with
      | ret u => exact z
      | next => exact z
      | brk => exact z
      | cont => exact z
    | error e =>
      obtain ⟨_, _, _, _, _, _, _, _, _, _, _, _, y⟩ := z
      exact y.elim⟩
def gAll (H : Hp) : Gh := fun b => (H b).map Tag.imm
theorem gAll_im {H : Hp} : imH (gAll H) = H := by
  funext b
  unfold imH gAll
  cases H b <;> rfl
theorem mt0_all {T : Ev.Tab} {nm : Nm} {K : PySem.W.Frag} {H : Hp} : Mt0 T nm K (gAll H) [] H := by
  have z : ∀ a t, gAll H a = some t → ∃ o, t = .imm o ∧ H a = some o := fun a t e => by
    unfold gAll at e
    cases q : H a with
    | none => rw [q] at e; cases e
    | some o => rw [q] at e; cases e; exact ⟨o, rfl, rfl⟩
  refine ⟨fun a o e => ?_, fun a o e => ?_, fun k ob e => by simp at e, fun a k e => ?_, fun a b k e1 e2 => ?_, fun a t e => ?_⟩
  · obtain ⟨o', e1, e2⟩ := z a _ e
    cases e1
    exact e2
  · obtain ⟨o', e1, e2⟩ := z a _ e
    cases e1
  · obtain ⟨o', e1, e2⟩ := z a _ e
    cases e1
  · obtain ⟨o', e3, e4⟩ := z a _ e1
    cases e3
  · obtain ⟨o', e1, e2⟩ := z a _ e
    exact ⟨o', e2⟩
theorem law_walk {l : PySem.W.OpenLaw} {S : Src} {q : Program} {loose : List Str} {XP : (Str → Option Value) → Heap → Prop} {d : DefRec} {n f : Nat} {m : List Addr} {F : FnS} {x : Str} (hn : l.most = some n) (hn2 : n ≤ sizeLine) (hdf : d.params.defaults = []) (hr : Room (7 * F.fn.lv + 7) callerA)
    (hf : S.fnAt f = some F) (he : F.err = false) (hi : F.fn.ini = none) (hkw : F.kw = 0) (hps : F.ps = [x]) (hat : F.d.at_ = (d.name, none)) (hpr : F.prop = false) (hprog : l.prog = S.prog) (good : ∀ Y : Core, Good S Y)
    (law : ∀ ns : List Int, ns.length ≤ n → ∃ st, Ev.call S.T f [.scr ns] [] = .ok (.bl true) st) :
    PySem.W.WalkO q loose XP (hookM m S.ck S.fas S.val).says l.row.toRowW d [] (fun f vs => PySem.call f vs) := by
  refine L2.walk_ofE (l := l) (n := n) (k := 7 * F.fn.lv + 7) (x := x) (CX := L2.CX0) hn hn2 hdf hr ?_ (fun _ _ _ _ z => z)
  intro w mg fa h Y G hmg
  obtain ⟨K, KX, c1, c2⟩ := Y
  have e0 : He.FnW = He.FnW := rfl
  have efa : ∀ base : Heap, K.In base → base.Ns mainGlobals mg → HeadOk S ⟨l.prog, w, K, mg, base⟩ := fun base kb gb => ⟨c1, c2, kb, gb, hprog⟩
  have H0 : HeadOk S ⟨l.prog, w, K, mg, h⟩ := efa h KX G
  have gf := (good ⟨l.prog, w, K, mg, h⟩).fn f F hf he
  obtain ⟨fd, FD⟩ := H0.fun_ hf (by rw [he]; rfl)
  have e1 : F.d.dvs K = [] := by unfold He.DefD.dvs; rw [gf.dfl hi]; rfl
  have e2 : F.d.kws K = [] := by unfold He.DefD.kws; rw [gf.kwd hkw]; rfl
  have FD2 : FunD K F.d.name F.d.qual F.d.params F.d.body F.d.scope [] [] (fad S.nm K f) fd := by
    have z := FD
    show FunD K F.d.name F.d.qual F.d.params F.d.body F.d.scope [] [] (fad S.nm K f) fd
    rw [← e1, ← e2]
    exact z
  have hfa : fa = fad S.nm K f := by
    have z := (facts_of (me := none) H0 (good _) (all_facts H0 (good _) 0 none).fn (all_facts H0 (good _) 0 none).fk (all_facts H0 (good _) 0 none).mk_ (tbl_np _) ⟨_, rfl⟩).mgf f F d.name hf he hpr hat
    have z2 : mg d.name = some (.ref (fad S.nm K f)) := z
    rw [hmg] at z2
    cases z2
    rfl
  subst hfa
  obtain ⟨oc, od, dV, kV, doc, pm, an, cdv, ct, osl, efd, lk, hcd, _, _⟩ := FD2.ex
  refine ⟨K, fd, fun vs H Q _ => SP S.T (nmE S none) K (Ev.call S.T) F.fn.np f vs H Q fun _ _ _ => False, KX, fun s u => ?_, fun H a ns hl _ hS => ?_, fun base kb gb => ?_⟩
  · have b := FunD.bindsA (ps := F.ps) FD2 (gf.bind hkw (gf.dfl hi)) s [u] (by rw [hps]; rfl)
    rw [hps] at b
    exact b
  · obtain ⟨st, e⟩ := law ns hl
    have np : F.fn.np = 1 := by
      have z := gf.n1
      rw [hps, hi] at z
      exact z.symm
    refine ⟨by rw [np]; rfl, gAll H, [.scr ns], [], fun a i e => ?_, mt0_all, .cons (.scr (by rw [gAll_im]; exact hS)) .nil, ?_⟩
    · unfold gAll at e
      cases q : H a with
      | none => rw [q] at e; cases e
      | some o => rw [q] at e; cases e
    · rw [e]
      intro g' v H' _ _ r
      cases r
      rfl
  · have np : F.ps.length = F.fn.np := by rw [gf.n1, hi]; rfl
    have ht : Ev.call S.T f = runB S.T (tbl S.T F.fn.lv) F.fn := by
      rw [← tbl_eq S.T (l := F.fn.lv + 1) (src_fn hf he) (Nat.lt_succ_self _), tbl_suc (src_fn hf he), if_pos rfl]
    have q := fn_sp (Y := ⟨l.prog, w, K, mg, base⟩) (T := S.T) (nm := nmE S none) (k := 7 * F.fn.lv + 6) (cf := Ev.call S.T) FD2 gf.sc ht hi np gf.n2 gf.n3 fun cdv A outer s H E hr => ((good ⟨l.prog, w, K, mg, base⟩).fn f F hf he).body none _ _ (all_facts (efa base kb gb) (good _) F.fn.lv none) _ cdv A outer s H E hr
    have q2 := fnOk_quiet q
    rw [hps] at q2
    exact q2
end
end Snd
set_option Elab.async false
set_option linter.all false
set_option maxRecDepth 100000
namespace Snd
open PySem PySem.Spec PyProof.Rows L2 Ev
section
variable {X : Cx} {T : Tab} {nm : Nm} {W : WX} {cf : Nat → List D → Sto → R D} {pos : Pos} {k : Nat}
end
section
variable {T : Tab} {nm : Nm} {K : PySem.W.Frag} {W : WX} {g g0 g1 gb gb' : Gh} {ρ : Rho} {σ : L2.St} {H : Hp} {st : Sto} {D : Ends}
theorem OutS.base {r : F} (o : OutS T nm K W gb D r) (l : Le gb gb') : OutS T nm K W gb' D r := by
  cases r with
  | nx ρ st => exact fun g' σ' H' l' m => o g' σ' H' (l.trans l') m
  | rt d st => exact fun g' v H' l' m r => o g' v H' (l.trans l') m (r.back l)
  | bk ρ st => exact fun g' σ' H' l' m => o g' σ' H' (l.trans l') m
  | ct ρ st => exact fun g' σ' H' l' m => o g' σ' H' (l.trans l') m
  | er x ρ st => exact fun g' cv dd σ' H' l' m x => o g' cv dd σ' H' (l.trans l') m x
  | no => exact o
def strip (g : Gh) : Gh := fun a => match g a with
  | some (.slot _) => none
  | t => t
theorem strip_of {a : Addr} {t : Tag} (h : g a = some t) (n : ∀ i, t ≠ .slot i) : strip g a = some t := by
  unfold strip
  rw [h]
  cases t with
  | slot i => exact absurd rfl (n i)
  | _ => rfl
theorem of_strip {a : Addr} {t : Tag} (h : strip g a = some t) : g a = some t ∧ ∀ i, t ≠ .slot i := by
  unfold strip at h
  split at h
  · cases h
  · rename_i n
    refine ⟨h, fun i e => ?_⟩
    subst e
    exact n i h
theorem noSlot_strip : NoSlot (strip g) := fun a i e => (of_strip e).2 i rfl
theorem le_strip : Le (strip g) g := fun a t e => (of_strip e).1
theorem le_to_strip (n : NoSlot gb) (l : Le gb g) : Le gb (strip g) := fun a t e => strip_of (l a t e) fun i z => n a i (z ▸ e)
end
section
variable {X : Cx} {T : Tab} {nm : Nm} {W : WX} {cf : Nat → List D → Sto → R D} {pos : Pos} {k : Nat}
theorem turn_out {gb' : Gh} {D : Ends} {ts : List Nat} {dss : List (List Ev.D)} {b : Ev.S} {ρ1 : Rho} {st1 : Sto} {N : L2.St → Hp → Prop} {g2 : Gh} {σ2 : L2.St} {H2 : Hp} (m : Mt T nm X.K g2 ρ1 st1 σ2 H2) (l : Le gb' g2) (n : NoSlot gb')
    (hN : ∀ g' ρ' st' σ' H', Le gb' g' → Mt T nm X.K g' ρ' st' σ' H' → OutS T nm X.K W gb' D (forL (exS T cf b) ts dss ρ' st') → N σ' H')
    (o : OutS T nm X.K W gb' D (match exS T cf b ρ1 st1 with
      | .nx ρ st => forL (exS T cf b) ts dss ρ st
      | .ct ρ st => forL (exS T cf b) ts dss ρ st
      | .bk ρ st => .nx ρ st
      | r => r)) : tS T nm X.K cf W b { D with nx := N, ct := N, bk := D.nx } σ2 H2 := by
  refine ⟨gb', g2, ρ1, st1, m, l, n, ?_⟩
  cases q : exS T cf b ρ1 st1 with
  | nx ρ st =>
    rw [q] at o
    exact fun g' σ' H' l' m' => hN g' ρ st σ' H' l' m' o
  | ct ρ st =>
    rw [q] at o
    exact fun g' σ' H' l' m' => hN g' ρ st σ' H' l' m' o
  | bk ρ st =>
    rw [q] at o
    exact fun g' σ' H' l' m' => o g' σ' H' l' m'
  | rt d st =>
    rw [q] at o
    exact o
  | er x ρ st =>
    rw [q] at o
    exact o
  | no =>
    rw [q] at o
    exact o
theorem drop_at {α : Type} {xs : List α} {i : Nat} {x : α} (h : xs[i]? = some x) : xs.drop i = x :: xs.drop (i + 1) := by
  obtain ⟨h1, h2⟩ := List.getElem?_eq_some_iff.mp h
  rw [List.drop_eq_getElem_cons h1, h2]
end
end Snd
set_option Elab.async false
set_option linter.all false
set_option maxRecDepth 100000
set_option maxHeartbeats 0
namespace Snd
open PySem PySem.Spec PyProof.Rows L2 Ev
section
variable {S : Src} {X : Cx} {W : WX} {nm : Nm} {cf : Nat → List D → Sto → R D} {k : Nat} {T : Tab}
theorem run_callA {A : Around} {f np : Nat} {pins : List (Addr × Obj)} {σ : L2.St} {H : Hp} {s : Shared} {Q : VK} {g g0 : Gh} {ρ : Rho} {st : Sto} {ds : List D} {vs : List V} {us : List Value} (hA : A.frames = X.A.frames) (F : FnI (co X) T nm cf k f np) (hr : Room k A) (tk : Takes X W)
    (I : Inv X pins σ H s) (rv : Vals vs us) (hn : vs.length = np) (m : Mt T nm X.K g ρ st σ H) (r : Reps T nm X.K g ds vs) (l0 : Le g0 g)
    (o : Out T nm X.K W g0 ρ σ (fun d _ g' H' => ∀ v, RepR T nm X.K g0 g' d v → Q v H') (cf f ds st)) : wpAny (model X.prog X.w) A (call (.ref (fad nm X.K f)) us) (EP X pins σ Q) X.xe s := by
  obtain ⟨fd, ps, F1, b, e⟩ := F.ok
  have h := sp_of m r l0 hn o
  have hl : us.length = ps.length := by rw [← rv.length]; exact F1.len _ _ _ _ h
  have b2 := b s us I.kIn (by rw [List.append_nil]; exact hl)
  rw [List.append_nil] at b2
  have e0 : Env0 X.prog X.w X.K X.mg X.base A X.stack s H := by
    have e := I.env0
    exact ⟨by rw [hA]; exact e.frames, e.mod, e.bs, e.bsz, e.funs, e.frf, e.hok, e.bare⟩
  refine wpAny_call (codeAny_mono (F1.run A X.stack s H ⟨us, []⟩ us vs Q (WE W σ) hr e0 b2 rv h) fun r s' hq => ?_)
  cases r with
  | error e => exact passAt tk σ pins H s e s' I hq
  | ok fl =>
    cases fl with
    | ret u => exact I.after hq
    | next => exact False.elim hq
    | brk => exact False.elim hq
    | cont => exact False.elim hq
theorem ins_at {c : Nat} {ds : List D} {x : V} {g : Gh} {ρ : Rho} {σ : L2.St} {H : Hp} {st : Sto} {pins : List (Addr × Obj)} {s : Shared} (h : LkR T nm X.K g ρ σ (.ins c ds) x) (m : Mt T nm X.K g ρ st σ H) (I : Inv X pins σ H s) :
    ∃ p dx od, x = .ref p ∧ Rep T nm X.K g (.ins c ds) x ∧ PySem.W.InstAt s.heap p (PySem.W.instObj (cad nm X.K c) dx) (cad nm X.K c) od := by
  have r := h.rep m rfl
  cases r with
  | @ins p dx _ _ vs e1 e2 r =>
    obtain ⟨mA, O, _⟩ := ins_get I.hok (m.imm _ _ e1)
    obtain ⟨od, J, _⟩ := O.look
    exact ⟨p, dx, some od, rfl, .ins e1 e2 r, J⟩
theorem ep_back {pins : List (Addr × Obj)} {σ : L2.St} {Q : VK} {u : Value} {s' : Shared} (h : EP X pins σ Q u s') : PySem.W.CmpBack (EP X pins σ Q) u s' := by
  cases u <;> first | exact h | skip
  obtain ⟨v, H', I, r, q⟩ := h
  cases v <;> first | (cases r; done) | (obtain ⟨_, z⟩ := r; cases z)
structure OwnI (S : Src) (K : PySem.W.Frag) (nm : Nm) (c f : Nat) (name : Str) : Prop where
  hs : PySem.W.findIn K (.ref (cad nm K c)) name = some (some (.ref (fad nm K f)))
  hf : PySem.W.isFn K (.ref (fad nm K f)) = true
theorem own_of {K : PySem.W.Frag} {me : Option (Addr × Addr)} {c f : Nat} {name : Str} (h : ownB S K c f name = true) : OwnI S K (nmE S me) c f name := by
  obtain ⟨h1, h2⟩ := He.ba h
  exact ⟨He.eqO_ok h1, h2⟩
theorem fnB_of {Y : Core} {f n : Nat} (F : Facts S Y nm cf k) (h : fnB S f n = true) : FnI Y S.T nm cf k f n := by
  unfold fnB at h
  cases e : S.fnAt f with
  | none => rw [e] at h; cases h
  | some G =>
    rw [e] at h
    obtain ⟨h1, h⟩ := He.ba h
    obtain ⟨h2, h3⟩ := He.ba h
    obtain ⟨h3, h4⟩ := He.ba h3
    rw [← of_decide_eq_true h3]
    exact F.fn f G e (by simpa using h1) (by simpa using h2) (of_decide_eq_true h4)
theorem look2_mem {α : Type} [DecidableEq α] {c : Nat} {o : α} {f : Nat} : ∀ {l : List (Nat × α × Nat)}, look2 c o l = some f → (c, o, f) ∈ l
  | [], h => by cases h
  | (k, p, j) :: r, h => by
    have h' : (if k = c ∧ p = o then some j else look2 c o r) = some f := h
    by_cases e : k = c ∧ p = o
    · rw [if_pos e] at h'
      cases h'
      rw [e.1, e.2]
      exact List.mem_cons_self
    · rw [if_neg e] at h'
      exact List.mem_cons_of_mem _ (look2_mem h')
theorem noneOrRef_of {o : Option (Option Value)} (h : noneOrRef o = true) : ∃ rc, o = some rc ∧ (rc = none ∨ ∃ g : Addr, rc = some (.ref g)) := by
  unfold noneOrRef at h
  split at h
  · exact ⟨none, rfl, .inl rfl⟩
  · rename_i a
    exact ⟨_, rfl, .inr ⟨a, rfl⟩⟩
  · cases h
theorem int_decl {i : Int} {t : Tok} {op : BO} (h : op = .add ∨ op = .sub ∨ op = .mul ∨ op = .fdv ∨ op = .mod) (C dx x : Addr) : PySem.W.Decl (.int i t) "int" (PySem.dunder (opOf op).info.2) C dx x ∧ fillsNumberSlot (.type "int") (opOf op).info.2 = pure true := by
  rcases h with rfl | rfl | rfl | rfl | rfl
  · exact ⟨⟨_, F.slot_int_add, fun prog w A E s Q hx hq => call_meets F.slot_int_add (typeIs_int s i t) F.entry_int_add (F.args_int_add_2 _ _) (GQ3.int_add_ref i t x C dx) ⟨hx, hq⟩⟩, F.fills_int_add⟩
  · exact ⟨⟨_, F.slot_int_sub, fun prog w A E s Q hx hq => call_meets F.slot_int_sub (typeIs_int s i t) F.entry_int_sub (F.args_int_sub_2 _ _) (GQ3.int_sub_ref i t x C dx) ⟨hx, hq⟩⟩, F.fills_int_sub⟩
  · exact ⟨⟨_, F.slot_int_mul, fun prog w A E s Q hx hq => call_meets F.slot_int_mul (typeIs_int s i t) F.entry_int_mul (F.args_int_mul_2 _ _) (GQ3.int_mul_ref i t x C dx) ⟨hx, hq⟩⟩, F.fills_int_mul⟩
  · exact ⟨⟨_, F.slot_int_floordiv, fun prog w A E s Q hx hq => call_meets F.slot_int_floordiv (typeIs_int s i t) F.entry_int_floordiv (F.args_int_floordiv_2 _ _) (GQ3.int_floordiv_ref i t x C dx) ⟨hx, hq⟩⟩, F.fills_int_floordiv⟩
  · exact ⟨⟨_, F.slot_int_mod, fun prog w A E s Q hx hq => call_meets F.slot_int_mod (typeIs_int s i t) F.entry_int_mod (F.args_int_mod_2 _ _) (GQ3.int_mod_ref i t x C dx) ⟨hx, hq⟩⟩, F.fills_int_mod⟩
theorem int_declC {i : Int} {t : Tok} {op : CO} (h : isRel op = true) (C dx x : Addr) : PySem.W.Decl (.int i t) "int" (cmpInfo (copOf op)).2.1 C dx x := by
  cases op <;> first | (cases h; done) | skip
  · exact ⟨_, F.slot_int_eq, fun prog w A E s Q hx hq => call_meets F.slot_int_eq (typeIs_int s i t) F.entry_int_eq (F.args_int_eq_2 _ _) (GQ3.int_eq_ref i t x C dx) ⟨hx, hq⟩⟩
  · exact ⟨_, F.slot_int_ne, fun prog w A E s Q hx hq => call_meets F.slot_int_ne (typeIs_int s i t) F.entry_int_ne (F.args_int_ne_2 _ _) (GQ3.int_ne_ref i t x C dx) ⟨hx, hq⟩⟩
  · exact ⟨_, F.slot_int_lt, fun prog w A E s Q hx hq => call_meets F.slot_int_lt (typeIs_int s i t) F.entry_int_lt (F.args_int_lt_2 _ _) (GQ3.int_lt_ref i t x C dx) ⟨hx, hq⟩⟩
  · exact ⟨_, F.slot_int_le, fun prog w A E s Q hx hq => call_meets F.slot_int_le (typeIs_int s i t) F.entry_int_le (F.args_int_le_2 _ _) (GQ3.int_le_ref i t x C dx) ⟨hx, hq⟩⟩
  · exact ⟨_, F.slot_int_gt, fun prog w A E s Q hx hq => call_meets F.slot_int_gt (typeIs_int s i t) F.entry_int_gt (F.args_int_gt_2 _ _) (GQ3.int_gt_ref i t x C dx) ⟨hx, hq⟩⟩
  · exact ⟨_, F.slot_int_ge, fun prog w A E s Q hx hq => call_meets F.slot_int_ge (typeIs_int s i t) F.entry_int_ge (F.args_int_ge_2 _ _) (GQ3.int_ge_ref i t x C dx) ⟨hx, hq⟩⟩
structure LeftI (u : Value) (T : String) : Prop where
  ty : typeOf u = pure (.type T)
  ti : ∀ s : Shared, s.TypeIs u T
  one : ∀ op (x : Addr), oneThing? op u (.ref x) = none
theorem left_decl {op : CO} {d : D} {v : V} {u : Value} (h : mayL op d = true) (ho : isRel op = true) {g : Gh} {ρ : Rho} {σ : L2.St} {H : Hp} {st : Sto} (l : LkR T nm X.K g ρ σ d v) (m : Mt T nm X.K g ρ st σ H) (r : RelV v u) (C dx x : Addr) :
    ∃ T, T ∈ (["int", "NoneType", "str", "bool"] : List String) ∧ LeftI u T ∧ PySem.W.Decl u T (cmpInfo (copOf op)).2.1 C dx x := by
  cases d with
  | int i =>
    rw [l.int m] at r
    obtain ⟨t, rfl⟩ := r
    exact ⟨"int", by simp, ⟨rfl, fun s => typeIs_int s i t, fun op x => by cases op <;> rfl⟩, int_declC ho C dx x⟩
  | non =>
    rw [l.non m] at r
    cases r
    refine ⟨"NoneType", by simp, ⟨rfl, fun s => rfl, fun op x => by cases op <;> rfl⟩, ?_⟩
    cases op <;> first | (cases h; done) | skip
    · exact ⟨_, F.slot_NoneType_eq, fun prog w A E s Q hx hq => call_meets F.slot_NoneType_eq rfl F.entry_NoneType_eq (F.args_NoneType_eq_2 _ _) (GQ3.none_eq_ref x C dx) ⟨hx, hq⟩⟩
    · exact ⟨_, F.slot_NoneType_ne, fun prog w A E s Q hx hq => call_meets F.slot_NoneType_ne rfl F.entry_NoneType_ne (F.args_NoneType_ne_2 _ _) (GQ3.none_ne_ref x C dx) ⟨hx, hq⟩⟩
  | str z =>
    rw [l.str m] at r
    obtain ⟨t, rfl⟩ := r
    refine ⟨"str", by simp, ⟨rfl, fun s => typeIs_str s _ t, fun op x => by cases op <;> rfl⟩, ?_⟩
    cases op <;> first | (cases h; done) | skip
    · exact ⟨_, F.slot_str_eq, fun prog w A E s Q hx hq => call_meets F.slot_str_eq (typeIs_str s _ t) F.entry_str_eq (F.args_str_eq_2 _ _) (GQ3.str_eq_ref _ t x C dx) ⟨hx, hq⟩⟩
    · exact ⟨_, F.slot_str_ne, fun prog w A E s Q hx hq => call_meets F.slot_str_ne (typeIs_str s _ t) F.entry_str_ne (F.args_str_ne_2 _ _) (GQ3.str_ne_ref _ t x C dx) ⟨hx, hq⟩⟩
  | bl z =>
    rw [l.bl m] at r
    cases r
    refine ⟨"bool", by simp, ⟨rfl, fun s => rfl, fun op x => by cases op <;> rfl⟩, ?_⟩
    cases op <;> first | (cases h; done) | skip
    · exact ⟨_, F.slot_bool_eq, fun prog w A E s Q hx hq => call_meets F.slot_bool_eq rfl F.entry_int_eq (F.args_int_eq_2 _ _) (GQ3.bool_eq_ref z x C dx) ⟨hx, hq⟩⟩
    · exact ⟨_, F.slot_bool_ne, fun prog w A E s Q hx hq => call_meets F.slot_bool_ne rfl F.entry_int_ne (F.args_int_ne_2 _ _) (GQ3.bool_ne_ref z x C dx) ⟨hx, hq⟩⟩
  | _ => cases h
theorem insOps_of {me : Option (Addr × Addr)} (hnm : nm = nmE S me) (F : Facts S (co X) nm cf k) (hr : Room k X.A) (tk : Takes X W) : InsOps X S.T nm W cf := by
  subst hnm
  intro op pins s σ H g0 g ρ st d e x y u w Q hd I m ld le rx ry l0 o
  have hops := F.ops
  unfold opsB at hops
  have hu : X.A.units < cLine := by have := hr.un; omega
  have kin := I.ok.mod.kin
  obtain ⟨mm, hF⟩ := I.fr
  rcases hd with ⟨c, ds, rfl⟩ | ⟨i, c, ds, rfl, rfl⟩
  · obtain ⟨p, dx, od, ex, rr, J⟩ := ins_at ld m I
    subst ex
    cases rx
    have main : ∀ f e, S.T.bop c op = some f → (∃ i, e = .int i) ∨ (∃ es, e = .ins c es) → LkR S.T (nmE S me) X.K g ρ σ e y →
        Out S.T (nmE S me) X.K W g0 ρ σ (fun d _ g' H' => ∀ v, RepR S.T (nmE S me) X.K g0 g' d v → Q v H') (cf f [.ins c ds, e] st) → wpAny (model X.prog X.w) X.A (binaryOp (opOf op) (.ref p) w) (EP X pins σ Q) X.xe s := fun f e hb he le o => by
      have hb' : look2 c op S.bop = some f := hb
      have hq := List.all_eq_true.mp (He.ba hops).1 _ (look2_mem hb')
      obtain ⟨_, hq⟩ := He.ba hq
      obtain ⟨q1, hq⟩ := He.ba hq
      obtain ⟨q2, hq⟩ := He.ba hq
      obtain ⟨q3, hq⟩ := He.ba hq
      obtain ⟨q4, hq⟩ := He.ba hq
      obtain ⟨q5, hq⟩ := He.ba hq
      obtain ⟨q6, q7⟩ := He.ba hq
      have own := own_of (me := me) q2
      obtain ⟨rc, r1, r2⟩ := noneOrRef_of q4
      have re : Rep S.T (nmE S me) X.K g e y := le.rep m (by rcases he with ⟨_, rfl⟩ | ⟨_, rfl⟩ <;> rfl)
      have cal := run_callA (A := X.A) (Q := Q) rfl (fnB_of F q1) hr tk I (.cons (show RelV (V.ref p) (.ref p) from rfl) (.cons ry .nil)) rfl m (.cons rr (.cons re .nil)) l0 o
      have back := wpAny_mono cal (fun u s' z => ep_back z) fun _ _ z => z
      rcases he with ⟨i, rfl⟩ | ⟨es, rfl⟩
      · rw [le.int m] at ry
        obtain ⟨t, rfl⟩ := ry
        obtain ⟨fo, h1⟩ := Option.isSome_iff_exists.mp q5
        obtain ⟨ro, h2⟩ := Option.isSome_iff_exists.mp q6
        exact PySem.W.ksp_binT hF kin J rfl q3 own.hs own.hf r1 r2 h1 h2 (of_decide_eq_true q7) back
      · obtain ⟨p2, dx2, od2, ey, _, J2⟩ := ins_at le m I
        subst ey
        cases ry
        exact PySem.W.binop_K hF kin J J2.type q3 own.hs own.hf back
    cases e with
    | int j =>
      cases hb : S.T.bop c op with
      | none => simp only [binE, hb] at o; exact o.elim
      | some f =>
        simp only [binE, hb] at o
        exact main f _ hb (.inl ⟨j, rfl⟩) le o
    | ins c' es =>
      by_cases hc : c = c'
      · subst hc
        cases hb : S.T.bop c op with
        | none => simp only [binE, hb, if_true] at o; exact o.elim
        | some f =>
          simp only [binE, hb, if_true] at o
          exact main f _ hb (.inr ⟨es, rfl⟩) le o
      · simp only [binE, if_neg hc] at o
        exact o.elim
    | _ =>
      have z : ∀ e, (∀ i, e ≠ .int i) → (∀ k es, e ≠ .ins k es) → binE S.T cf op (.ins c ds) e st = .no := fun e h1 h2 => by
        cases e <;> first | exact absurd rfl (h1 _) | exact absurd rfl (h2 _ _) | (cases op <;> rfl)
      rw [z _ (by intro i q; cases q) (by intro i es q; cases q)] at o
      exact o.elim
  · obtain ⟨p, dx, od, ey, rr, J⟩ := ins_at le m I
    subst ey
    cases ry
    rw [ld.int m] at rx
    obtain ⟨t, rfl⟩ := rx
    cases hb : S.T.rop c op with
    | none => simp only [binE, hb] at o; exact o.elim
    | some f =>
      simp only [binE, hb] at o
      have hb' : look2 c op S.rop = some f := hb
      have hq := List.all_eq_true.mp (He.ba (He.ba hops).2).1 _ (look2_mem hb')
      obtain ⟨_, hq⟩ := He.ba hq
      obtain ⟨q1, hq⟩ := He.ba hq
      obtain ⟨q2, hq⟩ := He.ba hq
      obtain ⟨q3, hq⟩ := He.ba hq
      obtain ⟨q4, hq⟩ := He.ba hq
      obtain ⟨q5, q6⟩ := He.ba hq
      have own := own_of (me := me) q2
      have hfl : ∃ fl : Addr, PySem.W.findIn X.K (.ref (cad (nmE S me) X.K c)) (PySem.dunder (opOf op).info.2) = some (some (.ref fl)) := by
        dsimp only at q4
        split at q4
        · rename_i a e
          exact ⟨a, e⟩
        · cases q4
      obtain ⟨fl, hfl⟩ := hfl
      have q6' : op = .add ∨ op = .sub ∨ op = .mul ∨ op = .fdv ∨ op = .mod := by
        cases op <;> first | (exact .inl rfl) | (exact .inr (.inl rfl)) | (exact .inr (.inr (.inl rfl))) | (exact .inr (.inr (.inr (.inl rfl)))) | (exact .inr (.inr (.inr (.inr rfl)))) | (cases (show false = true from q6))
      obtain ⟨D, hfills⟩ := int_decl (i := i) (t := t) q6' (cad (nmE S me) X.K c) dx p
      have cal := run_callA (A := X.A) (Q := Q) rfl (fnB_of F q1) hr tk I (.cons (show RelV (V.ref p) (.ref p) from rfl) (.cons (show RelV (V.int i) (.int i t) from ⟨t, rfl⟩) .nil)) rfl m (.cons rr (.cons (.int i) .nil)) l0 o
      exact PySem.W.bin_right I.kIn J rfl (typeIs_int s i t) q3 hfills hfl own.hs own.hf (of_decide_eq_true q5) D (wpAny_mono cal (fun u s' z => ep_back z) fun _ _ z => z)
structure CopI (S : Src) (K : PySem.W.Frag) (nm : Nm) (Y : Core) (cf : Nat → List D → Sto → R D) (k c : Nat) (o : CO) (f : Nat) : Prop where
  fn : FnI Y S.T nm cf k f 2
  own : OwnI S K nm c f (cmpInfo (copOf o)).2.1
  op : o = .eq ∨ o = .lt ∨ o = .le ∨ o = .gt ∨ o = .ge
  nf : ∀ T ∈ (["int", "NoneType", "str", "bool", "tuple", "list"] : List String), PySem.W.notFirst K (cad nm K c) (.type T) = true
  nc : ∀ c' C, S.clAt c' = some C → C.exc = false → PySem.W.notFirst K (cad nm K c) (.ref (cad nm K c')) = true
  ns : ∀ T ∈ (["int", "NoneType", "str", "bool"] : List String), PySem.W.subIn K (.ref (cad nm K c)) (.type T) = some false
  ne : PySem.W.findIn K (.ref (cad nm K c)) "__ne__" = some (some (.builtin "object.__ne__"))
  ob : PySem.W.subIn K (.ref (cad nm K c)) (.type "object") = some true
theorem cop_of {me : Option (Addr × Addr)} {Y : Core} (F : Facts S Y (nmE S me) cf k) {c f : Nat} {o : CO} (h : S.T.cop c o = some f) : CopI S Y.K (nmE S me) Y cf k c o f := by
  have hops := F.ops
  unfold opsB at hops
  have h' : look2 c o S.cop = some f := h
  have hq := List.all_eq_true.mp (He.ba (He.ba (He.ba hops).2).2).1 _ (look2_mem h')
  obtain ⟨_, hq⟩ := He.ba hq
  obtain ⟨q1, hq⟩ := He.ba hq
  obtain ⟨q2, hq⟩ := He.ba hq
  obtain ⟨q3, hq⟩ := He.ba hq
  obtain ⟨q4, hq⟩ := He.ba hq
  obtain ⟨q5, hq⟩ := He.ba hq
  obtain ⟨q6, hq⟩ := He.ba hq
  obtain ⟨q7, q8⟩ := He.ba hq
  refine ⟨fnB_of F q1, own_of q2, ?_, fun T hT => List.all_eq_true.mp q4 T hT, fun c' C hC hx => ?_, fun T hT => of_decide_eq_true (List.all_eq_true.mp q6 T hT), He.eqO_ok q7, of_decide_eq_true q8⟩
  · cases o <;> first | (exact .inl rfl) | (exact .inr (.inl rfl)) | (exact .inr (.inr (.inl rfl))) | (exact .inr (.inr (.inr (.inl rfl)))) | (exact .inr (.inr (.inr (.inr rfl)))) | (cases (show false = true from q3))
  · have z := List.all_eq_true.mp q5 _ (nameOf_mem hC)
    dsimp only at z
    rw [hx] at z
    exact z
theorem right_type {d : D} {v : V} {u : Value} (h : mayR T d = true) {g : Gh} {ρ : Rho} {σ : L2.St} {H : Hp} {st : Sto} {pins : List (Addr × Obj)} {s : Shared} (l : LkR T nm X.K g ρ σ d v) (m : Mt T nm X.K g ρ st σ H) (I : Inv X pins σ H s) (r : RelV v u) :
    Rep T nm X.K g d v ∧ ((∃ t, t ∈ (["int", "NoneType", "str", "bool", "tuple", "list"] : List String) ∧ PySem.W.Looks (model X.prog X.w) s.heap (typeOf u) (.type t)) ∨ ∃ c ds, d = .ins c ds ∧ (∃ C, clsI T c = some C) ∧ PySem.W.Looks (model X.prog X.w) s.heap (typeOf u) (.ref (cad nm X.K c))) := by
  cases d with
  | non => rw [l.non m] at r ⊢; cases r; exact ⟨.non, .inl ⟨"NoneType", by simp, PySem.W.Looks.of_pure rfl⟩⟩
  | bl b => rw [l.bl m] at r ⊢; cases r; exact ⟨.bl b, .inl ⟨"bool", by simp, PySem.W.Looks.of_pure rfl⟩⟩
  | int i => rw [l.int m] at r ⊢; obtain ⟨t, rfl⟩ := r; exact ⟨.int i, .inl ⟨"int", by simp, PySem.W.Looks.of_pure rfl⟩⟩
  | str z => rw [l.str m] at r ⊢; obtain ⟨t, rfl⟩ := r; exact ⟨.str z, .inl ⟨"str", by simp, PySem.W.Looks.of_pure rfl⟩⟩
  | tup ds =>
    have rr := l.rep m rfl
    refine ⟨rr, .inl ⟨"tuple", by simp, ?_⟩⟩
    cases rr with
    | tup sq _ =>
      cases r
      obtain ⟨its, rv, ⟨o, ho, hc, _⟩, hz⟩ := I.tuple (same_seqT (fun a o e => m.imm a o (of_imH e)) sq)
      have z : PySem.W.Looks (model X.prog X.w) s.heap (typeOf (.ref _)) o.cls := (PySem.W.Looks.ld ho).andThen .now
      rw [hc] at z
      exact z
  | lst ds =>
    have rr := l.rep m rfl
    refine ⟨rr, .inl ⟨"list", by simp, ?_⟩⟩
    cases rr with
    | lst sq _ =>
      cases r
      obtain ⟨_, its, n, _, ho⟩ := (show ObjOk X.prog X.w H s.heap _ (.lst _) from I.hok _ _ (m.imm _ _ sq))
      exact (PySem.W.Looks.ld ho).andThen .now
  | ins c ds =>
    have rr := l.rep m rfl
    refine ⟨rr, .inr ⟨c, ds, rfl, Option.isSome_iff_exists.mp h, ?_⟩⟩
    obtain ⟨p, dx, od, ev, _, J⟩ := ins_at l m I
    subst ev
    cases r
    exact J.type
  | _ => cases h
theorem out_bl {cfr : R D} {o : CO} {g0 g : Gh} {ρ : Rho} {σ : L2.St} {Q : Bool → Hp → Prop} (h : Out T nm X.K W g0 ρ σ (fun b _ _ H' => Q b H') ((asBl cfr).bind fun k st => .ok (if o = .ne then !k else k) st)) :
    Out T nm X.K W g0 ρ σ (fun d _ g' H' => ∀ v, RepR T nm X.K g0 g' d v → (∃ b, v = .bl b ∧ Q (if o = .ne then !b else b) H')) cfr := by
  cases cfr with
  | ok d st =>
    cases d with
    | bl b =>
      refine fun g' H' l m v r => ?_
      cases r
      exact ⟨b, rfl, h g' H' l m⟩
    | _ => exact h.elim
  | er x st => exact h
  | no => exact h
theorem ep_bl {pins : List (Addr × Obj)} {σ : L2.St} {P : Bool → Hp → Prop} {u : Value} {s' : Shared} (h : EP X pins σ (fun v H' => ∃ b, v = .bl b ∧ P b H') u s') : ∃ b, u = .bool b ∧ ∃ H', Inv X pins σ H' s' ∧ P b H' := by
  obtain ⟨v, H', I, r, b, rfl, q⟩ := h
  cases r
  exact ⟨b, rfl, H', I, q⟩
theorem cop_opC {o : CO} (h : isRel o = true) : (o = .ne ∧ (if isEq o then CO.eq else o) = .eq) ∨ (o ≠ .ne ∧ (if isEq o then CO.eq else o) = o) := by
  cases o <;> first | (cases h; done) | (exact .inl ⟨rfl, rfl⟩) | (exact .inr ⟨(by intro z; cases z), rfl⟩)
theorem ins_left {me : Option (Addr × Addr)} (hnm : nm = nmE S me) {A : Around} (hA : A.frames = X.A.frames) (F : Facts S (co X) nm cf k) (hr : Room (k + 1) A) (tk : Takes X W) {op : CO} {pins : List (Addr × Obj)} {s : Shared} {σ : L2.St} {H : Hp} {g0 g : Gh} {ρ : Rho} {st : Sto} {c : Nat} {ds : List D} {e : D} {x y : V} {u w : Value} {Q : Bool → Hp → Prop} (ho : isRel op = true)
    (I : Inv X pins σ H s) (m : Mt S.T nm X.K g ρ st σ H) (ld : LkR S.T nm X.K g ρ σ (.ins c ds) x) (le : LkR S.T nm X.K g ρ σ e y) (hm : mayR S.T e = true) (rx : RelV x u) (ry : RelV y w) (l0 : Le g0 g) (o : Out S.T nm X.K W g0 ρ σ (fun b _ _ H' => Q b H') (insC S.T cf op c ds e st)) :
    wpAny (model X.prog X.w) A (richCompare (copOf op) u w) (fun v s' => ∃ b, v = .bool b ∧ ∃ H', Inv X pins σ H' s' ∧ Q b H') X.xe s := by
  subst hnm
  have hu : A.units + 1 < cLine := by have := hr.un; omega
  obtain ⟨p, dx, od, ex, rr, J⟩ := ins_at ld m I
  subst ex
  cases rx
  obtain ⟨re, hty⟩ := right_type hm le m I ry
  obtain ⟨mm, hF⟩ := I.fr
  unfold insC at o
  cases hc : S.T.cop c (if isEq op then .eq else op) with
  | none => rw [hc] at o; exact o.elim
  | some f =>
    rw [hc] at o
    have C := cop_of F hc
    have cal : ∀ A' : Around, A'.frames = X.A.frames → Room k A' → wpAny (model X.prog X.w) A' (call (.ref (fad (nmE S me) X.K f)) [.ref p, w]) (fun v s' => ∃ b, v = .bool b ∧ ∃ H', Inv X pins σ H' s' ∧ Q (if op = .ne then !b else b) H') X.xe s := fun A' hA' hr' =>
      wpAny_mono (run_callA hA' C.fn hr' tk I (.cons (show RelV (V.ref p) (.ref p) from rfl) (.cons ry .nil)) rfl m (.cons rr (.cons re .nil)) l0 (out_bl (g := g) o)) (fun v s' z => ep_bl z) fun _ _ z => z
    rcases cop_opC ho with ⟨rfl, e2⟩ | ⟨n2, e2⟩
    · have own := C.own
      rw [e2] at own
      have tr : ∀ Q' : Option Value → Shared → Prop, (∀ b s', (∃ H', Inv X pins σ H' s' ∧ Q b H') → Q' (some (.bool b)) s') → wpAny (model X.prog X.w) A (tryCompare (.ref p) "__ne__" w) Q' X.xe s := fun Q' hq' =>
        PySem.W.ne_try hu I.kIn J C.ne C.ob own.hs own.hf (wpAny_mono (cal A.in1 hA hr.in1) (fun v s' z => by
          obtain ⟨b, rfl, z⟩ := z
          exact ⟨b, rfl, hq' _ _ z⟩) fun _ _ z => z)
      have notF : ∀ tb, PySem.W.Looks (model X.prog X.w) s.heap (typeOf w) tb → PySem.W.notFirst X.K (cad (nmE S me) X.K c) tb = true → wpAny (model X.prog X.w) A (richCompare (copOf .ne) (.ref p) w) (fun v s' => ∃ b, v = .bool b ∧ ∃ H', Inv X pins σ H' s' ∧ Q b H') X.xe s := fun tb hb hn => by
        unfold richCompare
        simp only [oneThing_ref]
        refine wpAny_holding (wpAny_bind (wpAny_cRoomFor (by omega) ?_))
        refine wpAny_bind (J.type.here (wpAny_bind (hb.here ?_)))
        split
        · rename_i q
          have e : PySem.W.subIn X.K tb (.ref (cad (nmE S me) X.K c)) = some false := by
            rcases Bool.or_eq_true_iff.mp hn with e | e
            · rw [beq_iff_eq.mp e] at q; simp at q
            · exact beq_iff_eq.mp e
          refine wpAny_bind ((PySem.W.looks_subIn I.kIn e).here ?_)
          simp only [Bool.false_eq_true, if_false]
          refine wpAny_bind (tr _ fun b s' z => ?_)
          exact wpAny_pure ⟨b, rfl, z⟩
        · refine wpAny_bind (wpAny_pure ?_)
          simp only [Bool.false_eq_true, if_false]
          refine wpAny_bind (tr _ fun b s' z => ?_)
          exact wpAny_pure ⟨b, rfl, z⟩
      rcases hty with ⟨t, ht, L⟩ | ⟨c', ds', rfl, ⟨C', hI⟩, L⟩
      · exact notF _ L (C.nf t ht)
      · obtain ⟨hC', hx'⟩ := clsI_some hI
        exact notF _ L (C.nc c' C' hC' hx')
    · have own := C.own
      rw [e2] at own
      have back : wpAny (model X.prog X.w) A (call (.ref (fad (nmE S me) X.K f)) [.ref p, w]) (PySem.W.CmpBack fun v s' => ∃ b, v = .bool b ∧ ∃ H', Inv X pins σ H' s' ∧ Q b H') X.xe s := wpAny_mono (cal A hA (hr.mono (Nat.le_succ _))) (fun v s' z => by
        obtain ⟨b, rfl, z⟩ := z
        rw [if_neg n2] at z
        exact ⟨b, rfl, z⟩) fun _ _ z => z
      rcases hty with ⟨t, ht, L⟩ | ⟨c', ds', rfl, ⟨C', hI⟩, L⟩
      · exact PySem.W.cmp_K (by omega) hF I.ok.mod.kin J L (C.nf t ht) own.hs own.hf back
      · obtain ⟨hC', hx'⟩ := clsI_some hI
        exact PySem.W.cmp_K (by omega) hF I.ok.mod.kin J L (C.nc c' C' hC' hx') own.hs own.hf back
theorem flip_info {op : CO} (h : isRel op = true) : (cmpInfo (copOf op)).2.2 = (cmpInfo (copOf (flipC op))).2.1 ∧ isRel (flipC op) = true ∧ (flipC op = .ne ↔ op = .ne) := by
  cases op <;> first | (cases h; done) | exact ⟨rfl, rfl, by constructor <;> (intro z; cases z; try rfl)⟩
theorem ins_right {me : Option (Addr × Addr)} (hnm : nm = nmE S me) {A : Around} (hA : A.frames = X.A.frames) (F : Facts S (co X) nm cf k) (hr : Room (k + 1) A) (tk : Takes X W) {op : CO} {pins : List (Addr × Obj)} {s : Shared} {σ : L2.St} {H : Hp} {g0 g : Gh} {ρ : Rho} {st : Sto} {c : Nat} {ds : List D} {e : D} {x y : V} {u w : Value} {Q : Bool → Hp → Prop} (ho : isRel op = true)
    (I : Inv X pins σ H s) (m : Mt S.T nm X.K g ρ st σ H) (le : LkR S.T nm X.K g ρ σ e x) (ld : LkR S.T nm X.K g ρ σ (.ins c ds) y) (hm : mayL op e = true) (rx : RelV x u) (ry : RelV y w) (l0 : Le g0 g) (o : Out S.T nm X.K W g0 ρ σ (fun b _ _ H' => Q b H') (insC S.T cf (flipC op) c ds e st)) :
    wpAny (model X.prog X.w) A (richCompare (copOf op) u w) (fun v s' => ∃ b, v = .bool b ∧ ∃ H', Inv X pins σ H' s' ∧ Q b H') X.xe s := by
  subst hnm
  have hu : A.units + 1 < cLine := by have := hr.un; omega
  obtain ⟨p, dx, od, ex, rr, J⟩ := ins_at ld m I
  subst ex
  cases ry
  obtain ⟨T, hT, L, D⟩ := left_decl hm ho le m rx (cad (nmE S me) X.K c) dx p
  have re : Rep S.T (nmE S me) X.K g e x := le.rep m (by cases e <;> first | rfl | cases hm)
  unfold insC at o
  cases hc : S.T.cop c (if isEq (flipC op) then .eq else flipC op) with
  | none => rw [hc] at o; exact o.elim
  | some f =>
    rw [hc] at o
    have C := cop_of F hc
    obtain ⟨fi1, fi2, fi3⟩ := flip_info ho
    have cal : ∀ A' : Around, A'.frames = X.A.frames → Room k A' → wpAny (model X.prog X.w) A' (call (.ref (fad (nmE S me) X.K f)) [.ref p, u]) (fun v s' => ∃ b, v = .bool b ∧ ∃ H', Inv X pins σ H' s' ∧ Q (if flipC op = .ne then !b else b) H') X.xe s := fun A' hA' hr' =>
      wpAny_mono (run_callA hA' C.fn hr' tk I (.cons (show RelV (V.ref p) (.ref p) from rfl) (.cons rx .nil)) rfl m (.cons rr (.cons re .nil)) l0 (out_bl (g := g) o)) (fun v s' z => ep_bl z) fun _ _ z => z
    refine PySem.W.cmp_right (by omega) (L.one _ _) I.kIn J L.ty (L.ti s) (C.ns T hT) D fun Q' hq' => ?_
    rw [fi1]
    rcases cop_opC fi2 with ⟨e1, e2⟩ | ⟨n2, e2⟩
    · have own := C.own
      rw [e2] at own
      rw [e1]
      exact PySem.W.ne_try hu I.kIn J C.ne C.ob own.hs own.hf (wpAny_mono (cal A.in1 hA hr.in1) (fun v s' z => by
        obtain ⟨b, rfl, z⟩ := z
        rw [if_pos e1] at z
        exact ⟨b, rfl, hq' _ _ (fun z => nomatch z) ⟨_, rfl, z⟩⟩) fun _ _ z => z)
    · have own := C.own
      rw [e2] at own
      exact PySem.W.cmp_try I.kIn J own.hs own.hf (wpAny_mono (cal A hA (hr.mono (Nat.le_succ _))) (fun v s' z => by
        obtain ⟨b, rfl, z⟩ := z
        rw [if_neg n2] at z
        exact hq' _ _ (fun z => nomatch z) ⟨_, rfl, z⟩) fun _ _ z => z)
theorem ins_cmp {me : Option (Addr × Addr)} (hnm : nm = nmE S me) {A : Around} (hA : A.frames = X.A.frames) (F : Facts S (co X) nm cf k) (hr : Room (k + 1) A) (tk : Takes X W) {op : CO} {pins : List (Addr × Obj)} {s : Shared} {σ : L2.St} {H : Hp} {g0 g : Gh} {ρ : Rho} {st : Sto} {d e : D} {x y : V} {u w : Value} {Q : Bool → Hp → Prop} (ho : isRel op = true)
    (I : Inv X pins σ H s) (m : Mt S.T nm X.K g ρ st σ H) (ld : LkR S.T nm X.K g ρ σ d x) (le : LkR S.T nm X.K g ρ σ e y) (rx : RelV x u) (ry : RelV y w) (l0 : Le g0 g) (o : Out S.T nm X.K W g0 ρ σ (fun b _ _ H' => Q b H') (cmpI S.T cf op d e st)) :
    wpAny (model X.prog X.w) A (richCompare (copOf op) u w) (fun v s' => ∃ b, v = .bool b ∧ ∃ H', Inv X pins σ H' s' ∧ Q b H') X.xe s := by
  by_cases hd : ∃ c ds, d = .ins c ds
  · obtain ⟨c, ds, rfl⟩ := hd
    have o' : Out S.T nm X.K W g0 ρ σ (fun b _ _ H' => Q b H') (if mayR S.T e then insC S.T cf op c ds e st else .no) := o
    by_cases hm : mayR S.T e = true
    · rw [if_pos hm] at o'
      exact ins_left hnm hA F hr tk ho I m ld le hm rx ry l0 o'
    · rw [if_neg hm] at o'
      exact o'.elim
  · by_cases he : ∃ c ds, e = .ins c ds
    · obtain ⟨c, ds, rfl⟩ := he
      have o' : Out S.T nm X.K W g0 ρ σ (fun b _ _ H' => Q b H') (if mayL op d then insC S.T cf (flipC op) c ds d st else .no) := by
        cases d <;> first | exact o | exact absurd ⟨_, _, rfl⟩ hd
      by_cases hm : mayL op d = true
      · rw [if_pos hm] at o'
        exact ins_right hnm hA F hr tk ho I m ld le hm rx ry l0 o'
      · rw [if_neg hm] at o'
        exact o'.elim
    · have z : cmpI S.T cf op d e st = .no := by
        cases d <;> first | (exact absurd ⟨_, _, rfl⟩ hd) | (cases e <;> first | rfl | exact absurd ⟨_, _, rfl⟩ he)
      rw [z] at o
      exact o.elim
end
end Snd
set_option Elab.async false
set_option linter.all false
set_option maxRecDepth 100000
set_option maxHeartbeats 1000000
namespace Snd
open PySem PySem.Spec PyProof.Rows L2 Ev
section
variable {T : Tab} {nm : Nm} {K : PySem.W.Frag} {g : Gh}
def NoK (K : PySem.W.Frag) (g : Gh) : Prop := ∀ a o, K.lookup a = some o → g a = none
theorem relV_fun {v w : V} {u : Value} (h : RelV v u) (h' : RelV w u) : v = w := by
  cases v <;> cases w <;> first
    | rfl
    | (cases h; cases h'; done)
    | (cases h; cases h'; rfl)
    | (obtain ⟨t, rfl⟩ := h; obtain ⟨t', e⟩ := h'; cases e; rfl)
    | (obtain ⟨t, rfl⟩ := h; obtain ⟨t', e⟩ := h'; cases e; done)
    | (obtain ⟨t, rfl⟩ := h; cases h'; done)
    | (obtain ⟨t, rfl⟩ := h'; cases h; done)
theorem vals_fun : ∀ {us : List Value} {vs ws : List V}, Vals vs us → Vals ws us → vs = ws
  | [], _, _, h, h' => by cases h; cases h'; rfl
  | _ :: _, _, _, h, h' => by
    cases h with
    | cons a r => cases h' with
      | cons b t => rw [relV_fun a b, vals_fun r t]
theorem sqT_fun (hk : NoK K g) {p : Addr} {vs ws : List V} (h : SqT K (imH g) p vs) (h' : SqT K (imH g) p ws) : vs = ws := by
  rcases h with (h | ⟨o, h⟩) | ⟨o, its, n, l, c, d, z, r⟩
  · rcases h' with (h' | ⟨o', h'⟩) | ⟨o', its, n, l, _⟩
    · rw [h] at h'; cases h'; rfl
    · rw [h] at h'; cases h'
    · have e := of_imH h; rw [hk _ _ l] at e; cases e
  · rcases h' with (h' | ⟨o', h'⟩) | ⟨o', its, n, l, _⟩
    · rw [h] at h'; cases h'
    · rw [h] at h'; cases h'; rfl
    · have e := of_imH h; rw [hk _ _ l] at e; cases e
  · rcases h' with (h' | ⟨o', h'⟩) | ⟨o', its', n', l', c', d', z', r'⟩
    · have e := of_imH h'; rw [hk _ _ l] at e; cases e
    · have e := of_imH h'; rw [hk _ _ l] at e; cases e
    · rw [l] at l'; cases l'
      rw [d] at d'; cases d'
      exact vals_fun r r'
theorem sqT_not (hk : NoK K g) {p : Addr} {vs : List V} (h : SqT K (imH g) p vs) {t : Tag} (e : g p = some t) : t = .imm (.tup vs) ∨ ∃ o, t = .imm (.frz o (.tup vs)) := by
  rcases h with (h | ⟨o, h⟩) | ⟨o, its, n, l, _⟩
  · have e' := of_imH h; rw [e] at e'; cases e'; exact .inl rfl
  · have e' := of_imH h; rw [e] at e'; cases e'; exact .inr ⟨o, rfl⟩
  · rw [hk _ _ l] at e; cases e
mutual
theorem sim_of (hk : NoK K g) : ∀ {d d' : D} {v : V}, Rep T nm K g d v → Rep T nm K g d' v → simB d d' = true
  | _, _, _, .scr _, _ => by unfold simB; rfl
  | _, _, _, .non, .non => rfl
  | _, _, _, .bl _, .bl _ => by simp [simB]
  | _, _, _, .int _, .int _ => by simp [simB]
  | .str a, d', _, .str _, h => by
    generalize e : V.str (strOf a) = w at h
    cases h with
    | str b =>
      simp only [V.str.injEq, strOf_inj] at e
      simp [simB, e]
    | _ => cases e
  | .tup ds, d', .ref p, .tup s r, h => by
    cases h with
    | tup s' r' =>
      have e := sqT_fun hk s s'
      subst e
      simp only [simB]
      exact sims_of hk r r'
    | scr _ => simp [simB]
    | lst e r' =>
      rcases sqT_not hk s e with z | ⟨o, z⟩ <;> cases z
    | ins e l r' =>
      rcases sqT_not hk s e with z | ⟨o, z⟩ <;> cases z
    | ref e =>
      rcases sqT_not hk s e with z | ⟨o, z⟩ <;> cases z
  | .lst ds, d', .ref p, .lst e r, h => by
    cases h with
    | lst e' r' =>
      rw [e] at e'
      cases e'
      simp only [simB]
      exact sims_of hk r r'
    | scr _ => simp [simB]
    | tup s' r' =>
      rcases sqT_not hk s' e with z | ⟨o, z⟩ <;> cases z
    | ins e' l r' => rw [e] at e'; cases e'
    | ref e' => rw [e] at e'; cases e'
  | .ins c ds, d', .ref p, .ins e l r, h => by
    cases h with
    | @ins _ _ c' _ _ e' l' r' =>
      rw [e] at e'
      simp only [Option.some.injEq, Tag.imm.injEq, HO.ins.injEq] at e'
      simp only [simB]
      exact sims_zip hk e'.2.2 l l' r r'
    | scr _ => simp [simB]
    | tup s' r' =>
      rcases sqT_not hk s' e with z | ⟨o, z⟩ <;> cases z
    | lst e' r' => rw [e] at e'; cases e'
    | ref e' => rw [e] at e'; cases e'
  | .ref k, d', .ref p, .ref e, h => by
    cases h with
    | ref e' => rw [e] at e'; cases e'; simp [simB]
    | scr _ => simp [simB]
    | tup s' r' =>
      rcases sqT_not hk s' e with z | ⟨o, z⟩ <;> cases z
    | lst e' r' => rw [e] at e'; cases e'
    | ins e' l r' => rw [e] at e'; cases e'
theorem sims_of (hk : NoK K g) : ∀ {ds ds' : List D} {vs : List V}, Reps T nm K g ds vs → Reps T nm K g ds' vs → simsB ds ds' = true
  | _, _, _, .nil, .nil => rfl
  | _, _, _, .cons a r, .cons b t => by simp [simsB, sim_of hk a b, sims_of hk r t]
theorem sims_zip (hk : NoK K g) {ns ns' : List Str} {ds ds' : List D} {vs vs' : List V} (e : ns.zip vs = ns'.zip vs') (l : vs.length = ns.length) (l' : vs'.length = ns'.length) (r : Reps T nm K g ds vs) (r' : Reps T nm K g ds' vs') : simsB ds ds' = true := by
  have hl : ns.length = ns'.length := by
    have z := congrArg List.length e
    simp only [List.length_zip, l, l', Nat.min_self] at z
    exact z
  have e2 : vs = vs' := by
    have z := congrArg (List.map Prod.snd) e
    rwa [List.map_snd_zip (by omega), List.map_snd_zip (by omega)] at z
  subst e2
  exact sims_of hk r r'
end
end
section
variable {S : Src} {X : Cx} {W : WX} {nm : Nm} {cf : Nat → List D → Sto → R D} {k : Nat} {T : Tab}
theorem noK_of {g : Gh} {ρ : Rho} {σ : L2.St} {H : Hp} {st : Sto} {pins : List (Addr × Obj)} {s : Shared} (I : Inv X pins σ H s) (m : Mt T nm X.K g ρ st σ H) : NoK X.K g := fun a o e => by
  cases q : g a with
  | none => rfl
  | some t =>
    obtain ⟨u, hu⟩ := m.trk a t q
    have z := (I.bs a o (I.ok.mod.kin a o e)).2
    rw [hu] at z
    cases z
theorem eqAll_sim {f : D → D → Sto → R Bool} (hf : ∀ d d' st k st', simB d d' = true → f d d' st = .ok k st' → k = true ∧ st' = st) : ∀ (xs ys : List D) (st : Sto) (k : Bool) (st' : Sto), simsB xs ys = true → eqAll f xs ys st = .ok k st' → k = true ∧ st' = st
  | [], [], st, k, st', _, e => by cases e; exact ⟨rfl, rfl⟩
  | [], _ :: _, st, k, st', h, e => by simp [simsB] at h
  | _ :: _, [], st, k, st', h, e => by simp [simsB] at h
  | x :: xs, y :: ys, st, k, st', h, e => by
    simp only [simsB, Bool.and_eq_true] at h
    have e' : ((f x y st).bind fun k st => if k then eqAll f xs ys st else .ok false st) = .ok k st' := e
    cases q : f x y st with
    | ok k1 st1 =>
      rw [q] at e'
      obtain ⟨rfl, rfl⟩ := hf x y st k1 st1 h.1 q
      exact eqAll_sim hf xs ys _ k st' h.2 e'
    | er x st1 => rw [q] at e'; cases e'
    | no => rw [q] at e'; cases e'
theorem sims_len : ∀ {xs ys : List D}, simsB xs ys = true → xs.length = ys.length
  | [], [], _ => rfl
  | [], _ :: _, h => by simp [simsB] at h
  | _ :: _, [], h => by simp [simsB] at h
  | x :: xs, y :: ys, h => by
    simp only [simsB, Bool.and_eq_true] at h
    simp [sims_len h.2]
theorem eqRow_sim {f : D → D → Sto → R Bool} (hf : ∀ d d' st k st', simB d d' = true → f d d' st = .ok k st' → k = true ∧ st' = st) {kk : Bool} {xs ys : List D} {st st' : Sto} {k : Bool} (h : simsB xs ys = true) (e : eqRow f kk xs ys st = .ok k st') : k = true ∧ st' = st := by
  have hl := sims_len h
  unfold eqRow at e
  rw [if_neg (by simp [hl])] at e
  cases q : eqAll f xs ys st with
  | ok k1 st1 =>
    rw [q] at e
    obtain ⟨rfl, rfl⟩ := eqAll_sim hf xs ys st k1 st1 h q
    cases e
    simp [hl]
  | er x st1 => rw [q] at e; cases e
  | no => rw [q] at e; cases e
theorem cmpG_sim {d d' : D} {st st' : Sto} {k : Bool} (h : simB d d' = true) (e : cmpG T cf d d' st = .ok k st') : k = true ∧ st' = st := by
  unfold cmpG at e
  split at e
  · rename_i k1 st1 _
    split at e
    · rename_i z
      cases e
      simp only [Bool.and_eq_true, h, Bool.not_true, Bool.or_false] at z
      exact ⟨z.2, rfl⟩
    · cases e
  · cases e
theorem eqX_eq (n : Nat) (a b : D) (st : Sto) : eqX T cf n a b st = if isIns a || isIns b then cmpG T cf a b st else match rowOf a, rowOf b with
    | some (k, xs), some (l, ys) => if k = l then (match n with
      | 0 => .no
      | n + 1 => eqRow (eqX T cf n) k xs ys st) else .ok false st
    | some _, none => if flat b then .ok false st else .no
    | none, some _ => if flat a then .ok false st else .no
    | none, none => R.of (eqB a b) st := by
  cases n <;> (unfold eqX; rfl)
theorem eqB_sim {a b : D} {k : Bool} (h : simB a b = true) (e : eqB a b = some k) : k = true := by
  cases a <;> cases b <;> simp only [eqB, eqF] at e <;> first | (cases e; done) | skip
  all_goals (cases e; simp_all [simB])
theorem row_sim {a b : D} {k l : Bool} {xs ys : List D} (ha : rowOf a = some (k, xs)) (hb : rowOf b = some (l, ys)) (h : simB a b = true) : k = l ∧ simsB xs ys = true := by
  cases a <;> cases b <;> simp only [rowOf] at ha hb <;> first | (cases ha; done) | (cases hb; done) | skip
  all_goals (cases ha; cases hb; first | (simp [simB] at h; done) | (simp only [simB] at h; exact ⟨rfl, h⟩))
theorem eqX_sim : ∀ (n : Nat) (d d' : D) (st : Sto) (k : Bool) (st' : Sto), simB d d' = true → eqX T cf n d d' st = .ok k st' → k = true ∧ st' = st := by
  intro n
  induction n with
  | zero =>
    intro d d' st k st' h e
    rw [eqX_eq] at e
    split at e
    · exact cmpG_sim h e
    · split at e
      · rename_i kk xs l ys ha hb
        split at e
        · cases e
        · rename_i hn
          exact absurd (row_sim ha hb h).1 hn
      · rename_i ha hb
        split at e
        · rename_i hf
          exfalso
          cases d <;> simp only [rowOf] at ha <;> first | (cases ha; done) | skip
          all_goals (cases d' <;> first | (cases hf; done) | (simp [simB] at h; done))
        · cases e
      · rename_i ha hb
        split at e
        · rename_i hf
          exfalso
          cases d' <;> simp only [rowOf] at hb <;> first | (cases hb; done) | skip
          all_goals (cases d <;> first | (cases hf; done) | (simp [simB] at h; done))
        · cases e
      · cases q : eqB d d' with
        | none => rw [q] at e; cases e
        | some b => rw [q] at e; cases e; exact ⟨eqB_sim h q, rfl⟩
  | succ n ih =>
    intro d d' st k st' h e
    rw [eqX_eq] at e
    split at e
    · exact cmpG_sim h e
    · split at e
      · rename_i kk xs l ys ha hb
        split at e
        · exact eqRow_sim ih (row_sim ha hb h).2 e
        · rename_i hn
          exact absurd (row_sim ha hb h).1 hn
      · rename_i ha hb
        split at e
        · rename_i hf
          exfalso
          cases d <;> simp only [rowOf] at ha <;> first | (cases ha; done) | skip
          all_goals (cases d' <;> first | (cases hf; done) | (simp [simB] at h; done))
        · cases e
      · rename_i ha hb
        split at e
        · rename_i hf
          exfalso
          cases d' <;> simp only [rowOf] at hb <;> first | (cases hb; done) | skip
          all_goals (cases d <;> first | (cases hf; done) | (simp [simB] at h; done))
        · cases e
      · cases q : eqB d d' with
        | none => rw [q] at e; cases e
        | some b => rw [q] at e; cases e; exact ⟨eqB_sim h q, rfl⟩
theorem eqB_V {A : Around} {s : Shared} {g : Gh} {x y : D} {v w : V} {u u' : Value} {b : Bool} (h : eqB x y = some b) (rx : Rep T nm X.K g x v) (ry : Rep T nm X.K g y w) (ru : RelV v u) (rw_ : RelV w u') : SeqAt.EqAt A s u u' b := by
  have sb : ∀ a c : Str, (a == c) = decide (a = c) := fun a c => by
    by_cases e : a = c
    · subst e
      simp
    · simp [e]
  cases rx with
  | non =>
    obtain rfl : u = .none := ru
    cases ry with
    | non => cases h; obtain rfl : u' = .none := rw_; exact SeqAt.EqAt.same _
    | bl c => cases h; obtain rfl : u' = .bool c := rw_; exact SeqAt.EqAt.none_bool _
    | int c => cases h; obtain ⟨t, rfl⟩ := (show ∃ t, u' = .int c t from rw_); exact SeqAt.EqAt.none_int _ _
    | str c => cases h; obtain ⟨t, rfl⟩ := (show ∃ t, u' = .str (strOf c) t from rw_); exact SeqAt.EqAt.none_str _ _
    | _ => cases h
  | bl a =>
    obtain rfl : u = .bool a := ru
    cases ry with
    | non => cases h; obtain rfl : u' = .none := rw_; exact SeqAt.EqAt.bool_none _
    | bl c =>
      cases h; obtain rfl : u' = .bool c := rw_
      have z := SeqAt.EqAt.bool_bool (A := A) (s := s) a c
      rw [show (a == c) = decide (a = c) by cases a <;> cases c <;> rfl] at z
      exact z
    | int c =>
      cases h; obtain ⟨t, rfl⟩ := (show ∃ t, u' = .int c t from rw_)
      have z := SeqAt.EqAt.bool_int (A := A) (s := s) a c t
      rw [show ∀ i j : Int, (i == j) = decide (i = j) from fun i j => rfl] at z
      exact z
    | str c => cases h; obtain ⟨t, rfl⟩ := (show ∃ t, u' = .str (strOf c) t from rw_); exact SeqAt.EqAt.bool_str _ _ _
    | _ => cases h
  | int a =>
    obtain ⟨t0, rfl⟩ := (show ∃ t, u = .int a t from ru)
    cases ry with
    | non => cases h; obtain rfl : u' = .none := rw_; exact SeqAt.EqAt.int_none _ _
    | bl c =>
      cases h; obtain rfl : u' = .bool c := rw_
      have z := SeqAt.EqAt.int_bool (A := A) (s := s) a t0 c
      rw [show ∀ i j : Int, (i == j) = decide (i = j) from fun i j => rfl] at z
      exact z
    | int c =>
      cases h; obtain ⟨t, rfl⟩ := (show ∃ t, u' = .int c t from rw_)
      have z := SeqAt.EqAt.int_int (A := A) (s := s) a t0 c t
      rw [show ∀ i j : Int, (i == j) = decide (i = j) from fun i j => rfl] at z
      exact z
    | str c => cases h; obtain ⟨t, rfl⟩ := (show ∃ t, u' = .str (strOf c) t from rw_); exact SeqAt.EqAt.int_str _ _ _ _
    | _ => cases h
  | str a =>
    obtain ⟨t0, rfl⟩ := (show ∃ t, u = .str (strOf a) t from ru)
    cases ry with
    | non => cases h; obtain rfl : u' = .none := rw_; exact SeqAt.EqAt.str_none _ _
    | bl c => cases h; obtain rfl : u' = .bool c := rw_; exact SeqAt.EqAt.str_bool _ _ _
    | int c => cases h; obtain ⟨t, rfl⟩ := (show ∃ t, u' = .int c t from rw_); exact SeqAt.EqAt.str_int _ _ _ _
    | str c =>
      cases h; obtain ⟨t, rfl⟩ := (show ∃ t, u' = .str (strOf c) t from rw_)
      have z := SeqAt.EqAt.str_str (A := A) (s := s) (strOf a) t0 (strOf c) t
      rw [sb] at z
      simp only [strOf_inj] at z
      exact z
    | _ => cases h
  | _ => cases ry <;> cases h
def RowH (K : PySem.W.Frag) (H : Hp) (k : Bool) (p : Addr) (vs : List V) : Prop := if k then H p = some (.lst vs) else SqT K H p vs
theorem row_at {d : D} {k : Bool} {xs : List D} {v : V} {g : Gh} {ρ : Rho} {σ : L2.St} {H : Hp} {st : Sto} (h : rowOf d = some (k, xs)) (l : LkR T nm X.K g ρ σ d v) (m : Mt T nm X.K g ρ st σ H) : ∃ p vs, v = .ref p ∧ RowH X.K H k p vs ∧ Reps T nm X.K g xs vs := by
  cases d <;> simp only [rowOf] at h <;> first | (cases h; done) | skip
  · cases h
    cases l.rep m rfl with
    | tup s r => exact ⟨_, _, rfl, same_seqT (fun a o e => m.imm a o (of_imH e)) s, r⟩
  · cases h
    obtain ⟨p, vs, a, b, c⟩ := lstS_ok (st := st) l m (show lstS st (.lst _) = some _ from rfl)
    exact ⟨p, vs, a, b, c⟩
  · cases h
    obtain ⟨p, vs, a, b, c⟩ := lstS_ok (st := st) l m (show lstS st (.own _) = some _ from rfl)
    exact ⟨p, vs, a, b, c⟩
theorem row_obj {k : Bool} {p : Addr} {vs : List V} {σ : L2.St} {H : Hp} {pins : List (Addr × Obj)} {s : Shared} (I : Inv X pins σ H s) (h : RowH X.K H k p vs) : ∃ its : List Value, Vals vs its ∧ (if k then ∃ n, s.heap.get? p = some { cls := .type "list", data := .seq its.toArray n } else s.heap.IsTuple p its.toArray) := by
  cases k with
  | true =>
    obtain ⟨its, n, r, e, z⟩ := I.lst (show H p = some (.lst vs) from h)
    exact ⟨its, r, n, e⟩
  | false =>
    obtain ⟨its, r, e, z⟩ := I.tuple (show SqT X.K H p vs from h)
    exact ⟨its, r, e⟩
def EqGo (S : Src) (X : Cx) (W : WX) (nm : Nm) (A : Around) (f : D → D → Sto → R Bool) : Prop :=
  ∀ (pins : List (Addr × Obj)) (s : Shared) (σ : L2.St) (H : Hp) (g0 g : Gh) (ρ : Rho) (st : Sto) (d e : D) (x y : V) (u w : Value) (Q : Bool → Sto → Gh → Hp → Prop),
    Inv X pins σ H s → Mt S.T nm X.K g ρ st σ H → Rep S.T nm X.K g d x → Rep S.T nm X.K g e y → RelV x u → RelV y w → Le g0 g → Out S.T nm X.K W g0 ρ σ Q (f d e st) →
      wpAny (model X.prog X.w) A (eqBool u w) (fun b s' => ∃ H' g' st', Inv X pins σ H' s' ∧ Le g g' ∧ Mt S.T nm X.K g' ρ st' σ H' ∧ Q b st' g' H') X.xe s
theorem drop_two {α : Type} {xs : List α} {i : Nat} (h : i < xs.length) : xs.drop i = xs[i] :: xs.drop (i + 1) := List.drop_eq_getElem_cons h
theorem eqAll_end {f : D → D → Sto → R Bool} {xs ys : List D} {i : Nat} (h : min xs.length ys.length ≤ i) (st : Sto) : eqAll f (xs.drop i) (ys.drop i) st = .ok true st := by
  rcases Nat.le_total xs.length ys.length with z | z
  · rw [List.drop_eq_nil_of_le (as := xs) (by omega)]; rfl
  · rw [List.drop_eq_nil_of_le (as := ys) (by omega)]
    cases xs.drop i <;> rfl
theorem rows_go {A : Around} (hu : A.units < cLine) {f : D → D → Sto → R Bool} (hf : EqGo S X W nm A.in1 f) (ne : Bool) {kk : Bool} {xs ys : List D} {pins : List (Addr × Obj)} {s : Shared} {σ : L2.St} {H : Hp} {g0 g : Gh} {ρ : Rho} {st : Sto} {d e : D} {p q : Addr} {Q : Bool → Sto → Gh → Hp → Prop}
    (hd : rowOf d = some (kk, xs)) (he : rowOf e = some (kk, ys)) (hl : kk = true → xs.length = ys.length) (I : Inv X pins σ H s) (m : Mt S.T nm X.K g ρ st σ H) (ld : LkR S.T nm X.K g ρ σ d (.ref p)) (le : LkR S.T nm X.K g ρ σ e (.ref q)) (l0 : Le g0 g)
    (o : Out S.T nm X.K W g0 ρ σ (fun b st g' H' => Q (b && xs.length == ys.length) st g' H') (eqAll f xs ys st)) :
    wpAny (model X.prog X.w) A (richCompare (if ne then .NotEq else .Eq) (.ref p) (.ref q)) (fun v s' => ∃ b, v = .bool (b != ne) ∧ ∃ H' g' st', Inv X pins σ H' s' ∧ Le g g' ∧ Mt S.T nm X.K g' ρ st' σ H' ∧ Q b st' g' H') X.xe s := by
  have fix : ∀ {g' H' st'}, Le g g' → Mt S.T nm X.K g' ρ st' σ H' → ∃ vs ws, RowH X.K H' kk p vs ∧ RowH X.K H' kk q ws ∧ Reps S.T nm X.K g' xs vs ∧ Reps S.T nm X.K g' ys ws := fun {g' H' st'} l m => by
    obtain ⟨p1, vs, e1, h1, r1⟩ := row_at hd (ld.le l) m
    obtain ⟨p2, ws, e2, h2, r2⟩ := row_at he (le.le l) m
    cases e1; cases e2
    exact ⟨vs, ws, h1, h2, r1, r2⟩
  let II : Nat → Shared → Prop := fun i s' => ∃ H' g' st', Inv X pins σ H' s' ∧ Le g g' ∧ Mt S.T nm X.K g' ρ st' σ H' ∧ Out S.T nm X.K W g0 ρ σ (fun b st g' H' => Q (b && xs.length == ys.length) st g' H') (eqAll f (xs.drop i) (ys.drop i) st')
  let JJ : Shared → Prop := fun s' => ∃ H' g' st', Inv X pins σ H' s' ∧ Le g g' ∧ Mt S.T nm X.K g' ρ st' σ H' ∧ Q false st' g' H'
  have i0 : II 0 s := ⟨H, g, st, I, Le.refl g, m, o⟩
  have turn : ∀ i s', II i s' → ∀ (its its2 : List Value) (H' : Hp) (g' : Gh) (st' : Sto) (vs ws : List V), Inv X pins σ H' s' → Le g g' → Mt S.T nm X.K g' ρ st' σ H' → Out S.T nm X.K W g0 ρ σ (fun b st g' H' => Q (b && xs.length == ys.length) st g' H') (eqAll f (xs.drop i) (ys.drop i) st') →
      Reps S.T nm X.K g' xs vs → Reps S.T nm X.K g' ys ws → Vals vs its → Vals ws its2 → ∀ (h1 : i < its.toArray.size) (h2 : i < its2.toArray.size), wpAny (model X.prog X.w) A.in1 (eqBool its.toArray[i] its2.toArray[i]) (fun r s2 => if r then II (i + 1) s2 else JJ s2) X.xe s' := fun i s' _ its its2 H' g' st' vs ws I' l' m' o' rx ry rv rw h1 h2 => by
    have g1 : its[i]? = some its.toArray[i] := by
      have h1' : i < its.length := by simpa using h1
      rw [List.getElem?_eq_getElem h1'] <;> simp
    have g2 : its2[i]? = some its2.toArray[i] := by
      have h2' : i < its2.length := by simpa using h2
      rw [List.getElem?_eq_getElem h2'] <;> simp
    have k1 : i < vs.length := by rw [rv.length]; simpa using h1
    have k2 : i < ws.length := by rw [rw.length]; simpa using h2
    have j1 : i < xs.length := by rw [rx.len]; exact k1
    have j2 : i < ys.length := by rw [ry.len]; exact k2
    obtain ⟨v, hv, rd⟩ := rx.at (List.getElem?_eq_getElem j1)
    obtain ⟨w, hw, re⟩ := ry.at (List.getElem?_eq_getElem j2)
    obtain ⟨u, hu', ru⟩ := rv.get hv
    obtain ⟨u2, hu2, ru2⟩ := rw.get hw
    rw [g1] at hu'
    rw [g2] at hu2
    rw [Option.some.inj hu', Option.some.inj hu2]
    have o2 : Out S.T nm X.K W g0 ρ σ (fun b st g' H' => Q (b && xs.length == ys.length) st g' H') ((f xs[i] ys[i] st').bind fun k st => if k then eqAll f (xs.drop (i + 1)) (ys.drop (i + 1)) st else .ok false st) := by
      have z := o'
      rw [drop_two j1, drop_two j2] at z
      exact z
    refine wpAny_mono (hf pins s' σ H' g0 g' ρ st' _ _ _ _ _ _ (fun b st1 g1 H1 => Out S.T nm X.K W g0 ρ σ (fun b st g' H' => Q (b && xs.length == ys.length) st g' H') (if b then eqAll f (xs.drop (i + 1)) (ys.drop (i + 1)) st1 else .ok false st1)) I' m' rd re ru ru2 (l0.trans l') (Out.bind0 o2)) (fun b s2 z => ?_) fun _ _ z => z
    obtain ⟨H2, gg2, st2, I2, l2, m2, q2⟩ := z
    cases b with
    | true => exact ⟨H2, gg2, st2, I2, l'.trans l2, m2, q2⟩
    | false => exact ⟨H2, gg2, st2, I2, l'.trans l2, m2, (q2.le (l0.trans (l'.trans l2))).ok m2⟩
  have fin : ∀ i s', min xs.length ys.length ≤ i → II i s' → ∃ H' g' st', Inv X pins σ H' s' ∧ Le g g' ∧ Mt S.T nm X.K g' ρ st' σ H' ∧ Q (xs.length == ys.length) st' g' H' := fun i s' hi ⟨H', g', st', I', l', m', o'⟩ => by
    rw [eqAll_end hi] at o'
    have z := (o'.le (l0.trans l')).ok m'
    rw [Bool.true_and] at z
    exact ⟨H', g', st', I', l', m', z⟩
  cases kk with
  | true =>
    have hl' := hl rfl
    have LJ : GQ2.ListJ X.prog X.w A X.xe p q xs.length II JJ := by
      refine ⟨fun i s' h => ?_, fun s' ⟨H', g', st', I', l', m', _⟩ => ?_⟩
      · obtain ⟨H', g', st', I', l', m', o'⟩ := id h
        obtain ⟨vs, ws, h1, h2, r1, r2⟩ := fix l' m'
        obtain ⟨its, rv, n, e1⟩ := row_obj I' h1
        obtain ⟨its2, rw, n2, e2⟩ := row_obj I' h2
        exact ⟨its.toArray, its2.toArray, n, n2, e1, e2, by rw [List.size_toArray, ← rv.length, r1.len], by rw [List.size_toArray, ← rw.length, hl', r2.len], fun z1 z2 => turn i s' h its its2 H' g' st' vs ws I' l' m' o' r1 r2 rv rw z1 z2⟩
      · obtain ⟨vs, ws, h1, h2, r1, r2⟩ := fix l' m'
        obtain ⟨its, rv, n, e1⟩ := row_obj I' h1
        obtain ⟨its2, rw, n2, e2⟩ := row_obj I' h2
        exact ⟨its.toArray, its2.toArray, n, n2, e1, e2, by rw [List.size_toArray, ← rv.length, r1.len], by rw [List.size_toArray, ← rw.length, hl', r2.len]⟩
    have f1 : ∀ s', II xs.length s' → ∃ H' g' st', Inv X pins σ H' s' ∧ Le g g' ∧ Mt S.T nm X.K g' ρ st' σ H' ∧ Q true st' g' H' := fun s' h => by
      have z := fin xs.length s' (Nat.min_le_left _ _) h
      rw [show (xs.length == ys.length) = true by simp [hl']] at z
      exact z
    cases ne with
    | false => exact GQ2.rc_listJ hu II JJ LJ (fun s' h => ⟨true, rfl, f1 s' h⟩) (fun s' h => ⟨false, rfl, h⟩) i0
    | true => exact GQ2.rcn_listJ hu II JJ LJ (fun s' h => ⟨true, rfl, f1 s' h⟩) (fun s' h => ⟨false, rfl, h⟩) i0
  | false =>
    obtain ⟨vs, ws, h1, h2, r1, r2⟩ := fix (Le.refl g) m
    obtain ⟨its, rv, e1⟩ := row_obj I h1
    obtain ⟨its2, rw, e2⟩ := row_obj I h2
    have tr : ∀ i (z1 : i < its.toArray.size) (z2 : i < its2.toArray.size) s', II i s' → wpAny (model X.prog X.w) A.in1 (eqBool its.toArray[i] its2.toArray[i]) (fun r s2 => if r then II (i + 1) s2 else JJ s2) X.xe s' := fun i z1 z2 s' h => by
      obtain ⟨H', g', st', I', l', m', o'⟩ := id h
      exact turn i s' h its its2 H' g' st' vs ws I' l' m' o' (r1.mono l'.lim) (r2.mono l'.lim) rv rw z1 z2
    have sz1 : its.toArray.size = xs.length := by rw [List.size_toArray, ← rv.length, r1.len]
    have sz2 : its2.toArray.size = ys.length := by rw [List.size_toArray, ← rw.length, r2.len]
    cases ne with
    | false => exact GQ2.rc_tupJ hu II JJ e1 e2 tr (fun s' h => ⟨_, by rw [sz1, sz2, Bool.bne_false], fin _ s' (by rw [sz1, sz2]; exact Nat.le_refl _) h⟩) (fun s' h => ⟨false, rfl, h⟩) i0
    | true => exact GQ2.rcn_tupJ hu II JJ e1 e2 tr (fun s' h => ⟨xs.length == ys.length, by rw [sz1, sz2, Bool.bne_true]; rfl, fin _ s' (by rw [sz1, sz2]; exact Nat.le_refl _) h⟩) (fun s' h => ⟨false, rfl, h⟩) i0
theorem isList_of {h : Heap} {p : Addr} {its : List Value} {n : Nat} (e : h.get? p = some { cls := .type "list", data := .seq its.toArray n }) : h.IsList p its.toArray := ⟨_, e, rfl, n, rfl⟩
theorem row_flat {A : Around} {kk : Bool} {p : Addr} {vs : List V} {g : Gh} {σ : L2.St} {H : Hp} {pins : List (Addr × Obj)} {s : Shared} {e : D} {y : V} {w : Value} (hu : A.units < cLine) (I : Inv X pins σ H s) (h : RowH X.K H kk p vs) (hf : flat e = true) (re : Rep T nm X.K g e y) (rw_ : RelV y w) :
    (SeqAt.RcAt A s (.ref p) w false ∧ SeqAt.RcNeAt A s (.ref p) w true) ∧ SeqAt.RcAt A s w (.ref p) false ∧ SeqAt.RcNeAt A s w (.ref p) true := by
  obtain ⟨its, rv, ob⟩ := row_obj I h
  cases kk with
  | true =>
    obtain ⟨n, e1⟩ := ob
    have L := isList_of e1
    cases re with
    | non => obtain rfl : w = .none := rw_; exact ⟨⟨.list_none L hu, .list_none L hu⟩, .none_list L hu, .none_list L hu⟩
    | bl b => obtain rfl : w = .bool b := rw_; exact ⟨⟨.list_bool b L hu, .list_bool b L hu⟩, .bool_list b L hu, .bool_list b L hu⟩
    | int i => obtain ⟨t, rfl⟩ := (show ∃ t, w = .int i t from rw_); exact ⟨⟨.list_int i t L hu, .list_int i t L hu⟩, .int_list i t L hu, .int_list i t L hu⟩
    | str z => obtain ⟨t, rfl⟩ := (show ∃ t, w = .str (strOf z) t from rw_); exact ⟨⟨.list_str _ t L hu, .list_str _ t L hu⟩, .str_list _ t L hu, .str_list _ t L hu⟩
    | _ => cases hf
  | false =>
    have L : s.heap.IsTuple p its.toArray := ob
    cases re with
    | non => obtain rfl : w = .none := rw_; exact ⟨⟨.tuple_none L hu, .tuple_none L hu⟩, .none_tuple L hu, .none_tuple L hu⟩
    | bl b => obtain rfl : w = .bool b := rw_; exact ⟨⟨.tuple_bool b L hu, .tuple_bool b L hu⟩, .bool_tuple b L hu, .bool_tuple b L hu⟩
    | int i => obtain ⟨t, rfl⟩ := (show ∃ t, w = .int i t from rw_); exact ⟨⟨.tuple_int i t L hu, .tuple_int i t L hu⟩, .int_tuple i t L hu, .int_tuple i t L hu⟩
    | str z => obtain ⟨t, rfl⟩ := (show ∃ t, w = .str (strOf z) t from rw_); exact ⟨⟨.tuple_str _ t L hu, .tuple_str _ t L hu⟩, .str_tuple _ t L hu, .str_tuple _ t L hu⟩
    | _ => cases hf
theorem row_kinds {A : Around} {k1 k2 : Bool} {p q : Addr} {vs ws : List V} {σ : L2.St} {H : Hp} {pins : List (Addr × Obj)} {s : Shared} (hu : A.units < cLine) (hn : k1 ≠ k2) (I : Inv X pins σ H s) (h : RowH X.K H k1 p vs) (h' : RowH X.K H k2 q ws) :
    SeqAt.RcAt A s (.ref p) (.ref q) false ∧ SeqAt.RcNeAt A s (.ref p) (.ref q) true := by
  obtain ⟨its, rv, ob⟩ := row_obj I h
  obtain ⟨its', rv', ob'⟩ := row_obj I h'
  cases k1 <;> cases k2 <;> first | exact absurd rfl hn | skip
  · obtain ⟨n, e1⟩ := ob'
    exact ⟨.tuple_list ob (isList_of e1) hu, .tuple_list ob (isList_of e1) hu⟩
  · obtain ⟨n, e1⟩ := ob
    exact ⟨.list_tuple (isList_of e1) ob' hu, .list_tuple (isList_of e1) ob' hu⟩
theorem row_lens {A : Around} {p q : Addr} {vs ws : List V} {σ : L2.St} {H : Hp} {pins : List (Addr × Obj)} {s : Shared} (hu : A.units < cLine) (hn : vs.length ≠ ws.length) (I : Inv X pins σ H s) (h : RowH X.K H true p vs) (h' : RowH X.K H true q ws) :
    SeqAt.RcAt A s (.ref p) (.ref q) false ∧ SeqAt.RcNeAt A s (.ref p) (.ref q) true := by
  obtain ⟨its, rv, n, e1⟩ := row_obj I h
  obtain ⟨its', rv', n', e1'⟩ := row_obj I h'
  have hz : (its.toArray.size != its'.toArray.size) = true := by
    rw [List.size_toArray, List.size_toArray, ← rv.length, ← rv'.length]
    simpa using hn
  exact ⟨.lists_lengths (isList_of e1) (isList_of e1') hz hu, .lists_lengths (isList_of e1) (isList_of e1') hz hu⟩
theorem no_flt {g : Gh} {d : D} {x : V} {u : Value} (r : Rep T nm X.K g d x) (ru : RelV x u) : ∀ a t, u ≠ .float a t := fun a t z => by
  subst z
  cases r <;> first | (cases ru; done) | (obtain ⟨_, z⟩ := ru; cases z)
theorem same_val {g : Gh} {d e : D} {x y : V} {u w : Value} (rd : Rep T nm X.K g d x) (re : Rep T nm X.K g e y) (ru : RelV x u) (rw_ : RelV y w) (hk : NoK X.K g) (h : (u == w) = true) : simB d e = true := by
  have e1 := beq_iff_eq.mp h
  subst e1
  have e2 := relV_fun ru rw_
  subst e2
  exact sim_of hk rd re
theorem cmpG_form (d e : D) (st : Sto) : cmpG T cf d e st = .no ∨ ∃ k, cmpG T cf d e st = .ok k st ∧ cmpI T cf .eq d e st = .ok k st := by
  unfold cmpG
  cases q : cmpI T cf .eq d e st with
  | ok k st1 =>
    by_cases z : (stEq st st1 && (k || !simB d e)) = true
    · right
      refine ⟨k, if_pos z, ?_⟩
      rw [stEq_eq (Bool.and_eq_true_iff.mp z).1]
    · left
      exact if_neg z
  | er x st1 => exact .inl rfl
  | no => exact .inl rfl
theorem Out.ok' {α : Type} {P : α → Sto → Gh → Hp → Prop} {a : α} {g0 g : Gh} {ρ : Rho} {σ : L2.St} {H : Hp} {st : Sto} (h : Out T nm X.K W g0 ρ σ P (.ok a st)) (l : Le g0 g) (m : Mt T nm X.K g ρ st σ H) : P a st g H := h g H l m
theorem cmpG_noer {d e : D} {st st' : Sto} {x : Xn} : cmpG T cf d e st ≠ .er x st' := fun h => by
  rcases cmpG_form (T := T) (cf := cf) d e st with z | ⟨k, z, _⟩
  · rw [z] at h; cases h
  · rw [z] at h; cases h
theorem eqAll_noer {f : D → D → Sto → R Bool} (hf : ∀ d e st x st', f d e st ≠ .er x st') : ∀ (xs ys : List D) (st : Sto) (x : Xn) (st' : Sto), eqAll f xs ys st ≠ .er x st'
  | [], _, st, x, st', h => by cases h
  | _ :: _, [], st, x, st', h => by cases h
  | a :: xs, b :: ys, st, x, st', h => by
    have h' : ((f a b st).bind fun k st => if k then eqAll f xs ys st else .ok false st) = .er x st' := h
    cases q : f a b st with
    | ok k st1 =>
      rw [q] at h'
      cases k with
      | true => exact eqAll_noer hf xs ys _ _ _ h'
      | false => cases h'
    | er y st1 => exact hf _ _ _ _ _ q
    | no => rw [q] at h'; cases h'
theorem eqRow_noer {f : D → D → Sto → R Bool} (hf : ∀ d e st x st', f d e st ≠ .er x st') {k : Bool} {xs ys : List D} {st st' : Sto} {x : Xn} : eqRow f k xs ys st ≠ .er x st' := fun h => by
  unfold eqRow at h
  split at h
  · cases h
  · cases q : eqAll f xs ys st with
    | ok k st1 => rw [q] at h; cases h
    | er y st1 => exact eqAll_noer hf _ _ _ _ _ q
    | no => rw [q] at h; cases h
theorem eqX_noer : ∀ (n : Nat) (d e : D) (st : Sto) (x : Xn) (st' : Sto), eqX T cf n d e st ≠ .er x st' := by
  intro n
  induction n with
  | zero =>
    intro d e st x st' h
    rw [eqX_eq] at h
    split at h
    · exact cmpG_noer h
    · split at h
      · split at h <;> cases h
      · split at h <;> cases h
      · split at h <;> cases h
      · cases q : eqB d e with
        | none => rw [q] at h; cases h
        | some b => rw [q] at h; cases h
  | succ n ih =>
    intro d e st x st' h
    rw [eqX_eq] at h
    split at h
    · exact cmpG_noer h
    · split at h
      · split at h
        · exact eqRow_noer ih h
        · cases h
      · split at h <;> cases h
      · split at h <;> cases h
      · cases q : eqB d e with
        | none => rw [q] at h; cases h
        | some b => rw [q] at h; cases h
theorem eqx_step {me : Option (Addr × Addr)} (hnm : nm = nmE S me) (F : Facts S (co X) nm cf k) (tk : Takes X W) (n : Nat) {A : Around} (ih : ∀ n', n = n' + 1 → EqGo S X W nm A.in1 (eqX S.T cf n')) (hA : A.frames = X.A.frames) (hr : Room (k + 1 + n) A) : EqGo S X W nm A (eqX S.T cf n) := by
  intro pins s σ H g0 g ρ st d e x y u w Q I m rd re ru rw_ l0 o
  have hu : A.units < cLine := by have := hr.un; omega
  have hk := noK_of I m
  rw [eqX_eq] at o
  have simple : ∀ b : Bool, SeqAt.EqAt A s u w b → Q b st g H → wpAny (model X.prog X.w) A (eqBool u w) (fun b s' => ∃ H' g' st', Inv X pins σ H' s' ∧ Le g g' ∧ Mt S.T nm X.K g' ρ st' σ H' ∧ Q b st' g' H') X.xe s := fun b h q => h _ _ _ _ ⟨H, g, st, I, Le.refl g, m, q⟩
  have simpleR : ∀ b : Bool, (u == w) = false → SeqAt.RcAt A s u w b → Q b st g H → wpAny (model X.prog X.w) A (eqBool u w) (fun b s' => ∃ H' g' st', Inv X pins σ H' s' ∧ Le g g' ∧ Mt S.T nm X.K g' ρ st' σ H' ∧ Q b st' g' H') X.xe s := fun b hne h q =>
    GQ2.eqBool_J hne (fun a t b t' z _ => no_flt rd ru a t z) (h _ _ _ _ ⟨b, rfl, H, g, st, I, Le.refl g, m, q⟩)
  by_cases hs : (u == w) = true
  · have sim := same_val rd re ru rw_ hk hs
    have e1 := beq_iff_eq.mp hs
    subst e1
    have z : ∀ r : R Bool, (∀ k st', r = .ok k st' → k = true ∧ st' = st) → (∀ x st', r ≠ .er x st') → Out S.T nm X.K W g0 ρ σ Q r → Q true st g H := fun r h1 h2 oo => by
      cases r with
      | ok k st' =>
        obtain ⟨rfl, rfl⟩ := h1 _ _ rfl
        exact (oo.le l0).ok m
      | er x st' => exact absurd rfl (h2 _ _)
      | no => exact oo.elim
    have o' : Out S.T nm X.K W g0 ρ σ Q (eqX S.T cf n d e st) := by rw [eqX_eq]; exact o
    exact simple true (SeqAt.EqAt.same _) (z _ (fun k st' h => eqX_sim n d e st k st' sim h) (fun x st' h => eqX_noer n d e st x st' h) o')
  · have hs' : (u == w) = false := by simpa using hs
    by_cases hi : (isIns d || isIns e) = true
    · rw [if_pos hi] at o
      rcases cmpG_form (T := S.T) (cf := cf) d e st with z | ⟨kk, z1, z2⟩
      · rw [z] at o
        exact o.elim
      · rw [z1] at o
        refine GQ2.eqBool_J hs' (fun a t b t' z _ => no_flt rd ru a t z) ?_
        have oc : Out S.T nm X.K W g ρ σ (fun b _ _ H' => ∃ g' st', Le g g' ∧ Mt S.T nm X.K g' ρ st' σ H' ∧ Q b st' g' H') (cmpI S.T cf .eq d e st) := by
          rw [z2]
          exact fun g' H' l' m' => ⟨g', st, l', m', o g' H' (l0.trans l') m'⟩
        refine wpAny_mono (ins_cmp hnm hA F (hr.mono (by omega)) tk (op := .eq) rfl I m (LkR.of_rep (RepR.plain (g0 := g) rd rd.plain)) (LkR.of_rep (RepR.plain (g0 := g) re re.plain)) ru rw_ (Le.refl g) oc) (fun v s' z => ?_) fun _ _ z => z
        obtain ⟨b, rfl, H', I', g', st', l', m', q⟩ := z
        exact ⟨b, rfl, H', g', st', I', l', m', q⟩
    · rw [if_neg hi] at o
      have lkd : LkR S.T nm X.K g ρ σ d x := LkR.of_rep (RepR.plain (g0 := g) rd rd.plain)
      have lke : LkR S.T nm X.K g ρ σ e y := LkR.of_rep (RepR.plain (g0 := g) re re.plain)
      cases h1 : rowOf d with
      | none =>
        cases h2 : rowOf e with
        | none =>
          simp only [h1, h2] at o
          obtain ⟨b, e1, q⟩ := Out.of (o.le l0) m
          exact simple b (eqB_V e1 rd re ru rw_) q
        | some r2 =>
          obtain ⟨l, ys⟩ := r2
          simp only [h1, h2] at o
          by_cases hf : flat d = true
          · rw [if_pos hf] at o
            obtain ⟨q, ws, e2, hw, rws⟩ := row_at h2 lke m
            subst e2
            cases rw_
            exact simpleR false hs' (row_flat hu I hw hf rd ru).2.1 ((o.le l0).ok m)
          · rw [if_neg hf] at o
            exact o.elim
      | some r1 =>
        obtain ⟨kk, xs⟩ := r1
        obtain ⟨p, vs, e1, hv, rvs⟩ := row_at h1 lkd m
        subst e1
        cases ru
        cases h2 : rowOf e with
        | none =>
          simp only [h1, h2] at o
          by_cases hf : flat e = true
          · rw [if_pos hf] at o
            exact simpleR false hs' (row_flat hu I hv hf re rw_).1.1 ((o.le l0).ok m)
          · rw [if_neg hf] at o
            exact o.elim
        | some r2 =>
          obtain ⟨l, ys⟩ := r2
          obtain ⟨q, ws, e2, hw, rws⟩ := row_at h2 lke m
          subst e2
          cases rw_
          simp only [h1, h2] at o
          by_cases hkl : kk = l
          · subst hkl
            rw [if_pos rfl] at o
            cases n with
            | zero => exact o.elim
            | succ n =>
              have o1 : Out S.T nm X.K W g0 ρ σ Q (eqRow (eqX S.T cf n) kk xs ys st) := o
              unfold eqRow at o1
              by_cases hl : (kk && xs.length != ys.length) = true
              · rw [if_pos hl] at o1
                obtain ⟨l1, l2⟩ := He.ba hl
                subst l1
                have hn : vs.length ≠ ws.length := by rw [← rvs.len, ← rws.len]; simpa using l2
                exact simpleR false hs' (row_lens hu hn I hv hw).1 ((o1.le l0).ok m)
              · rw [if_neg hl] at o1
                have hl2 : kk = true → xs.length = ys.length := fun z => by
                  rw [z] at hl
                  simpa using hl
                refine GQ2.eqBool_J hs' (fun a t b t' z _ => nomatch z) ?_
                refine wpAny_mono (rows_go (Q := Q) hu (ih n rfl) false h1 h2 hl2 I m lkd lke l0 ?_) (fun v s' z => ?_) fun _ _ z => z
                · have o2 := Out.bind0 o1
                  cases q3 : eqAll (eqX S.T cf n) xs ys st with
                  | ok b st' =>
                    rw [q3] at o2
                    exact fun g' H' l' m' => (o2 g' H' l' m').ok' l' m'
                  | er x st' => rw [q3] at o2; exact o2
                  | no => rw [q3] at o2; exact o2
                · obtain ⟨b, rfl, H', g', st', I', l', m', q⟩ := z
                  exact ⟨b, by rw [Bool.bne_false], H', g', st', I', l', m', q⟩
          · rw [if_neg hkl] at o
            exact simpleR false hs' (row_kinds hu hkl I hv hw).1 ((o.le l0).ok m)
theorem eqx_go {me : Option (Addr × Addr)} (hnm : nm = nmE S me) (F : Facts S (co X) nm cf k) (tk : Takes X W) : ∀ (n : Nat) (A : Around), A.frames = X.A.frames → Room (k + 1 + n) A → EqGo S X W nm A (eqX S.T cf n) := by
  intro n
  induction n with
  | zero =>
    intro A hA hr pins s σ H g0 g ρ st d e x y u w Q I m rd re ru rw_ l0 o
    exact eqx_step hnm F tk 0 (fun n' z => by cases z) hA hr pins s σ H g0 g ρ st d e x y u w Q I m rd re ru rw_ l0 o
  | succ n ih =>
    intro A hA hr pins s σ H g0 g ρ st d e x y u w Q I m rd re ru rw_ l0 o
    exact eqx_step hnm F tk (n + 1) (fun n' z => by cases z; exact ih A.in1 hA (Room.in1 (k := k + 1 + n) hr)) hA hr pins s σ H g0 g ρ st d e x y u w Q I m rd re ru rw_ l0 o
def toP : Nat → D → PyData
  | 0, d => (match d with
    | .int i => .int i
    | _ => .none)
  | n + 1, d => (match d with
    | .int i => .int i
    | .tup ds => .tuple (ds.map (toP n))
    | .lst ds => .list (ds.map (toP n))
    | _ => .none)
theorem dps_of {n : Nat} {g : Gh} {H : Hp} (ih : ∀ {d : D} {v : V}, dOk n d = true → Rep S.T nm X.K g d v → Dp X.K H v (toP n d)) : ∀ {ds : List D} {vs : List V}, Reps S.T nm X.K g ds vs → ds.all (dOk n) = true → DpAll X.K H vs (ds.map (toP n))
  | _, _, .nil, _ => .nil
  | _, _, .cons r t, h => by
    rw [List.all_cons, Bool.and_eq_true] at h
    exact .cons (ih h.1 r) (dps_of ih t h.2)
theorem dp_of {g : Gh} {ρ : Rho} {st : Sto} {σ : L2.St} {H : Hp} (m : Mt S.T nm X.K g ρ st σ H) : ∀ (n : Nat) {d : D} {v : V}, dOk n d = true → Rep S.T nm X.K g d v → Dp X.K H v (toP n d)
  | 0, d, v, h, r => by
    cases d with
    | non => cases r; exact .non
    | int i => cases r; exact .int i
    | _ => cases h
  | n + 1, d, v, h, r => by
    cases d with
    | non => cases r; exact .non
    | int i => cases r; exact .int i
    | tup ds =>
      cases r with
      | tup s r => exact .tup (same_seqT (fun a o e => m.imm a o (of_imH e)) s) (dps_of (fun {d v} => dp_of m n) r h)
    | lst ds =>
      cases r with
      | lst s r => exact .lst (.of (m.imm _ _ s)) (dps_of (fun {d v} => dp_of m n) r h)
    | _ => cases h
theorem toPs_lay {n : Nat} (ih : ∀ d : D, (toP n d).canLay0 = true ∧ (toP n d).depth ≤ n) : ∀ ds : List D, PyData.canLayAll0 (ds.map (toP n)) = true ∧ PyData.depthAll (ds.map (toP n)) ≤ n
  | [] => ⟨by simp [PyData.canLayAll0], by simp [PyData.depthAll]⟩
  | d :: r => by
    obtain ⟨h1, h2⟩ := ih d
    obtain ⟨h3, h4⟩ := toPs_lay ih r
    refine ⟨by simp [PyData.canLayAll0, h1, h3], ?_⟩
    simp only [List.map_cons, PyData.depthAll]
    omega
theorem toP_lay : ∀ (n : Nat) (d : D), (toP n d).canLay0 = true ∧ (toP n d).depth ≤ n
  | 0, d => by cases d <;> simp [toP, PyData.canLay0, PyData.depth]
  | n + 1, d => by
    cases d with
    | tup ds =>
      obtain ⟨h1, h2⟩ := toPs_lay (toP_lay n) ds
      refine ⟨by simpa [toP, PyData.canLay0] using h1, ?_⟩
      simp only [toP, PyData.depth]
      omega
    | lst ds =>
      obtain ⟨h1, h2⟩ := toPs_lay (toP_lay n) ds
      refine ⟨by simpa [toP, PyData.canLay0] using h1, ?_⟩
      simp only [toP, PyData.depth]
      omega
    | _ => simp [toP, PyData.canLay0, PyData.depth]
theorem toPs_eqv {n : Nat} (ih : ∀ a b : D, dOk n a = true → dOk n b = true → PyData.eqv (toP n a) (toP n b) = deq n a b) : ∀ xs ys : List D, xs.all (dOk n) = true → ys.all (dOk n) = true → PyData.eqvAll (xs.map (toP n)) (ys.map (toP n)) = deqs (deq n) xs ys
  | [], [], _, _ => by simp [PyData.eqvAll, deqs]
  | [], _ :: _, _, _ => by simp [PyData.eqvAll, deqs]
  | _ :: _, [], _, _ => by simp [PyData.eqvAll, deqs]
  | a :: r, b :: s, h1, h2 => by
    rw [List.all_cons, Bool.and_eq_true] at h1 h2
    simp only [List.map_cons, PyData.eqvAll, deqs]
    rw [ih a b h1.1 h2.1, toPs_eqv ih r s h1.2 h2.2]
theorem toP_eqv : ∀ (n : Nat) (a b : D), dOk n a = true → dOk n b = true → PyData.eqv (toP n a) (toP n b) = deq n a b
  | 0, a, b, h1, h2 => by
    cases a <;> first | (cases h1; done) | (cases b <;> first | (cases h2; done) | (simp [toP, PyData.eqv, deq, leafEq, Bool.beq_eq_decide_eq]))
  | n + 1, a, b, h1, h2 => by
    cases a <;> first | (cases h1; done) | skip
    all_goals (cases b <;> first | (cases h2; done) | (simp [toP, PyData.eqv, deq, leafEq, Bool.beq_eq_decide_eq]; done) | skip)
    · have z := toPs_eqv (toP_eqv n) _ _ h1 h2
      simp only [toP, PyData.eqv, deq]
      exact z
    · have z := toPs_eqv (toP_eqv n) _ _ h1 h2
      simp only [toP, PyData.eqv, deq]
      exact z
theorem shaped_toP (d : D) : SeqAt.shaped (toP 8 d) = true := by
  obtain ⟨h1, h2⟩ := toP_lay 8 d
  show ((toP 8 d).canLay0 && decide ((toP 8 d).depth ≤ 64)) = true
  rw [Bool.and_eq_true]
  exact ⟨h1, decide_eq_true (by omega)⟩
theorem shaped_toPs (ds : List D) : SeqAt.shaped (.list (ds.map (toP 8))) = true := by
  obtain ⟨h1, h2⟩ := toPs_lay (toP_lay 8) ds
  show (PyData.canLay0 (.list (ds.map (toP 8))) && decide (PyData.depth (.list (ds.map (toP 8))) ≤ 64)) = true
  rw [Bool.and_eq_true]
  refine ⟨by simpa [PyData.canLay0] using h1, decide_eq_true ?_⟩
  simp only [PyData.depth]
  omega
theorem any_toP {d : D} (hd : dOk 8 d = true) : ∀ {ds : List D}, ds.all (dOk 8) = true → ((ds.map (toP 8)).any fun z => PyData.eqv z (toP 8 d)) = ds.any fun z => deq 8 z d
  | [], _ => rfl
  | a :: r, h => by
    rw [List.all_cons, Bool.and_eq_true] at h
    rw [List.map_cons, List.any_cons, List.any_cons, toP_eqv 8 a d h.1 hd, any_toP hd h.2]
theorem inP_ok {op : CO} {pins : List (Addr × Obj)} {s : Shared} {σ : L2.St} {H : Hp} {g0 g : Gh} {ρ : Rho} {st : Sto} {d e : D} {x y : V} {u w : Value} {Q : Bool → Hp → Prop} (hu : X.A.units + 65 < cLine) (ho : isInO op = true) (ht : isTup d = true)
    (I : Inv X pins σ H s) (m : Mt S.T nm X.K g ρ st σ H) (ld : LkR S.T nm X.K g ρ σ d x) (le : LkR S.T nm X.K g ρ σ e y) (rx : RelV x u) (ry : RelV y w) (l0 : Le g0 g)
    (o : Out S.T nm X.K W g0 ρ σ (fun b _ _ H' => Q b H') (R.of (inP op d e) st)) : wpAny (model X.prog X.w) X.A (compareOp (copOf op) u w) (EP X pins σ fun v H' => ∃ b, v = .bl b ∧ Q b H') X.xe s := by
  obtain ⟨b, e1, q⟩ := Out.of (o.le l0) m
  unfold inP at e1
  cases h1 : rowOf e with
  | none => rw [h1] at e1; cases e1
  | some r =>
    obtain ⟨k, ds⟩ := r
    cases k with
    | false => rw [h1] at e1; cases e1
    | true =>
      rw [h1] at e1
      have e2 : (if (dOk 8 d && ds.all (dOk 8)) = true then some (if op = .nin then !(ds.any fun z => deq 8 z d) else (ds.any fun z => deq 8 z d)) else none) = some b := e1
      by_cases hb : (dOk 8 d && ds.all (dOk 8)) = true
      · rw [if_pos hb] at e2
        obtain ⟨b1, b2⟩ := Bool.and_eq_true_iff.mp hb
        obtain ⟨p, vs, ey, hv, rvs⟩ := row_at h1 le m
        subst ey
        have rd : Rep S.T nm X.K g d x := ld.rep m (by cases d <;> first | rfl | cases ht)
        have d1 := dp_of m 8 b1 rd
        have d2 : Dp X.K H (.ref p) (.list (ds.map (toP 8))) := .lst (.of hv) (dps_of (fun {d v} => dp_of m 8) rvs b2)
        have ea := any_toP b1 b2
        cases op with
        | in_ =>
          cases e2
          refine op_inD hu pins s σ H x (.ref p) u w _ I rx ry ⟨_, _, d1, d2, shaped_toP d, shaped_toPs ds, _, rfl, ?_⟩
          rw [ea]
          exact q
        | nin =>
          cases e2
          refine op_notInD hu pins s σ H x (.ref p) u w _ I rx ry ⟨_, _, d1, d2, shaped_toP d, shaped_toPs ds, _, rfl, ?_⟩
          rw [ea]
          exact q
        | _ => cases ho
      · rw [if_neg hb] at e2
        cases e2
theorem insCmp_of {me : Option (Addr × Addr)} (hnm : nm = nmE S me) (F : Facts S (co X) nm cf k) (hr : Room (k + 6) X.A) (tk : Takes X W) : InsCmp X S.T nm W cf := by
  refine ⟨by have := hr.un; omega, ?_⟩
  intro op pins s σ H g0 g ρ st d e x y u w Q hs I m ld le rx ry l0 o
  have hu : X.A.units < cLine := by have := hr.un; omega
  by_cases hin : isInO op = true
  · have hs2 : isTup d = true ∧ isRowL e = true := by
      unfold spec at hs
      have z1 : isRel op = false := by cases op <;> first | rfl | (cases hin)
      have z2 : isEq op = false := by cases op <;> first | rfl | (cases hin)
      rw [z1, z2, hin] at hs
      simpa using hs
    have ni : ¬ (isIns d || isIns e) = true := by
      have z1 : isIns d = false := by cases d <;> first | rfl | (cases hs2.1)
      have z2 : isIns e = false := by cases e <;> first | rfl | (cases hs2.2)
      rw [z1, z2]
      exact Bool.false_ne_true
    unfold cmpS at o
    rw [if_neg ni, if_pos hin] at o
    exact inP_ok (by have := hr.un; omega) hin hs2.1 I m ld le rx ry l0 o
  have hs0 : ((isRel op && (isIns d || isIns e)) || (isEq op && (isRow d || isRow e))) = true := by
    unfold spec at hs
    have z : isInO op = false := by simpa using hin
    rw [z, Bool.false_and, Bool.or_false] at hs
    exact hs
  have hrel : isRel op = true := by
    cases op <;> first | rfl | (simp [isRel, isEq] at hs0; done)
  have fin : ∀ {v : Value} {s' : Shared}, (∃ b, v = .bool b ∧ ∃ H', Inv X pins σ H' s' ∧ Q b H') → EP X pins σ (fun v H' => ∃ b, v = .bl b ∧ Q b H') v s' := fun {v s'} ⟨b, e, H', I', q⟩ => ⟨.bl b, H', I', e, b, rfl, q⟩
  have rich : wpAny (model X.prog X.w) X.A (richCompare (copOf op) u w) (EP X pins σ fun v H' => ∃ b, v = .bl b ∧ Q b H') X.xe s → wpAny (model X.prog X.w) X.A (compareOp (copOf op) u w) (EP X pins σ fun v H' => ∃ b, v = .bl b ∧ Q b H') X.xe s := fun h => by
    cases op <;> first | exact h | cases hrel
  refine rich ?_
  unfold cmpS at o
  by_cases hi : (isIns d || isIns e) = true
  · rw [if_pos hi] at o
    exact wpAny_mono (ins_cmp hnm rfl F (hr.mono (by omega)) tk hrel I m ld le rx ry l0 o) (fun v s' z => fin z) fun _ _ z => z
  · rw [if_neg hi, if_neg hin] at o
    have heq : isEq op = true ∧ (isRow d || isRow e) = true := by
      have hs := hs0
      have z : (isRel op && (isIns d || isIns e)) = false := by simp only [Bool.and_eq_false_iff]; exact .inr (by simpa using hi)
      rw [z, Bool.false_or] at hs
      exact He.ba hs
    obtain ⟨ne, hne, hop⟩ : ∃ ne : Bool, (op = .ne ↔ ne = true) ∧ copOf op = (if ne then .NotEq else .Eq) := by
      cases op <;> first | exact ⟨false, by constructor <;> (intro z; cases z), rfl⟩ | exact ⟨true, by constructor <;> (intro _; rfl), rfl⟩ | (cases heq.1)
    have flip : ∀ b : Bool, (if op = .ne then !b else b) = (b != ne) := fun b => by
      by_cases z : op = .ne
      · rw [if_pos z, hne.mp z]; cases b <;> rfl
      · rw [if_neg z]
        cases ne with
        | true => exact absurd (hne.mpr rfl) z
        | false => cases b <;> rfl
    rw [hop]
    have both : ∀ b : Bool, SeqAt.RcAt X.A s u w b ∧ SeqAt.RcNeAt X.A s u w (!b) → Q (b != ne) H → wpAny (model X.prog X.w) X.A (richCompare (if ne then .NotEq else .Eq) u w) (EP X pins σ fun v H' => ∃ b, v = .bl b ∧ Q b H') X.xe s := fun b h q => by
      cases ne with
      | false =>
        rw [Bool.bne_false] at q
        exact h.1 _ _ _ _ (fin ⟨b, rfl, H, I, q⟩)
      | true =>
        rw [Bool.bne_true] at q
        exact h.2 _ _ _ _ (fin ⟨!b, rfl, H, I, q⟩)
    rw [eqX_eq, if_neg hi] at o
    have known : ∀ b : Bool, Out S.T nm X.K W g0 ρ σ (fun b _ _ H' => Q b H') ((R.ok b st : R Bool).bind fun k st => .ok (if op = .ne then !k else k) st) → Q (b != ne) H := fun b o => by
      have z := (show Out S.T nm X.K W g0 ρ σ (fun b _ _ H' => Q b H') (.ok (if op = .ne then !b else b) st) from o).ok' l0 m
      rw [flip] at z
      exact z
    cases h1 : rowOf d with
    | none =>
      cases h2 : rowOf e with
      | none =>
        exfalso
        have z : isRow d = false ∧ isRow e = false := by
          constructor
          · cases d <;> first | rfl | (cases h1)
          · cases e <;> first | rfl | (cases h2)
        rw [z.1, z.2] at heq
        cases heq.2
      | some r2 =>
        obtain ⟨l, ys⟩ := r2
        simp only [h1, h2] at o
        by_cases hf : flat d = true
        · rw [if_pos hf] at o
          obtain ⟨q, ws, e2, hw, rws⟩ := row_at h2 le m
          subst e2
          cases ry
          exact both false (row_flat hu I hw hf (ld.rep m (by cases d <;> first | rfl | cases hf)) rx).2 (known false o)
        · rw [if_neg hf] at o
          exact o.elim
    | some r1 =>
      obtain ⟨kk, xs⟩ := r1
      obtain ⟨p, vs, e1, hv, rvs⟩ := row_at h1 ld m
      subst e1
      cases rx
      cases h2 : rowOf e with
      | none =>
        simp only [h1, h2] at o
        by_cases hf : flat e = true
        · rw [if_pos hf] at o
          exact both false (row_flat hu I hv hf (le.rep m (by cases e <;> first | rfl | cases hf)) ry).1 (known false o)
        · rw [if_neg hf] at o
          exact o.elim
      | some r2 =>
        obtain ⟨l, ys⟩ := r2
        obtain ⟨q, ws, e2, hw, rws⟩ := row_at h2 le m
        subst e2
        cases ry
        simp only [h1, h2] at o
        by_cases hkl : kk = l
        · subst hkl
          rw [if_pos rfl] at o
          unfold eqRow at o
          by_cases hl : (kk && xs.length != ys.length) = true
          · rw [if_pos hl] at o
            obtain ⟨l1, l2⟩ := He.ba hl
            subst l1
            have hn : vs.length ≠ ws.length := by rw [← rvs.len, ← rws.len]; simpa using l2
            exact both false (row_lens hu hn I hv hw) (known false o)
          · rw [if_neg hl] at o
            have hl2 : kk = true → xs.length = ys.length := fun z => by
              rw [z] at hl
              simpa using hl
            refine wpAny_mono (rows_go (Q := fun b _ _ H' => Q (b != ne) H') hu (eqx_go hnm F tk 4 X.A.in1 rfl (Room.in1 (hr.mono (by omega)))) ne h1 h2 hl2 I m ld le l0 ?_) (fun v s' z => ?_) fun _ _ z => z
            · cases q3 : eqAll (eqX S.T cf 4) xs ys st with
              | ok b st' =>
                rw [q3] at o
                refine fun g' H' l' m' => ?_
                have z := o g' H' l' m'
                rw [flip] at z
                exact z
              | er x st' => rw [q3] at o; exact o
              | no => rw [q3] at o; exact o
            · obtain ⟨b, rfl, H', g', st', I', l', m', q⟩ := z
              exact fin ⟨_, rfl, H', I', q⟩
        · rw [if_neg hkl] at o
          exact both false (row_kinds hu hkl I hv hw) (known false o)
end
end Snd
set_option Elab.async false
set_option linter.all false
namespace HT
open PySem PySem.Spec PyProof.Rows
section
variable {prog : Program} {w : World} {A : Around} {E : Value → Shared → Prop} {s : Shared} {l : Addr} {xs : Array (Int × Tok)}
end
end HT
namespace L2
open PySem PySem.Spec PyProof.Rows
section
variable {X : Cx}
end
end L2
set_option Elab.async false
set_option linter.all false
set_option maxRecDepth 100000
set_option maxHeartbeats 1000000
namespace Snd
open PySem PySem.Spec PyProof.Rows L2 Ev
section
variable {S : Src} {X : Cx} {W : WX} {nm : Nm} {cf : Nat → List D → Sto → R D} {k : Nat} {T : Tab} {pos : Pos}
theorem subscripted_true {slice : Expr} (h : ∀ l u p, slice ≠ .Slice l u none p) (o i : Value) : subscripted slice true o i = runValue (.builtin "lifetime.subscript" ⟨[o, i], []⟩) := by
  cases slice <;> first | rfl | (rename_i l u z p; cases z <;> first | rfl | exact absurd rfl (h _ _ _))
theorem insIx_of {me : Option (Addr × Addr)} (hnm : nm = nmE S me) (F : Facts S (co X) nm cf k) (hr : Room (k + 2) X.A) (tk : Takes X W) : InsIx X S.T nm W cf := by
  refine ⟨by have := hr.un; omega, ?_⟩
  subst hnm
  intro value slice pins s σ H g0 g ρ st c ds e x y u w Q hsl I m ld re rx ry l0 o
  obtain ⟨p, dx, od, ex, rr, J⟩ := ins_at ld m I
  subst ex
  cases rx
  obtain ⟨mm, hF⟩ := I.fr
  have z : ixE S.T cf (.ins c ds) e st = (match S.T.get c with
    | some f => cf f [.ins c ds, e] st
    | none => .no) := by
    cases re <;> rfl
  rw [z] at o
  cases hg : S.T.get c with
  | none => rw [hg] at o; exact o.elim
  | some f =>
    rw [hg] at o
    have hops := F.ops
    unfold opsB at hops
    have hg' : nameOf c S.get = some f := hg
    have hq := List.all_eq_true.mp (He.ba (He.ba (He.ba (He.ba (He.ba (He.ba (He.ba hops).2).2).2).2).2).2).1 _ (nameOf_mem hg')
    obtain ⟨_, hq⟩ := He.ba hq
    obtain ⟨q1, hq⟩ := He.ba hq
    obtain ⟨q2, q3⟩ := He.ba hq
    have own := own_of (me := me) q2
    exact PySem.W.sub_K hF I.ok.mod.kin J own.hs q3 own.hf (run_callA (A := X.A.in1) rfl (fnB_of F q1) (Room.in1 (hr.mono (by omega))) tk I (.cons (show RelV (V.ref p) (.ref p) from rfl) (.cons ry .nil)) rfl m (.cons rr (.cons re .nil)) l0 o) (subscripted_true hsl _ _)
theorem insLen_of {me : Option (Addr × Addr)} (hnm : nm = nmE S me) (F : Facts S (co X) nm cf k) (hr : Room (k + 2) X.A) (tk : Takes X W) : InsLen X S.T nm W cf := by
  subst hnm
  intro pins s σ H g0 g ρ st c ds x u Q I m ld rx l0 o
  obtain ⟨p, dx, od, ex, rr, J⟩ := ins_at ld m I
  subst ex
  cases rx
  obtain ⟨mm, hF⟩ := I.fr
  have o' : Out S.T (nmE S me) X.K W g0 ρ σ (fun d _ g' H' => ∀ v, RepR S.T (nmE S me) X.K g0 g' d v → Q v H') (match S.T.len c with
    | some f => (match cf f [.ins c ds] st with
      | .ok (.int n) st => if 0 ≤ n ∧ n < LINE then .ok (.int n) st else .no
      | .er x st => .er x st
      | _ => .no)
    | none => .no) := o
  cases hg : S.T.len c with
  | none => rw [hg] at o'; exact o'.elim
  | some f =>
    simp only [hg] at o'
    have hops := F.ops
    unfold opsB at hops
    have hg' : nameOf c S.len = some f := hg
    have hq := List.all_eq_true.mp (He.ba (He.ba (He.ba (He.ba (He.ba (He.ba (He.ba (He.ba hops).2).2).2).2).2).2).2).1 _ (nameOf_mem hg')
    obtain ⟨_, hq⟩ := He.ba hq
    obtain ⟨q1, q2⟩ := He.ba hq
    have own := own_of (me := me) q2
    have oc : Out S.T (nmE S me) X.K W g0 ρ σ (fun d _ g' H' => ∀ v, RepR S.T (nmE S me) X.K g0 g' d v → ∃ n : Int, v = .int n ∧ (0 ≤ n ∧ n < LINE) ∧ Q (.int n) H') (cf f [.ins c ds] st) := by
      cases z : cf f [.ins c ds] st with
      | ok d st1 =>
        rw [z] at o'
        cases d with
        | int n =>
          refine fun g' H' l' m' v r => ?_
          cases r
          by_cases hn : 0 ≤ n ∧ n < LINE
          · simp only [if_pos hn] at o'
            exact ⟨n, rfl, hn, o' g' H' l' m' _ (.int n)⟩
          · simp only [if_neg hn] at o'
            exact o'.elim
        | _ => exact o'.elim
      | er x st1 => rw [z] at o'; exact o'
      | no => rw [z] at o'; exact o'
    refine PySem.W.len_K hF I.ok.mod.kin J own.hs own.hf (wpAny_mono (run_callA (A := X.A.in1) rfl (fnB_of F q1) (Room.in1 (hr.mono (by omega))) tk I (.cons (show RelV (V.ref p) (.ref p) from rfl) .nil) rfl m (.cons rr .nil) l0 oc) (fun v s' z => ?_) fun _ _ z => z)
    obtain ⟨y, H', I', r, n, e, hn, q⟩ := z
    subst e
    obtain ⟨t, rfl⟩ := r
    have h63 : n < 2 ^ 63 := Int.lt_trans hn.2 (by decide)
    exact ⟨⟨hn.1, h63⟩, .int n, H', I'.tok _, ⟨_, rfl⟩, q⟩
theorem str_int (i : Int) : (toString i : Str) = strOf (strI i) := by
  show Str.ofString (toString i) = _
  rw [Str.ofString_eq_toList]
  unfold strI digitsOf strOf
  cases i with
  | ofNat n =>
    rw [if_neg (by show ¬ (Int.ofNat n < 0); simp)]
    show (⟨((Nat.repr n).toList.map Char.toNat).toArray⟩ : Str) = _
    unfold Nat.repr
    simp
  | negSucc n =>
    rw [if_pos (by omega)]
    show (⟨(("-" ++ Nat.repr (n + 1)).toList.map Char.toNat).toArray⟩ : Str) = _
    unfold Nat.repr
    simp
end
end Snd
set_option Elab.async false
set_option linter.all false
set_option maxRecDepth 100000
set_option maxHeartbeats 1000000
namespace Snd
open PySem PySem.Spec PyProof.Rows L2 Ev
section
variable {X : Cx} {T : Tab} {nm : Nm} {W : WX} {cf : Nat → List D → Sto → R D} {pos : Pos} {k : Nat}
theorem se_frz {e : Expr} {a : E} (h : PE X e (tE T nm X.K cf W a)) : PE X e (tE T nm X.K cf W (.frz a)) :=
  PE.imp h fun σ H Q ⟨g, ρ, st, m, o⟩ => ⟨g, ρ, st, m, Out.imp (Out.bind0 o) fun d st1 g1 H1 l1 m1 q v r => by
    obtain ⟨g2, l2, m2, r2⟩ := kept r m1 l1
    exact q g2 H1 l2 m2 v (RepR.plain r2 r2.plain)⟩
theorem rangeI_at {lo hi : Int} {i : Nat} (h : i < (hi - lo).toNat) : (rangeI lo hi)[i]? = some (lo + (i : Int)) := by
  unfold rangeI
  rw [List.getElem?_map, List.getElem?_range h]
  rfl
theorem rangeI_len {lo hi : Int} : (rangeI lo hi).length = (hi - lo).toNat := by
  unfold rangeI
  rw [List.length_map, List.length_range]
theorem rng_main {gb g1 : Gh} {D : Ends} {ρ : Rho} {st1 : Sto} {σ : L2.St} {H1 : Hp} {i : Nat} {b : Ev.S} {lo hi : Int} (m1 : Mt T nm X.K g1 ρ st1 σ H1) (lg : Le gb g1) (n : NoSlot gb)
    (q : OutS T nm X.K W gb D (forL (exS T cf b) [i] ((rangeI lo hi).map fun n => [.int n]) ρ st1)) :
    ∃ Wv : Nat → Nat → L2.St → Hp → Prop, (∃ m, Wv 0 m σ H1) ∧ ∀ j m σ H, Wv j m σ H →
      ((Itr lo (hi - lo).toNat).stop j H ∧ D.nx σ H) ∨ ((Itr lo (hi - lo).toNat).go j H ∧ ∃ N : L2.St → Hp → Prop, (∀ σ' H', N σ' H' → ∃ m', m' < m ∧ Wv (j + 1) m' σ' H') ∧ ∀ x H', (Itr lo (hi - lo).toNat).yld j H x H' → gName i x σ H' fun σ2 H2 => tS T nm X.K cf W b { D with nx := N, ct := N, bk := D.nx } σ2 H2) := by
  refine for_range (fun j σ' H' => ∃ g' ρ' st', Le (strip g1) g' ∧ Mt T nm X.K g' ρ' st' σ' H' ∧ OutS T nm X.K W (strip g1) D (forL (exS T cf b) [i] (((rangeI lo hi).map fun n => [Ev.D.int n]).drop j) ρ' st')) ⟨g1, ρ, st1, le_strip, m1, (q.base (le_to_strip n lg))⟩ (fun j σ' H' hj ⟨g', ρ', st', l', m', o'⟩ => ?_) (fun σ' H' ⟨g', ρ', st', l', m', o'⟩ => ?_)
  · have hj' : ((rangeI lo hi).map fun n => [Ev.D.int n])[j]? = some [.int (lo + (j : Int))] := by rw [List.getElem?_map, rangeI_at hj]; rfl
    rw [drop_at hj'] at o'
    have m2 := m'.set (i := i) (SlR.rep (H := H') (.int (lo + (j : Int))))
    exact turn_out m2 l' noSlot_strip (fun g2 ρ2 st2 σ2 H2 l2 m2 o2 => ⟨g2, ρ2, st2, l2, m2, o2⟩) o'
  · rw [List.drop_eq_nil_of_le (by rw [List.length_map, rangeI_len]; exact Nat.le_refl _)] at o'
    exact o' g' σ' H' l' m'
theorem out_len {as : Es} {g : Gh} {ρ : Rho} {σ : L2.St} {st : Sto} {P : List Ev.D → Sto → Gh → Hp → Prop} (o : Out T nm X.K W g ρ σ P (evA T cf as ρ st)) : Out T nm X.K W g ρ σ (fun ds st g H => ds.length = as.len ∧ P ds st g H) (evA T cf as ρ st) := by
  cases q : evA T cf as ρ st with
  | ok ds st1 =>
    rw [q] at o
    exact fun g' H' l m => ⟨evA_len q, o g' H' l m⟩
  | er x st1 => rw [q] at o; exact o
  | no => rw [q] at o; exact o
theorem rng_f {as : Es} {gb : Gh} {D : Ends} {ρ : Rho} {st : Sto} {i : Nat} {b : Ev.S} (o : OutS T nm X.K W gb D (exS T cf (.for_ [i] (.rng as) b) ρ st)) : OutS T nm X.K W gb D ((evA T cf as ρ st).f ρ fun ds st => match rngI ds with
    | some ns => forL (exS T cf b) [i] (ns.map fun n => [.int n]) ρ st
    | none => .no) := by
  have o' : OutS T nm X.K W gb D (((evA T cf as ρ st).bind fun ds st => R.of ((rngI ds).map fun ns => ns.map fun n => [.int n]) st).f ρ fun dss st => forL (exS T cf b) [i] dss ρ st) := by
    have e : exS T cf (.for_ [i] (.rng as) b) ρ st = (evI T cf (.rng as) ρ st).f ρ fun dss st => forL (exS T cf b) [i] dss ρ st := orF_no _ _ _
    rw [e] at o
    exact o
  cases q : evA T cf as ρ st with
  | ok ds st1 =>
    rw [q] at o'
    have o2 : OutS T nm X.K W gb D ((R.of ((rngI ds).map fun ns => ns.map fun n => [.int n]) st1).f ρ fun dss st => forL (exS T cf b) [i] dss ρ st) := o'
    show OutS T nm X.K W gb D (match rngI ds with
      | some ns => forL (exS T cf b) [i] (ns.map fun n => [.int n]) ρ st1
      | none => .no)
    cases q2 : rngI ds with
    | none => rw [q2] at o2; exact o2
    | some ds => rw [q2] at o2; exact o2
  | er xx st1 => rw [q] at o'; exact o'
  | no => rw [q] at o'; exact o'
theorem ss_forRng1 {e : Expr} {a : E} {i : Nat} {x : Str} {p p1 p2 : Pos} {body : List Stmt} {b : Ev.S} (hp : PassesOwn (model X.prog X.w) X.A X.env X.xe) (hc : X.calm = true) (hg : Gl X "range") (hm : X.mg "range" = none) (ha : PA X [e] (tA T nm X.K cf W (.cons a .nil))) (hN : X.N.Nodup) (hi : X.N[i]? = some x) (hx : Loc X.env.scope x) (hf : X.fn x = true ∨ X.env.scope.names.lookup x = some .local)
    (hb : PSs X body (tS T nm X.K cf W b)) (h1 : starEach [e] X.env = (false, eval e X.env) :: starEach [] X.env) : PS X (.For (.Name x p) (.Call (.Name "range" p1) [e] [] p2) body [] pos) (tS T nm X.K cf W (.for_ [i] (.rng (.cons a .nil)) b)) := by
  refine PS.imp (ps_for hp hc (pi_range1 hg hm ha h1) (pg_name hN hi hx hf) hb (fun _ => rfl)) fun D σ H ⟨gb, g, ρ, st, m, l, n, o⟩ => ⟨g, ρ, st, m, ?_⟩
  refine Out.imp (out_len (OutS.go (rng_f o) l)) fun ds st1 g1 H1 l1 m1 ⟨hl, q⟩ vs r => ?_
  match ds, vs, r, hl with
  | [d], [v], .cons r1 .nil, _ =>
    cases r1 with
    | int j =>
      by_cases hj : -(LINE : Int) < j ∧ j < LINE
      · simp only [rngI, if_pos hj] at q
        have hb1 : (LINE : Int) < 2 ^ 62 := by decide
        have z := rng_main (W := W) m1 (l.trans l1) n q
        rw [show (j - 0).toNat = j.toNat by rw [Int.sub_zero]] at z
        exact ⟨j, rfl, by omega, by omega, z⟩
      · simp only [rngI, if_neg hj] at q
        exact (show False from q).elim
    | _ => exact (show False from q).elim
end
end Snd
set_option Elab.async false
set_option linter.all false
set_option maxRecDepth 100000
set_option maxHeartbeats 1000000
namespace Snd
open PySem PySem.Spec PyProof.Rows L2 Ev
section
variable {X : Cx} {T : Tab} {nm : Nm} {W : WX} {cf : Nat → List D → Sto → R D} {pos : Pos} {k : Nat}
end
end Snd
set_option Elab.async false
set_option linter.all false
set_option maxRecDepth 100000
set_option maxHeartbeats 1000000
namespace Snd
open PySem PySem.Spec PyProof.Rows L2 Ev
section
variable {X : Cx} {T : Tab} {nm : Nm} {K : PySem.W.Frag} {W : WX} {cf : Nat → List D → Sto → R D} {pos : Pos} {k : Nat} {g g2 : Gh} {ρ : Rho} {st st2 : Sto} {σ : L2.St} {H H2 : Hp}
theorem Mt.held_upd (m : Mt T nm K g ρ st σ H) {p : Addr} {o : HO} (ws : List V) (h1 : g p = some (.held o)) : Mt T nm K (put g p (.held (.lst ws))) ρ st σ (upd H p (.lst ws)) ∧ Lim g (put g p (.held (.lst ws))) := by
  have pn : ∀ a t, g a = some t → (∀ o, t ≠ .held o) → a ≠ p := fun a t e n z => by
    rw [z, h1] at e
    cases e
    exact n o rfl
  have lm : Lim g (put g p (.held (.lst ws))) := ⟨fun a o e => by rw [put_ne (pn a _ e (fun _ z => nomatch z))]; exact e, fun a j e => by rw [put_ne (pn a _ e (fun _ z => nomatch z))]; exact e⟩
  have ob : ∀ a t, put g p (.held (.lst ws)) a = some t → (∀ o, t ≠ .held o) → a ≠ p ∧ g a = some t := fun a t e n => by
    by_cases z : a = p
    · subst z
      rw [put_same] at e
      cases e
      exact absurd rfl (n _)
    · rw [put_ne z] at e
      exact ⟨z, e⟩
  refine ⟨⟨⟨fun a o e => ?_, fun a o e => ?_, fun j b e => ?_, fun a j e => m.stl a j (ob a _ e (fun _ z => nomatch z)).2, fun a b j e f => m.uniq a b j (ob a _ e (fun _ z => nomatch z)).2 (ob b _ f (fun _ z => nomatch z)).2, fun a t e => ?_⟩, m.len, fun j d z => ?_⟩, lm⟩
  · obtain ⟨n, e'⟩ := ob a _ e (fun _ z => nomatch z)
    rw [upd_ne n]
    exact m.imm a o e'
  · by_cases n : a = p
    · subst n
      rw [put_same] at e
      cases e
      exact upd_same
    · rw [put_ne n] at e
      rw [upd_ne n]
      exact m.held a o e
  · obtain ⟨a, o', e1, e2, rr⟩ := m.sto j b e
    have n := pn a _ e1 (fun _ z => nomatch z)
    exact ⟨a, o', by rw [put_ne n]; exact e1, by rw [upd_ne n]; exact e2, rr.mono lm⟩
  · by_cases n : a = p
    · subst n
      exact ⟨_, upd_same⟩
    · rw [upd_ne n]
      rw [put_ne n] at e
      exact m.trk a t e
  · obtain ⟨w, h3, h4⟩ := m.slots j d z
    exact ⟨w, h3, h4.mono lm fun q e3 => ⟨by rw [put_ne (pn q _ e3 (fun _ z => nomatch z))]; exact e3, upd_ne (pn q _ e3 (fun _ z => nomatch z))⟩⟩
theorem Mt.back (m : Mt T nm K g ρ st σ H) {i : Nat} {x : Option D} {v : Option V} (l : Le g g2) (hp : plainO ρ[i]? = true) (m2 : Mt T nm K g2 (ρ.set i x) st2 (σ.set i v) H2) : Mt T nm K g2 ρ st2 σ H2 := by
  refine ⟨m2.toMt0, m.len, fun j d z => ?_⟩
  by_cases e : i = j
  · subst e
    obtain ⟨w, h1, h2⟩ := m.slots i d z
    rw [z] at hp
    refine ⟨w, h1, ?_⟩
    cases d with
    | own ds => cases hp
    | obj c ds => cases hp
    | exc c ds => cases hp
    | _ => exact Rep.mono l.lim h2
  · obtain ⟨w, h1, h2⟩ := m2.slots j d (by rw [List.getElem?_set_ne e]; exact z)
    rw [List.getElem?_set_ne e] at h1
    exact ⟨w, h1, h2⟩
def WN : WX := fun _ _ _ _ => False
theorem compL_nil {el : Rho → Sto → R D} {te : Rho → Sto → R Bool} {is : List Nat} {acc : List D} : compL el te ρ is [] acc st = .ok acc st := by rw [compL]
theorem compL_cons {el : Rho → Sto → R D} {te : Rho → Sto → R Bool} {i : Nat} {d : D} {r : List (List D)} {acc ds : List D} {st' : Sto} (h : compL el te ρ [i] ([d] :: r) acc st = .ok ds st') :
    ∃ b st1, te (ρ.set i (some d)) st = .ok b st1 ∧ ((b = false ∧ compL el te ρ [i] r acc st1 = .ok ds st') ∨ (b = true ∧ acc.length < LINE ∧ ∃ y st2, el (ρ.set i (some d)) st1 = .ok y st2 ∧ compL el te ρ [i] r (acc ++ [fz y]) st2 = .ok ds st')) := by
  rw [compL] at h
  simp only [setAll] at h
  cases q : te (ρ.set i (some d)) st with
  | ok b st1 =>
    rw [q] at h
    refine ⟨b, st1, rfl, ?_⟩
    cases b with
    | false => exact .inl ⟨rfl, h⟩
    | true =>
      refine .inr ⟨rfl, ?_⟩
      simp only [bind_ok, if_true] at h
      cases q2 : el (ρ.set i (some d)) st1 with
      | ok y st2 =>
        rw [q2] at h
        simp only [bind_ok] at h
        by_cases hl : acc.length < LINE
        · rw [if_pos hl] at h
          exact ⟨hl, y, st2, rfl, h⟩
        · rw [if_neg hl] at h
          cases h
      | er x st2 => rw [q2] at h; cases h
      | no => rw [q2] at h; cases h
  | er x st1 => rw [q] at h; cases h
  | no => rw [q] at h; cases h
theorem wipe_set {i : Nat} {x : Option V} : (wipe σ [i]).set i x = σ.set i x := by
  show (σ.set i none).set i x = _
  rw [List.set_set]
theorem wipe_again {i : Nat} {x : Option V} : wipe (σ.set i x) [i] = wipe σ [i] := by
  show (σ.set i x).set i none = σ.set i none
  rw [List.set_set]
def grdG (G : Sto → Bool) (te : Rho → Sto → R Bool) : Rho → Sto → R Bool := fun ρ st => if G st then te ρ st else .no
theorem grdG_ok {G : Sto → Bool} {te : Rho → Sto → R Bool} {b : Bool} {sb : Sto} (h : grdG G te ρ st = .ok b sb) : G st = true := by
  unfold grdG at h
  by_cases c : G st = true
  · exact c
  · rw [if_neg c] at h; cases h
theorem comp_mainG (G : Sto → Bool) {J : L2.It} {items : List D} {g0 g1 : Gh} {st1 : Sto} {H1 : Hp} {i : Nat} {e : E} {t : Tt} {Q : VK} {D : Addr} {ds : List Ev.D} (m1 : Mt T nm K g1 ρ st1 σ H1) (l0 : Le g0 g1) (hD : H1 D = none) (hp : plainO ρ[i]? = true)
    (hJ : ∀ g' st' H', Le g1 g' → Mt T nm K g' ρ st' σ H' → G st' = true → (∀ j, j < items.length → J.go j H') ∧ J.stop items.length H' ∧ ∀ j x H'', j < items.length → J.yld j H' x H'' → H'' = H' ∧ ∃ d, items[j]? = some d ∧ Rep T nm K g' d x)
    (hc : compL (evE T cf e) (grdG G (evT T cf t)) ρ [i] (items.map fun d => [d]) [] st1 = .ok ds st2)
    (hE : G st2 = true) (hQ : ∀ g' H', Le g0 g' → Mt T nm K g' ρ st2 σ H' → RepR T nm K g0 g' (.own ds) (.ref D) → Q (.ref D) H') :
    ∃ Wv : Nat → Nat → Hp → Prop, (∃ m, Wv 0 m (upd H1 D (.lst []))) ∧ ∀ j m H, Wv j m H →
      (J.stop j H ∧ Q (.ref D) H) ∨ (J.go j H ∧ ∃ Nx : Hp → Prop, (∀ H', Nx H' → ∃ m', m' < m ∧ Wv (j + 1) m' H') ∧ ∀ x H', J.yld j H x H' → gName i x (wipe σ [i]) H' fun σ2 H2 => wipe σ2 [i] = wipe σ [i] ∧ tT T nm K cf WN t σ2 H2 fun b H3 =>
        if b = true then tE T nm K cf WN e σ2 H3 fun y H4 => ∃ acc, H4 D = some (.lst acc) ∧ acc.length < sizeLine ∧ Nx (upd H4 D (.lst (acc ++ [y]))) else Nx H3) := by
  have gD : g1 D = none := by
    cases z : g1 D with
    | none => rfl
    | some t =>
      obtain ⟨o, e⟩ := m1.trk _ _ z
      rw [hD] at e
      cases e
  have gD0 : g0 D = none := by
    cases z : g0 D with
    | none => rfl
    | some t => rw [l0 _ _ z] at gD; cases gD
  refine ⟨fun j m H => m = items.length - j ∧ j ≤ items.length ∧ ∃ g' st' acc vacc, Le g1 g' ∧ Mt T nm K g' ρ st' σ H ∧ g' D = some (.held (.lst vacc)) ∧ Reps T nm K g' acc vacc ∧ compL (evE T cf e) (grdG G (evT T cf t)) ρ [i] ((items.drop j).map fun d => [d]) acc st' = .ok ds st2,
    ⟨_, rfl, Nat.zero_le _, put g1 D (.held (.lst [])), st1, [], [], le_put gD, m1.new hD (.inr rfl), put_same, .nil, by rw [List.drop_zero]; exact hc⟩, ?_⟩
  rintro j m H ⟨rfl, hj, g', st', acc, vacc, l', m', hd, ra, hc'⟩
  by_cases hlt : j < items.length
  · have gs : G st' = true := by
      obtain ⟨d, hd⟩ : ∃ d, items[j]? = some d := ⟨_, List.getElem?_eq_getElem hlt⟩
      have hc2 := hc'
      rw [drop_at hd, List.map_cons] at hc2
      obtain ⟨b, sb, hb, _⟩ := compL_cons hc2
      exact grdG_ok hb
    obtain ⟨hgo, hstop, hyld⟩ := hJ g' st' H l' m' gs
    refine .inr ⟨hgo j hlt, fun H' => ∃ g' st' acc vacc, Le g1 g' ∧ Mt T nm K g' ρ st' σ H' ∧ g' D = some (.held (.lst vacc)) ∧ Reps T nm K g' acc vacc ∧ compL (evE T cf e) (grdG G (evT T cf t)) ρ [i] ((items.drop (j + 1)).map fun d => [d]) acc st' = .ok ds st2,
      fun H' p => ⟨items.length - (j + 1), by omega, rfl, hlt, p⟩, fun x H' hy => ?_⟩
    obtain ⟨eH, d, hi, rd⟩ := hyld j x H' hlt hy
    subst eH
    rw [drop_at hi, List.map_cons] at hc'
    obtain ⟨b, sb, hb, hcase⟩ := compL_cons hc'
    have hgn : ∀ k : L2.St → Hp → Prop, k (σ.set i (some x)) H' → gName i x (wipe σ [i]) H' k := fun k h => by
      show k ((wipe σ [i]).set i (some x)) H'
      rw [wipe_set]
      exact h
    refine hgn _ ⟨wipe_again, g', ρ.set i (some d), st', m'.set (SlR.rep rd), ?_⟩
    rw [show evT T cf t (ρ.set i (some d)) st' = .ok b sb by rw [← hb]; unfold grdG; rw [if_pos gs]]
    intro g2 H3 l2 m2
    rcases hcase with ⟨rfl, hr⟩ | ⟨rfl, hl, y, sy, hy2, hr⟩
    · simp only [Bool.false_eq_true, if_false]
      exact ⟨g2, sb, acc, vacc, l'.trans l2, m'.back l2 hp m2, l2 _ _ hd, ra.mono l2.lim, hr⟩
    · simp only [if_true]
      refine ⟨g2, ρ.set i (some d), sb, m2, ?_⟩
      rw [hy2]
      intro g3 H4 l3 m3 v r
      obtain ⟨g4, l4, m4, r4⟩ := kept r m3 l3
      have l24 := l2.trans l4
      have mb := m'.back l24 hp m4
      have hd4 := l24 _ _ hd
      refine ⟨vacc, mb.held _ _ hd4, by rw [← ra.len]; exact line_lt hl, ?_⟩
      obtain ⟨m5, lm5⟩ := mb.held_upd (vacc ++ [v]) hd4
      refine ⟨_, sy, acc ++ [fz y], vacc ++ [v], fun a t z => ?_, m5, put_same, ((ra.mono l24.lim).append (.cons r4 .nil)).mono lm5, hr⟩
      have na : a ≠ D := fun q => by rw [q, gD] at z; cases z
      rw [put_ne na]
      exact (l'.trans l24) _ _ z
  · have e0 : j = items.length := by omega
    subst e0
    rw [List.drop_eq_nil_of_le (Nat.le_refl _), List.map_nil, compL_nil] at hc'
    cases hc'
    obtain ⟨hgo, hstop, hyld⟩ := hJ g' _ H l' m' hE
    exact .inl ⟨hstop, hQ g' H (l0.trans l') m' ⟨D, vacc, rfl, hd, gD0, ra⟩⟩
theorem comp_main {J : L2.It} {items : List D} {g0 g1 : Gh} {st1 : Sto} {H1 : Hp} {i : Nat} {e : E} {t : Tt} {Q : VK} {D : Addr} {ds : List Ev.D} (m1 : Mt T nm K g1 ρ st1 σ H1) (l0 : Le g0 g1) (hD : H1 D = none) (hp : plainO ρ[i]? = true)
    (hJ : ∀ g' st' H', Le g1 g' → Mt T nm K g' ρ st' σ H' → (∀ j, j < items.length → J.go j H') ∧ J.stop items.length H' ∧ ∀ j x H'', j < items.length → J.yld j H' x H'' → H'' = H' ∧ ∃ d, items[j]? = some d ∧ Rep T nm K g' d x)
    (hc : compL (evE T cf e) (evT T cf t) ρ [i] (items.map fun d => [d]) [] st1 = .ok ds st2)
    (hQ : ∀ g' H', Le g0 g' → Mt T nm K g' ρ st2 σ H' → RepR T nm K g0 g' (.own ds) (.ref D) → Q (.ref D) H') :
    ∃ Wv : Nat → Nat → Hp → Prop, (∃ m, Wv 0 m (upd H1 D (.lst []))) ∧ ∀ j m H, Wv j m H →
      (J.stop j H ∧ Q (.ref D) H) ∨ (J.go j H ∧ ∃ Nx : Hp → Prop, (∀ H', Nx H' → ∃ m', m' < m ∧ Wv (j + 1) m' H') ∧ ∀ x H', J.yld j H x H' → gName i x (wipe σ [i]) H' fun σ2 H2 => wipe σ2 [i] = wipe σ [i] ∧ tT T nm K cf WN t σ2 H2 fun b H3 =>
        if b = true then tE T nm K cf WN e σ2 H3 fun y H4 => ∃ acc, H4 D = some (.lst acc) ∧ acc.length < sizeLine ∧ Nx (upd H4 D (.lst (acc ++ [y]))) else Nx H3) := by
  have e : grdG (fun _ => true) (evT T cf t) = evT T cf t := by
    funext ρ st
    unfold grdG
    rw [if_pos rfl]
  exact comp_mainG (G := fun _ => true) m1 l0 hD hp (fun g' st' H' l m _ => hJ g' st' H' l m) (by rw [e]; exact hc) rfl hQ
end
section
variable {X : Cx} {T : Tab} {nm : Nm} {W : WX} {cf : Nat → List D → Sto → R D} {pos : Pos} {k : Nat} {g g1 : Gh} {ρ : Rho} {st st1 : Sto} {σ : L2.St} {H H1 : Hp}
theorem comp_go {i : Nat} {e : E} {t : Tt} {P : D → Sto → Gh → Hp → Prop} {dss : List (List D)} (o : Out T nm X.K W g ρ σ P (if [i].all fun i => plainO ρ[i]? then (match compL (evE T cf e) (evT T cf t) ρ [i] dss [] st1 with
    | .ok ds st => .ok (.own ds) st
    | _ => .no) else .no)) : plainO ρ[i]? = true ∧ ∃ ds st2, compL (evE T cf e) (evT T cf t) ρ [i] dss [] st1 = .ok ds st2 ∧ Out T nm X.K W g ρ σ P (.ok (.own ds) st2) := by
  by_cases h : ([i].all fun i => plainO ρ[i]?) = true
  · rw [if_pos h] at o
    refine ⟨by simpa using h, ?_⟩
    cases q : compL (evE T cf e) (evT T cf t) ρ [i] dss [] st1 with
    | ok ds st2 => rw [q] at o; exact ⟨ds, st2, rfl, o⟩
    | er x st2 => rw [q] at o; exact o.elim
    | no => rw [q] at o; exact o.elim
  · rw [if_neg h] at o
    exact o.elim
theorem comp_rng_eq {is : List Nat} {e : E} {as : Es} {t : Tt} : evE T cf (.comp is e (.rng as) t) ρ st = (evI T cf (.rng as) ρ st).bind fun dss st => if is.all fun i => plainO ρ[i]? then (match compL (evE T cf e) (evT T cf t) ρ is dss [] st with
    | .ok ds st => .ok (.own ds) st
    | _ => .no) else .no := orR_no _ _
theorem pts_none : PTs X [] (tT T nm X.K cf WN (.e (.bl true))) := ⟨fun pins s σ H Q I ⟨g, ρ, st, m, o⟩ => pts_nil.run pins s σ H Q I (show Q true H from Out.ok (show Out T nm X.K WN g ρ σ (fun b _ _ H' => Q b H') (.ok true st) from o) m)⟩
variable {elt iter tgt : Expr} {ifs : List Expr} {scope : Scope} {x : Str} {i : Nat} {px : Pos} {e : E} {t : Tt}
theorem rng_J {lo hi : Int} : ∀ g' st' H', Le g1 g' → Mt T nm X.K g' ρ st' σ H' → (∀ j, j < ((rangeI lo hi).map D.int).length → (Itr lo (hi - lo).toNat).go j H') ∧ (Itr lo (hi - lo).toNat).stop ((rangeI lo hi).map D.int).length H' ∧ ∀ j x H'', j < ((rangeI lo hi).map D.int).length → (Itr lo (hi - lo).toNat).yld j H' x H'' → H'' = H' ∧ ∃ d, ((rangeI lo hi).map D.int)[j]? = some d ∧ Rep T nm X.K g' d x := fun g' st' H' l m => by
  have ln : ((rangeI lo hi).map D.int).length = (hi - lo).toNat := by rw [List.length_map, rangeI_len]
  rw [ln]
  refine ⟨fun j hj => hj, Nat.le_refl _, fun j x H'' hj ⟨e1, e2⟩ => ⟨e1, .int (lo + (j : Int)), ?_, ?_⟩⟩
  · rw [List.getElem?_map, rangeI_at hj]; rfl
  · rw [e2]; exact .int _
theorem rng_maps {lo hi : Int} : ((rangeI lo hi).map fun n => [D.int n]) = ((rangeI lo hi).map D.int).map fun d => [d] := by rw [List.map_map]; rfl
theorem lcR1_imp {a : E} (σ : L2.St) (H : Hp) (Q : VK) (h : tE T nm X.K cf W (.comp [i] e (.rng (.cons a .nil)) t) σ H Q) : tLc (iRng1 (tA T nm X.K cf W (.cons a .nil))) (gName i) (tT T nm X.K cf WN t) (tE T nm X.K cf WN e) [i] σ H Q := by
    obtain ⟨g, ρ, st, m, o⟩ := h
    refine ⟨g, ρ, st, m, Out.imp (out_len (Out.bind0 (Out.bind0 (comp_rng_eq (T := T) ▸ o)))) fun ds st1 g1 H1 l1 m1 ⟨hl, q⟩ vs r => ?_⟩
    match ds, vs, r, hl with
    | [d], [v], .cons r1 .nil, _ =>
      cases r1 with
      | int j =>
        by_cases hj : -(LINE : Int) < j ∧ j < LINE
        · simp only [rngI, if_pos hj] at q
          have hb1 : (LINE : Int) < 2 ^ 62 := by decide
          obtain ⟨hp, ds2, st2, hcl, q3⟩ := comp_go (q g1 H1 l1 m1)
          simp only [rng_maps] at hcl
          refine ⟨j, rfl, by omega, by omega, fun D hD => ?_⟩
          have z := comp_main (e := e) (t := t) (Q := Q) m1 l1 hD hp rng_J hcl fun g' H' l m r => q3 g' H' l m _ r
          rw [show (j - 0).toNat = j.toNat by rw [Int.sub_zero]] at z
          exact z
        · simp only [rngI, if_neg hj] at q
          exact (show False from q).elim
      | _ => exact (show False from q).elim
theorem se_compR1 {e1 : Expr} {p1 p2 : Pos} {a : E} (hc : X.calm = true) (hN : X.N.Nodup) (hgl : Gl X "range") (hm : X.mg "range" = none) (ha : PA X [e1] (tA T nm X.K cf W (.cons a .nil))) (ok : BlkOk X.N X.env.scope scope [(x, i)])
    (hg : ∀ (s : Shared) (H : Hp) (C : Addr) (cl : List (Str × Addr)) (fp : List Addr), PG (X.blk s H scope (compEnvC scope cl C X.env) fp) tgt (gName i))
    (ht : ∀ (s : Shared) (H : Hp) (C : Addr) (cl : List (Str × Addr)) (fp : List Addr), PTs (X.blk s H scope (compEnvC scope cl C X.env) fp) ifs (tT T nm X.K cf WN t))
    (he : ∀ (s : Shared) (H : Hp) (C : Addr) (cl : List (Str × Addr)) (fp : List Addr), PE (X.blk s H scope (compEnvC scope cl C X.env) fp) elt (tE T nm X.K cf WN e)) (h1 : starEach [e1] X.env = (false, eval e1 X.env) :: starEach [] X.env) :
    PE X (.ListComp elt [⟨tgt, .Call (.Name "range" p1) [e1] [] p2, ifs, 0⟩] scope pos) (tE T nm X.K cf W (.comp [i] e (.rng (.cons a .nil)) t)) :=
  PE.imp (pe_lc hc hN (pi_range1 hgl hm ha h1) ok hg ht he) fun σ H Q h => lcR1_imp σ H Q h
end
end Snd
set_option Elab.async false
set_option linter.all false
set_option maxRecDepth 100000
set_option maxHeartbeats 1000000
namespace Snd
open PySem PySem.Spec PyProof.Rows L2
def ItAt (q : Bool) (h : Heap) (it l : Addr) (i : Nat) : Prop := match q with
  | true => h.IsListIter it l i
  | false => h.IsTupleIter it l i
def SqAt (q : Bool) (h : Heap) (l : Addr) (xs : Array Value) : Prop := match q with
  | true => h.IsList l xs
  | false => h.IsTuple l xs
section
variable {h h' : Heap} {q q2 : Bool} {it l b : Addr} {i : Nat} {xs : Array Value}
theorem ItAt.obj (x : ItAt q h it l i) : ∃ o fs, h.get? it = some o ∧ o.data = .fields fs := by
  cases q
  · obtain ⟨o, ho, _, hd⟩ := x
    exact ⟨o, _, ho, hd⟩
  · obtain ⟨o, ho, _, hd⟩ := x
    exact ⟨o, _, ho, hd⟩
theorem ItAt.lt (x : ItAt q h it l i) : it < h.objs.size := by
  obtain ⟨o, fs, ho, _⟩ := x.obj
  exact Heap.lt_size ho
theorem SqAt.lt (x : SqAt q h l xs) : l < h.objs.size := by
  cases q
  · obtain ⟨o, ho, _⟩ := x
    exact Heap.lt_size ho
  · obtain ⟨o, ho, _⟩ := x
    exact Heap.lt_size ho
end
section
variable {prog : Program} {w : World} {A : Around} {E : Value → Shared → Prop} {s : Shared} {q q2 : Bool}
end

section
variable {prog : Program} {w : World} {A : Around} {E : Value → Shared → Prop} {s : Shared} {q q2 : Bool}
end
section
variable {prog : Program} {w : World} {A : Around} {E : Value → Shared → Prop} {s : Shared} {q q2 : Bool}
end
section
variable {prog : Program} {w : World} {A : Around} {E : Value → Shared → Prop} {s : Shared} {q q2 : Bool}
end
section
variable {prog : Program} {w : World} {A : Around} {E : Value → Shared → Prop} {s : Shared} {q q2 : Bool}
end
end Snd
set_option Elab.async false
set_option linter.all false
set_option maxRecDepth 100000
set_option maxHeartbeats 1000000
namespace Snd
open PySem PySem.Spec PyProof.Rows L2
section
variable {X : Cx} {pins : List (Addr × Obj)} {σ : L2.St} {H : Hp} {s : Shared} {q q2 : Bool} {a b : Addr} {xs ys : List V}
end
end Snd
set_option Elab.async false
set_option linter.all false
set_option maxRecDepth 100000
set_option maxHeartbeats 1000000
namespace Snd
open PySem PySem.Spec PyProof.Rows L2 Ev
section
variable {X : Cx} {T : Tab} {nm : Nm} {W : WX} {cf : Nat → List D → Sto → R D} {pos : Pos} {k : Nat} {g g0 g1 gb : Gh} {ρ : Rho} {st st1 st2 : Sto} {σ : L2.St} {H H1 : Hp}
end
end Snd
set_option Elab.async false
set_option linter.all false
set_option maxRecDepth 100000
set_option maxHeartbeats 1000000
namespace Snd
open PySem PySem.Spec PyProof.Rows L2 Ev
section
variable {X : Cx} {T : Tab} {nm : Nm} {K : PySem.W.Frag} {W : WX} {cf : Nat → List D → Sto → R D} {pos : Pos} {k : Nat} {g g2 : Gh} {ρ : Rho} {st st2 : Sto} {σ : L2.St} {H H2 : Hp}
end
section
variable {X : Cx} {T : Tab} {nm : Nm} {W : WX} {cf : Nat → List D → Sto → R D} {pos : Pos} {k : Nat} {g g1 : Gh} {ρ : Rho} {st st1 : Sto} {σ : L2.St} {H H1 : Hp} {elt iter tgt : Expr} {ifs : List Expr} {scope : Scope} {i j : Nat} {e : E} {t : Tt}
end
end Snd
set_option Elab.async false
set_option linter.all false
set_option maxRecDepth 100000
set_option maxHeartbeats 1000000
namespace Snd
open PySem PySem.Spec PyProof.Rows L2 Ev
section
variable {X : Cx} {T : Tab} {nm : Nm} {W : WX} {cf : Nat → List D → Sto → R D} {pos p2 : Pos} {k : Nat}
end
end Snd
set_option Elab.async false
set_option linter.all false
set_option maxRecDepth 100000
set_option maxHeartbeats 1000000
namespace Snd
open PySem PySem.Spec PyProof.Rows L2 Ev
section
variable {S : Src} {X : Cx} {T : Tab} {nm : Nm} {W : WX} {cf : Nat → List D → Sto → R D} {pos : Pos} {k : Nat}
end
end Snd
set_option Elab.async false
set_option linter.all false
set_option maxRecDepth 100000
set_option maxHeartbeats 1000000
namespace Snd
open PySem PySem.Spec PyProof.Rows L2 Ev
section
variable {X : Cx} {T : Tab} {nm : Nm} {K : PySem.W.Frag} {W : WX} {cf : Nat → List D → Sto → R D} {pos : Pos} {k : Nat} {g g0 g1 g2 gb : Gh} {ρ : Rho} {st st1 st2 : Sto} {σ : L2.St} {H H1 H2 : Hp}
theorem Mt.storedO (m : Mt T nm K g ρ st σ H) {p : Addr} {o : HO} {ob : Ob} (h : g p = some (.held o)) (r : ObR T nm K g p ob o) : Mt T nm K (put g p (.sto st.length)) ρ (st ++ [ob]) σ H ∧ Lim g (put g p (.sto st.length)) := by
  have hp := m.held _ _ h
  have lm : Lim g (put g p (.sto st.length)) := ⟨fun a o e => by rw [put_ne (fun z => by rw [z, h] at e; cases e)]; exact e, fun a k e => by rw [put_ne (fun z => by rw [z, h] at e; cases e)]; exact e⟩
  have old : ∀ a u, a ≠ p → put g p (.sto st.length) a = some u → g a = some u := fun a u n e => by rw [put_ne n] at e; exact e
  refine ⟨⟨⟨fun a o' e => ?_, fun a o' e => ?_, fun k ob e => ?_, fun a k e => ?_, fun a b k e1 e2 => ?_, fun a u e => ?_⟩, m.len, fun i d e => ?_⟩, lm⟩
  · by_cases n : a = p
    · subst n
      rw [put_same] at e
      cases e
    · exact m.imm a o' (old a _ n e)
  · by_cases n : a = p
    · subst n
      rw [put_same] at e
      cases e
    · exact m.held a o' (old a _ n e)
  · by_cases n : k < st.length
    · rw [List.getElem?_append_left n] at e
      obtain ⟨a, o', e1, e2, r⟩ := m.sto k ob e
      exact ⟨a, o', lm.2 _ _ e1, e2, r.mono lm⟩
    · rw [List.getElem?_append_right (by omega)] at e
      have hk : k = st.length := by
        cases q : k - st.length with
        | zero => omega
        | succ j => rw [q] at e; simp at e
      subst hk
      simp at e
      subst e
      exact ⟨p, _, put_same, hp, r.mono lm⟩
  · rw [List.length_append]
    by_cases n : a = p
    · subst n
      rw [put_same] at e
      cases e
      exact Nat.lt_succ_self _
    · exact Nat.lt_succ_of_lt (m.stl a k (old a _ n e))
  · by_cases na : a = p
    · by_cases nb : b = p
      · rw [na, nb]
      · subst na
        rw [put_same] at e1
        cases e1
        have z := m.stl b _ (old b _ nb e2)
        exact absurd z (Nat.lt_irrefl _)
    · by_cases nb : b = p
      · subst nb
        rw [put_same] at e2
        cases e2
        have z := m.stl a _ (old a _ na e1)
        exact absurd z (Nat.lt_irrefl _)
      · exact m.uniq a b k (old a _ na e1) (old b _ nb e2)
  · by_cases n : a = p
    · subst n
      exact ⟨_, hp⟩
    · exact m.trk a u (old a _ n e)
  · obtain ⟨v, e1, r⟩ := m.slots i d e
    refine ⟨v, e1, r.mono lm fun q e2 => ⟨?_, rfl⟩⟩
    rw [put_ne (fun z => by rw [z, h] at e2; cases e2)]
    exact e2
end
section
variable {X : Cx} {T : Tab} {nm : Nm} {W : WX} {cf : Nat → List D → Sto → R D} {pos : Pos} {k : Nat} {g g0 g1 g2 gb : Gh} {ρ : Rho} {st st1 st2 : Sto} {σ : L2.St} {H H1 H2 : Hp}
end
end Snd
set_option Elab.async false
set_option linter.all false
set_option maxRecDepth 100000
set_option maxHeartbeats 1000000
namespace Snd
open PySem PySem.Spec PyProof.Rows L2 Ev
section
variable {X : Cx} {T : Tab} {nm : Nm} {K : PySem.W.Frag} {W : WX} {cf : Nat → List D → Sto → R D} {pos : Pos} {g g2 : Gh} {ρ : Rho} {st st2 : Sto} {σ : L2.St} {H H2 : Hp}
end
section
variable {X : Cx} {T : Tab} {nm : Nm} {W : WX} {cf : Nat → List D → Sto → R D} {pos : Pos} {g g2 : Gh} {ρ : Rho} {st st2 : Sto} {σ : L2.St} {H H2 : Hp}
end
end Snd
set_option Elab.async false
set_option linter.all false
set_option maxRecDepth 100000
set_option maxHeartbeats 1000000
namespace Snd
open PySem PySem.Spec PyProof.Rows L2 Ev
section
variable {X : Cx} {T : Tab} {nm : Nm} {W : WX} {cf : Nat → List D → Sto → R D} {pos : Pos} {g g2 : Gh} {ρ : Rho} {st st2 : Sto} {σ : L2.St} {H H2 : Hp}
def del (g : Gh) (D : Addr) : Gh := fun a => if a = D then none else g a
end
end Snd
set_option Elab.async false
set_option linter.all false
set_option maxRecDepth 100000
namespace Snd
open PySem PySem.Spec PyProof.Rows L2 Ev
def plainX : Expr → Bool
  | .Starred _ _ => false
  | _ => true
def plainXs : List Expr → Bool
  | [] => true
  | e :: r => plainX e && plainXs r
theorem star_of {e : Expr} {es : List Expr} {env : Env} (h : plainX e = true) : starEach (e :: es) env = (false, eval e env) :: starEach es env := by
  cases e <;> first | rfl | cases h
theorem stars_of : ∀ {es : List Expr} {env : Env} {pos : Pos}, plainXs es = true → (backTo pos (starEach es env)).any (·.1) = false
  | [], _, _, _ => rfl
  | e :: es, env, pos, h => by
    obtain ⟨h1, h2⟩ := He.ba h
    rw [star_of h1]
    exact stars_of h2
def noComp : Expr → Bool
  | .ListComp _ _ _ _ => false
  | .SetComp _ _ _ _ => false
  | .DictComp _ _ _ _ _ => false
  | _ => true
theorem swaps_of {e : Expr} {t : Option Expr} {l : Nat} {env : Env} (h : noComp e = true) : swapsWith e t l env = pure false := by
  cases e <;> first | rfl | cases h
def noCall : Expr → Bool
  | .Call (.Name _ _) [] [] _ => false
  | _ => true
theorem abase_of {e : Expr} {x : Str} {env : Env} (h : noCall e = true) : attributeBase e x env (eval e env) = eval e env := by
  cases e with
  | Call f as ks p =>
    cases f with
    | Name i q => cases as with
      | nil => cases ks with
        | nil => cases h
        | cons _ _ => rfl
      | cons _ _ => rfl
    | _ => rfl
  | _ => rfl
def noSet : Expr → Bool
  | .Set _ _ _ => false
  | _ => true
theorem noSet_of {e : Expr} (h : noSet e = true) : ∀ es k p, e ≠ .Set es k p := fun es k p z => by
  subst z
  cases h
def noSlice : Expr → Bool
  | .Slice _ _ _ _ => false
  | _ => true
theorem noSlice_of {e : Expr} (h : noSlice e = true) : ∀ l u s p, e ≠ .Slice l u s p := fun l u s p z => by
  subst z
  cases h
def byVal : Expr → Bool
  | .UnaryOp .Not _ _ => false
  | .BoolOp _ _ _ => false
  | .IfExp _ _ _ _ => false
  | .Compare _ _ _ _ => false
  | .NamedExpr _ _ _ => false
  | _ => true
def okVis (sc : Scope) (x : Str) : Bool := (decide (sc.names.lookup x = some .local) || (decide (sc.names.lookup x = some .cell) || decide (sc.names.lookup x = some .free))) && (!(x == ("__debug__" : Str)) && !(x == ("__classdict__" : Str)))
theorem okVis_of {sc : Scope} {x : Str} (h : okVis sc x = true) : Vis sc x ∧ (x == ("__debug__" : Str)) = false ∧ (x == ("__classdict__" : Str)) = false := by
  obtain ⟨h1, h⟩ := He.ba h
  obtain ⟨h2, h3⟩ := He.ba h
  refine ⟨?_, by simpa using h2, by simpa using h3⟩
  simp only [Bool.or_eq_true, decide_eq_true_eq] at h1
  exact h1
def okSet (sc : Scope) (x : Str) : Bool := decide (sc.names.lookup x = some .local) || decide (sc.names.lookup x = some .cell)
theorem okSet_of {sc : Scope} {x : Str} (h : okSet sc x = true) : Loc sc x := by
  unfold okSet at h
  simp only [Bool.or_eq_true, decide_eq_true_eq] at h
  exact h
def okGlo (sc : Scope) (x : Str) : Bool := decide (sc.names.lookup x = some .globalImplicit) && !(x == ("__debug__" : Str))
theorem okGlo_of {X : Cx} {x : Str} (h : okGlo X.env.scope x = true) : Gl X x ∧ (x == ("__debug__" : Str)) = false := by
  obtain ⟨h1, h2⟩ := He.ba h
  exact ⟨show X.env.scope.names.lookup x = some .globalImplicit from of_decide_eq_true h1, by simpa using h2⟩
structure CtE (S : Src) (X : Cx) (W : WX) (nm : Nm) (cf : Nat → List D → Sto → R D) (k : Nat) : Prop where
  f : Facts S (co X) nm cf k
  me : ∃ m, nm = nmE S m
  r7 : Room (k + 6) X.A
  r : Room (k + 1) X.A
  t : Takes X W
  c : X.calm = true
  ex : nm.ex = none
  nd : X.N.Nodup
structure Ct (S : Src) (X : Cx) (W : WX) (nm : Nm) (cf : Nat → List D → Sto → R D) (k : Nat) : Prop extends CtE S X W nm cf k where
  fn : ∀ x, X.fn x = true
  hs : X.stack = X.env :: X.outer
  hf : X.env.frame = some X.env.locals
  po : PassesOwn (model X.prog X.w) X.A X.env X.xe
section
variable {S : Src} {X : Cx} {W : WX} {nm : Nm} {cf : Nat → List D → Sto → R D} {k : Nat} {pos : Pos}
theorem CtE.ops (c : CtE S X W nm cf k) : InsOps X S.T nm W cf := by
  obtain ⟨m, e⟩ := c.me
  exact insOps_of e c.f (c.r.mono (Nat.le_succ _)) c.t
theorem CtE.cmp (c : CtE S X W nm cf k) : InsCmp X S.T nm W cf := by
  obtain ⟨m, e⟩ := c.me
  exact insCmp_of e c.f c.r7 c.t
theorem CtE.ix (c : CtE S X W nm cf k) : InsIx X S.T nm W cf := by
  obtain ⟨m, e⟩ := c.me
  exact insIx_of e c.f (c.r7.mono (by omega)) c.t
theorem CtE.len (c : CtE S X W nm cf k) : InsLen X S.T nm W cf := by
  obtain ⟨m, e⟩ := c.me
  exact insLen_of e c.f (c.r7.mono (by omega)) c.t
theorem CtE.un (c : CtE S X W nm cf k) : X.A.units + 1 < cLine := by have := c.r7.un; omega
def notVar : E → Bool
  | .var _ => false
  | _ => true
theorem b_of {e : Expr} {a : E} (h : PE X e (tE S.T nm X.K cf W a)) (n : notVar a = true := by rfl) : PE X e (tB S.T nm X.K cf W a) := sb_of h fun i z => by
  subst z
  cases n
theorem x_str {x : Str} {s : List Nat} {j} (h : x = strOf s := by rfl) : PE X (.Constant (.str x) j pos) (tE S.T nm X.K cf W (.str s)) := se_str h
theorem x_var {i : Nat} {x : Str} (hN : X.N[i]? = some x := by rfl) (h : okVis X.env.scope x = true := by rfl) : PE X (.Name x pos) (tE S.T nm X.K cf W (.var i)) := by
  obtain ⟨h1, h4, h5⟩ := okVis_of h
  exact se_var hN h1 h4 h5
theorem b_var {i : Nat} {x : Str} (hN : X.N[i]? = some x := by rfl) (h : okVis X.env.scope x = true := by rfl) : PE X (.Name x pos) (tB S.T nm X.K cf W (.var i)) := by
  obtain ⟨h1, h4, h5⟩ := okVis_of h
  exact sb_var hN h1 h4 h5
theorem xa_nil : PA X [] (tA S.T nm X.K cf W .nil) := sa_nil
theorem xa_cons {e : Expr} {es : List Expr} {a : E} {as : Es} (ha : PE X e (tE S.T nm X.K cf W a)) (hr : PA X es (tA S.T nm X.K cf W as)) (h : plainX e = true := by rfl) : PA X (e :: es) (tA S.T nm X.K cf W (.cons a as)) := sa_cons ha hr (star_of h)
theorem xl_nil : PA X [] (tL S.T nm X.K cf W .nil) := sl_nil
theorem xl_cons {e : Expr} {es : List Expr} {a : E} {as : Es} (ha : PE X e (tB S.T nm X.K cf W a)) (hr : PA X es (tL S.T nm X.K cf W as)) (h : plainX e = true := by rfl) : PA X (e :: es) (tL S.T nm X.K cf W (.cons a as)) := sl_cons ha hr (star_of h)
theorem x_call (c : CtE S X W nm cf k) {f : Nat} {F : FnS} {x : Str} {p : Pos} {e : Expr} {es : List Expr} {as : Es} (hf : S.fnAt f = some F) (ha : PA X (e :: es) (tA S.T nm X.K cf W as)) (he : F.err = false := by rfl) (hi : F.fn.ini = none := by rfl) (hkw : F.kw = 0 := by rfl) (hp : F.prop = false := by rfl) (hat : F.d.at_ = (x, none) := by rfl)
    (h : okGlo X.env.scope x = true := by rfl) (hl : as.len = F.fn.np := by rfl) (hp1 : plainX e = true := by rfl) (hp2 : plainXs es = true := by rfl) : PE X (.Call (.Name x p) (e :: es) [] pos) (tE S.T nm X.K cf W (.call f as)) := by
  obtain ⟨h1, h2⟩ := okGlo_of h
  exact se_call (c.f.fn f F hf he hi hkw) ⟨c.r.hd, by have := c.r.dp; omega, by have := c.r.un; omega⟩ c.t h1 (c.f.mgf f F x hf he hp hat) hl ha h2 (star_of hp1) (stars_of hp2)
theorem x_bin (c : CtE S X W nm cf k) {op : BO} {e1 e2 : Expr} {a b : E} (ha : PE X e1 (tB S.T nm X.K cf W a)) (hb : PE X e2 (tB S.T nm X.K cf W b)) : PE X (.BinOp e1 (opOf op) e2 pos) (tE S.T nm X.K cf W (.bin op a b)) := se_bin c.ops ha hb
theorem x_cmp (c : CtE S X W nm cf k) {op : CO} {e1 e2 : Expr} {a b : E} (ha : PE X e1 (tB S.T nm X.K cf W a)) (hb : PE X e2 (tB S.T nm X.K cf W b)) (hs : noSet e2 = true := by rfl) : PE X (.Compare e1 [copOf op] [e2] pos) (tE S.T nm X.K cf W (.cmp op a b)) := se_cmp c.cmp ha hb (noSet_of hs)
theorem t_cmp (c : CtE S X W nm cf k) {op : CO} {e1 e2 : Expr} {a b : E} (ha : PE X e1 (tB S.T nm X.K cf W a)) (hb : PE X e2 (tB S.T nm X.K cf W b)) (hs : noSet e2 = true := by rfl) : PT X (.Compare e1 [copOf op] [e2] pos) (tT S.T nm X.K cf W (.e (.cmp op a b))) := st_cmp c.cmp ha hb (noSet_of hs)
theorem t_e {e : Expr} {a : E} (ha : PE X e (tB S.T nm X.K cf W a)) (h : byVal e = true := by rfl) : PT X e (tT S.T nm X.K cf W (.e a)) := st_e ha fun whole => by
  cases e <;> first | rfl | cases h | (rename_i o _ _; cases o <;> first | rfl | cases h)
theorem x_ix (c : CtE S X W nm cf k) {e1 e2 : Expr} {a b : E} (ha : PE X e1 (tB S.T nm X.K cf W a)) (hb : PE X e2 (tE S.T nm X.K cf W b)) (hs : noSlice e2 = true := by rfl) : PE X (.Subscript e1 e2 pos) (tE S.T nm X.K cf W (.ix a b)) := se_ix c.ix ha hb fun l h p => noSlice_of hs l h none p
theorem x_ty (c : CtE S X W nm cf k) {x : Str} {id : String} {t : TY} (hv : bootBuiltins x = some (.type id)) (hx : x ∈ S.free) (hn : x ≠ "__name__") (ht : tyW nm X.K t = .ty id) (h : okGlo X.env.scope x = true) : PE X (.Name x pos) (tC (tyW nm X.K t)) := by
  obtain ⟨h1, h2⟩ := okGlo_of h
  rw [ht]
  exact pe_bltn h1 (c.f.free x hx) hv rfl hn h2
theorem x_cls (c : CtE S X W nm cf k) {x : Str} {i : Nat} {C : Ev.Cls} (hC : S.clAt i = some C) (hx : x = nm.cls i := by rfl) (h : okGlo X.env.scope x = true := by rfl) : PE X (.Name x pos) (tC (tyW nm X.K (.cls i))) := by
  obtain ⟨h1, h2⟩ := okGlo_of h
  subst hx
  exact pe_glob h1 (c.f.mgc i C hC) rfl h2
theorem x_len (c : CtE S X W nm cf k) {p : Pos} {e : Expr} {as : Es} (hx : ("len" : Str) ∈ S.free) (ha : PA X [e] (tL S.T nm X.K cf W as)) (h : okGlo X.env.scope "len" = true := by rfl) (h1 : plainX e = true := by rfl) : PE X (.Call (.Name "len" p) [e] [] pos) (tE S.T nm X.K cf W (.bi .len as)) :=
  se_biB boot_len (okGlo_of h).1 (c.f.free _ hx) ha (by decide) (okGlo_of h).2 (star_of h1) rfl (bi_len c.len)
theorem boot_ValueError : bootBuiltins "ValueError" = some (.type "ValueError") := by decide +kernel
theorem boot_int' : bootBuiltins "int" = some (.type "int") := by decide +kernel
theorem boot_tuple' : bootBuiltins "tuple" = some (.type "tuple") := by decide +kernel
theorem x_int (c : CtE S X W nm cf k) {p : Pos} {e : Expr} {as : Es} (hx : ("int" : Str) ∈ S.free) (ha : PA X [e] (tL S.T nm X.K cf W as)) (h : okGlo X.env.scope "int" = true := by rfl) (h1 : plainX e = true := by rfl) : PE X (.Call (.Name "int" p) [e] [] pos) (tE S.T nm X.K cf W (.bi .int as)) :=
  se_biT boot_int' (okGlo_of h).1 (c.f.free _ hx) ha (by decide) (okGlo_of h).2 (star_of h1) rfl bi_int
theorem x_tuple (c : CtE S X W nm cf k) {p : Pos} {e : Expr} {as : Es} (hx : ("tuple" : Str) ∈ S.free) (ha : PA X [e] (tL S.T nm X.K cf W as)) (h : okGlo X.env.scope "tuple" = true := by rfl) (h1 : plainX e = true := by rfl) : PE X (.Call (.Name "tuple" p) [e] [] pos) (tE S.T nm X.K cf W (.bi .tuple as)) :=
  se_biT boot_tuple' (okGlo_of h).1 (c.f.free _ hx) ha (by decide) (okGlo_of h).2 (star_of h1) rfl bi_tuple
theorem y_set (c : Ct S X W nm cf k) {e : Expr} {a : E} {i : Nat} {x : Str} {p : Pos} (h : PE X e (tE S.T nm X.K cf W a)) (hi : X.N[i]? = some x := by rfl) (hx : okSet X.env.scope x = true := by rfl) (hs : noComp e = true := by rfl) : PS X (.Assign [.Name x p] e pos) (tS S.T nm X.K cf W (.set i a)) := by
  have h2 := okSet_of hx
  exact ss_set c.nd hi h2 h (swaps_of hs) (.inl (c.fn x))
theorem y_seti (c : Ct S X W nm cf k) {e1 e2 e3 : Expr} {a b d : E} {p : Pos} (ha : PE X e1 (tE S.T nm X.K cf W a)) (hb : PE X e2 (tE S.T nm X.K cf W b)) (hd : PE X e3 (tE S.T nm X.K cf W d)) (hns : noSlice e2 = true := by rfl) (hsw : swapsWithSole [.Subscript e1 e2 p] e3 pos.line X.env = pure false := by rfl) (hst : swappedStores [.Subscript e1 e2 p] e3 X.env = pure none := by rfl) :
    PS X (.Assign [.Subscript e1 e2 p] e3 pos) (tS S.T nm X.K cf W (.seti a b d)) := ss_seti c.un ha hb hd (noSlice_of hns) hsw hst
theorem y_forR1 (c : Ct S X W nm cf k) {e : Expr} {a : E} {i : Nat} {x : Str} {p p1 p2 : Pos} {body : List Stmt} {b : Ev.S} (hr : ("range" : Str) ∈ S.free) (ha : PA X [e] (tA S.T nm X.K cf W (.cons a .nil))) (hb : PSs X body (tS S.T nm X.K cf W b)) (hi : X.N[i]? = some x := by rfl) (hx : okSet X.env.scope x = true := by rfl) (h : okGlo X.env.scope "range" = true := by rfl) (h1 : plainX e = true := by rfl) : PS X (.For (.Name x p) (.Call (.Name "range" p1) [e] [] p2) body [] pos) (tS S.T nm X.K cf W (.for_ [i] (.rng (.cons a .nil)) b)) := by
  have h2 := okSet_of hx
  exact ss_forRng1 c.po c.c (okGlo_of h).1 (c.f.free _ hr) ha c.nd hi h2 (.inl (c.fn x)) hb (star_of h1)
theorem Ct.tr (c : Ct S X W nm cf k) {pn : List (Addr × Obj)} {xe : Value → Shared → Prop} {W' : WX} (t : Takes (X.tr pn xe) W') (po : PassesOwn (model X.prog X.w) X.A X.env xe) : Ct S (X.tr pn xe) W' nm cf k :=
  ⟨⟨c.f, c.me, c.r7, c.r, t, c.c, c.ex, c.nd⟩, c.fn, c.hs, c.hf, po⟩
theorem Ct.of {Y : Core} {N : List Str} {qual : Str} {scope : Scope} {fa : Addr} {cdv : Value} {A : Around} {outer : List Env} {s : Shared} {H : Hp} {E : XK} {me : Option (Addr × Addr)} (f : Facts S Y (nmE S me) cf k) (r : Room (k + 6) (A.deeper (envOfC qual scope s.heap.objs.size fa cdv))) (nd : N.Nodup) :
    Ct S (cxF Y N qual scope fa cdv A outer s H E) (wF E) (nmE S me) cf k := by
  have t : Takes (cxF Y N qual scope fa cdv A outer s H E) (wF E) := takes_of rfl rfl rfl rfl
  exact ⟨⟨f, ⟨me, rfl⟩, r, r.mono (by omega), t, rfl, rfl, nd⟩, fun _ => rfl, rfl, rfl, passes_of (K := fun e s'' => L2.CX Y.prog Y.w outer H s E e s'') (E₁ := fun e' s'' => L2.CX Y.prog Y.w outer H s E e' s'') rfl⟩
theorem CtE.blk (c : CtE S X W nm cf k) (s : Shared) (H : Hp) (scope : Scope) (C : Addr) (cl : List (Str × Addr)) (fp : List Addr) : CtE S (X.blk s H scope (compEnvC scope cl C X.env) fp) WN nm cf k :=
  ⟨c.f, c.me, c.r7, c.r, fun u s' ⟨_, _, _, _, _, _, _, _, _, _, _, _, _, _, _, _, z⟩ => z.elim, c.c, c.ex, c.nd⟩
def okTgt (sc scope : Scope) (x : Str) : Bool := decide ((relS scope sc).names.lookup x = some .local) || (decide ((relS scope sc).names.lookup x = some .cell) && scope.names.lookup x == some .cell)
theorem tgt_of {X : Cx} {scope : Scope} {x : Str} {i : Nat} {px : Pos} (nd : X.N.Nodup) (hi : X.N[i]? = some x) (h : okTgt X.env.scope scope x = true) (s : Shared) (H : Hp) (C : Addr) (cl : List (Str × Addr)) (fp : List Addr) : PG (X.blk s H scope (compEnvC scope cl C X.env) fp) (.Name x px) (gName i) := by
  unfold okTgt at h
  rw [Bool.or_eq_true, Bool.and_eq_true, decide_eq_true_eq, decide_eq_true_eq] at h
  rcases h with h2 | ⟨h2, h3⟩
  · exact pg_name (X := X.blk s H scope (compEnvC scope cl C X.env) fp) nd hi (.inl h2) (.inr h2)
  · exact pg_name (X := X.blk s H scope (compEnvC scope cl C X.env) fp) nd hi (.inr h2) (.inl h3)
theorem x_compR1 (c : CtE S X W nm cf k) {elt : Expr} {ifs : List Expr} {scope : Scope} {x : Str} {i : Nat} {px : Pos} {e : E} {t : Tt} {e1 : Expr} {p1 p2 : Pos} {a : E} (hr : ("range" : Str) ∈ S.free) (ha : PA X [e1] (tA S.T nm X.K cf W (.cons a .nil)))
    (ht : ∀ (s : Shared) (H : Hp) (C : Addr) (cl : List (Str × Addr)) (fp : List Addr), CtE S (X.blk s H scope (compEnvC scope cl C X.env) fp) WN nm cf k → PTs (X.blk s H scope (compEnvC scope cl C X.env) fp) ifs (tT S.T nm X.K cf WN t))
    (he : ∀ (s : Shared) (H : Hp) (C : Addr) (cl : List (Str × Addr)) (fp : List Addr), CtE S (X.blk s H scope (compEnvC scope cl C X.env) fp) WN nm cf k → PE (X.blk s H scope (compEnvC scope cl C X.env) fp) elt (tE S.T nm X.K cf WN e))
    (hi : X.N[i]? = some x := by rfl) (ok : blkC X.N X.env.scope scope [(x, i)] = true := by rfl) (hx : okTgt X.env.scope scope x = true := by rfl) (h : okGlo X.env.scope "range" = true := by rfl) (h1 : plainX e1 = true := by rfl) :
    PE X (.ListComp elt [⟨.Name x px, .Call (.Name "range" p1) [e1] [] p2, ifs, 0⟩] scope pos) (tE S.T nm X.K cf W (.comp [i] e (.rng (.cons a .nil)) t)) :=
  se_compR1 c.c c.nd (okGlo_of h).1 (c.f.free _ hr) ha (blkOk_by ok) (tgt_of c.nd hi hx) (fun s H C cl fp => ht s H C cl fp (c.blk s H scope C cl fp)) (fun s H C cl fp => he s H C cl fp (c.blk s H scope C cl fp)) (star_of h1)
section
variable {a : Addr} {oe : Obj} {cls : Value} {d : Option Addr} {pn : List (Addr × Obj)}
end
end
end Snd
set_option Elab.async false
set_option linter.all false
set_option maxRecDepth 100000
set_option maxHeartbeats 1000000
namespace Snd
open PySem PySem.Spec PyProof.Rows L2 Ev
section
variable {X : Cx} {T : Tab} {nm : Nm} {W : WX} {cf : Nat → List D → Sto → R D} {pos : Pos} {k : Nat}
end
section
variable {S : Src} {X : Cx} {W : WX} {nm : Nm} {cf : Nat → List D → Sto → R D} {k : Nat} {pos : Pos}
section
variable {elt : Expr} {ifs : List Expr} {scope : Scope} {x y : Str} {i j : Nat} {px py tp : Pos} {kk : Nat} {e : E} {t : Tt} {e1 e2 : Expr} {p1 p2 : Pos} {a a2 : E}
end
end
end Snd
set_option Elab.async false
set_option linter.all false
set_option maxRecDepth 100000
namespace Snd
open PySem PySem.Spec PyProof.Rows L2 Ev
abbrev Cl : Type := Value × Option Nat × (Addr → Value → Option Addr → TS)
section
variable {X : Cx} {body : List Stmt} {h₀ : ExceptHandler} {hds : List ExceptHandler} {l : List Cl} {pos : Pos} {tb : WX → TS} {Wout : WX}
end
section
variable {X : Cx} {T : Tab} {nm : Nm} {W : WX} {cf : Nat → List D → Sto → R D} {pos : Pos} {k : Nat}
end
section
variable {X : Cx} {T : Tab} {nm : Nm} {W : WX} {cf : Nat → List D → Sto → R D} {pos : Pos} {k : Nat}
end
section
variable {S : Src} {X : Cx} {nm : Nm} {W : WX} {cf : Nat → List D → Sto → R D} {pos : Pos} {k : Nat}
end
end Snd
set_option Elab.async false
set_option linter.all false
namespace HT
open PySem PySem.Spec PyProof.Rows
section
variable {prog : Program} {w : World} {A : Around} {E : Value → Shared → Prop} {s : Shared}
end
end HT
namespace L2
open PySem PySem.Spec PyProof.Rows
section
variable {X : Cx}
end
end L2
set_option Elab.async false
set_option linter.all false
open PySem PySem.Spec PyProof.Rows L2
namespace Snd
open Ev
section
variable {X : Cx} {T : Tab} {nm : Nm} {W : WX} {cf : Nat → List D → Sto → R D} {pos : Pos} {k : Nat} {g g0 g1 g2 gb : Gh} {ρ : Rho} {st st1 st2 : Sto} {σ : L2.St} {H H1 H2 : Hp}
theorem Reps.rev : ∀ {g : Gh} {ds : List D} {vs : List V}, Reps T nm X.K g ds vs → Reps T nm X.K g ds.reverse vs.reverse
  | _, _, _, .nil => .nil
  | _, _ :: _, _ :: _, .cons h r => by
    rw [List.reverse_cons, List.reverse_cons]
    exact (Reps.rev r).append (.cons h .nil)
end
end Snd
namespace Snd
open Ev
section
variable {S : Src} {X : Cx} {W : WX} {nm : Nm} {cf : Nat → List D → Sto → R D} {k : Nat} {pos : Pos}
end
end Snd
set_option Elab.async false
set_option linter.all false
set_option maxRecDepth 100000
set_option maxHeartbeats 1000000
namespace Snd
open PySem PySem.Spec PyProof.Rows L2 Ev
section
variable {X : Cx} {T : Tab} {nm : Nm} {W : WX} {cf : Nat → List D → Sto → R D} {pos : Pos} {k : Nat}
theorem PK.imp {kws : List Keyword} {t t' : TA} (h : PK X kws t) (i : ∀ σ H Q, t' σ H Q → t σ H Q) : PK X kws t' := ⟨fun pos pins s σ H Q I q => h.run pos pins s σ H Q I (i σ H Q q)⟩
end
section
variable {S : Src} {X : Cx} {W : WX} {nm : Nm} {cf : Nat → List D → Sto → R D} {k : Nat} {pos : Pos}
end
end Snd
set_option Elab.async false
set_option linter.all false
set_option maxRecDepth 100000
set_option maxHeartbeats 1000000
namespace Snd
open PySem PySem.Spec PyProof.Rows L2 Ev
section
variable {T : Tab} {cf : Nat → List D → Sto → R D}
end
section
variable {S : Src} {X : Cx} {W : WX} {nm : Nm} {cf : Nat → List D → Sto → R D} {k : Nat} {pos : Pos}
end
end Snd
set_option Elab.async false
set_option linter.all false
set_option maxRecDepth 100000
set_option maxHeartbeats 1000000
namespace L2
open PySem PySem.Spec PyProof.Rows
section
variable {X : Cx}
end
end L2
namespace Snd
open PySem PySem.Spec PyProof.Rows L2 Ev
section
variable {X : Cx} {W : WX} {nm : Nm} {cf : Nat → List D → Sto → R D} {k : Nat} {T : Tab} {pos : Pos}
end
section
variable {S : Src} {X : Cx} {W : WX} {nm : Nm} {cf : Nat → List D → Sto → R D} {k : Nat} {pos : Pos}
end
section
variable {X : Cx} {T : Tab} {W : WX} {nm : Nm} {cf : Nat → List D → Sto → R D} {pos : Pos}
end
end Snd
namespace L2
open PySem PySem.Spec PyProof.Rows
section
variable {X : Cx}
end
end L2
namespace Snd
open PySem PySem.Spec PyProof.Rows L2 Ev
section
variable {X : Cx} {W : WX} {nm : Nm} {cf : Nat → List D → Sto → R D} {k : Nat} {T : Tab} {pos : Pos}
end
section
variable {S : Src} {X : Cx} {W : WX} {nm : Nm} {cf : Nat → List D → Sto → R D} {k : Nat} {pos : Pos}
end
section
variable {S : Src} {X : Cx} {W : WX} {nm : Nm} {cf : Nat → List D → Sto → R D} {k : Nat} {pos : Pos} {elt : Expr} {ifs : List Expr} {scope : Scope} {x y : Str} {i j : Nat} {px py : Pos} {a e : E} {t : Tt}
end
end Snd
set_option Elab.async false
set_option linter.all false
set_option maxRecDepth 100000
set_option maxHeartbeats 1000000
namespace PySem
open PySem.Spec
section
variable {M : Model} {A : Around} {E : Value → Shared → Prop} {s : Shared} {env : Env}
end
namespace HandSPX
section
variable {M : Model} {A : Around} {E : Value → Shared → Prop} {s : Shared} {Z : Obj → Prop} {base : Heap} {env : Env} {outer l : List Env} {L C e : Addr}
end
end HandSPX
end PySem
namespace L2
open PySem PySem.Spec PyProof.Rows
section
variable {X : Cx} {pins : List (Addr × Obj)} {σ : St} {H : Hp} {s s' : Shared} {B : Heap} {W : WX}
end
end L2
namespace L2
open PySem PySem.Spec PyProof.Rows
section
variable {X : Cx}
end
end L2
namespace L2
open PySem PySem.Spec PyProof.Rows
section
variable {X : Cx}
end
end L2
namespace Snd
open PySem PySem.Spec PyProof.Rows L2 Ev
section
variable {X : Cx} {T : Tab} {nm : Nm} {K : PySem.W.Frag} {W : WX} {cf : Nat → List D → Sto → R D} {pos : Pos} {k : Nat} {g g2 : Gh} {ρ : Rho} {st st2 : Sto} {σ : L2.St} {H H2 : Hp}
end
section
variable {X : Cx} {T : Tab} {nm : Nm} {W : WX} {cf : Nat → List D → Sto → R D} {pos : Pos} {k : Nat} {g g1 : Gh} {ρ : Rho} {st st1 : Sto} {σ : L2.St} {H H1 : Hp}
variable {elt iter tgt : Expr} {ifs : List Expr} {scope : Scope} {x : Str} {i : Nat} {px : Pos} {e : E} {t : Tt}
end
section
variable {S : Src} {X : Cx} {W : WX} {nm : Nm} {cf : Nat → List D → Sto → R D} {k : Nat} {pos : Pos}
end
end Snd
namespace L2
open PySem PySem.Spec PyProof.Rows
section
variable {X : Cx}
end
end L2
namespace Snd
open PySem PySem.Spec PyProof.Rows L2 Ev
section
variable {X : Cx} {W : WX} {nm : Nm} {cf : Nat → List D → Sto → R D} {k : Nat} {T : Tab} {pos : Pos}
end
section
variable {S : Src} {X : Cx} {W : WX} {nm : Nm} {cf : Nat → List D → Sto → R D} {k : Nat} {pos : Pos}
end
end Snd
set_option Elab.async false
set_option linter.all false
set_option maxRecDepth 100000
set_option maxHeartbeats 1000000
namespace Snd
open PySem PySem.Spec PyProof.Rows L2 Ev
section
variable {X : Cx} {W : WX} {nm : Nm} {cf : Nat → List D → Sto → R D} {T : Tab} {pos : Pos}
end
section
variable {S : Src} {X : Cx} {W : WX} {nm : Nm} {cf : Nat → List D → Sto → R D} {k : Nat} {pos : Pos}
end
section
variable {X : Cx} {T : Tab} {W : WX} {nm : Nm} {cf : Nat → List D → Sto → R D} {k : Nat} {pos : Pos}
end
section
variable {S : Src} {X : Cx} {nm : Nm} {W : WX} {cf : Nat → List D → Sto → R D} {pos : Pos} {k : Nat}
end
end Snd
set_option Elab.async false
set_option linter.all false
set_option maxRecDepth 100000
set_option maxHeartbeats 1000000
namespace Snd
open PySem PySem.Spec PyProof.Rows L2 Ev
structure RoomW (k : Nat) (A : Around) : Prop where
  dp : A.depth + 3 * k + 5 < recursionLimit
  un : A.units + 16 * k + 200 < cLine
theorem RoomW.deeper {k : Nat} {A : Around} (r : RoomW (k + 1) A) (env : Env) : RoomW k (A.deeper env) :=
  ⟨by have := r.dp; show A.depth + 1 + 3 * k + 5 < _; omega, by have := r.un; show A.units + 3 + 16 * k + 200 < _; omega⟩
theorem RoomW.depth {k : Nat} {A : Around} (r : RoomW k A) : A.depth < recursionLimit := by have := r.dp; omega
theorem RoomW.mono {j k : Nat} {A : Around} (r : RoomW k A) (h : j ≤ k) : RoomW j A := ⟨by have := r.dp; omega, by have := r.un; omega⟩
structure FnW (Y : Core) (k : Nat) (f : Addr) (fd : FuncData) (ps : List Str) (sp : Sp) : Prop where
  len : ∀ vs H Q E, sp vs H Q E → vs.length = ps.length
  run : ∀ (A : Around) (outer : List Env) (s : Shared) (H : Hp) (args : Args) (us : List Value) (vs : List V) (Q : VK) (E : XK), RoomW k A → Env0 Y.prog Y.w Y.K Y.mg Y.base A outer s H → BindsTo s fd args (ps.zip us) → Vals vs us → sp vs H Q E →
    codeAny (model Y.prog Y.w) A (.call (.ref f) args) (CR (L2.CX Y.prog Y.w) outer Y.prog Y.w H s Q E) s
section
variable {S : Src} {X : Cx} {W : WX} {nm nm' : Nm} {T : Tab} {cf cf' : Nat → List D → Sto → R D} {k : Nat} {pos : Pos}
end
end Snd
set_option Elab.async false
set_option linter.all false
set_option maxRecDepth 100000
set_option maxHeartbeats 1000000
namespace Snd
open PySem PySem.Spec PyProof.Rows L2 Ev
section
variable {X : Cx} {T : Tab} {nm : Nm} {W : WX} {cf : Nat → List D → Sto → R D} {pos : Pos} {k : Nat}
end
section
variable {X : Cx} {T : Tab} {nm : Nm} {W : WX} {cf : Nat → List D → Sto → R D} {pos : Pos} {k : Nat}
end
section
variable {S : Src} {X : Cx} {W : WX} {nm : Nm} {cf : Nat → List D → Sto → R D} {k : Nat} {pos : Pos}
end
end Snd
set_option Elab.async false
set_option linter.all false
set_option maxRecDepth 100000
set_option maxHeartbeats 4000000
namespace Snd
open PySem PySem.Spec PyProof.Rows L2 Ev
section
variable {X : Cx} {T : Tab} {nm : Nm} {K : PySem.W.Frag} {W : WX} {cf : Nat → List D → Sto → R D} {pos : Pos} {k : Nat}
end
end Snd
set_option Elab.async false
set_option linter.all false
set_option maxRecDepth 100000
set_option maxHeartbeats 4000000
namespace PySem.W
open PySem PySem.Calls PyProof.Rows Builtin
section
variable {prog : Program} {w : World} {A : Around} {E : Value → Shared → Prop} {s : Shared} {K : Frag} {x C L f : Addr} {h₀ : Heap} {m : Str → Option Value} {ox : Obj} {od : Option Obj}
end
end PySem.W
namespace Snd
open PySem PySem.Spec PyProof.Rows L2 Ev
section
variable {X : Cx} {T : Tab} {nm : Nm} {K : PySem.W.Frag} {W : WX} {cf : Nat → List D → Sto → R D} {pos : Pos} {k : Nat}
end
end Snd
set_option Elab.async false
set_option linter.all false
set_option maxRecDepth 100000
set_option maxHeartbeats 4000000
namespace Snd
open PySem PySem.Spec PyProof.Rows L2 Ev
section
variable {S : Src} {X : Cx} {W : WX} {nm : Nm} {cf : Nat → List D → Sto → R D} {k : Nat} {pos : Pos}
end
end Snd
set_option Elab.async false
set_option linter.all false
set_option maxRecDepth 100000
set_option maxHeartbeats 4000000
namespace Snd
open PySem PySem.Spec PyProof.Rows L2 Ev
section
variable {X : Cx} {T : Tab} {nm : Nm} {K : PySem.W.Frag} {W : WX} {cf : Nat → List D → Sto → R D} {pos : Pos} {k : Nat}
end
section
variable {X : Cx} {T : Tab} {nm : Nm} {W : WX} {cf : Nat → List D → Sto → R D} {pos : Pos} {k : Nat}
end
section
variable {S : Src} {X : Cx} {W : WX} {nm : Nm} {cf : Nat → List D → Sto → R D} {k : Nat} {pos : Pos}
end
end Snd
set_option Elab.async false
set_option linter.all false
set_option maxRecDepth 100000
set_option maxHeartbeats 4000000
namespace L2
open PySem PySem.Spec PyProof.Rows
section
variable {X : Cx} {pins : List (Addr × Obj)} {σ : St} {H : Hp} {s : Shared} {a b : Addr} {r : Value} {k : KeyN} {xs : List (KeyN × Addr × Value)} {A : Around} {E : Value → Shared → Prop}
end
end L2
namespace Snd
open PySem PySem.Spec PyProof.Rows L2 Ev
section
variable {X : Cx} {T : Tab} {nm : Nm} {K : PySem.W.Frag}
end
section
variable {X : Cx} {T : Tab} {nm : Nm} {W : WX} {cf : Nat → List D → Sto → R D} {pos : Pos} {k : Nat}
end
section
variable {S : Src} {X : Cx} {W : WX} {nm : Nm} {cf : Nat → List D → Sto → R D} {k : Nat} {pos : Pos}
end
end Snd
set_option Elab.async false
set_option linter.all false
set_option maxRecDepth 100000
set_option maxHeartbeats 4000000
namespace L2
open PySem PySem.Spec PyProof.Rows
section
variable {X : Cx}
end
end L2
namespace Snd
open PySem PySem.Spec PyProof.Rows L2 Ev
section
variable {X : Cx} {T : Tab} {nm : Nm} {W : WX} {cf : Nat → List D → Sto → R D} {pos : Pos} {g g1 : Gh} {ρ : Rho} {st st1 st2 : Sto} {σ : L2.St} {H H1 : Hp}
end
section
variable {S : Src} {X : Cx} {W : WX} {nm : Nm} {cf : Nat → List D → Sto → R D} {k : Nat} {pos : Pos}
end
end Snd
set_option Elab.async false
set_option linter.all false
set_option maxRecDepth 100000
set_option maxHeartbeats 4000000
namespace L2
open PySem PySem.Spec PyProof.Rows
section
variable {X : Cx}
end
end L2
namespace Snd
open PySem PySem.Spec PyProof.Rows L2 Ev
section
variable {X : Cx} {T : Tab} {nm : Nm} {W : WX} {cf : Nat → List D → Sto → R D} {pos : Pos} {g g1 : Gh} {ρ : Rho} {st st1 st2 : Sto} {σ : L2.St} {H H1 : Hp}
end
section
variable {S : Src} {X : Cx} {W : WX} {nm : Nm} {cf : Nat → List D → Sto → R D} {k : Nat} {pos : Pos}
end
end Snd
set_option Elab.async false
set_option linter.all false
set_option maxRecDepth 100000
set_option maxHeartbeats 4000000
namespace L2
open PySem PySem.Spec PyProof.Rows
section
variable {P : Program} {w : World} {A : Around} {E : Value → Shared → Prop} {s : Shared}
end
section
variable {X : Cx}
end
end L2
namespace L2
open PySem PySem.Spec PyProof.Rows
section
variable {X : Cx}
end
end L2
namespace Snd
open PySem PySem.Spec PyProof.Rows L2 Ev
section
variable {X : Cx} {T : Tab} {nm : Nm} {W : WX} {cf : Nat → List D → Sto → R D} {pos : Pos} {g g1 : Gh} {ρ : Rho} {st st1 st2 : Sto} {σ : L2.St} {H H1 : Hp}
end
section
variable {S : Src} {X : Cx} {W : WX} {nm : Nm} {cf : Nat → List D → Sto → R D} {k : Nat} {pos : Pos}
end
end Snd
set_option Elab.async false
set_option linter.all false
set_option maxRecDepth 100000
set_option maxHeartbeats 4000000
namespace L2
open PySem PySem.Spec PyProof.Rows
section
variable {X : Cx}
end
end L2
namespace Snd
open PySem PySem.Spec PyProof.Rows L2 Ev
section
variable {X : Cx} {T : Tab} {nm : Nm} {W : WX} {cf : Nat → List D → Sto → R D} {pos : Pos} {g g1 : Gh} {ρ : Rho} {st st1 st2 : Sto} {σ : L2.St} {H H1 : Hp}
variable {elt iter tgt : Expr} {ifs : List Expr} {scope : Scope} {i j : Nat} {e : E} {t : Tt}
end
section
variable {S : Src} {X : Cx} {W : WX} {nm : Nm} {cf : Nat → List D → Sto → R D} {k : Nat} {pos : Pos} {elt iter : Expr} {ifs : List Expr} {scope : Scope} {x y : Str} {i j : Nat} {px py tp : Pos} {kk : Nat} {e a : E} {t : Tt}
end
end Snd
set_option Elab.async false
set_option linter.all false
set_option maxRecDepth 100000
set_option maxHeartbeats 4000000
namespace L2
open PySem PySem.Spec PyProof.Rows
def dd (b : Addr) (h : Heap) : Nat := if b < h.objs.size ∧ h.get? b = none then 1 else 0
section
variable {X : Cx} {pins : List (Addr × Obj)} {σ : St} {H : Hp} {s : Shared} {t it : Addr}
end
end L2
namespace Snd
open PySem PySem.Spec PyProof.Rows L2 Ev
section
variable {S : Src} {X : Cx} {nm : Nm} {W : WX} {cf : Nat → List D → Sto → R D} {pos : Pos} {k : Nat}
end
end Snd
set_option Elab.async false
set_option linter.all false
set_option maxRecDepth 100000
set_option maxHeartbeats 4000000
namespace GnF
open PySem
open PySem.Sem (wp)
def pois : GenState → GenState
  | .suspended _ l c p fs cl => .suspended (fun _ => .unsupported "asleep") l c p fs cl
  | x => x
def slp : GenState → Bool
  | .suspended .. => true
  | _ => false
theorem pois_bare (x : GenState) : (pois x).bare = x.bare := by cases x <;> rfl
def isRet : Frame → Bool
  | .ret .. => true
  | .gen .. => false
def noG (fs : List Frame) : Bool := fs.all isRet
def clean : GenState → Bool
  | .suspended _ _ _ _ fs _ => noG fs
  | _ => true
structure PR (o : Nat → Option GenState) (G : Array GenState) : Prop where
  lt : ∀ i x, o i = some x → i < G.size ∧ slp x = true
  at_ : ∀ i x y, o i = some x → G[i]? = some y → y = pois x
  cl : ∀ i y, o i = none → G[i]? = some y → clean y = true
def unp (o : Nat → Option GenState) (G : Array GenState) : Array GenState := G.mapIdx fun i x => (o i).getD x
variable {o : Nat → Option GenState} {G : Array GenState} {s s' : Shared} {M : Model}
theorem PR.push (h : PR o G) (c : Code) : PR o (G.push (.fresh c)) where
  lt := fun i x e => by
    have := h.lt i x e
    refine ⟨?_, this.2⟩
    rw [Array.size_push]
    omega
  at_ := fun i x y e q => by
    have := (h.lt i x e).1
    rw [Array.getElem?_push_lt this] at q
    exact h.at_ i x y e (by rw [Array.getElem?_eq_getElem this]; exact q)
  cl := fun i y e q => by
    by_cases c1 : i < G.size
    · rw [Array.getElem?_push_lt c1] at q
      exact h.cl i y e (by rw [Array.getElem?_eq_getElem c1]; exact q)
    · by_cases c2 : i = G.size
      · subst c2
        rw [Array.getElem?_push_size] at q
        cases q
        rfl
      · rw [Array.getElem?_eq_none (by simp; omega)] at q
        cases q
theorem PR.set (h : PR o G) {g : Nat} {x : GenState} (hg : o g = none) (hx : clean x = true) : PR o (G.setIfInBounds g x) where
  lt := fun i y e => by
    have := h.lt i y e
    simpa using this
  at_ := fun i y z e q => by
    have ne : g ≠ i := fun z => by rw [z, e] at hg; cases hg
    rw [Array.getElem?_setIfInBounds_ne ne] at q
    exact h.at_ i y z e q
  cl := fun i y e q => by
    by_cases c : g = i
    · subst c
      by_cases c2 : g < G.size
      · rw [Array.getElem?_setIfInBounds_self_of_lt c2] at q
        cases q
        exact hx
      · rw [Array.getElem?_eq_none (by simp; omega)] at q
        cases q
    · rw [Array.getElem?_setIfInBounds_ne c] at q
      exact h.cl i y e q
def poisS (s : Shared) : Shared := { s with gens := s.gens.map pois }
def KG (s s' : Shared) : Prop := ∀ (g : Nat) (x : GenState), s.gens[g]? = some x → slp x = true → s'.gens[g]? = some x
end GnF
set_option Elab.async false
set_option linter.all false
set_option maxRecDepth 100000
set_option maxHeartbeats 4000000
namespace GnF
open PySem
open PySem.Sem (wp)
variable {M : Model} {A : Around} {Φ : End → Shared → Prop} {c : Code} {t : Sem PySem.Fin} {fs : List Frame} {s : Shared}
section
variable {prog : Program} {w : World} {env : Env} {K : Flow → Sem PySem.Fin} {H : Value → Sem PySem.Fin} {gd : Bool → Bool} {lv : List Value → List Value} {tg iter elt : Expr} {it : Value} {pos ep yp : Pos} {body : List Stmt}
def kFun : Flow → Sem PySem.Fin := fun f => .pure (.done (.ret (match f with | .ret v => v | _ => .none)))
def hFun (env : Env) : Value → Sem PySem.Fin := fun e => (leaving env e).wrap (fun _ => .raise e) .raise id id
def kLoop (env : Env) : Flow → Sem PySem.Fin := fun f => match f with
  | .next => (execs [] env).wrap kFun (hFun env) id id
  | f => kFun f
def frK (env : Env) (r : Result) : Sem PySem.Fin := ((match r with
  | .ok f => (.pure f : Sem Flow)
  | .error e => .raise e).onRaise fun (x : Value) => do
    if (← field x 1) == Value.none then unsupported "frame.own-activation:exception-without-traceback"
    setFlight x env.frame).wrap (kLoop env) (hFun env) id id
def frG (body : List Stmt) (env : Env) (p : Pos) : Frame := .ret (frK env) none false [] (.func body env) p []
def bodyG (elt : Expr) (yp ep : Pos) : List Stmt := [.Expr (.Yield (some elt) yp) ep]
def hTurn (env : Env) : Value → Sem PySem.Fin := fun e => (do noteFrame e env; theTreesLotGoes e : Sem Unit).bind fun _ => .raise e
def kTurn (tg : Expr) (it : Value) (body : List Stmt) (env : Env) : Flow → Sem PySem.Fin := fun a => Sem.wrap .pure (hTurn env) id id (match a with
  | .next => again (.forLoop tg it body [] env)
  | .cont => again (.forLoop tg it body [] env)
  | .brk => pure (.done .next)
  | .ret v => pure (.done (.ret v)))
def kRest (tg : Expr) (it : Value) (body : List Stmt) (env : Env) : Flow → Sem PySem.Fin := fun f => match f with
  | .next => Sem.wrap (kTurn tg it body env) (fun e => Sem.wrap .pure (hTurn env) id id (.raise e)) id id (execs [] env)
  | a => kTurn tg it body env a
def kY (tg : Expr) (it : Value) (elt : Expr) (yp ep : Pos) (env : Env) : Resume → Sem PySem.Fin := fun r =>
  Sem.wrap (fun a => Sem.wrap (kRest tg it (bodyG elt yp ep) env) (fun e => Sem.wrap .pure (hTurn env) id id (.raise e)) id id (dropValue (.Yield (some elt) yp) ep a))
    (fun e => Sem.wrap (kRest tg it (bodyG elt yp ep) env) (fun e => Sem.wrap .pure (hTurn env) id id (.raise e)) id id (.raise e)) id id
    (match r with
    | .send x => pure x
    | .throw e => raiseThrown e)
end
end GnF
set_option Elab.async false
set_option linter.all false
set_option maxRecDepth 100000
set_option maxHeartbeats 4000000
namespace GnF
open PySem PyProof.Rows
open PySem.Sem (wp)
section
variable {M : Model} {A : Around} {Φ : End → Shared → Prop} {s : Shared}
end
section
variable {prog : Program} {w : World} {A : Around} {E : Value → Shared → Prop} {s : Shared}
end
end GnF
set_option Elab.async false
set_option linter.all false
set_option maxRecDepth 100000
set_option maxHeartbeats 4000000
namespace L2
open PySem PySem.Spec PyProof.Rows GnF
structure GSc (N : List Str) (sc : Scope) : Prop where
  kind : sc.kind = .function
  nocell : ∀ n, cellsFrom n sc.names [] = []
  nokind : ∀ x, sc.names.lookup x ≠ some .cell ∧ sc.names.lookup x ≠ some .free
section
variable {X : Cx} {N : List Str} {qual : Str} {scope : Scope} {f : Addr} {cd : Value} {A : Around} {L : Addr} {s s1 : Shared} {H H1 : Hp} {pins pins' : List (Addr × Obj)} {σ σ' : St}
theorem Inv.gens (I : Inv X pins σ H s) {G : Array GenState} (h : AllBare G) : Inv X pins σ H { s with gens := G } :=
  ⟨I.ok, I.os, h, I.base, I.loc, I.cell, I.free, I.freeC, I.pin, I.hok, I.len⟩
end
end L2
set_option Elab.async false
set_option linter.all false
set_option maxRecDepth 100000
set_option maxHeartbeats 4000000
namespace L2
open PySem PySem.Spec PyProof.Rows GnF
structure GDef where
  N : List Str
  qual : Str
  scope : Scope
  f : Addr
  cd : Value
  tg : Expr
  iter : Expr
  elt : Expr
  yp : Pos
  ep : Pos
  fp : Pos
abbrev GDef.body (G : GDef) : List Stmt := [.For G.tg G.iter (bodyG G.elt G.yp G.ep) [] G.fp]
abbrev GDef.env (G : GDef) (L : Addr) : Env := envOfC G.qual G.scope L G.f G.cd
def GDef.gs (G : GDef) (L it : Addr) (p p' : Pos) : GenState := .suspended (kY G.tg (.ref it) G.elt G.yp G.ep (G.env L)) [] (.forLoop G.tg (.ref it) (bodyG G.elt G.yp G.ep) [] (G.env L)) p' [frG G.body (G.env L) p] false
section
variable {X : Cx} {G : GDef} {A : Around} {L : Addr} {s0 s : Shared} {H0 H : Hp} {pins pw : List (Addr × Obj)} {σ : St} {Φ : End → Shared → Prop} {J : It} {fp : List Addr} {it : Addr} {tn : Nat → Heap → Prop} {gin : TG} {te : TE}
structure SlB (X : Cx) (G : GDef) (pins : List (Addr × Obj)) (L a g : Nat) (ao Lo : Obj) : Prop where
  isg : ∀ h : Heap, h.get? a = some ao → h.IsGen a g
  ne : a ≠ L
  sep : ∀ p ∈ X.pn ++ pins, p.1 ≠ a ∧ p.1 ≠ L
  loc : X.env.locals ≠ a ∧ X.env.locals ≠ L
structure SlS (X : Cx) (G : GDef) (pins : List (Addr × Obj)) (L a g : Nat) (ao Lo : Obj) (J : It) (fp : List Addr) (it : Addr) (tn : Nat → Heap → Prop) (fl : List (Addr × Obj)) (i : Nat) (s : Shared) : Prop extends SlB X G pins L a g ao Lo where
  gen : ∃ p p', s.gens[g]? = some (G.gs L it p p')
  ns : ∀ h : Heap, h.get? L = some Lo → ∃ m, h.Ns L m
  T : Turn X.prog X.w X.K G.tg J fp it tn
  st : tn i s.heap
  fl1 : ∀ b ∈ fp, ∃ o, (b, o) ∈ fl
  fl2 : ∀ p ∈ fl, p.1 ∈ fp
  fpL : ∀ b ∈ fp, L < b ∧ b ≠ a ∧ b ≠ X.env.locals ∧ ∀ p ∈ X.pn ++ pins, p.1 ≠ b
variable {Ok : Hp → Prop} {a g : Nat} {ao Lo : Obj} {i : Nat} {fl : List (Addr × Obj)}
end
end L2
set_option Elab.async false
set_option linter.all false
set_option maxRecDepth 100000
set_option maxHeartbeats 4000000
namespace L2
open PySem PySem.Spec PyProof.Rows GnF
structure GTxt where
  N : List Str
  ps : List Str
  qual : Str
  scope : Scope
  tg : Expr
  iter : Expr
  elt : Expr
  yp : Pos
  ep : Pos
  fp : Pos
abbrev GTxt.d (t : GTxt) (f : Addr) (cd : Value) : GDef := ⟨t.N, t.qual, t.scope, f, cd, t.tg, t.iter, t.elt, t.yp, t.ep, t.fp⟩
structure GTxt.Ok (t : GTxt) : Prop where
  sc : GSc t.N t.scope
  co : t.scope.isCoroutine = false
  gen : t.scope.isGenerator = true
  nd : t.N.Nodup
  pre : t.N.take t.ps.length = t.ps
  par : ∀ x ∈ t.ps, t.scope.names.lookup x = some .local
section
variable {X : Cx} {t : GTxt} {f : Addr} {fd : FuncData} {name : Str} {params : Arguments} {pins : List (Addr × Obj)} {σ : St} {H : Hp} {s : Shared}
theorem bare_pois {s : Shared} (h : AllBare s.gens) : AllBare (poisS s).gens := fun y hy => by
  obtain ⟨i, hi, e⟩ := Array.mem_iff_getElem.mp hy
  have e1 : (s.gens.map pois)[i]? = some y := by
    have : (poisS s).gens[i]? = some y := by rw [Array.getElem?_eq_getElem hi, e]
    exact this
  rw [Array.getElem?_map] at e1
  cases q : s.gens[i]? with
  | none => rw [q] at e1; cases e1
  | some z =>
    rw [q] at e1
    have e2 : pois z = y := Option.some.inj e1
    rw [← e2, pois_bare]
    exact h z (Array.mem_of_getElem? q)
theorem Inv.pois (I : Inv X pins σ H s) : Inv X pins σ H (poisS s) := I.gens (bare_pois I.bare)
theorem SlS.keep {X : Cx} {G : GDef} {pins : List (Addr × Obj)} {L a g : Nat} {ao Lo : Obj} {J : It} {fp : List Addr} {it : Addr} {tn : Nat → Heap → Prop} {fl : List (Addr × Obj)} {i : Nat} {s s' : Shared} (S : SlS X G pins L a g ao Lo J fp it tn fl i s) (k : KG s s')
    (h : ∀ p ∈ fl, s.heap.get? p.1 = some p.2 ∧ s'.heap.get? p.1 = some p.2) : SlS X G pins L a g ao Lo J fp it tn fl i s' := by
  obtain ⟨p, p', e⟩ := S.gen
  refine ⟨S.toSlB, ⟨p, p', k g _ e rfl⟩, S.ns, S.T, S.T.keep _ _ _ S.st fun b hb o ho => ?_, S.fl1, S.fl2, S.fpL⟩
  obtain ⟨o', h1⟩ := S.fl1 b hb
  obtain ⟨h2, h3⟩ := h _ h1
  rw [h2] at ho
  cases ho
  exact h3
end
end L2
set_option Elab.async false
set_option linter.all false
set_option maxRecDepth 100000
set_option maxHeartbeats 4000000
namespace Snd
open PySem PySem.Spec PyProof.Rows L2 Ev GnF
def noCellB (sc : Scope) : Bool := sc.names.all fun y => y.2 != .cell && y.2 != .free
theorem cells_none : ∀ {l : List (Str × NameKind)} {n : Nat} {acc : List (Str × Addr)}, l.all (fun y => y.2 != .cell && y.2 != .free) = true → cellsFrom n l acc = acc
  | [], _, _, _ => rfl
  | (x, kd) :: r, n, acc, h => by
    rw [List.all_cons, Bool.and_eq_true] at h
    unfold cellsFrom
    have : (kd == NameKind.cell) = false := by cases kd <;> first | rfl | (simp at h)
    rw [this]
    exact cells_none h.2
theorem kinds_none : ∀ {l : List (Str × NameKind)} {x : Str}, l.all (fun y => y.2 != .cell && y.2 != .free) = true → l.lookup x ≠ some .cell ∧ l.lookup x ≠ some .free
  | [], x, _ => ⟨fun e => (by cases e), fun e => (by cases e)⟩
  | (y, kd) :: r, x, h => by
    rw [List.all_cons, Bool.and_eq_true] at h
    have ih := kinds_none (x := x) h.2
    rw [List.lookup_cons]
    cases x == y with
    | true => exact ⟨fun e => (by cases e; simp at h), fun e => (by cases e; simp at h)⟩
    | false => exact ih
structure GFor (S : Src) (F : FnS) (x gn fs : Str) (p1 p2 p3 p4 p5 p6 p7 p8 p9 : Pos) : Prop where
  body : F.d.body = [.For (.Name x p1) (.Attribute (.Name ("self" : Str) p2) fs p3) (bodyG (.Call (.Name gn p4) [.Name x p5] [] p6) p7 p8) [] p9]
  N : F.N = [("self" : Str), x]
  ps : F.ps = [("self" : Str)]
  ne : ("self" : Str) ≠ x
  kind : F.d.scope.kind = .function
  co : F.d.scope.isCoroutine = false
  gen : F.d.scope.isGenerator = true
  cells : noCellB F.d.scope = true
  n0 : F.d.scope.names.lookup ("self" : Str) = some .local
  n1 : F.d.scope.names.lookup x = some .local
  g : okGlo F.d.scope gn = true
  d1 : okVis F.d.scope ("self" : Str) = true
  d2 : okVis F.d.scope x = true
  dfl : F.d.dfl = []
  bind : ∀ (kV doc pm : Value) (an : Option Addr) (cdv ct : Value) (us : List Value), us.length = F.ps.length → bindArgs (PySem.W.fnOf F.d.name F.d.qual F.d.params F.d.body F.d.scope .none kV doc pm an cdv ct) ⟨us, []⟩ = pure (F.ps.zip us)
  att : ∀ env : Env, attributeBase (.Name ("self" : Str) p2) fs env (eval (.Name ("self" : Str) p2) env) = eval (.Name ("self" : Str) p2) env
section
variable {S : Src} {X : Cx} {W : WX} {nm : Nm} {cf : Nat → List D → Sto → R D} {pos : Pos} {k : Nat} {F : FnS} {x gn fs : Str} {p1 p2 p3 p4 p5 p6 p7 p8 p9 : Pos}
abbrev txtG (F : FnS) (x gn fs : Str) (p1 p2 p3 p4 p5 p6 p7 p8 p9 : Pos) : GTxt := ⟨F.N, F.ps, F.d.qual, F.d.scope, .Name x p1, .Attribute (.Name ("self" : Str) p2) fs p3, .Call (.Name gn p4) [.Name x p5] [] p6, p7, p8, p9⟩
theorem GFor.ok (h : GFor S F x gn fs p1 p2 p3 p4 p5 p6 p7 p8 p9) : (txtG F x gn fs p1 p2 p3 p4 p5 p6 p7 p8 p9).Ok where
  sc := ⟨h.kind, fun n => cells_none h.cells, fun y => kinds_none h.cells⟩
  co := h.co
  gen := h.gen
  nd := by
    show F.N.Nodup
    rw [h.N]
    simp [h.ne]
  pre := by
    show F.N.take F.ps.length = F.ps
    rw [h.N, h.ps]
    rfl
  par := fun y hy => by
    have hy : y ∈ F.ps := hy
    rw [h.ps] at hy
    obtain rfl : y = ("self" : Str) := by simpa using hy
    exact h.n0
end
end Snd
set_option Elab.async false
set_option linter.all false
set_option maxRecDepth 100000
set_option maxHeartbeats 4000000
namespace L2
open PySem PySem.Spec PyProof.Rows GnF
section
variable {Y : Cx} {G : GDef} {L a g D : Nat} {ao : Obj} {σw σ0 : St} {wi : TI} {gin : TG} {te : TE} {Q : VK} {Wv : Nat → Nat → Hp → Prop}
variable {X : Cx} {pins : List (Addr × Obj)} {σ : St} {H : Hp} {s : Shared} {Lo : Obj}
end
end L2
namespace Snd
open PySem PySem.Spec PyProof.Rows L2 Ev GnF
section
variable {S : Src} {X : Cx} {W : WX} {nm : Nm} {cf : Nat → List D → Sto → R D} {pos : Pos} {k : Nat} {F : FnS} {x gn fs : Str} {p1 p2 p3 p4 p5 p6 p7 p8 p9 : Pos}
end
end Snd
set_option Elab.async false
set_option linter.all false
set_option maxRecDepth 100000
set_option maxHeartbeats 4000000
namespace Snd
open PySem PySem.Spec PyProof.Rows L2 Ev
section
variable {S : Src} {X : Cx} {W : WX} {nm : Nm} {cf : Nat → List D → Sto → R D} {pos : Pos} {k : Nat}
end
end Snd
set_option Elab.async false
set_option linter.all false
set_option maxRecDepth 100000
set_option maxHeartbeats 4000000
namespace PySem.W
open PySem PySem.Calls PyProof.Rows
section
variable {prog : Program} {w : World} {A : Around} {E : Value → Shared → Prop} {s : Shared} {env : Env} {K : Frag} {x C fe fx : Addr} {ox : Obj} {od : Option Obj} {pos : Pos}
end
end PySem.W
namespace Snd
open PySem PySem.Spec PyProof.Rows L2 Ev
section
variable {X : Cx} {pins : List (Addr × Obj)} {σ : L2.St} {H : Hp} {s : Shared}
variable {a T : Addr} {oe oT : Obj} {va vT : Array Value} {cls : Value} {d : Option Addr}
end
end Snd
set_option Elab.async false
set_option linter.all false
set_option maxRecDepth 100000
set_option maxHeartbeats 4000000
namespace Snd
open PySem PySem.Spec PyProof.Rows L2 Ev
section
variable {X : Cx} {T : Tab} {nm : Nm} {K : PySem.W.Frag} {W : WX} {cf : Nat → List D → Sto → R D} {pos : Pos} {k : Nat} {g g0 g' : Gh} {ρ : Rho} {σ : L2.St} {H : Hp} {st : Sto}
end
end Snd
set_option Elab.async false
set_option linter.all false
set_option maxRecDepth 100000
set_option maxHeartbeats 4000000
namespace Snd
open PySem PySem.Spec PyProof.Rows L2 Ev
section
variable {X : Cx} {T : Tab} {nm : Nm} {W : WX} {cf : Nat → List D → Sto → R D} {pos : Pos} {k : Nat}
end
section
variable {S : Src} {X : Cx} {W : WX} {nm : Nm} {cf : Nat → List D → Sto → R D} {pos : Pos} {k : Nat}
end
end Snd
set_option Elab.async false
set_option linter.all false
set_option maxRecDepth 100000
set_option maxHeartbeats 4000000
namespace L2
open PySem PySem.Spec PyProof.Rows
section
variable {X : Cx}
theorem pe_made {e : Expr} {t : St → Hp → XK → Prop} (h : PMk X e t) : PE X e (fun σ H Q => t σ H fun cls d H1 => ∀ a, H1 a = none → Q (.ref a) (upd H1 a (exK cls d a))) := by
  refine ⟨fun pins s σ H Q I q => ?_⟩
  refine wpAny_mono (h pins s σ H _ I q) (fun u s1 hu => ?_) fun _ _ x => x
  obtain ⟨a, oe, vs, sI, H1, cls, d, rfl, J, k, hne, ha, hz, hd, h1, na, os, ag, r, q⟩ := hu
  have J1 := J.laidN (t' := s1.toks) k hne na (exK_ok (P := X.prog) (w := X.w) (H := upd H1 a (exK cls d a)) ha hz hd)
  exact ⟨.ref a, upd H1 a (exK cls d a), ⟨J1.ok, os.trans J1.os, ag, J1.base, J1.loc, J1.cell, J1.free, J1.freeC, J1.pin, J1.hok, J1.len⟩, rfl, q a na⟩
theorem exK_at {P : Program} {w : World} {H : Hp} {h : Heap} {a : Addr} {cls : Value} {d : Option Addr} (hok : HOk P w H h) (e : H a = some (exK cls d a)) : ∃ (oe : Obj) (vs : Array Value), h.get? a = some oe ∧ Zc cls d oe ∧ oe.data = .fields vs :=
  (hok a _ e).1
def rIsV (K : PySem.W.Frag) : List V → Hp → VK → Prop := fun xs H Q => ∃ (a D : Addr) (d : Option Addr) (c : V) (cv : Value) (b : Bool), xs = [.ref a, c] ∧ H a = some (exK (.ref D) d a) ∧ ExcC K D ∧ (∀ u, RelV c u → u = cv) ∧ (d = none ∨ ∃ dd fs, d = some dd ∧ H dd = some (.xd fs)) ∧ PySem.W.kitOne K (.ref D) cv = some b ∧ Q (.bl b) H
theorem call_isV : CallR X (.builtin "isinstance") (rIsV X.K) := by
  intro pins s σ H xs us Q I r h
  obtain ⟨a, D, d, c, cv, b, rfl, hA, C, hcv, hdd, e, q⟩ := h
  cases r with
  | cons rx rr =>
    cases rr with
    | cons rt rr =>
      cases rr
      cases rx
      have ec := hcv _ rt
      subst ec
      obtain ⟨oe, vs, hget, hz, hv⟩ := exK_at I.hok hA
      have J : ∃ od, PySem.W.InstAt s.heap a oe D od := by
        obtain ⟨oc, od, oda, osl⟩ := oe
        obtain ⟨h1, h2⟩ := hz
        dsimp only at h1 h2 hv
        subst h1 h2 hv
        rcases hdd with z | ⟨dd, fs, z, ez⟩
        · subst z
          exact ⟨none, hget, rfl, rfl, trivial⟩
        · subst z
          have hx : ObjOk X.prog X.w H s.heap dd (.xd fs) := I.hok dd _ ez
          obtain ⟨mA, hns, hr⟩ := hx
          obtain ⟨od, ho, hl⟩ := lookIn_ns hns
          exact ⟨some od, hget, rfl, rfl, ho⟩
      obtain ⟨od, J⟩ := J
      exact PySem.W.kia_one (PySem.W.kitx_excX C) I.kIn J e (fun z => nomatch z) fun tk => ⟨.bl b, H, I.kept (t' := tk) fun _ _ z => z, rfl, q⟩
def tXv (K : PySem.W.Frag) (f : Str) (te : TE) : TE := fun σ H Q => te σ H fun x H1 => ∃ (a C dd : Addr) (fs : List (Str × V)) (v : V), x = .ref a ∧ H1 a = some (exK (.ref C) (some dd) a) ∧ XfC K C ∧ PySem.W.findIn K (.ref C) f = some none ∧ H1 dd = some (.xd fs) ∧ fs.lookup f = some v ∧ Q v H1
theorem pe_xv {e : Expr} {te : TE} {pos : Pos} {n : Str} (he : PE X e te) (hb : attributeBase e n X.env (eval e X.env) = eval e X.env) : PE X (.Attribute e n pos) (tXv X.K n te) := by
  refine ⟨fun pins s σ H Q I h => ?_⟩
  refine attr_of hb (thn (he.run pins s σ H _ I h) fun u s1 hh => ?_)
  obtain ⟨x, H1, I1, rx, a, C, dd, fs, v, ex, hA, T, hno, ea, l, q⟩ := hh
  subst ex
  obtain rfl : u = Value.ref a := rx
  obtain ⟨oe, vs, ha, hz, hd⟩ := exK_at I1.hok hA
  have hx : ObjOk X.prog X.w H1 s1.heap dd (.xd fs) := I1.hok dd _ ea
  obtain ⟨mA, hns, hr⟩ := hx
  obtain ⟨od, ho, hl⟩ := lookIn_ns hns
  obtain ⟨u, hu, ru⟩ := RelO.some_of (v := v) (o := mA n) (by rw [← l]; exact hr n)
  have J : PySem.W.InstAt s1.heap a oe C (some od) := ⟨ha, hz.1, by unfold PySem.W.notCls; rw [hd] <;> rfl, by rw [hz.2]; exact ho⟩
  exact HandSPX.exc_get I1.kIn J T.ga T.gg T.exC (PySem.W.findObj_own T.hdC hno rfl (by rw [hl, hu])) (handed_of ru) ⟨v, H1, I1.tok _, ru, q⟩
end
end L2
namespace Snd
open PySem PySem.Spec PyProof.Rows L2 Ev
section
variable {X : Cx} {T : Tab} {nm : Nm} {W : WX} {cf : Nat → List D → Sto → R D} {pos : Pos} {k : Nat}
theorem se_makX {c : Nat} {C : Ev.Cls} {e : Expr} {as : Es} (hC : T.cls c = some C) (he : PMk X e (tMk (X := X) (T := T) (nm := nm) (cf := cf) W c C as)) : PE X e (tE T nm X.K cf W (.makX c as)) :=
  PE.imp (pe_made he) fun σ H Q ⟨g, ρ, st, m, o⟩ => ⟨g, ρ, st, m, Out.imp (Out.bind o) fun ds st1 g1 H1 l1 m1 o1 => by
    have o2 : Out T nm X.K W g1 ρ σ (fun d _ g' H' => ∀ v, RepR T nm X.K g g' d v → Q v H') (match T.cls c with
      | some C => if raisable C ds then .ok (.ref st1.length) (st1 ++ [.exv c ds]) else .no
      | none => .no) := o1
    rw [hC] at o2
    have o3 : Out T nm X.K W g1 ρ σ (fun d _ g' H' => ∀ v, RepR T nm X.K g g' d v → Q v H') (if raisable C ds then .ok (.ref st1.length) (st1 ++ [.exv c ds]) else .no) := o2
    by_cases r : raisable C ds = true
    · rw [if_pos r] at o3
      refine ⟨r, fun cv dd g2 H2 l2 m2 xr a na => ?_⟩
      obtain ⟨ecv, xr'⟩ := id xr
      subst ecv
      have m3 : Mt T nm X.K (put g2 a (.held (exK (.ref (cad nm X.K c)) dd a))) ρ st1 σ (upd H2 a (exK (.ref (cad nm X.K c)) dd a)) := m2.new na (.inr rfl)
      have l3 : Le g2 (put g2 a (.held (exK (.ref (cad nm X.K c)) dd a))) := le_put (m2.fresh na)
      obtain ⟨m4, lm⟩ := m3.storedO put_same (ob := .exv c ds) ⟨dd, rfl, xr.mono l3.lim⟩
      refine o3 _ _ (fun b t z => ?_) m4 (.ref a) (.ref put_same)
      have nb : b ≠ a := fun q => by rw [q] at z; have := l2 _ _ z; rw [m2.fresh na] at this; cases this
      rw [put_ne nb]
      exact l3 b t (l2 b t z)
    · rw [if_neg r] at o3
      exact o3.elim⟩
theorem sto_exv {g : Gh} {ρ : Rho} {st : Sto} {σ : L2.St} {H : Hp} {r c : Nat} {ds : List D} {v : V} (h : Rep T nm X.K g (.ref r) v) (m : Mt T nm X.K g ρ st σ H) (e : st[r]? = some (.exv c ds)) : ∃ a dd, v = .ref a ∧ H a = some (exK (.ref (cad nm X.K c)) dd a) ∧ XnR T nm X.K g ⟨c, ds⟩ (.ref (cad nm X.K c)) dd := by
  cases h with
  | ref hp =>
    obtain ⟨b, o, h1, h2, dd, h3, h4⟩ := m.sto r _ e
    have := m.uniq _ _ r hp h1
    subst this
    subst h3
    exact ⟨_, dd, rfl, h2, h4⟩
theorem se_isX {t : TY} {p : Pos} {e1 e2 : Expr} {a : E} (ha : PE X e1 (tE T nm X.K cf W a))
    (hX : ∀ c C, T.cls c = some C → C.exc = true → XcI (co X) T nm c C) (hk : Kit (co X) T nm) (hg : Gl X "isinstance") (hm : X.mg "isinstance" = none) (ht : PE X e2 (tC (tyW nm X.K t)))
    (h1 : starEach [e1, e2] X.env = (false, eval e1 X.env) :: starEach [e2] X.env) (h2 : starEach [e2] X.env = (false, eval e2 X.env) :: starEach [] X.env) :
    PE X (.Call (.Name "isinstance" p) [e1, e2] [] pos) (tE T nm X.K cf W (.isX a t)) :=
  PE.imp (pe_callB call_isV hg hm (by decide +kernel) (pa_cons ha (pa_cons ht pa_nil h2) h1) (by decide) (by decide) h1 (by rw [h2]; rfl)) fun σ H Q ⟨g, ρ, st, m, o⟩ => ⟨g, ρ, st, m, Out.imp (Out.bind o) fun d st1 g1 H1 l1 m1 o1 v rr => by
    cases d with
    | ref r =>
      cases h : st1[r]? with
      | none => simp only [isXE, h] at o1; exact o1.elim
      | some ob =>
        cases ob with
        | exv c ds =>
          have o2 : Out T nm X.K W g1 ρ σ (fun d _ g' H' => ∀ v, RepR T nm X.K g g' d v → Q v H') (if isErr T c && T.isi.contains t then R.of ((kdIs T (.exc c) t).map D.bl) st1 else .no) := by
            simpa only [isXE, h] using o1
          by_cases ec0 : (isErr T c && T.isi.contains t) = true
          · rw [if_pos ec0] at o2
            obtain ⟨ec, hin⟩ := Bool.and_eq_true_iff.mp ec0
            obtain ⟨C, hC, hce⟩ := isErr_some ec
            have xi := hX c C hC hce
            obtain ⟨a, dd, rfl, hA, _, xr⟩ := sto_exv rr m1 h
            cases hb : kdIs T (.exc c) t with
            | none => rw [hb] at o2; exact o2.elim
            | some b =>
              rw [hb] at o2
              have hdd : dd = none ∨ ∃ d0 fs, dd = some d0 ∧ H1 d0 = some (.xd fs) := by
                rcases xr with ⟨_, z⟩ | ⟨d0, vs, z1, z2, _, _⟩
                · exact .inl z
                · exact .inr ⟨d0, _, z1, m1.imm _ _ z2⟩
              exact ⟨a, _, dd, _, _, b, rfl, hA, xi.x, tyW_only nm X.K t, hdd, hk _ _ b hin hb, o2.ok m1 _ (.bl b)⟩
          · rw [if_neg ec0] at o2
            exact o2.elim
        | _ => simp only [isXE, h] at o1; exact o1.elim
    | _ => exact o1.elim⟩
theorem se_atX {m : Nat} {x : Str} {e1 : Expr} {a : E} (ha : PE X e1 (tE T nm X.K cf W a)) (hx : x = nm.attr m) (hX : ∀ c C, T.cls c = some C → C.exc = true → XcI (co X) T nm c C) (hb : attributeBase e1 x X.env (eval e1 X.env) = eval e1 X.env) :
    PE X (.Attribute e1 x pos) (tE T nm X.K cf W (.atX a m)) :=
  PE.imp (pe_xv ha hb) fun σ H Q ⟨g, ρ, st, mt, o⟩ => ⟨g, ρ, st, mt, Out.imp (Out.bind o) fun d st1 g1 H1 l1 m1 o1 v rr => by
    cases d with
    | ref r =>
      cases h : st1[r]? with
      | none => simp only [atXE, h] at o1; exact o1.elim
      | some ob =>
        cases ob with
        | exv c ds =>
          have o2 : Out T nm X.K W g1 ρ σ (fun d _ g' H' => ∀ v, RepR T nm X.K g g' d v → Q v H') (if isErr T c then R.of (fieldD T c m ds) st1 else .no) := by
            simpa only [atXE, h] using o1
          by_cases ec : isErr T c = true
          · rw [if_pos ec] at o2
            obtain ⟨C, hC, hce⟩ := isErr_some ec
            have xi := hX c C hC hce
            obtain ⟨a, dd, rfl, hA, _, xr⟩ := sto_exv rr m1 h
            cases hf : fieldD T c m ds with
            | none => rw [hf] at o2; exact o2.elim
            | some dv =>
              rw [hf] at o2
              rcases xr with ⟨z, _⟩ | ⟨d0, vs, z1, z2, z3, z4⟩
              · have z' : ds = [] := z
                subst z'
                unfold fieldD at hf
                rw [hC] at hf
                cases q : posOf m C.fields with
                | none => simp [q] at hf
                | some j => simp [q] at hf
              · obtain ⟨vv, l2, rv, hm⟩ := field_at (X := X) (g := g1) (vs := vs) hC xi.nd z4 hf
                subst hx
                subst z1
                exact ⟨a, _, d0, _, vv, rfl, hA, xi.xf, xi.noat m hm, m1.imm _ _ z2, l2, o2.ok m1 vv (RepR.plain rv rv.plain)⟩
          · rw [if_neg ec] at o2
            exact o2.elim
        | _ => simp only [atXE, h] at o1; exact o1.elim
    | _ => exact o1.elim⟩
end
section
variable {S : Src} {X : Cx} {W : WX} {nm : Nm} {cf : Nat → List D → Sto → R D} {k : Nat} {pos : Pos}
theorem x_makX (c : CtE S X W nm cf k) {i : Nat} {C : Ev.Cls} {x : Str} {p : Pos} {e : Expr} {es : List Expr} {as : Es} (hC : S.clAt i = some C) (ha : PA X (e :: es) (tA S.T nm X.K cf W as)) (hx : C.exc = true := by rfl) (hf : C.fields ≠ [] := by exact List.cons_ne_nil _ _) (hn : x = nm.cls i := by rfl) (h : okGlo X.env.scope x = true := by rfl)
    (hp1 : plainX e = true := by rfl) (hp2 : plainXs es = true := by rfl) : PE X (.Call (.Name x p) (e :: es) [] pos) (tE S.T nm X.K cf W (.makX i as)) := by
  obtain ⟨h1, h2⟩ := okGlo_of h
  subst hn
  exact se_makX hC (mk_own hC (c.f.er i C hC hx) hf c.r h1 (c.f.mgc i C hC) ha h2 (star_of hp1) (stars_of hp2))
theorem x_makX0 (c : CtE S X W nm cf k) {i : Nat} {C : Ev.Cls} {x : Str} {p : Pos} (hC : S.clAt i = some C) (hx : C.exc = true := by rfl) (hf : C.fields = [] := by rfl) (hcat : C.cat = false := by rfl) (hn : x = nm.cls i := by rfl) (h : okGlo X.env.scope x = true := by rfl) :
    PE X (.Call (.Name x p) [] [] pos) (tE S.T nm X.K cf W (.makX i .nil)) := by
  obtain ⟨h1, h2⟩ := okGlo_of h
  subst hn
  exact se_makX hC (mk_pass0 (c.f.er i C hC hx) hf hcat hx h1 (c.f.mgc i C hC) h2)
theorem x_isX (c : CtE S X W nm cf k) {p : Pos} {e1 e2 : Expr} {a : E} {t : TY} (hx : ("isinstance" : Str) ∈ S.free) (ha : PE X e1 (tE S.T nm X.K cf W a)) (ht : PE X e2 (tC (tyW nm X.K t))) (h : okGlo X.env.scope "isinstance" = true := by rfl) (h1 : plainX e1 = true := by rfl) (h2 : plainX e2 = true := by rfl) :
    PE X (.Call (.Name "isinstance" p) [e1, e2] [] pos) (tE S.T nm X.K cf W (.isX a t)) := se_isX ha (fun i C hC he => c.f.xc i C hC he) c.f.kit (okGlo_of h).1 (c.f.free _ hx) ht (star_of h1) (star_of h2)
theorem x_atX (c : CtE S X W nm cf k) {e : Expr} {a : E} {m : Nat} {x : Str} (ha : PE X e (tE S.T nm X.K cf W a)) (hx : x = nm.attr m := by rfl) (hb : noCall e = true := by rfl) : PE X (.Attribute e x pos) (tE S.T nm X.K cf W (.atX a m)) :=
  se_atX ha hx (fun i C hC he => c.f.xc i C hC he) (abase_of hb)
end
end Snd
set_option Elab.async false
set_option linter.all false
namespace Ev
section
variable {T : Tab} {cf : Nat → List D → Sto → R D} {ρ : Rho} {st : Sto}
@[simp] theorem bor_non {r : R D}  : bor (.non ) ρ st r = r := (rfl)
@[simp] theorem bor_bl {r : R D} {b} : bor (.bl b) ρ st r = r := (rfl)
@[simp] theorem bor_int {r : R D} {i} : bor (.int i) ρ st r = r := (rfl)
@[simp] theorem bor_str {r : R D} {s} : bor (.str s) ρ st r = r := (rfl)
@[simp] theorem bor_con {r : R D} {j} : bor (.con j) ρ st r = r := (rfl)
@[simp] theorem bor_neg {r : R D} {a} : bor (.neg a) ρ st r = r := (rfl)
@[simp] theorem bor_not {r : R D} {a} : bor (.not a) ρ st r = r := (rfl)
@[simp] theorem bor_bin {r : R D} {o a b} : bor (.bin o a b) ρ st r = r := (rfl)
@[simp] theorem bor_cmp {r : R D} {o a b} : bor (.cmp o a b) ρ st r = r := (rfl)
@[simp] theorem bor_icmp {r : R D} {o a b} : bor (.icmp o a b) ρ st r = r := (rfl)
@[simp] theorem bor_ibin {r : R D} {o a b} : bor (.ibin o a b) ρ st r = r := (rfl)
@[simp] theorem bor_dnewN {r : R D}  : bor (.dnewN ) ρ st r = r := (rfl)
@[simp] theorem bor_lstY {r : R D} {i c a m} : bor (.lstY i c a m) ρ st r = r := (rfl)
@[simp] theorem bor_lenR {r : R D} {a} : bor (.lenR a) ρ st r = r := (rfl)
@[simp] theorem bor_ixR {r : R D} {a b} : bor (.ixR a b) ρ st r = r := (rfl)
@[simp] theorem bor_ixN {r : R D} {a b} : bor (.ixN a b) ρ st r = r := (rfl)
@[simp] theorem bor_inN {r : R D} {n k a} : bor (.inN n k a) ρ st r = r := (rfl)
@[simp] theorem bor_isdN {r : R D} {a} : bor (.isdN a) ρ st r = r := (rfl)
@[simp] theorem bor_dcompN {r : R D} {i k v a} : bor (.dcompN i k v a) ρ st r = r := (rfl)
@[simp] theorem bor_lenN {r : R D} {a} : bor (.lenN a) ρ st r = r := (rfl)
@[simp] theorem bor_cpN {r : R D} {a} : bor (.cpN a) ρ st r = r := (rfl)
@[simp] theorem bor_lstN {r : R D} {a} : bor (.lstN a) ρ st r = r := (rfl)
@[simp] theorem bor_fldC {r : R D} {c m a} : bor (.fldC c m a) ρ st r = r := (rfl)
@[simp] theorem bor_compK {r : R D} {i e a t} : bor (.compK i e a t) ρ st r = r := (rfl)
@[simp] theorem bor_compP {r : R D} {i j e a t} : bor (.compP i j e a t) ρ st r = r := (rfl)
@[simp] theorem bor_makX {r : R D} {c as} : bor (.makX c as) ρ st r = r := (rfl)
@[simp] theorem bor_isX {r : R D} {a t} : bor (.isX a t) ρ st r = r := (rfl)
@[simp] theorem bor_atX {r : R D} {a m} : bor (.atX a m) ρ st r = r := (rfl)
@[simp] theorem bor_attrR {r : R D} {a m} : bor (.attrR a m) ρ st r = r := (rfl)
@[simp] theorem bor_methR {r : R D} {m a as} : bor (.methR m a as) ρ st r = r := (rfl)
@[simp] theorem bor_makeM {r : R D} {c as} : bor (.makeM c as) ρ st r = r := (rfl)
@[simp] theorem bor_chain {r : R D} {o p a b c} : bor (.chain o p a b c) ρ st r = r := (rfl)
@[simp] theorem bor_and {r : R D} {a b} : bor (.and a b) ρ st r = r := (rfl)
@[simp] theorem bor_or {r : R D} {a b} : bor (.or a b) ρ st r = r := (rfl)
@[simp] theorem bor_ite {r : R D} {t a b} : bor (.ite t a b) ρ st r = r := (rfl)
@[simp] theorem bor_call {r : R D} {f as} : bor (.call f as) ρ st r = r := (rfl)
@[simp] theorem bor_make {r : R D} {c as} : bor (.make c as) ρ st r = r := (rfl)
@[simp] theorem bor_meth {r : R D} {m a as} : bor (.meth m a as) ρ st r = r := (rfl)
@[simp] theorem bor_kmeth {r : R D} {c m a as} : bor (.kmeth c m a as) ρ st r = r := (rfl)
@[simp] theorem bor_attr {r : R D} {a m} : bor (.attr a m) ρ st r = r := (rfl)
@[simp] theorem bor_bi {r : R D} {b as} : bor (.bi b as) ρ st r = r := (rfl)
@[simp] theorem bor_isi {r : R D} {a ts} : bor (.isi a ts) ρ st r = r := (rfl)
@[simp] theorem bor_tup {r : R D} {as} : bor (.tup as) ρ st r = r := (rfl)
@[simp] theorem bor_lst {r : R D} {as} : bor (.lst as) ρ st r = r := (rfl)
@[simp] theorem bor_ix {r : R D} {a i} : bor (.ix a i) ρ st r = r := (rfl)
@[simp] theorem bor_sl {r : R D} {a l h} : bor (.sl a l h) ρ st r = r := (rfl)
@[simp] theorem bor_nop {r : R D}  : bor (.nop ) ρ st r = r := (rfl)
@[simp] theorem bor_dcomp {r : R D} {i k v s t} : bor (.dcomp i k v s t) ρ st r = r := (rfl)
@[simp] theorem bor_comp2 {r : R D} {i s i2 s2 e t} : bor (.comp2 i s i2 s2 e t) ρ st r = r := (rfl)
@[simp] theorem bor_comp {r : R D} {i e s t} : bor (.comp i e s t) ρ st r = r := (rfl)
@[simp] theorem bor_compX {r : R D} {i e a t} : bor (.compX i e a t) ρ st r = r := (rfl)
@[simp] theorem bor_splT {r : R D} {c a} : bor (.splT c a) ρ st r = r := (rfl)
@[simp] theorem bor_parT {r : R D} {c a} : bor (.parT c a) ρ st r = r := (rfl)
@[simp] theorem bor_joinT {r : R D} {c a} : bor (.joinT c a) ρ st r = r := (rfl)
@[simp] theorem bor_inT {r : R D} {n a b} : bor (.inT n a b) ρ st r = r := (rfl)
@[simp] theorem bor_intT {r : R D} {a} : bor (.intT a) ρ st r = r := (rfl)
@[simp] theorem bor_fst {r : R D} {as} : bor (.fst as) ρ st r = r := (rfl)
@[simp] theorem bor_sto {r : R D} {a} : bor (.sto a) ρ st r = r := (rfl)
@[simp] theorem bor_xat {r : R D} {i m} : bor (.xat i m) ρ st r = r := (rfl)
@[simp] theorem bor_xis {r : R D} {i t} : bor (.xis i t) ρ st r = r := (rfl)
@[simp] theorem bor_stuck {r : R D}  : bor (.stuck ) ρ st r = r := (rfl)
@[simp] theorem bor_frz {r : R D} {a} : bor (.frz a) ρ st r = r := (rfl)
@[simp] theorem bor_inv {r : R D} {a as} : bor (.inv a as) ρ st r = r := (rfl)
@[simp] theorem bor_dnew {r : R D}  : bor (.dnew ) ρ st r = r := (rfl)
@[simp] theorem bor_dnewT {r : R D}  : bor (.dnewT ) ρ st r = r := (rfl)
@[simp] theorem bor_ixT {r : R D} {a as} : bor (.ixT a as) ρ st r = r := (rfl)
@[simp] theorem bor_pop {r : R D} {a i} : bor (.pop a i) ρ st r = r := (rfl)
@[simp] theorem bor_down {r : R D} {a} : bor (.down a) ρ st r = r := (rfl)
@[simp] theorem bor_dlit {r : R D} {k v} : bor (.dlit k v) ρ st r = r := (rfl)
@[simp] theorem bor_ceq {r : R D} {n a b} : bor (.ceq n a b) ρ st r = r := (rfl)
@[simp] theorem bor_var {r : R D} {i : Nat} : bor (.var i) ρ st r = R.of (rdB ρ i) st := (rfl)
def pkB : Option (Option D) → Option D
  | some (some d) => some d
  | _ => none
def pkV : Option (Option D) → Option D
  | some (some (.own _)) => none
  | some (some (.obj _ _)) => none
  | some (some (.exc _ _)) => none
  | some (some d) => some d
  | _ => none
@[simp] theorem pkB_some {d : D} : pkB (some (some d)) = some d := (rfl)
@[simp] theorem rdB_pk {i : Nat} : rdB ρ i = pkB ρ[i]? := by
  unfold rdB pkB
  split <;> simp_all
@[simp] theorem rdV_pk {i : Nat} : rdV ρ i = pkV ρ[i]? := by
  unfold rdV pkV
  split <;> simp_all
@[simp] theorem pkV_non  : pkV (some (some (.non ))) = some (.non ) := (rfl)
@[simp] theorem pkV_bl {b} : pkV (some (some (.bl b))) = some (.bl b) := (rfl)
@[simp] theorem pkV_int {i} : pkV (some (some (.int i))) = some (.int i) := (rfl)
@[simp] theorem pkV_str {s} : pkV (some (some (.str s))) = some (.str s) := (rfl)
@[simp] theorem pkV_tup {ds} : pkV (some (some (.tup ds))) = some (.tup ds) := (rfl)
@[simp] theorem pkV_lst {ds} : pkV (some (some (.lst ds))) = some (.lst ds) := (rfl)
@[simp] theorem pkV_scr {ns} : pkV (some (some (.scr ns))) = some (.scr ns) := (rfl)
@[simp] theorem pkV_ins {c ds} : pkV (some (some (.ins c ds))) = some (.ins c ds) := (rfl)
@[simp] theorem pkV_ref {k} : pkV (some (some (.ref k))) = some (.ref k) := (rfl)
@[simp] theorem evE_non  : evE T cf (.non ) ρ st = .ok (.non) st := (rfl)
@[simp] theorem evE_bl {b : Bool} : evE T cf (.bl b) ρ st = .ok (.bl b) st := (rfl)
@[simp] theorem evE_int {i : Int} : evE T cf (.int i) ρ st = .ok (.int i) st := (rfl)
@[simp] theorem evE_str {s : List Nat} : evE T cf (.str s) ρ st = .ok (.str s) st := (rfl)
@[simp] theorem evE_var {i : Nat} : evE T cf (.var i) ρ st = R.of (rdV ρ i) st := (rfl)
@[simp] theorem evE_con {i : Nat} : evE T cf (.con i) ρ st = .ok (T.con i) st := (rfl)
def kNeg (T : Tab) (cf : Nat → List D → Sto → R D)  (r : R D) : R D := r.bind fun x st => negE T cf x st
@[simp] theorem kNeg_ok  {x : D} {st : Sto} : kNeg T cf  (.ok x st) = negE T cf x st := (rfl)
@[simp] theorem kNeg_er  {x : Xn} {st : Sto} : kNeg T cf  (.er x st) = .er x st := (rfl)
@[simp] theorem kNeg_no  : kNeg T cf  .no = .no := (rfl)
@[simp] theorem evE_neg {a : E} : evE T cf (.neg a) ρ st = kNeg T cf (evE T cf a ρ st) := (rfl)
def kNot  (r : R D) : R D := r.bind fun x st => R.of ((truthS st x).map fun b => .bl (!b)) st
@[simp] theorem kNot_ok  {x : D} {st : Sto} : kNot  (.ok x st) = R.of ((truthS st x).map fun b => .bl (!b)) st := (rfl)
@[simp] theorem kNot_er  {x : Xn} {st : Sto} : kNot  (.er x st) = .er x st := (rfl)
@[simp] theorem kNot_no  : kNot  .no = .no := (rfl)
@[simp] theorem evE_not {a : E} : evE T cf (.not a) ρ st = kNot (bor a ρ st (evE T cf a ρ st)) := (rfl)
def kBin2 (T : Tab) (cf : Nat → List D → Sto → R D) (o : BO) (z : D) (r : R D) : R D := r.bind fun x st => binE T cf o z x st
@[simp] theorem kBin2_ok {o : BO} {z : D} {x : D} {st : Sto} : kBin2 T cf o z (.ok x st) = binE T cf o z x st := (rfl)
@[simp] theorem kBin2_er {o : BO} {z : D} {x : Xn} {st : Sto} : kBin2 T cf o z (.er x st) = .er x st := (rfl)
@[simp] theorem kBin2_no {o : BO} {z : D} : kBin2 T cf o z .no = .no := (rfl)
def kBin1 (T : Tab) (cf : Nat → List D → Sto → R D) (o : BO) (b : E) (ρ : Rho) (r : R D) : R D := r.bind fun x st => kBin2 T cf o x (bor b ρ st (evE T cf b ρ st))
@[simp] theorem kBin1_ok {o : BO} {b : E} {ρ : Rho} {x : D} {st : Sto} : kBin1 T cf o b ρ (.ok x st) = kBin2 T cf o x (bor b ρ st (evE T cf b ρ st)) := (rfl)
@[simp] theorem kBin1_er {o : BO} {b : E} {ρ : Rho} {x : Xn} {st : Sto} : kBin1 T cf o b ρ (.er x st) = .er x st := (rfl)
@[simp] theorem kBin1_no {o : BO} {b : E} {ρ : Rho} : kBin1 T cf o b ρ .no = .no := (rfl)
@[simp] theorem evE_bin {o : BO} {a b : E} : evE T cf (.bin o a b) ρ st = kBin1 T cf o b ρ (bor a ρ st (evE T cf a ρ st)) := (rfl)
def kBl  (r : R Bool) : R D := r.bind fun x st => .ok (.bl x) st
@[simp] theorem kBl_ok  {x : Bool} {st : Sto} : kBl  (.ok x st) = .ok (.bl x) st := (rfl)
@[simp] theorem kBl_er  {x : Xn} {st : Sto} : kBl  (.er x st) = .er x st := (rfl)
@[simp] theorem kBl_no  : kBl  .no = .no := (rfl)
def kCmp2 (T : Tab) (cf : Nat → List D → Sto → R D) (o : CO) (z : D) (r : R D) : R D := r.bind fun x st => kBl (cmpE T cf o z x st)
@[simp] theorem kCmp2_ok {o : CO} {z : D} {x : D} {st : Sto} : kCmp2 T cf o z (.ok x st) = kBl (cmpE T cf o z x st) := (rfl)
@[simp] theorem kCmp2_er {o : CO} {z : D} {x : Xn} {st : Sto} : kCmp2 T cf o z (.er x st) = .er x st := (rfl)
@[simp] theorem kCmp2_no {o : CO} {z : D} : kCmp2 T cf o z .no = .no := (rfl)
def kCmp1 (T : Tab) (cf : Nat → List D → Sto → R D) (o : CO) (b : E) (ρ : Rho) (r : R D) : R D := r.bind fun x st => kCmp2 T cf o x (bor b ρ st (evE T cf b ρ st))
@[simp] theorem kCmp1_ok {o : CO} {b : E} {ρ : Rho} {x : D} {st : Sto} : kCmp1 T cf o b ρ (.ok x st) = kCmp2 T cf o x (bor b ρ st (evE T cf b ρ st)) := (rfl)
@[simp] theorem kCmp1_er {o : CO} {b : E} {ρ : Rho} {x : Xn} {st : Sto} : kCmp1 T cf o b ρ (.er x st) = .er x st := (rfl)
@[simp] theorem kCmp1_no {o : CO} {b : E} {ρ : Rho} : kCmp1 T cf o b ρ .no = .no := (rfl)
@[simp] theorem evE_cmp {o : CO} {a b : E} : evE T cf (.cmp o a b) ρ st = kCmp1 T cf o b ρ (bor a ρ st (evE T cf a ρ st)) := (rfl)
def kIb2 (o : BO) (z : D) (r : R D) : R D := r.bind fun x st => ibinE o z x st
@[simp] theorem kIb2_ok {o : BO} {z : D} {x : D} {st : Sto} : kIb2 o z (.ok x st) = ibinE o z x st := (rfl)
@[simp] theorem kIb2_er {o : BO} {z : D} {x : Xn} {st : Sto} : kIb2 o z (.er x st) = .er x st := (rfl)
@[simp] theorem kIb2_no {o : BO} {z : D} : kIb2 o z .no = .no := (rfl)
def kIb1 (T : Tab) (cf : Nat → List D → Sto → R D) (o : BO) (b : E) (ρ : Rho) (r : R D) : R D := r.bind fun x st => kIb2 o x (bor b ρ st (evE T cf b ρ st))
@[simp] theorem kIb1_ok {o : BO} {b : E} {ρ : Rho} {x : D} {st : Sto} : kIb1 T cf o b ρ (.ok x st) = kIb2 o x (bor b ρ st (evE T cf b ρ st)) := (rfl)
@[simp] theorem kIb1_er {o : BO} {b : E} {ρ : Rho} {x : Xn} {st : Sto} : kIb1 T cf o b ρ (.er x st) = .er x st := (rfl)
@[simp] theorem kIb1_no {o : BO} {b : E} {ρ : Rho} : kIb1 T cf o b ρ .no = .no := (rfl)
@[simp] theorem evE_ibin {o : BO} {a b : E} : evE T cf (.ibin o a b) ρ st = kIb1 T cf o b ρ (bor a ρ st (evE T cf a ρ st)) := (rfl)
def kIc2 (o : CO) (z : D) (r : R D) : R D := r.bind fun x st => icmpE o z x st
@[simp] theorem kIc2_ok {o : CO} {z : D} {x : D} {st : Sto} : kIc2 o z (.ok x st) = icmpE o z x st := (rfl)
@[simp] theorem kIc2_er {o : CO} {z : D} {x : Xn} {st : Sto} : kIc2 o z (.er x st) = .er x st := (rfl)
@[simp] theorem kIc2_no {o : CO} {z : D} : kIc2 o z .no = .no := (rfl)
def kIc1 (T : Tab) (cf : Nat → List D → Sto → R D) (o : CO) (b : E) (ρ : Rho) (r : R D) : R D := r.bind fun x st => kIc2 o x (bor b ρ st (evE T cf b ρ st))
@[simp] theorem kIc1_ok {o : CO} {b : E} {ρ : Rho} {x : D} {st : Sto} : kIc1 T cf o b ρ (.ok x st) = kIc2 o x (bor b ρ st (evE T cf b ρ st)) := (rfl)
@[simp] theorem kIc1_er {o : CO} {b : E} {ρ : Rho} {x : Xn} {st : Sto} : kIc1 T cf o b ρ (.er x st) = .er x st := (rfl)
@[simp] theorem kIc1_no {o : CO} {b : E} {ρ : Rho} : kIc1 T cf o b ρ .no = .no := (rfl)
@[simp] theorem evE_icmp {o : CO} {a b : E} : evE T cf (.icmp o a b) ρ st = kIc1 T cf o b ρ (bor a ρ st (evE T cf a ρ st)) := (rfl)
def kCh4 (T : Tab) (cf : Nat → List D → Sto → R D) (p : CO) (y : D) (r : R D) : R D := r.bind fun x st => kBl (cmpE T cf p y x st)
@[simp] theorem kCh4_ok {p : CO} {y : D} {x : D} {st : Sto} : kCh4 T cf p y (.ok x st) = kBl (cmpE T cf p y x st) := (rfl)
@[simp] theorem kCh4_er {p : CO} {y : D} {x : Xn} {st : Sto} : kCh4 T cf p y (.er x st) = .er x st := (rfl)
@[simp] theorem kCh4_no {p : CO} {y : D} : kCh4 T cf p y .no = .no := (rfl)
def kCh3 (T : Tab) (cf : Nat → List D → Sto → R D) (p : CO) (y : D) (c : E) (ρ : Rho) (r : R Bool) : R D := r.bind fun x st => if x then kCh4 T cf p y (evE T cf c ρ st) else .ok (.bl false) st
@[simp] theorem kCh3_ok {p : CO} {y : D} {c : E} {ρ : Rho} {x : Bool} {st : Sto} : kCh3 T cf p y c ρ (.ok x st) = if x then kCh4 T cf p y (evE T cf c ρ st) else .ok (.bl false) st := (rfl)
@[simp] theorem kCh3_er {p : CO} {y : D} {c : E} {ρ : Rho} {x : Xn} {st : Sto} : kCh3 T cf p y c ρ (.er x st) = .er x st := (rfl)
@[simp] theorem kCh3_no {p : CO} {y : D} {c : E} {ρ : Rho} : kCh3 T cf p y c ρ .no = .no := (rfl)
def kCh2 (T : Tab) (cf : Nat → List D → Sto → R D) (o : CO) (p : CO) (z : D) (c : E) (ρ : Rho) (r : R D) : R D := r.bind fun x st => kCh3 T cf p x c ρ (cmpE T cf o z x st)
@[simp] theorem kCh2_ok {o : CO} {p : CO} {z : D} {c : E} {ρ : Rho} {x : D} {st : Sto} : kCh2 T cf o p z c ρ (.ok x st) = kCh3 T cf p x c ρ (cmpE T cf o z x st) := (rfl)
@[simp] theorem kCh2_er {o : CO} {p : CO} {z : D} {c : E} {ρ : Rho} {x : Xn} {st : Sto} : kCh2 T cf o p z c ρ (.er x st) = .er x st := (rfl)
@[simp] theorem kCh2_no {o : CO} {p : CO} {z : D} {c : E} {ρ : Rho} : kCh2 T cf o p z c ρ .no = .no := (rfl)
def kCh1 (T : Tab) (cf : Nat → List D → Sto → R D) (o : CO) (p : CO) (b : E) (c : E) (ρ : Rho) (r : R D) : R D := r.bind fun x st => kCh2 T cf o p x c ρ (evE T cf b ρ st)
@[simp] theorem kCh1_ok {o : CO} {p : CO} {b : E} {c : E} {ρ : Rho} {x : D} {st : Sto} : kCh1 T cf o p b c ρ (.ok x st) = kCh2 T cf o p x c ρ (evE T cf b ρ st) := (rfl)
@[simp] theorem kCh1_er {o : CO} {p : CO} {b : E} {c : E} {ρ : Rho} {x : Xn} {st : Sto} : kCh1 T cf o p b c ρ (.er x st) = .er x st := (rfl)
@[simp] theorem kCh1_no {o : CO} {p : CO} {b : E} {c : E} {ρ : Rho} : kCh1 T cf o p b c ρ .no = .no := (rfl)
@[simp] theorem evE_chain {o p : CO} {a b c : E} : evE T cf (.chain o p a b c) ρ st = kCh1 T cf o p b c ρ (evE T cf a ρ st) := (rfl)
def kAnd2 (T : Tab) (cf : Nat → List D → Sto → R D) (b : E) (ρ : Rho) (st : Sto) : D → R D
  | .bl true => evE T cf b ρ st
  | .bl false => .ok (.bl false) st
  | _ => .no
@[simp] theorem kAnd2_bl {b : E} {k : Bool} : kAnd2 T cf b ρ st (.bl k) = if k then evE T cf b ρ st else .ok (.bl false) st := by cases k <;> rfl
def kOr2 (T : Tab) (cf : Nat → List D → Sto → R D) (b : E) (ρ : Rho) (st : Sto) : D → R D
  | .bl true => .ok (.bl true) st
  | .bl false => evE T cf b ρ st
  | _ => .no
@[simp] theorem kOr2_bl {b : E} {k : Bool} : kOr2 T cf b ρ st (.bl k) = if k then .ok (.bl true) st else evE T cf b ρ st := by cases k <;> rfl
def kAnd1 (T : Tab) (cf : Nat → List D → Sto → R D) (b : E) (ρ : Rho) (r : R D) : R D := r.bind fun x st => kAnd2 T cf b ρ st x
@[simp] theorem kAnd1_ok {b : E} {ρ : Rho} {x : D} {st : Sto} : kAnd1 T cf b ρ (.ok x st) = kAnd2 T cf b ρ st x := (rfl)
@[simp] theorem kAnd1_er {b : E} {ρ : Rho} {x : Xn} {st : Sto} : kAnd1 T cf b ρ (.er x st) = .er x st := (rfl)
@[simp] theorem kAnd1_no {b : E} {ρ : Rho} : kAnd1 T cf b ρ .no = .no := (rfl)
@[simp] theorem evE_and {a b : E} : evE T cf (.and a b) ρ st = kAnd1 T cf b ρ (evE T cf a ρ st) := (rfl)
def kOr1 (T : Tab) (cf : Nat → List D → Sto → R D) (b : E) (ρ : Rho) (r : R D) : R D := r.bind fun x st => kOr2 T cf b ρ st x
@[simp] theorem kOr1_ok {b : E} {ρ : Rho} {x : D} {st : Sto} : kOr1 T cf b ρ (.ok x st) = kOr2 T cf b ρ st x := (rfl)
@[simp] theorem kOr1_er {b : E} {ρ : Rho} {x : Xn} {st : Sto} : kOr1 T cf b ρ (.er x st) = .er x st := (rfl)
@[simp] theorem kOr1_no {b : E} {ρ : Rho} : kOr1 T cf b ρ .no = .no := (rfl)
@[simp] theorem evE_or {a b : E} : evE T cf (.or a b) ρ st = kOr1 T cf b ρ (evE T cf a ρ st) := (rfl)
def kIte (T : Tab) (cf : Nat → List D → Sto → R D) (a : E) (b : E) (ρ : Rho) (r : R Bool) : R D := r.bind fun x st => if x then evE T cf a ρ st else evE T cf b ρ st
@[simp] theorem kIte_ok {a : E} {b : E} {ρ : Rho} {x : Bool} {st : Sto} : kIte T cf a b ρ (.ok x st) = if x then evE T cf a ρ st else evE T cf b ρ st := (rfl)
@[simp] theorem kIte_er {a : E} {b : E} {ρ : Rho} {x : Xn} {st : Sto} : kIte T cf a b ρ (.er x st) = .er x st := (rfl)
@[simp] theorem kIte_no {a : E} {b : E} {ρ : Rho} : kIte T cf a b ρ .no = .no := (rfl)
@[simp] theorem evE_ite {t : Tt} {a b : E} : evE T cf (.ite t a b) ρ st = kIte T cf a b ρ (evT T cf t ρ st) := (rfl)
def kCall (T : Tab) (cf : Nat → List D → Sto → R D) (f : Nat) (r : R (List D)) : R D := r.bind fun x st => cf f x st
@[simp] theorem kCall_ok {f : Nat} {x : List D} {st : Sto} : kCall T cf f (.ok x st) = cf f x st := (rfl)
@[simp] theorem kCall_er {f : Nat} {x : Xn} {st : Sto} : kCall T cf f (.er x st) = .er x st := (rfl)
@[simp] theorem kCall_no {f : Nat} : kCall T cf f .no = .no := (rfl)
@[simp] theorem evE_call {f : Nat} {as : Es} : evE T cf (.call f as) ρ st = kCall T cf f (evA T cf as ρ st) := (rfl)
def kMake (T : Tab) (cf : Nat → List D → Sto → R D) (c : Nat) (r : R (List D)) : R D := r.bind fun x st => makeE T cf c x st
@[simp] theorem kMake_ok {c : Nat} {x : List D} {st : Sto} : kMake T cf c (.ok x st) = makeE T cf c x st := (rfl)
@[simp] theorem kMake_er {c : Nat} {x : Xn} {st : Sto} : kMake T cf c (.er x st) = .er x st := (rfl)
@[simp] theorem kMake_no {c : Nat} : kMake T cf c .no = .no := (rfl)
@[simp] theorem evE_make {c : Nat} {as : Es} : evE T cf (.make c as) ρ st = kMake T cf c (evA T cf as ρ st) := (rfl)
def kMeth2 (T : Tab) (cf : Nat → List D → Sto → R D) (m : Nat) (z : D) (r : R (List D)) : R D := r.bind fun x st => methE T cf m z x st
@[simp] theorem kMeth2_ok {m : Nat} {z : D} {x : List D} {st : Sto} : kMeth2 T cf m z (.ok x st) = methE T cf m z x st := (rfl)
@[simp] theorem kMeth2_er {m : Nat} {z : D} {x : Xn} {st : Sto} : kMeth2 T cf m z (.er x st) = .er x st := (rfl)
@[simp] theorem kMeth2_no {m : Nat} {z : D} : kMeth2 T cf m z .no = .no := (rfl)
def kMeth1 (T : Tab) (cf : Nat → List D → Sto → R D) (m : Nat) (as : Es) (ρ : Rho) (r : R D) : R D := r.bind fun x st => if hasM T m x then kMeth2 T cf m x (evA T cf as ρ st) else .no
@[simp] theorem kMeth1_ok {m : Nat} {as : Es} {ρ : Rho} {x : D} {st : Sto} : kMeth1 T cf m as ρ (.ok x st) = if hasM T m x then kMeth2 T cf m x (evA T cf as ρ st) else .no := (rfl)
@[simp] theorem kMeth1_er {m : Nat} {as : Es} {ρ : Rho} {x : Xn} {st : Sto} : kMeth1 T cf m as ρ (.er x st) = .er x st := (rfl)
@[simp] theorem kMeth1_no {m : Nat} {as : Es} {ρ : Rho} : kMeth1 T cf m as ρ .no = .no := (rfl)
@[simp] theorem evE_meth {m : Nat} {a : E} {as : Es} : evE T cf (.meth m a as) ρ st = kMeth1 T cf m as ρ (evE T cf a ρ st) := (rfl)
def kKm3 (T : Tab) (cf : Nat → List D → Sto → R D) (c : Nat) (m : Nat) (z : D) (r : R (List D)) : R D := r.bind fun x st => kmE T cf c m z x st
@[simp] theorem kKm3_ok {c : Nat} {m : Nat} {z : D} {x : List D} {st : Sto} : kKm3 T cf c m z (.ok x st) = kmE T cf c m z x st := (rfl)
@[simp] theorem kKm3_er {c : Nat} {m : Nat} {z : D} {x : Xn} {st : Sto} : kKm3 T cf c m z (.er x st) = .er x st := (rfl)
@[simp] theorem kKm3_no {c : Nat} {m : Nat} {z : D} : kKm3 T cf c m z .no = .no := (rfl)
def kKm2 (T : Tab) (cf : Nat → List D → Sto → R D) (c m : Nat) (as : Es) (ρ : Rho) (x : D) (st : Sto) : R D := match x with
  | .ins c' ds => if c' = c then kKm3 T cf c m (.ins c ds) (evA T cf as ρ st) else .no
  | _ => .no
@[simp] theorem kKm2_ins {c c' m : Nat} {as : Es} {ds : List D} : kKm2 T cf c m as ρ (.ins c' ds) st = if c' = c then kKm3 T cf c m (.ins c ds) (evA T cf as ρ st) else .no := (rfl)
def kKm1 (T : Tab) (cf : Nat → List D → Sto → R D) (c : Nat) (m : Nat) (as : Es) (ρ : Rho) (r : R D) : R D := r.bind fun x st => kKm2 T cf c m as ρ x st
@[simp] theorem kKm1_ok {c : Nat} {m : Nat} {as : Es} {ρ : Rho} {x : D} {st : Sto} : kKm1 T cf c m as ρ (.ok x st) = kKm2 T cf c m as ρ x st := (rfl)
@[simp] theorem kKm1_er {c : Nat} {m : Nat} {as : Es} {ρ : Rho} {x : Xn} {st : Sto} : kKm1 T cf c m as ρ (.er x st) = .er x st := (rfl)
@[simp] theorem kKm1_no {c : Nat} {m : Nat} {as : Es} {ρ : Rho} : kKm1 T cf c m as ρ .no = .no := (rfl)
@[simp] theorem evE_kmeth {c m : Nat} {a : E} {as : Es} : evE T cf (.kmeth c m a as) ρ st = kKm1 T cf c m as ρ (evE T cf a ρ st) := (rfl)
def kMkX (T : Tab) (cf : Nat → List D → Sto → R D) (c : Nat) (r : R (List D)) : R D := r.bind fun x st => mkXE T c x st
@[simp] theorem kMkX_ok {c : Nat} {x : List D} {st : Sto} : kMkX T cf c (.ok x st) = mkXE T c x st := (rfl)
@[simp] theorem kMkX_er {c : Nat} {x : Xn} {st : Sto} : kMkX T cf c (.er x st) = .er x st := (rfl)
@[simp] theorem kMkX_no {c : Nat} : kMkX T cf c .no = .no := (rfl)
@[simp] theorem evE_makX {c : Nat} {as : Es} : evE T cf (.makX c as) ρ st = kMkX T cf c (evA T cf as ρ st) := (rfl)
def kIsX (T : Tab) (cf : Nat → List D → Sto → R D) (t : TY) (r : R D) : R D := r.bind fun x st => isXE T x t st
@[simp] theorem kIsX_ok {t : TY} {x : D} {st : Sto} : kIsX T cf t (.ok x st) = isXE T x t st := (rfl)
@[simp] theorem kIsX_er {t : TY} {x : Xn} {st : Sto} : kIsX T cf t (.er x st) = .er x st := (rfl)
@[simp] theorem kIsX_no {t : TY} : kIsX T cf t .no = .no := (rfl)
@[simp] theorem evE_isX {a : E} {t : TY} : evE T cf (.isX a t) ρ st = kIsX T cf t (evE T cf a ρ st) := (rfl)
def kAtX (T : Tab) (cf : Nat → List D → Sto → R D) (m : Nat) (r : R D) : R D := r.bind fun x st => atXE T x m st
@[simp] theorem kAtX_ok {m : Nat} {x : D} {st : Sto} : kAtX T cf m (.ok x st) = atXE T x m st := (rfl)
@[simp] theorem kAtX_er {m : Nat} {x : Xn} {st : Sto} : kAtX T cf m (.er x st) = .er x st := (rfl)
@[simp] theorem kAtX_no {m : Nat} : kAtX T cf m .no = .no := (rfl)
@[simp] theorem evE_atX {a : E} {m : Nat} : evE T cf (.atX a m) ρ st = kAtX T cf m (evE T cf a ρ st) := (rfl)
def kAtR (T : Tab) (cf : Nat → List D → Sto → R D) (m : Nat) (r : R D) : R D := r.bind fun x st => attrRE T cf x m st
@[simp] theorem kAtR_ok {m : Nat} {x : D} {st : Sto} : kAtR T cf m (.ok x st) = attrRE T cf x m st := (rfl)
@[simp] theorem kAtR_er {m : Nat} {x : Xn} {st : Sto} : kAtR T cf m (.er x st) = .er x st := (rfl)
@[simp] theorem kAtR_no {m : Nat} : kAtR T cf m .no = .no := (rfl)
@[simp] theorem evE_attrR {a : E} {m : Nat} : evE T cf (.attrR a m) ρ st = kAtR T cf m (evE T cf a ρ st) := (rfl)
def kMeR2 (T : Tab) (cf : Nat → List D → Sto → R D) (f : Nat) (z : D) (r : R (List D)) : R D := r.bind fun x st => cf f (z :: x) st
@[simp] theorem kMeR2_ok {f : Nat} {z : D} {x : List D} {st : Sto} : kMeR2 T cf f z (.ok x st) = cf f (z :: x) st := (rfl)
@[simp] theorem kMeR2_er {f : Nat} {z : D} {x : Xn} {st : Sto} : kMeR2 T cf f z (.er x st) = .er x st := (rfl)
@[simp] theorem kMeR2_no {f : Nat} {z : D} : kMeR2 T cf f z .no = .no := (rfl)
def kMeR0 (T : Tab) (cf : Nat → List D → Sto → R D) (as : Es) (ρ : Rho) (z : D) (st : Sto) : Option Nat → R D
  | some f => kMeR2 T cf f z (evA T cf as ρ st)
  | none => .no
@[simp] theorem kMeR0_some {as : Es} {z : D} {f : Nat} : kMeR0 T cf as ρ z st (some f) = kMeR2 T cf f z (evA T cf as ρ st) := (rfl)
def kMeR1 (T : Tab) (cf : Nat → List D → Sto → R D) (m : Nat) (as : Es) (ρ : Rho) (r : R D) : R D := r.bind fun x st => kMeR0 T cf as ρ x st (methRO T x m st)
@[simp] theorem kMeR1_ok {m : Nat} {as : Es} {ρ : Rho} {x : D} {st : Sto} : kMeR1 T cf m as ρ (.ok x st) = kMeR0 T cf as ρ x st (methRO T x m st) := (rfl)
@[simp] theorem kMeR1_er {m : Nat} {as : Es} {ρ : Rho} {x : Xn} {st : Sto} : kMeR1 T cf m as ρ (.er x st) = .er x st := (rfl)
@[simp] theorem kMeR1_no {m : Nat} {as : Es} {ρ : Rho} : kMeR1 T cf m as ρ .no = .no := (rfl)
@[simp] theorem evE_methR {m : Nat} {a : E} {as : Es} : evE T cf (.methR m a as) ρ st = kMeR1 T cf m as ρ (evE T cf a ρ st) := by
  show (evE T cf a ρ st).bind _ = (evE T cf a ρ st).bind _
  cases evE T cf a ρ st with
  | er x st => rfl
  | no => rfl
  | ok x st =>
    show _ = kMeR0 T cf as ρ x st (methRO T x m st)
    show (match methRO T x m st with
      | some f => (evA T cf as ρ st).bind fun ds st => cf f (x :: ds) st
      | none => .no) = _
    cases methRO T x m st <;> rfl
def kMkM2 (c : Nat) (r : R D) : R D := r.bind fun x st => makMD c x st
@[simp] theorem kMkM2_ok {c : Nat} {x : D} {st : Sto} : kMkM2 c (.ok x st) = makMD c x st := (rfl)
@[simp] theorem kMkM2_er {c : Nat} {x : Xn} {st : Sto} : kMkM2 c (.er x st) = .er x st := (rfl)
@[simp] theorem kMkM2_no {c : Nat} : kMkM2 c .no = .no := (rfl)
def kMkM1 (T : Tab) (cf : Nat → List D → Sto → R D) (c : Nat) (r : R (List D)) : R D := r.bind fun x st => kMkM2 c (makeE T cf c x st)
@[simp] theorem kMkM1_ok {c : Nat} {x : List D} {st : Sto} : kMkM1 T cf c (.ok x st) = kMkM2 c (makeE T cf c x st) := (rfl)
@[simp] theorem kMkM1_er {c : Nat} {x : Xn} {st : Sto} : kMkM1 T cf c (.er x st) = .er x st := (rfl)
@[simp] theorem kMkM1_no {c : Nat} : kMkM1 T cf c .no = .no := (rfl)
@[simp] theorem evE_makeM {c : Nat} {as : Es} : evE T cf (.makeM c as) ρ st = kMkM1 T cf c (evA T cf as ρ st) := (rfl)
def kAttr (T : Tab) (cf : Nat → List D → Sto → R D) (m : Nat) (r : R D) : R D := r.bind fun x st => attrE T cf x m st
@[simp] theorem kAttr_ok {m : Nat} {x : D} {st : Sto} : kAttr T cf m (.ok x st) = attrE T cf x m st := (rfl)
@[simp] theorem kAttr_er {m : Nat} {x : Xn} {st : Sto} : kAttr T cf m (.er x st) = .er x st := (rfl)
@[simp] theorem kAttr_no {m : Nat} : kAttr T cf m .no = .no := (rfl)
@[simp] theorem evE_attr {a : E} {m : Nat} : evE T cf (.attr a m) ρ st = kAttr T cf m (bor a ρ st (evE T cf a ρ st)) := (rfl)
def kBi (T : Tab) (cf : Nat → List D → Sto → R D) (b : BI) (r : R (List D)) : R D := r.bind fun x st => biE T cf b x st
@[simp] theorem kBi_ok {b : BI} {x : List D} {st : Sto} : kBi T cf b (.ok x st) = biE T cf b x st := (rfl)
@[simp] theorem kBi_er {b : BI} {x : Xn} {st : Sto} : kBi T cf b (.er x st) = .er x st := (rfl)
@[simp] theorem kBi_no {b : BI} : kBi T cf b .no = .no := (rfl)
@[simp] theorem evE_bi {b : BI} {as : Es} : evE T cf (.bi b as) ρ st = kBi T cf b (evL T cf as ρ st) := (rfl)
def kIsi (T : Tab) (cf : Nat → List D → Sto → R D) (ts : List TY) (r : R D) : R D := r.bind fun x st => R.of (((kdS st x).bind fun k => isAny T k ts).map D.bl) st
@[simp] theorem kIsi_ok {ts : List TY} {x : D} {st : Sto} : kIsi T cf ts (.ok x st) = R.of (((kdS st x).bind fun k => isAny T k ts).map D.bl) st := (rfl)
@[simp] theorem kIsi_er {ts : List TY} {x : Xn} {st : Sto} : kIsi T cf ts (.er x st) = .er x st := (rfl)
@[simp] theorem kIsi_no {ts : List TY} : kIsi T cf ts .no = .no := (rfl)
@[simp] theorem evE_isi {a : E} {ts : List TY} : evE T cf (.isi a ts) ρ st = kIsi T cf ts (bor a ρ st (evE T cf a ρ st)) := (rfl)
def kTup  (r : R (List D)) : R D := r.bind fun x st => if x.length ≤ LINE then .ok (.tup x) st else .no
@[simp] theorem kTup_ok  {x : List D} {st : Sto} : kTup  (.ok x st) = if x.length ≤ LINE then .ok (.tup x) st else .no := (rfl)
@[simp] theorem kTup_er  {x : Xn} {st : Sto} : kTup  (.er x st) = .er x st := (rfl)
@[simp] theorem kTup_no  : kTup  .no = .no := (rfl)
@[simp] theorem evE_tup {as : Es} : evE T cf (.tup as) ρ st = kTup (evA T cf as ρ st) := (rfl)
def kLst  (r : R (List D)) : R D := r.bind fun x st => if x.length ≤ LINE then .ok (.own x) st else .no
@[simp] theorem kLst_ok  {x : List D} {st : Sto} : kLst  (.ok x st) = if x.length ≤ LINE then .ok (.own x) st else .no := (rfl)
@[simp] theorem kLst_er  {x : Xn} {st : Sto} : kLst  (.er x st) = .er x st := (rfl)
@[simp] theorem kLst_no  : kLst  .no = .no := (rfl)
@[simp] theorem evE_lst {as : Es} : evE T cf (.lst as) ρ st = kLst (evA T cf as ρ st) := (rfl)
def kIx2 (T : Tab) (cf : Nat → List D → Sto → R D) (z : D) (r : R D) : R D := r.bind fun x st => ixE T cf z x st
@[simp] theorem kIx2_ok {z : D} {x : D} {st : Sto} : kIx2 T cf z (.ok x st) = ixE T cf z x st := (rfl)
@[simp] theorem kIx2_er {z : D} {x : Xn} {st : Sto} : kIx2 T cf z (.er x st) = .er x st := (rfl)
@[simp] theorem kIx2_no {z : D} : kIx2 T cf z .no = .no := (rfl)
def kIx1 (T : Tab) (cf : Nat → List D → Sto → R D) (i : E) (ρ : Rho) (r : R D) : R D := r.bind fun x st => kIx2 T cf x (evE T cf i ρ st)
@[simp] theorem kIx1_ok {i : E} {ρ : Rho} {x : D} {st : Sto} : kIx1 T cf i ρ (.ok x st) = kIx2 T cf x (evE T cf i ρ st) := (rfl)
@[simp] theorem kIx1_er {i : E} {ρ : Rho} {x : Xn} {st : Sto} : kIx1 T cf i ρ (.er x st) = .er x st := (rfl)
@[simp] theorem kIx1_no {i : E} {ρ : Rho} : kIx1 T cf i ρ .no = .no := (rfl)
@[simp] theorem evE_ix {a i : E} : evE T cf (.ix a i) ρ st = kIx1 T cf i ρ (bor a ρ st (evE T cf a ρ st)) := (rfl)
@[simp] theorem ptE_bl {b} {k : Int} : ptE (.bl b) (.ok (.int k) st) = .ok (some k) st := (rfl)
@[simp] theorem ptE_int {i} {k : Int} : ptE (.int i) (.ok (.int k) st) = .ok (some k) st := (rfl)
@[simp] theorem ptE_var {j} {k : Int} : ptE (.var j) (.ok (.int k) st) = .ok (some k) st := (rfl)
@[simp] theorem ptE_con {j} {k : Int} : ptE (.con j) (.ok (.int k) st) = .ok (some k) st := (rfl)
@[simp] theorem ptE_neg {a} {k : Int} : ptE (.neg a) (.ok (.int k) st) = .ok (some k) st := (rfl)
@[simp] theorem ptE_bin {o a b} {k : Int} : ptE (.bin o a b) (.ok (.int k) st) = .ok (some k) st := (rfl)
@[simp] theorem ptE_ite {t a b} {k : Int} : ptE (.ite t a b) (.ok (.int k) st) = .ok (some k) st := (rfl)
@[simp] theorem ptE_call {f as} {k : Int} : ptE (.call f as) (.ok (.int k) st) = .ok (some k) st := (rfl)
@[simp] theorem ptE_attr {a m} {k : Int} : ptE (.attr a m) (.ok (.int k) st) = .ok (some k) st := (rfl)
@[simp] theorem ptE_bi {b as} {k : Int} : ptE (.bi b as) (.ok (.int k) st) = .ok (some k) st := (rfl)
@[simp] theorem ptE_ix {a i} {k : Int} : ptE (.ix a i) (.ok (.int k) st) = .ok (some k) st := (rfl)
@[simp] theorem ptE_nop {d : D} : ptE .nop (.ok d st) = .ok none st := (rfl)
def kSl3 (a : D) (l : Option Int) (r : R (Option Int)) : R D := r.bind fun x st => slE a l x st
@[simp] theorem kSl3_ok {a : D} {l : Option Int} {x : Option Int} {st : Sto} : kSl3 a l (.ok x st) = slE a l x st := (rfl)
@[simp] theorem kSl3_er {a : D} {l : Option Int} {x : Xn} {st : Sto} : kSl3 a l (.er x st) = .er x st := (rfl)
@[simp] theorem kSl3_no {a : D} {l : Option Int} : kSl3 a l .no = .no := (rfl)
def kSl2 (T : Tab) (cf : Nat → List D → Sto → R D) (a : D) (h : E) (ρ : Rho) (r : R (Option Int)) : R D := r.bind fun x st => kSl3 a x (ptE h (evE T cf h ρ st))
@[simp] theorem kSl2_ok {a : D} {h : E} {ρ : Rho} {x : Option Int} {st : Sto} : kSl2 T cf a h ρ (.ok x st) = kSl3 a x (ptE h (evE T cf h ρ st)) := (rfl)
@[simp] theorem kSl2_er {a : D} {h : E} {ρ : Rho} {x : Xn} {st : Sto} : kSl2 T cf a h ρ (.er x st) = .er x st := (rfl)
@[simp] theorem kSl2_no {a : D} {h : E} {ρ : Rho} : kSl2 T cf a h ρ .no = .no := (rfl)
def kSl1 (T : Tab) (cf : Nat → List D → Sto → R D) (l : E) (h : E) (ρ : Rho) (r : R D) : R D := r.bind fun x st => kSl2 T cf x h ρ (ptE l (evE T cf l ρ st))
@[simp] theorem kSl1_ok {l : E} {h : E} {ρ : Rho} {x : D} {st : Sto} : kSl1 T cf l h ρ (.ok x st) = kSl2 T cf x h ρ (ptE l (evE T cf l ρ st)) := (rfl)
@[simp] theorem kSl1_er {l : E} {h : E} {ρ : Rho} {x : Xn} {st : Sto} : kSl1 T cf l h ρ (.er x st) = .er x st := (rfl)
@[simp] theorem kSl1_no {l : E} {h : E} {ρ : Rho} : kSl1 T cf l h ρ .no = .no := (rfl)
@[simp] theorem evE_sl {a l h : E} : evE T cf (.sl a l h) ρ st = kSl1 T cf l h ρ (bor a ρ st (evE T cf a ρ st)) := (rfl)
@[simp] theorem evE_nop  : evE T cf .nop ρ st = .ok .non st := (rfl)
@[simp] theorem evE_fst {as : Es} : evE T cf (.fst as) ρ st = evF T cf as [] ρ st := (rfl)
def kFs (T : Tab) (cf : Nat → List D → Sto → R D) (as : Es) (acc : List Nat) (ρ : Rho) (r : R D) : R D := r.bind fun x st => (match fmtD x with | some s => if acc.length + s.length ≤ LINE then evF T cf as (acc ++ s) ρ st else .no | none => .no)
@[simp] theorem kFs_ok {as : Es} {acc : List Nat} {ρ : Rho} {x : D} {st : Sto} : kFs T cf as acc ρ (.ok x st) = (match fmtD x with | some s => if acc.length + s.length ≤ LINE then evF T cf as (acc ++ s) ρ st else .no | none => .no) := (rfl)
@[simp] theorem kFs_er {as : Es} {acc : List Nat} {ρ : Rho} {x : Xn} {st : Sto} : kFs T cf as acc ρ (.er x st) = .er x st := (rfl)
@[simp] theorem kFs_no {as : Es} {acc : List Nat} {ρ : Rho} : kFs T cf as acc ρ .no = .no := (rfl)
@[simp] theorem evF_nil {acc : List Nat} : evF T cf .nil acc ρ st = .ok (.str acc) st := (rfl)
@[simp] theorem evF_cons {a : E} {as : Es} {acc : List Nat} : evF T cf (.cons a as) acc ρ st = kFs T cf as acc ρ (evE T cf a ρ st) := (rfl)
def kSto2 (st : Sto) : D → R D
  | .own ds => .ok (.ref st.length) (st ++ [.lst ds])
  | d => .ok d st
@[simp] theorem kSto2_lst {ds : List D} : kSto2 st (.lst ds) = .ok (.lst ds) st := (rfl)
@[simp] theorem kSto2_ref {k : Nat} : kSto2 st (.ref k) = .ok (.ref k) st := (rfl)
@[simp] theorem kSto2_non : kSto2 st .non = .ok .non st := (rfl)
@[simp] theorem kSto2_own {ds : List D} : kSto2 st (.own ds) = .ok (.ref st.length) (st ++ [.lst ds]) := (rfl)
def kSto  (r : R D) : R D := r.bind fun x st => kSto2 st x
@[simp] theorem kSto_ok  {x : D} {st : Sto} : kSto  (.ok x st) = kSto2 st x := (rfl)
@[simp] theorem kSto_er  {x : Xn} {st : Sto} : kSto  (.er x st) = .er x st := (rfl)
@[simp] theorem kSto_no  : kSto  .no = .no := (rfl)
@[simp] theorem evE_sto {a : E} : evE T cf (.sto a) ρ st = kSto (evE T cf a ρ st) := (rfl)
@[simp] theorem evE_xat {i m : Nat} : evE T cf (.xat i m) ρ st = R.of (xatD T ρ i m) st := (rfl)
@[simp] theorem evE_xis {i : Nat} {t : TY} : evE T cf (.xis i t) ρ st = R.of (xisD T ρ i t) st := (rfl)
def kOwn  (r : R (List D)) : R D := r.bind fun x st => .ok (.own x) st
@[simp] theorem kOwn_ok  {x : List D} {st : Sto} : kOwn  (.ok x st) = .ok (.own x) st := (rfl)
@[simp] theorem kOwn_er  {x : Xn} {st : Sto} : kOwn  (.er x st) = .er x st := (rfl)
@[simp] theorem kOwn_no  : kOwn  .no = .no := (rfl)
def cOwn : R (List D) → R D
  | .ok ds st => .ok (.own ds) st
  | _ => .no
@[simp] theorem cOwn_ok {ds : List D} : cOwn (.ok ds st) = .ok (.own ds) st := (rfl)
def kComp (T : Tab) (cf : Nat → List D → Sto → R D) (i : List Nat) (e : E) (t : Tt) (ρ : Rho) (fb : R D) (r : R (List (List D))) : R D := orR r (fun x st => if (i.all fun j => plainO ρ[j]?) then cOwn (compL (evE T cf e) (evT T cf t) ρ i x [] st) else .no) fb
@[simp] theorem kComp_ok {i : List Nat} {e : E} {t : Tt} {ρ : Rho} {x : List (List D)} {st : Sto} {fb : R D} : kComp T cf i e t ρ fb (.ok x st) = if (i.all fun j => plainO ρ[j]?) then cOwn (compL (evE T cf e) (evT T cf t) ρ i x [] st) else .no := (rfl)
@[simp] theorem kComp_er {i : List Nat} {e : E} {t : Tt} {ρ : Rho} {x : Xn} {st : Sto} {fb : R D} : kComp T cf i e t ρ fb (.er x st) = .er x st := (rfl)
@[simp] theorem kComp_no {i : List Nat} {e : E} {t : Tt} {ρ : Rho} {fb : R D} : kComp T cf i e t ρ fb .no = fb := (rfl)
def kCompR (T : Tab) (cf : Nat → List D → Sto → R D) (i : List Nat) (e : E) (t : Tt) (ρ : Rho) (r : R (Nat × List D × List (List D))) : R D := r.bind fun q st => if (i.all fun j => plainO ρ[j]?) then grdK q.1 q.2.1 (compL (evE T cf e) (grdT q.1 q.2.1 (evT T cf t)) ρ i q.2.2 [] st) else .no
@[simp] theorem evE_comp {i : List Nat} {e : E} {s : It} {t : Tt} : evE T cf (.comp i e s t) ρ st = kComp T cf i e t ρ (kCompR T cf i e t ρ (evR T cf s ρ st)) (evI T cf s ρ st) := (rfl)
def kFrz  (r : R D) : R D := r.bind fun x st => .ok (fz x) st
@[simp] theorem kFrz_ok  {x : D} {st : Sto} : kFrz  (.ok x st) = .ok (fz x) st := (rfl)
@[simp] theorem kFrz_er  {x : Xn} {st : Sto} : kFrz  (.er x st) = .er x st := (rfl)
@[simp] theorem kFrz_no  : kFrz  .no = .no := (rfl)
@[simp] theorem evE_frz {a : E} : evE T cf (.frz a) ρ st = kFrz (evE T cf a ρ st) := (rfl)
@[simp] theorem evE_stuck  : evE T cf .stuck ρ st = .no := (rfl)
@[simp] theorem evE_dnew  : evE T cf .dnew ρ st = .ok (.ref st.length) (st ++ [.dct []]) := (rfl)
@[simp] theorem evE_dnewT  : evE T cf .dnewT ρ st = .ok (.ref st.length) (st ++ [.dtt []]) := (rfl)
@[simp] theorem evE_dnewN  : evE T cf .dnewN ρ st = .ok (.ref st.length) (st ++ [.dnn 0 []]) := (rfl)
def kIxN2 (z : D) (r : R D) : R D := r.bind fun x st => ixNE z x st
@[simp] theorem kIxN2_ok {z : D} {x : D} {st : Sto} : kIxN2 z (.ok x st) = ixNE z x st := (rfl)
@[simp] theorem kIxN2_er {z : D} {x : Xn} {st : Sto} : kIxN2 z (.er x st) = .er x st := (rfl)
@[simp] theorem kIxN2_no {z : D} : kIxN2 z .no = .no := (rfl)
def kIxN1 (T : Tab) (cf : Nat → List D → Sto → R D) (b : E) (ρ : Rho) (r : R D) : R D := r.bind fun x st => kIxN2 x (evE T cf b ρ st)
@[simp] theorem kIxN1_ok {b : E} {ρ : Rho} {x : D} {st : Sto} : kIxN1 T cf b ρ (.ok x st) = kIxN2 x (evE T cf b ρ st) := (rfl)
@[simp] theorem kIxN1_er {b : E} {ρ : Rho} {x : Xn} {st : Sto} : kIxN1 T cf b ρ (.er x st) = .er x st := (rfl)
@[simp] theorem kIxN1_no {b : E} {ρ : Rho} : kIxN1 T cf b ρ .no = .no := (rfl)
@[simp] theorem evE_ixN {a b : E} : evE T cf (.ixN a b) ρ st = kIxN1 T cf b ρ (evE T cf a ρ st) := (rfl)
@[simp] theorem cDnn_ok {q : Nat × List (List D × D)} : cDnn (.ok q st) = .ok (.ref st.length) (st ++ [.dnn q.1 q.2]) := (rfl)
def kDcompN (T : Tab) (cf : Nat → List D → Sto → R D) (i : Nat) (k : E) (v : E) (ρ : Rho) (r : R D) : R D := r.bind fun x st => (match seqOf x with | some ds => if plainO ρ[i]? then cDnn (compN (evE T cf k) (evE T cf v) ρ i ds 0 [] st) else .no | none => .no)
@[simp] theorem kDcompN_ok {i : Nat} {k : E} {v : E} {ρ : Rho} {x : D} {st : Sto} : kDcompN T cf i k v ρ (.ok x st) = (match seqOf x with | some ds => if plainO ρ[i]? then cDnn (compN (evE T cf k) (evE T cf v) ρ i ds 0 [] st) else .no | none => .no) := (rfl)
@[simp] theorem kDcompN_er {i : Nat} {k : E} {v : E} {ρ : Rho} {x : Xn} {st : Sto} : kDcompN T cf i k v ρ (.er x st) = .er x st := (rfl)
@[simp] theorem kDcompN_no {i : Nat} {k : E} {v : E} {ρ : Rho} : kDcompN T cf i k v ρ .no = .no := (rfl)
@[simp] theorem evE_dcompN {i : Nat} {k v a : E} : evE T cf (.dcompN i k v a) ρ st = kDcompN T cf i k v ρ (evE T cf a ρ st) := (rfl)
def kCpN (T : Tab) (r : R D) : R D := r.bind fun x st => cpNE T x st
@[simp] theorem kCpN_ok {T : Tab} {x : D} {st : Sto} : kCpN T (.ok x st) = cpNE T x st := (rfl)
@[simp] theorem kCpN_er {T : Tab} {x : Xn} {st : Sto} : kCpN T (.er x st) = .er x st := (rfl)
@[simp] theorem kCpN_no {T : Tab} : kCpN T .no = .no := (rfl)
@[simp] theorem evE_cpN {a : E} : evE T cf (.cpN a) ρ st = kCpN T (evE T cf a ρ st) := (rfl)
def kFldC (T : Tab) (cf : Nat → List D → Sto → R D) (c m : Nat) (r : R D) : R D := r.bind fun x st => fldCE T c m x st
@[simp] theorem kFldC_ok {c m : Nat} {x : D} {st : Sto} : kFldC T cf c m (.ok x st) = fldCE T c m x st := (rfl)
@[simp] theorem kFldC_er {c m : Nat} {x : Xn} {st : Sto} : kFldC T cf c m (.er x st) = .er x st := (rfl)
@[simp] theorem kFldC_no {c m : Nat} : kFldC T cf c m .no = .no := (rfl)
@[simp] theorem evE_fldC {c m : Nat} {a : E} : evE T cf (.fldC c m a) ρ st = kFldC T cf c m (evE T cf a ρ st) := (rfl)
def kLenR (T : Tab) (cf : Nat → List D → Sto → R D)  (r : R D) : R D := r.bind fun x st => lenRE T cf x st
@[simp] theorem kLenR_ok  {x : D} {st : Sto} : kLenR T cf  (.ok x st) = lenRE T cf x st := (rfl)
@[simp] theorem kLenR_er  {x : Xn} {st : Sto} : kLenR T cf  (.er x st) = .er x st := (rfl)
@[simp] theorem kLenR_no  : kLenR T cf  .no = .no := (rfl)
@[simp] theorem evE_lenR {a : E} : evE T cf (.lenR a) ρ st = kLenR T cf (evE T cf a ρ st) := (rfl)
def kIxR2 (T : Tab) (cf : Nat → List D → Sto → R D) (z : D) (r : R D) : R D := r.bind fun x st => ixRE T cf z (fz x) st
@[simp] theorem kIxR2_ok {z : D} {x : D} {st : Sto} : kIxR2 T cf z (.ok x st) = ixRE T cf z (fz x) st := (rfl)
@[simp] theorem kIxR2_er {z : D} {x : Xn} {st : Sto} : kIxR2 T cf z (.er x st) = .er x st := (rfl)
@[simp] theorem kIxR2_no {z : D} : kIxR2 T cf z .no = .no := (rfl)
def kIxR1 (T : Tab) (cf : Nat → List D → Sto → R D) (b : E) (ρ : Rho) (r : R D) : R D := r.bind fun x st => kIxR2 T cf x (evE T cf b ρ st)
@[simp] theorem kIxR1_ok {b : E} {ρ : Rho} {x : D} {st : Sto} : kIxR1 T cf b ρ (.ok x st) = kIxR2 T cf x (evE T cf b ρ st) := (rfl)
@[simp] theorem kIxR1_er {b : E} {ρ : Rho} {x : Xn} {st : Sto} : kIxR1 T cf b ρ (.er x st) = .er x st := (rfl)
@[simp] theorem kIxR1_no {b : E} {ρ : Rho} : kIxR1 T cf b ρ .no = .no := (rfl)
@[simp] theorem evE_ixR {a b : E} : evE T cf (.ixR a b) ρ st = kIxR1 T cf b ρ (evE T cf a ρ st) := (rfl)
def kLstYo (T : Tab) (cf : Nat → List D → Sto → R D) (i : Nat) (ρ : Rho) (o : Option (Nat × Nat)) (st : Sto) : R D := match o with
  | some q => if plainO ρ[i]? then lstYE cf q st else .no
  | none => .no
@[simp] theorem kLstYo_some {i : Nat} {q : Nat × Nat} : kLstYo T cf i ρ (some q) st = if plainO ρ[i]? then lstYE cf q st else .no := (rfl)
def kLstY (T : Tab) (cf : Nat → List D → Sto → R D) (i c m : Nat) (ρ : Rho) (r : R D) : R D := r.bind fun x st => kLstYo T cf i ρ (genO T c x m st) st
@[simp] theorem kLstY_ok {i c m : Nat} {ρ : Rho} {x : D} {st : Sto} : kLstY T cf i c m ρ (.ok x st) = kLstYo T cf i ρ (genO T c x m st) st := (rfl)
@[simp] theorem kLstY_er {i c m : Nat} {ρ : Rho} {x : Xn} {st : Sto} : kLstY T cf i c m ρ (.er x st) = .er x st := (rfl)
@[simp] theorem kLstY_no {i c m : Nat} {ρ : Rho} : kLstY T cf i c m ρ .no = .no := (rfl)
@[simp] theorem evE_lstY {i c : Nat} {a : E} {m : Nat} : evE T cf (.lstY i c a m) ρ st = kLstY T cf i c m ρ (evE T cf a ρ st) := (rfl)
def kLstN  (r : R D) : R D := r.bind fun x st => lstNE x st
@[simp] theorem kLstN_ok  {x : D} {st : Sto} : kLstN  (.ok x st) = lstNE x st := (rfl)
@[simp] theorem kLstN_er  {x : Xn} {st : Sto} : kLstN  (.er x st) = .er x st := (rfl)
@[simp] theorem kLstN_no  : kLstN  .no = .no := (rfl)
@[simp] theorem evE_lstN {a : E} : evE T cf (.lstN a) ρ st = kLstN (evE T cf a ρ st) := (rfl)
def kCompK2 (T : Tab) (cf : Nat → List D → Sto → R D) (i : Nat) (e : E) (t : Tt) (ρ : Rho) (r : R (Nat × Nat × List (List D × D))) : R D := r.bind fun x st => if [i].all fun i => plainO ρ[i]? then grdKN x.1 x.2.1 x.2.2 (compL (evE T cf e) (grdTN x.1 x.2.1 x.2.2 (evT T cf t)) ρ [i] (keyD x.2.2) [] st) else .no
@[simp] theorem kCompK2_ok {i : Nat} {e : E} {t : Tt} {ρ : Rho} {x : Nat × Nat × List (List D × D)} {st : Sto} : kCompK2 T cf i e t ρ (.ok x st) = if [i].all fun i => plainO ρ[i]? then grdKN x.1 x.2.1 x.2.2 (compL (evE T cf e) (grdTN x.1 x.2.1 x.2.2 (evT T cf t)) ρ [i] (keyD x.2.2) [] st) else .no := (rfl)
@[simp] theorem kCompK2_er {i : Nat} {e : E} {t : Tt} {ρ : Rho} {x : Xn} {st : Sto} : kCompK2 T cf i e t ρ (.er x st) = .er x st := (rfl)
@[simp] theorem kCompK2_no {i : Nat} {e : E} {t : Tt} {ρ : Rho} : kCompK2 T cf i e t ρ .no = .no := (rfl)
def kCompK (T : Tab) (cf : Nat → List D → Sto → R D) (i : Nat) (e : E) (t : Tt) (ρ : Rho) (r : R D) : R D := r.bind fun x st => kCompK2 T cf i e t ρ (dnnOf x st)
@[simp] theorem kCompK_ok {i : Nat} {e : E} {t : Tt} {ρ : Rho} {x : D} {st : Sto} : kCompK T cf i e t ρ (.ok x st) = kCompK2 T cf i e t ρ (dnnOf x st) := (rfl)
@[simp] theorem kCompK_er {i : Nat} {e : E} {t : Tt} {ρ : Rho} {x : Xn} {st : Sto} : kCompK T cf i e t ρ (.er x st) = .er x st := (rfl)
@[simp] theorem kCompK_no {i : Nat} {e : E} {t : Tt} {ρ : Rho} : kCompK T cf i e t ρ .no = .no := (rfl)
@[simp] theorem evE_compK {i : Nat} {e a : E} {t : Tt} : evE T cf (.compK i e a t) ρ st = kCompK T cf i e t ρ (evE T cf a ρ st) := (rfl)
def kCompP (T : Tab) (cf : Nat → List D → Sto → R D) (i : Nat) (j : Nat) (e : E) (t : Tt) (ρ : Rho) (r : R D) : R D := r.bind fun x st => (match (seqOf x).bind prD with | some dss => (if [i, j].all fun i => plainO ρ[i]? then (match compL (evE T cf e) (evT T cf t) ρ [i, j] dss [] st with | .ok ds st => .ok (.own ds) st | _ => .no) else .no) | none => .no)
@[simp] theorem kCompP_ok {i : Nat} {j : Nat} {e : E} {t : Tt} {ρ : Rho} {x : D} {st : Sto} : kCompP T cf i j e t ρ (.ok x st) = (match (seqOf x).bind prD with | some dss => (if [i, j].all fun i => plainO ρ[i]? then (match compL (evE T cf e) (evT T cf t) ρ [i, j] dss [] st with | .ok ds st => .ok (.own ds) st | _ => .no) else .no) | none => .no) := (rfl)
@[simp] theorem kCompP_er {i : Nat} {j : Nat} {e : E} {t : Tt} {ρ : Rho} {x : Xn} {st : Sto} : kCompP T cf i j e t ρ (.er x st) = .er x st := (rfl)
@[simp] theorem kCompP_no {i : Nat} {j : Nat} {e : E} {t : Tt} {ρ : Rho} : kCompP T cf i j e t ρ .no = .no := (rfl)
@[simp] theorem evE_compP {i j : Nat} {e a : E} {t : Tt} : evE T cf (.compP i j e a t) ρ st = kCompP T cf i j e t ρ (evE T cf a ρ st) := (rfl)
def kLenN  (r : R D) : R D := r.bind fun x st => lenNE x st
@[simp] theorem kLenN_ok  {x : D} {st : Sto} : kLenN  (.ok x st) = lenNE x st := (rfl)
@[simp] theorem kLenN_er  {x : Xn} {st : Sto} : kLenN  (.er x st) = .er x st := (rfl)
@[simp] theorem kLenN_no  : kLenN  .no = .no := (rfl)
@[simp] theorem evE_lenN {a : E} : evE T cf (.lenN a) ρ st = kLenN (evE T cf a ρ st) := (rfl)
def kIsdN  (r : R D) : R D := r.bind fun x st => isdNE x st
@[simp] theorem kIsdN_ok  {x : D} {st : Sto} : kIsdN  (.ok x st) = isdNE x st := (rfl)
@[simp] theorem kIsdN_er  {x : Xn} {st : Sto} : kIsdN  (.er x st) = .er x st := (rfl)
@[simp] theorem kIsdN_no  : kIsdN  .no = .no := (rfl)
@[simp] theorem evE_isdN {a : E} : evE T cf (.isdN a) ρ st = kIsdN (evE T cf a ρ st) := (rfl)
def kInN2 (n : Bool) (z : D) (r : R D) : R D := r.bind fun x st => inNE n z x st
@[simp] theorem kInN2_ok {n : Bool} {z : D} {x : D} {st : Sto} : kInN2 n z (.ok x st) = inNE n z x st := (rfl)
@[simp] theorem kInN2_er {n : Bool} {z : D} {x : Xn} {st : Sto} : kInN2 n z (.er x st) = .er x st := (rfl)
@[simp] theorem kInN2_no {n : Bool} {z : D} : kInN2 n z .no = .no := (rfl)
def kInN1 (T : Tab) (cf : Nat → List D → Sto → R D) (n : Bool) (a : E) (ρ : Rho) (r : R D) : R D := r.bind fun x st => kInN2 n x (evE T cf a ρ st)
@[simp] theorem kInN1_ok {n : Bool} {a : E} {ρ : Rho} {x : D} {st : Sto} : kInN1 T cf n a ρ (.ok x st) = kInN2 n x (evE T cf a ρ st) := (rfl)
@[simp] theorem kInN1_er {n : Bool} {a : E} {ρ : Rho} {x : Xn} {st : Sto} : kInN1 T cf n a ρ (.er x st) = .er x st := (rfl)
@[simp] theorem kInN1_no {n : Bool} {a : E} {ρ : Rho} : kInN1 T cf n a ρ .no = .no := (rfl)
@[simp] theorem evE_inN {n : Bool} {k a : E} : evE T cf (.inN n k a) ρ st = kInN1 T cf n a ρ (evE T cf k ρ st) := (rfl)
def kIxT2 (z : D) (r : R (List D)) : R D := r.bind fun x st => ixTE z x st
@[simp] theorem kIxT2_ok {z : D} {x : List D} {st : Sto} : kIxT2 z (.ok x st) = ixTE z x st := (rfl)
@[simp] theorem kIxT2_er {z : D} {x : Xn} {st : Sto} : kIxT2 z (.er x st) = .er x st := (rfl)
@[simp] theorem kIxT2_no {z : D} : kIxT2 z .no = .no := (rfl)
def kIxT1 (T : Tab) (cf : Nat → List D → Sto → R D) (as : Es) (ρ : Rho) (r : R D) : R D := r.bind fun x st => kIxT2 x (evA T cf as ρ st)
@[simp] theorem kIxT1_ok {as : Es} {ρ : Rho} {x : D} {st : Sto} : kIxT1 T cf as ρ (.ok x st) = kIxT2 x (evA T cf as ρ st) := (rfl)
@[simp] theorem kIxT1_er {as : Es} {ρ : Rho} {x : Xn} {st : Sto} : kIxT1 T cf as ρ (.er x st) = .er x st := (rfl)
@[simp] theorem kIxT1_no {as : Es} {ρ : Rho} : kIxT1 T cf as ρ .no = .no := (rfl)
@[simp] theorem evE_ixT {a : E} {as : Es} : evE T cf (.ixT a as) ρ st = kIxT1 T cf as ρ (bor a ρ st (evE T cf a ρ st)) := (rfl)
def cDct : R (List (D × D)) → R D
  | .ok kvs st => .ok (.ref st.length) (st ++ [.dct kvs])
  | _ => .no
@[simp] theorem cDct_ok {kvs : List (D × D)} : cDct (.ok kvs st) = .ok (.ref st.length) (st ++ [.dct kvs]) := (rfl)
def kDcomp (T : Tab) (cf : Nat → List D → Sto → R D) (i : List Nat) (k : E) (v : E) (t : Tt) (ρ : Rho) (r : R (List (List D))) : R D := r.bind fun x st => if (i.all fun j => plainO ρ[j]?) then cDct (compD (evE T cf k) (evE T cf v) (evT T cf t) ρ i x [] st) else .no
@[simp] theorem kDcomp_ok {i : List Nat} {k : E} {v : E} {t : Tt} {ρ : Rho} {x : List (List D)} {st : Sto} : kDcomp T cf i k v t ρ (.ok x st) = if (i.all fun j => plainO ρ[j]?) then cDct (compD (evE T cf k) (evE T cf v) (evT T cf t) ρ i x [] st) else .no := (rfl)
@[simp] theorem kDcomp_er {i : List Nat} {k : E} {v : E} {t : Tt} {ρ : Rho} {x : Xn} {st : Sto} : kDcomp T cf i k v t ρ (.er x st) = .er x st := (rfl)
@[simp] theorem kDcomp_no {i : List Nat} {k : E} {v : E} {t : Tt} {ρ : Rho} : kDcomp T cf i k v t ρ .no = .no := (rfl)
@[simp] theorem evE_dcomp {i : List Nat} {k v : E} {s : It} {t : Tt} : evE T cf (.dcomp i k v s t) ρ st = kDcomp T cf i k v t ρ (evI T cf s ρ st) := (rfl)
def kComp2 (T : Tab) (cf : Nat → List D → Sto → R D) (i : List Nat) (i2 : List Nat) (s2 : It) (e : E) (t : Tt) (ρ : Rho) (r : R (List (List D))) : R D := r.bind fun x st => if ((i ++ i2).all fun j => plainO ρ[j]?) then cOwn (compL2 (evI T cf s2) (evE T cf e) (evT T cf t) (clr i2 ρ) i i2 x [] st) else .no
@[simp] theorem kComp2_ok {i : List Nat} {i2 : List Nat} {s2 : It} {e : E} {t : Tt} {ρ : Rho} {x : List (List D)} {st : Sto} : kComp2 T cf i i2 s2 e t ρ (.ok x st) = if ((i ++ i2).all fun j => plainO ρ[j]?) then cOwn (compL2 (evI T cf s2) (evE T cf e) (evT T cf t) (clr i2 ρ) i i2 x [] st) else .no := (rfl)
@[simp] theorem kComp2_er {i : List Nat} {i2 : List Nat} {s2 : It} {e : E} {t : Tt} {ρ : Rho} {x : Xn} {st : Sto} : kComp2 T cf i i2 s2 e t ρ (.er x st) = .er x st := (rfl)
@[simp] theorem kComp2_no {i : List Nat} {i2 : List Nat} {s2 : It} {e : E} {t : Tt} {ρ : Rho} : kComp2 T cf i i2 s2 e t ρ .no = .no := (rfl)
@[simp] theorem evE_comp2 {i i2 : List Nat} {e : E} {s s2 : It} {t : Tt} : evE T cf (.comp2 i s i2 s2 e t) ρ st = kComp2 T cf i i2 s2 e t ρ (evI T cf s ρ st) := (rfl)
def kOwnX  (r : R (List D)) : R D := r.bind fun x st => .ok (.own x) st
@[simp] theorem kOwnX_ok  {x : List D} {st : Sto} : kOwnX  (.ok x st) = .ok (.own x) st := (rfl)
@[simp] theorem kOwnX_er  {x : Xn} {st : Sto} : kOwnX  (.er x st) = .er x st := (rfl)
@[simp] theorem kOwnX_no  : kOwnX  .no = .no := (rfl)
def kCompX2 (T : Tab) (cf : Nat → List D → Sto → R D) (i : Nat) (e : E) (t : Tt) (ρ : Rho) (st : Sto) : Option (List D) → R D
  | some ds => if plainO ρ[i]? then kOwnX (compL (evE T cf e) (evT T cf t) ρ [i] (ds.map fun x => [x]) [] st) else .no
  | none => .no
@[simp] theorem kCompX2_some {i : Nat} {e : E} {t : Tt} {ds : List D} : kCompX2 T cf i e t ρ st (some ds) = if plainO ρ[i]? then kOwnX (compL (evE T cf e) (evT T cf t) ρ [i] (ds.map fun x => [x]) [] st) else .no := (rfl)
@[simp] theorem kCompX2_none {i : Nat} {e : E} {t : Tt} : kCompX2 T cf i e t ρ st none = .no := (rfl)
def kCompX (T : Tab) (cf : Nat → List D → Sto → R D) (i : Nat) (e : E) (t : Tt) (ρ : Rho) (r : R D) : R D := r.bind fun x st => kCompX2 T cf i e t ρ st (seqOf x)
@[simp] theorem kCompX_ok {i : Nat} {e : E} {t : Tt} {ρ : Rho} {x : D} {st : Sto} : kCompX T cf i e t ρ (.ok x st) = kCompX2 T cf i e t ρ st (seqOf x) := (rfl)
@[simp] theorem kCompX_er {i : Nat} {e : E} {t : Tt} {ρ : Rho} {x : Xn} {st : Sto} : kCompX T cf i e t ρ (.er x st) = .er x st := (rfl)
@[simp] theorem kCompX_no {i : Nat} {e : E} {t : Tt} {ρ : Rho} : kCompX T cf i e t ρ .no = .no := (rfl)
@[simp] theorem evE_compX {i : Nat} {e a : E} {t : Tt} : evE T cf (.compX i e a t) ρ st = kCompX T cf i e t ρ (evE T cf a ρ st) := by
  show (evE T cf a ρ st).bind _ = (evE T cf a ρ st).bind _
  cases evE T cf a ρ st with
  | er x st => rfl
  | no => rfl
  | ok x st =>
    show (match seqOf x with | some ds => _ | none => _) = kCompX2 T cf i e t ρ st (seqOf x)
    cases seqOf x <;> rfl
def kSplT (c : Nat) (r : R D) : R D := r.bind fun x st => splE c st x
@[simp] theorem kSplT_ok {c : Nat} {x : D} {st : Sto} : kSplT c (.ok x st) = splE c st x := (rfl)
@[simp] theorem kSplT_er {c : Nat} {x : Xn} {st : Sto} : kSplT c (.er x st) = .er x st := (rfl)
@[simp] theorem kSplT_no {c : Nat} : kSplT c .no = .no := (rfl)
@[simp] theorem evE_splT {c : Nat} {a : E} : evE T cf (.splT c a) ρ st = kSplT c (evE T cf a ρ st) := (rfl)
def kParT (c : Nat) (r : R D) : R D := r.bind fun x st => parE c st x
@[simp] theorem kParT_ok {c : Nat} {x : D} {st : Sto} : kParT c (.ok x st) = parE c st x := (rfl)
@[simp] theorem kParT_er {c : Nat} {x : Xn} {st : Sto} : kParT c (.er x st) = .er x st := (rfl)
@[simp] theorem kParT_no {c : Nat} : kParT c .no = .no := (rfl)
@[simp] theorem evE_parT {c : Nat} {a : E} : evE T cf (.parT c a) ρ st = kParT c (evE T cf a ρ st) := (rfl)
def kJoinT (c : Nat) (r : R D) : R D := r.bind fun x st => joinE c st x
@[simp] theorem kJoinT_ok {c : Nat} {x : D} {st : Sto} : kJoinT c (.ok x st) = joinE c st x := (rfl)
@[simp] theorem kJoinT_er {c : Nat} {x : Xn} {st : Sto} : kJoinT c (.er x st) = .er x st := (rfl)
@[simp] theorem kJoinT_no {c : Nat} : kJoinT c .no = .no := (rfl)
@[simp] theorem evE_joinT {c : Nat} {a : E} : evE T cf (.joinT c a) ρ st = kJoinT c (evE T cf a ρ st) := (rfl)
def kIntT  (r : R D) : R D := r.bind fun x st => intTE st x
@[simp] theorem kIntT_ok  {x : D} {st : Sto} : kIntT  (.ok x st) = intTE st x := (rfl)
@[simp] theorem kIntT_er  {x : Xn} {st : Sto} : kIntT  (.er x st) = .er x st := (rfl)
@[simp] theorem kIntT_no  : kIntT  .no = .no := (rfl)
@[simp] theorem evE_intT {a : E} : evE T cf (.intT a) ρ st = kIntT (evE T cf a ρ st) := (rfl)
def kInT2 (n : Bool) (z : D) (r : R D) : R D := r.bind fun x st => inTE n st z x
@[simp] theorem kInT2_ok {n : Bool} {z : D} {x : D} {st : Sto} : kInT2 n z (.ok x st) = inTE n st z x := (rfl)
@[simp] theorem kInT2_er {n : Bool} {z : D} {x : Xn} {st : Sto} : kInT2 n z (.er x st) = .er x st := (rfl)
@[simp] theorem kInT2_no {n : Bool} {z : D} : kInT2 n z .no = .no := (rfl)
def kInT1 (T : Tab) (cf : Nat → List D → Sto → R D) (n : Bool) (b : E) (ρ : Rho) (r : R D) : R D := r.bind fun x st => kInT2 n x (evE T cf b ρ st)
@[simp] theorem kInT1_ok {n : Bool} {b : E} {ρ : Rho} {x : D} {st : Sto} : kInT1 T cf n b ρ (.ok x st) = kInT2 n x (evE T cf b ρ st) := (rfl)
@[simp] theorem kInT1_er {n : Bool} {b : E} {ρ : Rho} {x : Xn} {st : Sto} : kInT1 T cf n b ρ (.er x st) = .er x st := (rfl)
@[simp] theorem kInT1_no {n : Bool} {b : E} {ρ : Rho} : kInT1 T cf n b ρ .no = .no := (rfl)
@[simp] theorem evE_inT {n : Bool} {a b : E} : evE T cf (.inT n a b) ρ st = kInT1 T cf n b ρ (evE T cf a ρ st) := (rfl)
def kInv2 (T : Tab) (cf : Nat → List D → Sto → R D) (z : D) (r : R (List D)) : R D := r.bind fun x st => invE T cf z x st
@[simp] theorem kInv2_ok {z : D} {x : List D} {st : Sto} : kInv2 T cf z (.ok x st) = invE T cf z x st := (rfl)
@[simp] theorem kInv2_er {z : D} {x : Xn} {st : Sto} : kInv2 T cf z (.er x st) = .er x st := (rfl)
@[simp] theorem kInv2_no {z : D} : kInv2 T cf z .no = .no := (rfl)
def kInv1 (T : Tab) (cf : Nat → List D → Sto → R D) (as : Es) (ρ : Rho) (r : R D) : R D := r.bind fun x st => if isIns x then kInv2 T cf x (evA T cf as ρ st) else .no
@[simp] theorem kInv1_ok {as : Es} {ρ : Rho} {x : D} {st : Sto} : kInv1 T cf as ρ (.ok x st) = if isIns x then kInv2 T cf x (evA T cf as ρ st) else .no := (rfl)
@[simp] theorem kInv1_er {as : Es} {ρ : Rho} {x : Xn} {st : Sto} : kInv1 T cf as ρ (.er x st) = .er x st := (rfl)
@[simp] theorem kInv1_no {as : Es} {ρ : Rho} : kInv1 T cf as ρ .no = .no := (rfl)
@[simp] theorem evE_inv {a : E} {as : Es} : evE T cf (.inv a as) ρ st = kInv1 T cf as ρ (evE T cf a ρ st) := (rfl)
def kPop2 (z : D) (r : R D) : R D := r.bind fun x st => popE z x st
@[simp] theorem kPop2_ok {z : D} {x : D} {st : Sto} : kPop2 z (.ok x st) = popE z x st := (rfl)
@[simp] theorem kPop2_er {z : D} {x : Xn} {st : Sto} : kPop2 z (.er x st) = .er x st := (rfl)
@[simp] theorem kPop2_no {z : D} : kPop2 z .no = .no := (rfl)
def kPop1 (T : Tab) (cf : Nat → List D → Sto → R D) (i : E) (ρ : Rho) (r : R D) : R D := r.bind fun x st => if isLR st x then kPop2 x (evE T cf i ρ st) else .no
@[simp] theorem kPop1_ok {i : E} {ρ : Rho} {x : D} {st : Sto} : kPop1 T cf i ρ (.ok x st) = if isLR st x then kPop2 x (evE T cf i ρ st) else .no := (rfl)
@[simp] theorem kPop1_er {i : E} {ρ : Rho} {x : Xn} {st : Sto} : kPop1 T cf i ρ (.er x st) = .er x st := (rfl)
@[simp] theorem kPop1_no {i : E} {ρ : Rho} : kPop1 T cf i ρ .no = .no := (rfl)
@[simp] theorem evE_pop {a i : E} : evE T cf (.pop a i) ρ st = kPop1 T cf i ρ (evE T cf a ρ st) := (rfl)
def kDown  (r : R D) : R D := r.bind fun x st => downE x st
@[simp] theorem kDown_ok  {x : D} {st : Sto} : kDown  (.ok x st) = downE x st := (rfl)
@[simp] theorem kDown_er  {x : Xn} {st : Sto} : kDown  (.er x st) = .er x st := (rfl)
@[simp] theorem kDown_no  : kDown  .no = .no := (rfl)
@[simp] theorem evE_down {a : E} : evE T cf (.down a) ρ st = kDown (bor a ρ st (evE T cf a ρ st)) := (rfl)
def kCeq2 (T : Tab) (cf : Nat → List D → Sto → R D) (ne : Bool) (z : D) (r : R D) : R D := r.bind fun x st => ceqE T cf ne z x st
@[simp] theorem kCeq2_ok {ne : Bool} {z : D} {x : D} {st : Sto} : kCeq2 T cf ne z (.ok x st) = ceqE T cf ne z x st := (rfl)
@[simp] theorem kCeq2_er {ne : Bool} {z : D} {x : Xn} {st : Sto} : kCeq2 T cf ne z (.er x st) = .er x st := (rfl)
@[simp] theorem kCeq2_no {ne : Bool} {z : D} : kCeq2 T cf ne z .no = .no := (rfl)
def kCeq1 (T : Tab) (cf : Nat → List D → Sto → R D) (ne : Bool) (b : E) (ρ : Rho) (r : R D) : R D := r.bind fun x st => kCeq2 T cf ne x (bor b ρ st (evE T cf b ρ st))
@[simp] theorem kCeq1_ok {ne : Bool} {b : E} {ρ : Rho} {x : D} {st : Sto} : kCeq1 T cf ne b ρ (.ok x st) = kCeq2 T cf ne x (bor b ρ st (evE T cf b ρ st)) := (rfl)
@[simp] theorem kCeq1_er {ne : Bool} {b : E} {ρ : Rho} {x : Xn} {st : Sto} : kCeq1 T cf ne b ρ (.er x st) = .er x st := (rfl)
@[simp] theorem kCeq1_no {ne : Bool} {b : E} {ρ : Rho} : kCeq1 T cf ne b ρ .no = .no := (rfl)
@[simp] theorem evE_ceq {ne : Bool} {a b : E} : evE T cf (.ceq ne a b) ρ st = kCeq1 T cf ne b ρ (bor a ρ st (evE T cf a ρ st)) := (rfl)
def kDlit2 (n0 : Nat) (z : D) (r : R D) : R D := r.bind fun x st => dlitE n0 z (fz x) st
@[simp] theorem kDlit2_ok {n0 : Nat} {z : D} {x : D} {st : Sto} : kDlit2 n0 z (.ok x st) = dlitE n0 z (fz x) st := (rfl)
@[simp] theorem kDlit2_er {n0 : Nat} {z : D} {x : Xn} {st : Sto} : kDlit2 n0 z (.er x st) = .er x st := (rfl)
@[simp] theorem kDlit2_no {n0 : Nat} {z : D} : kDlit2 n0 z .no = .no := (rfl)
def kDlit1 (T : Tab) (cf : Nat → List D → Sto → R D) (n0 : Nat) (v : E) (ρ : Rho) (r : R D) : R D := r.bind fun x st => kDlit2 n0 x (evE T cf v ρ st)
@[simp] theorem kDlit1_ok {n0 : Nat} {v : E} {ρ : Rho} {x : D} {st : Sto} : kDlit1 T cf n0 v ρ (.ok x st) = kDlit2 n0 x (evE T cf v ρ st) := (rfl)
@[simp] theorem kDlit1_er {n0 : Nat} {v : E} {ρ : Rho} {x : Xn} {st : Sto} : kDlit1 T cf n0 v ρ (.er x st) = .er x st := (rfl)
@[simp] theorem kDlit1_no {n0 : Nat} {v : E} {ρ : Rho} : kDlit1 T cf n0 v ρ .no = .no := (rfl)
@[simp] theorem evE_dlit {k v : E} : evE T cf (.dlit k v) ρ st = kDlit1 T cf st.length v ρ (evE T cf k ρ (st ++ [.dct []])) := (rfl)
def kT  (r : R D) : R Bool := r.bind fun x st => R.of (truthS st x) st
@[simp] theorem kT_ok  {x : D} {st : Sto} : kT  (.ok x st) = R.of (truthS st x) st := (rfl)
@[simp] theorem kT_er  {x : Xn} {st : Sto} : kT  (.er x st) = .er x st := (rfl)
@[simp] theorem kT_no  : kT  .no = .no := (rfl)
@[simp] theorem evT_e {a : E} : evT T cf (.e a) ρ st = kT (bor a ρ st (evE T cf a ρ st)) := (rfl)
def kTn  (r : R Bool) : R Bool := r.bind fun x st => .ok (!x) st
@[simp] theorem kTn_ok  {x : Bool} {st : Sto} : kTn  (.ok x st) = .ok (!x) st := (rfl)
@[simp] theorem kTn_er  {x : Xn} {st : Sto} : kTn  (.er x st) = .er x st := (rfl)
@[simp] theorem kTn_no  : kTn  .no = .no := (rfl)
@[simp] theorem evT_not {a : Tt} : evT T cf (.not a) ρ st = kTn (evT T cf a ρ st) := (rfl)
def kTa (T : Tab) (cf : Nat → List D → Sto → R D) (b : Tt) (ρ : Rho) (r : R Bool) : R Bool := r.bind fun x st => if x then evT T cf b ρ st else .ok false st
@[simp] theorem kTa_ok {b : Tt} {ρ : Rho} {x : Bool} {st : Sto} : kTa T cf b ρ (.ok x st) = if x then evT T cf b ρ st else .ok false st := (rfl)
@[simp] theorem kTa_er {b : Tt} {ρ : Rho} {x : Xn} {st : Sto} : kTa T cf b ρ (.er x st) = .er x st := (rfl)
@[simp] theorem kTa_no {b : Tt} {ρ : Rho} : kTa T cf b ρ .no = .no := (rfl)
@[simp] theorem evT_and {a b : Tt} : evT T cf (.and a b) ρ st = kTa T cf b ρ (evT T cf a ρ st) := (rfl)
def kTo (T : Tab) (cf : Nat → List D → Sto → R D) (b : Tt) (ρ : Rho) (r : R Bool) : R Bool := r.bind fun x st => if x then .ok true st else evT T cf b ρ st
@[simp] theorem kTo_ok {b : Tt} {ρ : Rho} {x : Bool} {st : Sto} : kTo T cf b ρ (.ok x st) = if x then .ok true st else evT T cf b ρ st := (rfl)
@[simp] theorem kTo_er {b : Tt} {ρ : Rho} {x : Xn} {st : Sto} : kTo T cf b ρ (.er x st) = .er x st := (rfl)
@[simp] theorem kTo_no {b : Tt} {ρ : Rho} : kTo T cf b ρ .no = .no := (rfl)
@[simp] theorem evT_or {a b : Tt} : evT T cf (.or a b) ρ st = kTo T cf b ρ (evT T cf a ρ st) := (rfl)
def kA2 (d : D) (r : R (List D)) : R (List D) := r.bind fun x st => .ok (fz d :: x) st
@[simp] theorem kA2_ok {d : D} {x : List D} {st : Sto} : kA2 d (.ok x st) = .ok (fz d :: x) st := (rfl)
@[simp] theorem kA2_er {d : D} {x : Xn} {st : Sto} : kA2 d (.er x st) = .er x st := (rfl)
@[simp] theorem kA2_no {d : D} : kA2 d .no = .no := (rfl)
def kA1 (T : Tab) (cf : Nat → List D → Sto → R D) (as : Es) (ρ : Rho) (r : R D) : R (List D) := r.bind fun x st => kA2 x (evA T cf as ρ st)
@[simp] theorem kA1_ok {as : Es} {ρ : Rho} {x : D} {st : Sto} : kA1 T cf as ρ (.ok x st) = kA2 x (evA T cf as ρ st) := (rfl)
@[simp] theorem kA1_er {as : Es} {ρ : Rho} {x : Xn} {st : Sto} : kA1 T cf as ρ (.er x st) = .er x st := (rfl)
@[simp] theorem kA1_no {as : Es} {ρ : Rho} : kA1 T cf as ρ .no = .no := (rfl)
@[simp] theorem evA_nil  : evA T cf .nil ρ st = .ok [] st := (rfl)
@[simp] theorem evA_cons {a : E} {as : Es} : evA T cf (.cons a as) ρ st = kA1 T cf as ρ (evE T cf a ρ st) := (rfl)
def kL2 (d : D) (r : R (List D)) : R (List D) := r.bind fun x st => .ok (d :: x) st
@[simp] theorem kL2_ok {d : D} {x : List D} {st : Sto} : kL2 d (.ok x st) = .ok (d :: x) st := (rfl)
@[simp] theorem kL2_er {d : D} {x : Xn} {st : Sto} : kL2 d (.er x st) = .er x st := (rfl)
@[simp] theorem kL2_no {d : D} : kL2 d .no = .no := (rfl)
def kL1 (T : Tab) (cf : Nat → List D → Sto → R D) (as : Es) (ρ : Rho) (r : R D) : R (List D) := r.bind fun x st => kL2 x (evL T cf as ρ st)
@[simp] theorem kL1_ok {as : Es} {ρ : Rho} {x : D} {st : Sto} : kL1 T cf as ρ (.ok x st) = kL2 x (evL T cf as ρ st) := (rfl)
@[simp] theorem kL1_er {as : Es} {ρ : Rho} {x : Xn} {st : Sto} : kL1 T cf as ρ (.er x st) = .er x st := (rfl)
@[simp] theorem kL1_no {as : Es} {ρ : Rho} : kL1 T cf as ρ .no = .no := (rfl)
@[simp] theorem evL_nil  : evL T cf .nil ρ st = .ok [] st := (rfl)
@[simp] theorem evL_cons {a : E} {as : Es} : evL T cf (.cons a as) ρ st = kL1 T cf as ρ (bor a ρ st (evE T cf a ρ st)) := (rfl)
def kevIseq  (r : R D) : R (List (List D)) := r.bind fun x st => R.of ((seqOf x).map fun ds => ds.map fun x => [x]) st
@[simp] theorem kevIseq_ok  {x : D} {st : Sto} : kevIseq  (.ok x st) = R.of ((seqOf x).map fun ds => ds.map fun x => [x]) st := (rfl)
@[simp] theorem kevIseq_er  {x : Xn} {st : Sto} : kevIseq  (.er x st) = .er x st := (rfl)
@[simp] theorem kevIseq_no  : kevIseq  .no = .no := (rfl)
@[simp] theorem evI_seq {a : E} : evI T cf (.seq a) ρ st = kevIseq (evE T cf a ρ st) := (rfl)
def kevIrev  (r : R D) : R (List (List D)) := r.bind fun x st => R.of ((seqOf x).map fun ds => ds.reverse.map fun x => [x]) st
@[simp] theorem kevIrev_ok  {x : D} {st : Sto} : kevIrev  (.ok x st) = R.of ((seqOf x).map fun ds => ds.reverse.map fun x => [x]) st := (rfl)
@[simp] theorem kevIrev_er  {x : Xn} {st : Sto} : kevIrev  (.er x st) = .er x st := (rfl)
@[simp] theorem kevIrev_no  : kevIrev  .no = .no := (rfl)
@[simp] theorem evI_rev {a : E} : evI T cf (.rev a) ρ st = kevIrev (evE T cf a ρ st) := (rfl)
def kevIrng  (r : R (List D)) : R (List (List D)) := r.bind fun x st => R.of ((rngI x).map fun ns => ns.map fun n => [.int n]) st
@[simp] theorem kevIrng_ok  {x : List D} {st : Sto} : kevIrng  (.ok x st) = R.of ((rngI x).map fun ns => ns.map fun n => [.int n]) st := (rfl)
@[simp] theorem kevIrng_er  {x : Xn} {st : Sto} : kevIrng  (.er x st) = .er x st := (rfl)
@[simp] theorem kevIrng_no  : kevIrng  .no = .no := (rfl)
@[simp] theorem evI_rng {as : Es} : evI T cf (.rng as) ρ st = kevIrng (evA T cf as ρ st) := (rfl)
def kevIenum  (r : R D) : R (List (List D)) := r.bind fun x st => R.of ((seqOf x).map (enumD 0)) st
@[simp] theorem kevIenum_ok  {x : D} {st : Sto} : kevIenum  (.ok x st) = R.of ((seqOf x).map (enumD 0)) st := (rfl)
@[simp] theorem kevIenum_er  {x : Xn} {st : Sto} : kevIenum  (.er x st) = .er x st := (rfl)
@[simp] theorem kevIenum_no  : kevIenum  .no = .no := (rfl)
@[simp] theorem evI_enum {a : E} : evI T cf (.enum a) ρ st = kevIenum (evE T cf a ρ st) := (rfl)
def kevIzip2 (d : D) (r : R D) : R (List (List D)) := r.bind fun x st => R.of ((seqOf d).bind fun ds => (seqOf x).map fun es => zipD ds es) st
@[simp] theorem kevIzip2_ok {d : D} {x : D} {st : Sto} : kevIzip2 d (.ok x st) = R.of ((seqOf d).bind fun ds => (seqOf x).map fun es => zipD ds es) st := (rfl)
@[simp] theorem kevIzip2_er {d : D} {x : Xn} {st : Sto} : kevIzip2 d (.er x st) = .er x st := (rfl)
@[simp] theorem kevIzip2_no {d : D} : kevIzip2 d .no = .no := (rfl)
def kevIzip1 (T : Tab) (cf : Nat → List D → Sto → R D) (b : E) (ρ : Rho) (r : R D) : R (List (List D)) := r.bind fun x st => kevIzip2 x (evE T cf b ρ st)
@[simp] theorem kevIzip1_ok {b : E} {ρ : Rho} {x : D} {st : Sto} : kevIzip1 T cf b ρ (.ok x st) = kevIzip2 x (evE T cf b ρ st) := (rfl)
@[simp] theorem kevIzip1_er {b : E} {ρ : Rho} {x : Xn} {st : Sto} : kevIzip1 T cf b ρ (.er x st) = .er x st := (rfl)
@[simp] theorem kevIzip1_no {b : E} {ρ : Rho} : kevIzip1 T cf b ρ .no = .no := (rfl)
@[simp] theorem evI_zip {a b : E} : evI T cf (.zip a b) ρ st = kevIzip1 T cf b ρ (evE T cf a ρ st) := (rfl)
def kSeq (T : Tab) (cf : Nat → List D → Sto → R D) (b : S) (r : F) : F := r.then fun ρ st => exS T cf b ρ st
@[simp] theorem kSeq_nx {b : S} : kSeq T cf b (.nx ρ st) = exS T cf b ρ st := (rfl)
@[simp] theorem kSeq_rt {b : S} {d : D} : kSeq T cf b (.rt d st) = .rt d st := (rfl)
@[simp] theorem kSeq_bk {b : S} : kSeq T cf b (.bk ρ st) = .bk ρ st := (rfl)
@[simp] theorem kSeq_ct {b : S} : kSeq T cf b (.ct ρ st) = .ct ρ st := (rfl)
@[simp] theorem kSeq_er {b : S} {x : Xn} : kSeq T cf b (.er x ρ st) = .er x ρ st := (rfl)
@[simp] theorem kSeq_no {b : S} : kSeq T cf b .no = .no := (rfl)
@[simp] theorem exS_seq {a b : S} : exS T cf (.seq a b) ρ st = kSeq T cf b (exS T cf a ρ st) := (rfl)
@[simp] theorem exS_skip : exS T cf .skip ρ st = .nx ρ st := (rfl)
@[simp] theorem exS_stuck : exS T cf .stuck ρ st = .no := (rfl)
def kExpr  (ρ : Rho) (r : R D) : F := r.f ρ fun x st => .nx ρ st
@[simp] theorem kExpr_ok  {x : D} {st : Sto} : kExpr  ρ (.ok x st) = .nx ρ st := (rfl)
@[simp] theorem kExpr_er  {x : Xn} {st : Sto} : kExpr  ρ (.er x st) = .er x ρ st := (rfl)
@[simp] theorem kExpr_no  : kExpr  ρ .no = .no := (rfl)
@[simp] theorem exS_expr {a : E} : exS T cf (.expr a) ρ st = kExpr ρ (evE T cf a ρ st) := (rfl)
def kSet (i : Nat) (ρ : Rho) (r : R D) : F := r.f ρ fun x st => .nx (ρ.set i (some (fz x))) st
@[simp] theorem kSet_ok {i : Nat} {x : D} {st : Sto} : kSet i ρ (.ok x st) = .nx (ρ.set i (some (fz x))) st := (rfl)
@[simp] theorem kSet_er {i : Nat} {x : Xn} {st : Sto} : kSet i ρ (.er x st) = .er x ρ st := (rfl)
@[simp] theorem kSet_no {i : Nat} : kSet i ρ .no = .no := (rfl)
@[simp] theorem exS_set {i : Nat} {a : E} : exS T cf (.set i a) ρ st = kSet i ρ (evE T cf a ρ st) := (rfl)
def kOwn2 (i : Nat) (ρ : Rho) (st : Sto) : D → F
  | .own ds => .nx (ρ.set i (some (.own ds))) st
  | d => .nx (ρ.set i (some (fz d))) st
@[simp] theorem kOwn2_lst {i : Nat} {ds : List D} : kOwn2 i ρ st (.lst ds) = .nx (ρ.set i (some (.lst ds))) st := (rfl)
@[simp] theorem kOwn2_non {i : Nat} : kOwn2 i ρ st .non = .nx (ρ.set i (some .non)) st := (rfl)
@[simp] theorem kOwn2_own {i : Nat} {ds : List D} : kOwn2 i ρ st (.own ds) = .nx (ρ.set i (some (.own ds))) st := (rfl)
def kUnp2 (is : List Nat) (ρ : Rho) (st : Sto) : D → F
  | .tup ds => F.of (setAll ρ is ds) st
  | _ => .no
@[simp] theorem kUnp2_tup {is : List Nat} {ds : List D} : kUnp2 is ρ st (.tup ds) = F.of (setAll ρ is ds) st := (rfl)
def kStF (ρ : Rho) : Option Sto → F
  | some st => .nx ρ st
  | none => .no
@[simp] theorem kStF_some : kStF ρ (some st) = .nx ρ st := (rfl)
def kOwn1 (i : Nat) (ρ : Rho) (r : R D) : F := r.f ρ fun x st => kOwn2 i ρ st x
@[simp] theorem kOwn1_ok {i : Nat} {x : D} {st : Sto} : kOwn1 i ρ (.ok x st) = kOwn2 i ρ st x := (rfl)
@[simp] theorem kOwn1_er {i : Nat} {x : Xn} {st : Sto} : kOwn1 i ρ (.er x st) = .er x ρ st := (rfl)
@[simp] theorem kOwn1_no {i : Nat} : kOwn1 i ρ .no = .no := (rfl)
@[simp] theorem exS_own {i : Nat} {a : E} : exS T cf (.own i a) ρ st = kOwn1 i ρ (evE T cf a ρ st) := (rfl)
def kUnp (is : List Nat) (ρ : Rho) (r : R D) : F := r.f ρ fun x st => kUnp2 is ρ st x
@[simp] theorem kUnp_ok {is : List Nat} {x : D} {st : Sto} : kUnp is ρ (.ok x st) = kUnp2 is ρ st x := (rfl)
@[simp] theorem kUnp_er {is : List Nat} {x : Xn} {st : Sto} : kUnp is ρ (.er x st) = .er x ρ st := (rfl)
@[simp] theorem kUnp_no {is : List Nat} : kUnp is ρ .no = .no := (rfl)
@[simp] theorem exS_unp {is : List Nat} {a : E} : exS T cf (.unp is a) ρ st = kUnp is ρ (evE T cf a ρ st) := (rfl)
def kAug2 (i : Nat) (ρ : Rho) (st : Sto) : Option D → F
  | some d => .nx (ρ.set i (some d)) st
  | none => .no
@[simp] theorem kAug2_some {i : Nat} {d : D} : kAug2 i ρ st (some d) = .nx (ρ.set i (some d)) st := (rfl)
def kAug1 (i : Nat) (o : BO) (d : D) (ρ : Rho) (r : R D) : F := r.f ρ fun x st => kAug2 i ρ st (augD o d x)
@[simp] theorem kAug1_ok {i : Nat} {o : BO} {d : D} {x : D} {st : Sto} : kAug1 i o d ρ (.ok x st) = kAug2 i ρ st (augD o d x) := (rfl)
@[simp] theorem kAug1_er {i : Nat} {o : BO} {d : D} {x : Xn} {st : Sto} : kAug1 i o d ρ (.er x st) = .er x ρ st := (rfl)
@[simp] theorem kAug1_no {i : Nat} {o : BO} {d : D} : kAug1 i o d ρ .no = .no := (rfl)
def kAug0 (T : Tab) (cf : Nat → List D → Sto → R D) (i : Nat) (o : BO) (a : E) (ρ : Rho) (st : Sto) : Option D → F
  | some d => kAug1 i o d ρ (evE T cf a ρ st)
  | none => .no
@[simp] theorem kAug0_some {i : Nat} {o : BO} {a : E} {d : D} : kAug0 T cf i o a ρ st (some d) = kAug1 i o d ρ (evE T cf a ρ st) := (rfl)
@[simp] theorem exS_aug {i : Nat} {o : BO} {a : E} : exS T cf (.aug i o a) ρ st = kAug0 T cf i o a ρ st (rdV ρ i) := (rfl)
def kSetf (T : Tab) (cf : Nat → List D → Sto → R D) (m : Nat) (ρ : Rho) (r : R D) : F := r.f ρ fun x st => F.of (setfD T m ρ (fz x)) st
@[simp] theorem kSetf_ok {m : Nat} {x : D} {st : Sto} : kSetf T cf m ρ (.ok x st) = F.of (setfD T m ρ (fz x)) st := (rfl)
@[simp] theorem kSetf_er {m : Nat} {x : Xn} {st : Sto} : kSetf T cf m ρ (.er x st) = .er x ρ st := (rfl)
@[simp] theorem kSetf_no {m : Nat} : kSetf T cf m ρ .no = .no := (rfl)
@[simp] theorem exS_setf {m : Nat} {a : E} : exS T cf (.setf m a) ρ st = kSetf T cf m ρ (evE T cf a ρ st) := (rfl)
def kSetiT3 (d : D) (z : D) (ρ : Rho) (r : R (List D)) : F := r.f ρ fun x st => kStF ρ (setiTD z x (fz d) st)
@[simp] theorem kSetiT3_ok {d : D} {z : D} {x : List D} {st : Sto} : kSetiT3 d z ρ (.ok x st) = kStF ρ (setiTD z x (fz d) st) := (rfl)
@[simp] theorem kSetiT3_er {d : D} {z : D} {x : Xn} {st : Sto} : kSetiT3 d z ρ (.er x st) = .er x ρ st := (rfl)
@[simp] theorem kSetiT3_no {d : D} {z : D} : kSetiT3 d z ρ .no = .no := (rfl)
def kSetiT2 (T : Tab) (cf : Nat → List D → Sto → R D) (d : D) (as : Es) (ρ : Rho) (r : R D) : F := r.f ρ fun x st => kSetiT3 d x ρ (evA T cf as ρ st)
@[simp] theorem kSetiT2_ok {d : D} {as : Es} {x : D} {st : Sto} : kSetiT2 T cf d as ρ (.ok x st) = kSetiT3 d x ρ (evA T cf as ρ st) := (rfl)
@[simp] theorem kSetiT2_er {d : D} {as : Es} {x : Xn} {st : Sto} : kSetiT2 T cf d as ρ (.er x st) = .er x ρ st := (rfl)
@[simp] theorem kSetiT2_no {d : D} {as : Es} : kSetiT2 T cf d as ρ .no = .no := (rfl)
def kSetiT1 (T : Tab) (cf : Nat → List D → Sto → R D) (a : E) (as : Es) (ρ : Rho) (r : R D) : F := r.f ρ fun x st => kSetiT2 T cf x as ρ (evE T cf a ρ st)
@[simp] theorem kSetiT1_ok {a : E} {as : Es} {x : D} {st : Sto} : kSetiT1 T cf a as ρ (.ok x st) = kSetiT2 T cf x as ρ (evE T cf a ρ st) := (rfl)
@[simp] theorem kSetiT1_er {a : E} {as : Es} {x : Xn} {st : Sto} : kSetiT1 T cf a as ρ (.er x st) = .er x ρ st := (rfl)
@[simp] theorem kSetiT1_no {a : E} {as : Es} : kSetiT1 T cf a as ρ .no = .no := (rfl)
def kSeti3 (d : D) (z : D) (ρ : Rho) (r : R D) : F := r.f ρ fun x st => kStF ρ (setiD z x (fz d) st)
@[simp] theorem kSeti3_ok {d : D} {z : D} {x : D} {st : Sto} : kSeti3 d z ρ (.ok x st) = kStF ρ (setiD z x (fz d) st) := (rfl)
@[simp] theorem kSeti3_er {d : D} {z : D} {x : Xn} {st : Sto} : kSeti3 d z ρ (.er x st) = .er x ρ st := (rfl)
@[simp] theorem kSeti3_no {d : D} {z : D} : kSeti3 d z ρ .no = .no := (rfl)
def kSeti2 (T : Tab) (cf : Nat → List D → Sto → R D) (d : D) (i : E) (ρ : Rho) (r : R D) : F := r.f ρ fun x st => kSeti3 d x ρ (evE T cf i ρ st)
@[simp] theorem kSeti2_ok {d : D} {i : E} {x : D} {st : Sto} : kSeti2 T cf d i ρ (.ok x st) = kSeti3 d x ρ (evE T cf i ρ st) := (rfl)
@[simp] theorem kSeti2_er {d : D} {i : E} {x : Xn} {st : Sto} : kSeti2 T cf d i ρ (.er x st) = .er x ρ st := (rfl)
@[simp] theorem kSeti2_no {d : D} {i : E} : kSeti2 T cf d i ρ .no = .no := (rfl)
def kSeti1 (T : Tab) (cf : Nat → List D → Sto → R D) (a : E) (i : E) (ρ : Rho) (r : R D) : F := r.f ρ fun x st => kSeti2 T cf x i ρ (evE T cf a ρ st)
@[simp] theorem kSeti1_ok {a : E} {i : E} {x : D} {st : Sto} : kSeti1 T cf a i ρ (.ok x st) = kSeti2 T cf x i ρ (evE T cf a ρ st) := (rfl)
@[simp] theorem kSeti1_er {a : E} {i : E} {x : Xn} {st : Sto} : kSeti1 T cf a i ρ (.er x st) = .er x ρ st := (rfl)
@[simp] theorem kSeti1_no {a : E} {i : E} : kSeti1 T cf a i ρ .no = .no := (rfl)
@[simp] theorem exS_seti {a i v : E} : exS T cf (.seti a i v) ρ st = kSeti1 T cf a i ρ (evE T cf v ρ st) := by
  show (evE T cf v ρ st).f ρ _ = _
  cases evE T cf v ρ st with
  | er x st => rfl
  | no => rfl
  | ok d st =>
    show (evE T cf a ρ st).f ρ _ = (evE T cf a ρ st).f ρ _
    cases evE T cf a ρ st with
    | er x st => rfl
    | no => rfl
    | ok x st =>
      show (evE T cf i ρ st).f ρ _ = (evE T cf i ρ st).f ρ _
      cases evE T cf i ρ st with
      | er x st => rfl
      | no => rfl
      | ok y st =>
        show (match setiD x y (fz d) st with | some st => F.nx ρ st | none => .no) = kStF ρ (setiD x y (fz d) st)
        cases setiD x y (fz d) st <;> rfl
def kForI2 (T : Tab) (cf : Nat → List D → Sto → R D) (i : Nat) (j : Nat) (b : S) (ρ : Rho) (r : R (Nat × Nat × List (List D × D))) : F := r.f ρ fun x st => forG (grdN x.1 x.2.1 x.2.2) (exS T cf b) [i, j] (itmN x.2.2) ρ st
@[simp] theorem kForI2_ok {i : Nat} {j : Nat} {b : S} {x : Nat × Nat × List (List D × D)} {st : Sto} : kForI2 T cf i j b ρ (.ok x st) = forG (grdN x.1 x.2.1 x.2.2) (exS T cf b) [i, j] (itmN x.2.2) ρ st := (rfl)
@[simp] theorem kForI2_er {i : Nat} {j : Nat} {b : S} {x : Xn} {st : Sto} : kForI2 T cf i j b ρ (.er x st) = .er x ρ st := (rfl)
@[simp] theorem kForI2_no {i : Nat} {j : Nat} {b : S} : kForI2 T cf i j b ρ .no = .no := (rfl)
def kForI1 (T : Tab) (cf : Nat → List D → Sto → R D) (i : Nat) (j : Nat) (b : S) (ρ : Rho) (r : R D) : F := r.f ρ fun x st => kForI2 T cf i j b ρ (dnnOf x st)
@[simp] theorem kForI1_ok {i : Nat} {j : Nat} {b : S} {x : D} {st : Sto} : kForI1 T cf i j b ρ (.ok x st) = kForI2 T cf i j b ρ (dnnOf x st) := (rfl)
@[simp] theorem kForI1_er {i : Nat} {j : Nat} {b : S} {x : Xn} {st : Sto} : kForI1 T cf i j b ρ (.er x st) = .er x ρ st := (rfl)
@[simp] theorem kForI1_no {i : Nat} {j : Nat} {b : S} : kForI1 T cf i j b ρ .no = .no := (rfl)
@[simp] theorem exS_forI {i j : Nat} {a : E} {b : S} : exS T cf (.forI i j a b) ρ st = kForI1 T cf i j b ρ (evE T cf a ρ st) := (rfl)
def kForYo (T : Tab) (cf : Nat → List D → Sto → R D) (i : Nat) (b : S) (ρ : Rho) (o : Option (Nat × Nat)) (st : Sto) : F := match o with
  | some q => forYS (exS T cf b) i cf q ρ st
  | none => .no
@[simp] theorem kForYo_some {i : Nat} {b : S} {q : Nat × Nat} : kForYo T cf i b ρ (some q) st = forYS (exS T cf b) i cf q ρ st := (rfl)
def kForY (T : Tab) (cf : Nat → List D → Sto → R D) (i c m : Nat) (b : S) (ρ : Rho) (r : R D) : F := r.f ρ fun x st => kForYo T cf i b ρ (genO T c x m st) st
@[simp] theorem kForY_ok {i c m : Nat} {b : S} {x : D} {st : Sto} : kForY T cf i c m b ρ (.ok x st) = kForYo T cf i b ρ (genO T c x m st) st := (rfl)
@[simp] theorem kForY_er {i c m : Nat} {b : S} {x : Xn} {st : Sto} : kForY T cf i c m b ρ (.er x st) = .er x ρ st := (rfl)
@[simp] theorem kForY_no {i c m : Nat} {b : S} : kForY T cf i c m b ρ .no = .no := (rfl)
@[simp] theorem exS_forY {i c m : Nat} {a : E} {b : S} : exS T cf (.forY i c a m b) ρ st = kForY T cf i c m b ρ (evE T cf a ρ st) := (rfl)
def kForK2 (T : Tab) (cf : Nat → List D → Sto → R D) (i : Nat) (b : S) (ρ : Rho) (r : R (Nat × Nat × List (List D × D))) : F := r.f ρ fun x st => forG (grdN x.1 x.2.1 x.2.2) (exS T cf b) [i] (keyD x.2.2) ρ st
@[simp] theorem kForK2_ok {i : Nat} {b : S} {x : Nat × Nat × List (List D × D)} {st : Sto} : kForK2 T cf i b ρ (.ok x st) = forG (grdN x.1 x.2.1 x.2.2) (exS T cf b) [i] (keyD x.2.2) ρ st := (rfl)
@[simp] theorem kForK2_er {i : Nat} {b : S} {x : Xn} {st : Sto} : kForK2 T cf i b ρ (.er x st) = .er x ρ st := (rfl)
@[simp] theorem kForK2_no {i : Nat} {b : S} : kForK2 T cf i b ρ .no = .no := (rfl)
def kForK1 (T : Tab) (cf : Nat → List D → Sto → R D) (i : Nat) (b : S) (ρ : Rho) (r : R D) : F := r.f ρ fun x st => kForK2 T cf i b ρ (dnnOf x st)
@[simp] theorem kForK1_ok {i : Nat} {b : S} {x : D} {st : Sto} : kForK1 T cf i b ρ (.ok x st) = kForK2 T cf i b ρ (dnnOf x st) := (rfl)
@[simp] theorem kForK1_er {i : Nat} {b : S} {x : Xn} {st : Sto} : kForK1 T cf i b ρ (.er x st) = .er x ρ st := (rfl)
@[simp] theorem kForK1_no {i : Nat} {b : S} : kForK1 T cf i b ρ .no = .no := (rfl)
@[simp] theorem exS_forK {i : Nat} {a : E} {b : S} : exS T cf (.forK i a b) ρ st = kForK1 T cf i b ρ (evE T cf a ρ st) := (rfl)
def kPopN2 (d : D) (ρ : Rho) (r : R D) : F := r.f ρ fun x st => kStF ρ (popND d x st)
@[simp] theorem kPopN2_ok {d : D} {x : D} {st : Sto} : kPopN2 d ρ (.ok x st) = kStF ρ (popND d x st) := (rfl)
@[simp] theorem kPopN2_er {d : D} {x : Xn} {st : Sto} : kPopN2 d ρ (.er x st) = .er x ρ st := (rfl)
@[simp] theorem kPopN2_no {d : D} : kPopN2 d ρ .no = .no := (rfl)
def kPopN1 (T : Tab) (cf : Nat → List D → Sto → R D) (k : E) (ρ : Rho) (r : R D) : F := r.f ρ fun x st => if isNR st x then kPopN2 x ρ (evE T cf k ρ st) else .no
@[simp] theorem kPopN1_ok {k : E} {x : D} {st : Sto} : kPopN1 T cf k ρ (.ok x st) = if isNR st x then kPopN2 x ρ (evE T cf k ρ st) else .no := (rfl)
@[simp] theorem kPopN1_er {k : E} {x : Xn} {st : Sto} : kPopN1 T cf k ρ (.er x st) = .er x ρ st := (rfl)
@[simp] theorem kPopN1_no {k : E} : kPopN1 T cf k ρ .no = .no := (rfl)
@[simp] theorem exS_popN {a k : E} : exS T cf (.popN a k) ρ st = kPopN1 T cf k ρ (evE T cf a ρ st) := by
  show (evE T cf a ρ st).f ρ _ = _
  cases evE T cf a ρ st with
  | er x st => rfl
  | no => rfl
  | ok x st =>
    show (if isNR st x then (evE T cf k ρ st).f ρ _ else .no) = (if isNR st x then (evE T cf k ρ st).f ρ _ else .no)
    by_cases c : isNR st x = true
    · rw [if_pos c, if_pos c]
      cases evE T cf k ρ st with
      | er x st => rfl
      | no => rfl
      | ok y st =>
        show (match popND x y st with | some st => F.nx ρ st | none => .no) = kStF ρ (popND x y st)
        cases popND x y st <;> rfl
    · rw [if_neg c, if_neg c]
def kClrN  (ρ : Rho) (r : R D) : F := r.f ρ fun x st => kStF ρ (clrND x st)
@[simp] theorem kClrN_ok  {x : D} {st : Sto} : kClrN  ρ (.ok x st) = kStF ρ (clrND x st) := (rfl)
@[simp] theorem kClrN_er  {x : Xn} {st : Sto} : kClrN  ρ (.er x st) = .er x ρ st := (rfl)
@[simp] theorem kClrN_no  : kClrN  ρ .no = .no := (rfl)
@[simp] theorem exS_clrN {a : E} : exS T cf (.clrN a) ρ st = kClrN ρ (evE T cf a ρ st) := by
  show (evE T cf a ρ st).f ρ _ = _
  cases evE T cf a ρ st with
  | er x st => rfl
  | no => rfl
  | ok x st =>
    show (match clrND x st with | some st => F.nx ρ st | none => .no) = kStF ρ (clrND x st)
    cases clrND x st <;> rfl
def kSetiN3 (d : D) (z : D) (ρ : Rho) (r : R D) : F := r.f ρ fun x st => kStF ρ (setiND z x (fz d) st)
@[simp] theorem kSetiN3_ok {d : D} {z : D} {x : D} {st : Sto} : kSetiN3 d z ρ (.ok x st) = kStF ρ (setiND z x (fz d) st) := (rfl)
@[simp] theorem kSetiN3_er {d : D} {z : D} {x : Xn} {st : Sto} : kSetiN3 d z ρ (.er x st) = .er x ρ st := (rfl)
@[simp] theorem kSetiN3_no {d : D} {z : D} : kSetiN3 d z ρ .no = .no := (rfl)
def kSetiN2 (T : Tab) (cf : Nat → List D → Sto → R D) (d : D) (i : E) (ρ : Rho) (r : R D) : F := r.f ρ fun x st => kSetiN3 d x ρ (evE T cf i ρ st)
@[simp] theorem kSetiN2_ok {d : D} {i : E} {x : D} {st : Sto} : kSetiN2 T cf d i ρ (.ok x st) = kSetiN3 d x ρ (evE T cf i ρ st) := (rfl)
@[simp] theorem kSetiN2_er {d : D} {i : E} {x : Xn} {st : Sto} : kSetiN2 T cf d i ρ (.er x st) = .er x ρ st := (rfl)
@[simp] theorem kSetiN2_no {d : D} {i : E} : kSetiN2 T cf d i ρ .no = .no := (rfl)
def kSetiN1 (T : Tab) (cf : Nat → List D → Sto → R D) (a : E) (i : E) (ρ : Rho) (r : R D) : F := r.f ρ fun x st => kSetiN2 T cf x i ρ (evE T cf a ρ st)
@[simp] theorem kSetiN1_ok {a : E} {i : E} {x : D} {st : Sto} : kSetiN1 T cf a i ρ (.ok x st) = kSetiN2 T cf x i ρ (evE T cf a ρ st) := (rfl)
@[simp] theorem kSetiN1_er {a : E} {i : E} {x : Xn} {st : Sto} : kSetiN1 T cf a i ρ (.er x st) = .er x ρ st := (rfl)
@[simp] theorem kSetiN1_no {a : E} {i : E} : kSetiN1 T cf a i ρ .no = .no := (rfl)
@[simp] theorem exS_setiN {a i v : E} : exS T cf (.setiN a i v) ρ st = kSetiN1 T cf a i ρ (evE T cf v ρ st) := by
  show (evE T cf v ρ st).f ρ _ = _
  cases evE T cf v ρ st with
  | er x st => rfl
  | no => rfl
  | ok d st =>
    show (evE T cf a ρ st).f ρ _ = (evE T cf a ρ st).f ρ _
    cases evE T cf a ρ st with
    | er x st => rfl
    | no => rfl
    | ok x st =>
      show (evE T cf i ρ st).f ρ _ = (evE T cf i ρ st).f ρ _
      cases evE T cf i ρ st with
      | er x st => rfl
      | no => rfl
      | ok y st =>
        show (match setiND x y (fz d) st with | some st => F.nx ρ st | none => .no) = kStF ρ (setiND x y (fz d) st)
        cases setiND x y (fz d) st <;> rfl
@[simp] theorem exS_setiT {a v : E} {as : Es} : exS T cf (.setiT a as v) ρ st = kSetiT1 T cf a as ρ (evE T cf v ρ st) := by
  show (evE T cf v ρ st).f ρ _ = _
  cases evE T cf v ρ st with
  | er x st => rfl
  | no => rfl
  | ok d st =>
    show (evE T cf a ρ st).f ρ _ = (evE T cf a ρ st).f ρ _
    cases evE T cf a ρ st with
    | er x st => rfl
    | no => rfl
    | ok x st =>
      show (evA T cf as ρ st).f ρ _ = (evA T cf as ρ st).f ρ _
      cases evA T cf as ρ st with
      | er x st => rfl
      | no => rfl
      | ok y st =>
        show (match setiTD x y (fz d) st with | some st => F.nx ρ st | none => .no) = kStF ρ (setiTD x y (fz d) st)
        cases setiTD x y (fz d) st <;> rfl
def kSeta2 (T : Tab) (cf : Nat → List D → Sto → R D) (m : Nat) (d : D) (ρ : Rho) (r : R D) : F := r.f ρ fun x st => kStF ρ (setaD T x m (fz d) st)
@[simp] theorem kSeta2_ok {m : Nat} {d : D} {x : D} {st : Sto} : kSeta2 T cf m d ρ (.ok x st) = kStF ρ (setaD T x m (fz d) st) := (rfl)
@[simp] theorem kSeta2_er {m : Nat} {d : D} {x : Xn} {st : Sto} : kSeta2 T cf m d ρ (.er x st) = .er x ρ st := (rfl)
@[simp] theorem kSeta2_no {m : Nat} {d : D} : kSeta2 T cf m d ρ .no = .no := (rfl)
def kSeta1 (T : Tab) (cf : Nat → List D → Sto → R D) (a : E) (m : Nat) (ρ : Rho) (r : R D) : F := r.f ρ fun x st => kSeta2 T cf m x ρ (evE T cf a ρ st)
@[simp] theorem kSeta1_ok {a : E} {m : Nat} {x : D} {st : Sto} : kSeta1 T cf a m ρ (.ok x st) = kSeta2 T cf m x ρ (evE T cf a ρ st) := (rfl)
@[simp] theorem kSeta1_er {a : E} {m : Nat} {x : Xn} {st : Sto} : kSeta1 T cf a m ρ (.er x st) = .er x ρ st := (rfl)
@[simp] theorem kSeta1_no {a : E} {m : Nat} : kSeta1 T cf a m ρ .no = .no := (rfl)
@[simp] theorem exS_seta {a v : E} {m : Nat} : exS T cf (.seta a m v) ρ st = kSeta1 T cf a m ρ (evE T cf v ρ st) := by
  show (evE T cf v ρ st).f ρ _ = _
  cases evE T cf v ρ st with
  | er x st => rfl
  | no => rfl
  | ok d st =>
    show (evE T cf a ρ st).f ρ _ = (evE T cf a ρ st).f ρ _
    cases evE T cf a ρ st with
    | er x st => rfl
    | no => rfl
    | ok x st =>
      show (match setaD T x m (fz d) st with | some st => F.nx ρ st | none => .no) = kStF ρ (setaD T x m (fz d) st)
      cases setaD T x m (fz d) st <;> rfl
def kNx  (ρ : Rho) (r : R D) : F := r.f ρ fun x st => .nx ρ st
@[simp] theorem kNx_ok  {x : D} {st : Sto} : kNx  ρ (.ok x st) = .nx ρ st := (rfl)
@[simp] theorem kNx_er  {x : Xn} {st : Sto} : kNx  ρ (.er x st) = .er x ρ st := (rfl)
@[simp] theorem kNx_no  : kNx  ρ .no = .no := (rfl)
def kSetp0 (cf : Nat → List D → Sto → R D) (ρ : Rho) (ds : List D) (st : Sto) : Option Nat → F
  | some f => kNx ρ (cf f ds st)
  | none => .no
@[simp] theorem kSetp0_some {ds : List D} {f : Nat} : kSetp0 cf ρ ds st (some f) = kNx ρ (cf f ds st) := (rfl)
def kSetp2 (T : Tab) (cf : Nat → List D → Sto → R D) (m : Nat) (d : D) (ρ : Rho) (r : R D) : F := r.f ρ fun x st => kSetp0 cf ρ [x, fz d] st (setpO T x m st)
@[simp] theorem kSetp2_ok {m : Nat} {d : D} {x : D} {st : Sto} : kSetp2 T cf m d ρ (.ok x st) = kSetp0 cf ρ [x, fz d] st (setpO T x m st) := (rfl)
@[simp] theorem kSetp2_er {m : Nat} {d : D} {x : Xn} {st : Sto} : kSetp2 T cf m d ρ (.er x st) = .er x ρ st := (rfl)
@[simp] theorem kSetp2_no {m : Nat} {d : D} : kSetp2 T cf m d ρ .no = .no := (rfl)
def kSetp1 (T : Tab) (cf : Nat → List D → Sto → R D) (a : E) (m : Nat) (ρ : Rho) (r : R D) : F := r.f ρ fun x st => kSetp2 T cf m x ρ (evE T cf a ρ st)
@[simp] theorem kSetp1_ok {a : E} {m : Nat} {x : D} {st : Sto} : kSetp1 T cf a m ρ (.ok x st) = kSetp2 T cf m x ρ (evE T cf a ρ st) := (rfl)
@[simp] theorem kSetp1_er {a : E} {m : Nat} {x : Xn} {st : Sto} : kSetp1 T cf a m ρ (.er x st) = .er x ρ st := (rfl)
@[simp] theorem kSetp1_no {a : E} {m : Nat} : kSetp1 T cf a m ρ .no = .no := (rfl)
@[simp] theorem exS_setp {a v : E} {m : Nat} : exS T cf (.setp a m v) ρ st = kSetp1 T cf a m ρ (evE T cf v ρ st) := by
  show (evE T cf v ρ st).f ρ _ = _
  cases evE T cf v ρ st with
  | er x st => rfl
  | no => rfl
  | ok d st =>
    show (evE T cf a ρ st).f ρ _ = (evE T cf a ρ st).f ρ _
    cases evE T cf a ρ st with
    | er x st => rfl
    | no => rfl
    | ok x st =>
      show _ = kSetp0 cf ρ [x, fz d] st (setpO T x m st)
      show (match setpO T x m st with | some f => (cf f [x, fz d] st).f ρ fun _ st => F.nx ρ st | none => .no) = _
      cases setpO T x m st <;> rfl
def kAppr2 (d : D) (ρ : Rho) (r : R D) : F := r.f ρ fun x st => kStF ρ (apprD d (fz x) st)
@[simp] theorem kAppr2_ok {d : D} {x : D} {st : Sto} : kAppr2 d ρ (.ok x st) = kStF ρ (apprD d (fz x) st) := (rfl)
@[simp] theorem kAppr2_er {d : D} {x : Xn} {st : Sto} : kAppr2 d ρ (.er x st) = .er x ρ st := (rfl)
@[simp] theorem kAppr2_no {d : D} : kAppr2 d ρ .no = .no := (rfl)
def kAppr1 (T : Tab) (cf : Nat → List D → Sto → R D) (v : E) (ρ : Rho) (r : R D) : F := r.f ρ fun x st => if isLR st x then kAppr2 x ρ (evE T cf v ρ st) else .no
@[simp] theorem kAppr1_ok {v : E} {x : D} {st : Sto} : kAppr1 T cf v ρ (.ok x st) = if isLR st x then kAppr2 x ρ (evE T cf v ρ st) else .no := (rfl)
@[simp] theorem kAppr1_er {v : E} {x : Xn} {st : Sto} : kAppr1 T cf v ρ (.er x st) = .er x ρ st := (rfl)
@[simp] theorem kAppr1_no {v : E} : kAppr1 T cf v ρ .no = .no := (rfl)
@[simp] theorem exS_appr {a v : E} : exS T cf (.appr a v) ρ st = kAppr1 T cf v ρ (evE T cf a ρ st) := by
  show (evE T cf a ρ st).f ρ _ = (evE T cf a ρ st).f ρ _
  cases evE T cf a ρ st with
  | er x st => rfl
  | no => rfl
  | ok x st =>
    show (if isLR st x then (evE T cf v ρ st).f ρ _ else F.no) = (if isLR st x then kAppr2 x ρ (evE T cf v ρ st) else .no)
    by_cases h : isLR st x = true
    · rw [if_pos h, if_pos h]
      show (evE T cf v ρ st).f ρ _ = (evE T cf v ρ st).f ρ _
      cases evE T cf v ρ st with
      | er x st => rfl
      | no => rfl
      | ok d st =>
        show (match apprD x (fz d) st with | some st => F.nx ρ st | none => .no) = kStF ρ (apprD x (fz d) st)
        cases apprD x (fz d) st <;> rfl
    · rw [if_neg h, if_neg h]
def kIns3 (d : D) (y : D) (ρ : Rho) (r : R D) : F := r.f ρ fun x st => kStF ρ (insD d y (fz x) st)
@[simp] theorem kIns3_ok {d : D} {y : D} {x : D} {st : Sto} : kIns3 d y ρ (.ok x st) = kStF ρ (insD d y (fz x) st) := (rfl)
@[simp] theorem kIns3_er {d : D} {y : D} {x : Xn} {st : Sto} : kIns3 d y ρ (.er x st) = .er x ρ st := (rfl)
@[simp] theorem kIns3_no {d : D} {y : D} : kIns3 d y ρ .no = .no := (rfl)
def kIns2 (T : Tab) (cf : Nat → List D → Sto → R D) (d : D) (v : E) (ρ : Rho) (r : R D) : F := r.f ρ fun x st => kIns3 d x ρ (evE T cf v ρ st)
@[simp] theorem kIns2_ok {d : D} {v : E} {x : D} {st : Sto} : kIns2 T cf d v ρ (.ok x st) = kIns3 d x ρ (evE T cf v ρ st) := (rfl)
@[simp] theorem kIns2_er {d : D} {v : E} {x : Xn} {st : Sto} : kIns2 T cf d v ρ (.er x st) = .er x ρ st := (rfl)
@[simp] theorem kIns2_no {d : D} {v : E} : kIns2 T cf d v ρ .no = .no := (rfl)
def kIns1 (T : Tab) (cf : Nat → List D → Sto → R D) (i : E) (v : E) (ρ : Rho) (r : R D) : F := r.f ρ fun x st => if isLR st x then kIns2 T cf x v ρ (evE T cf i ρ st) else .no
@[simp] theorem kIns1_ok {i : E} {v : E} {x : D} {st : Sto} : kIns1 T cf i v ρ (.ok x st) = if isLR st x then kIns2 T cf x v ρ (evE T cf i ρ st) else .no := (rfl)
@[simp] theorem kIns1_er {i : E} {v : E} {x : Xn} {st : Sto} : kIns1 T cf i v ρ (.er x st) = .er x ρ st := (rfl)
@[simp] theorem kIns1_no {i : E} {v : E} : kIns1 T cf i v ρ .no = .no := (rfl)
@[simp] theorem exS_insrr {a i v : E} : exS T cf (.insrr a i v) ρ st = kIns1 T cf i v ρ (evE T cf a ρ st) := by
  show (evE T cf a ρ st).f ρ _ = (evE T cf a ρ st).f ρ _
  cases evE T cf a ρ st with
  | er x st => rfl
  | no => rfl
  | ok x st =>
    show (if isLR st x then (evE T cf i ρ st).f ρ _ else F.no) = (if isLR st x then kIns2 T cf x v ρ (evE T cf i ρ st) else .no)
    by_cases h : isLR st x = true
    · rw [if_pos h, if_pos h]
      show (evE T cf i ρ st).f ρ _ = (evE T cf i ρ st).f ρ _
      cases evE T cf i ρ st with
      | er x st => rfl
      | no => rfl
      | ok y st =>
        show (evE T cf v ρ st).f ρ _ = (evE T cf v ρ st).f ρ _
        cases evE T cf v ρ st with
        | er x st => rfl
        | no => rfl
        | ok d st =>
          show (match insD x y (fz d) st with | some st => F.nx ρ st | none => .no) = kStF ρ (insD x y (fz d) st)
          cases insD x y (fz d) st <;> rfl
    · rw [if_neg h, if_neg h]
def kRem2 (d : D) (ρ : Rho) (r : R D) : F := r.f ρ fun x st => kStF ρ (remD d (fz x) st)
@[simp] theorem kRem2_ok {d : D} {x : D} {st : Sto} : kRem2 d ρ (.ok x st) = kStF ρ (remD d (fz x) st) := (rfl)
@[simp] theorem kRem2_er {d : D} {x : Xn} {st : Sto} : kRem2 d ρ (.er x st) = .er x ρ st := (rfl)
@[simp] theorem kRem2_no {d : D} : kRem2 d ρ .no = .no := (rfl)
def kRem1 (T : Tab) (cf : Nat → List D → Sto → R D) (v : E) (ρ : Rho) (r : R D) : F := r.f ρ fun x st => if isLR st x then kRem2 x ρ (evE T cf v ρ st) else .no
@[simp] theorem kRem1_ok {v : E} {x : D} {st : Sto} : kRem1 T cf v ρ (.ok x st) = if isLR st x then kRem2 x ρ (evE T cf v ρ st) else .no := (rfl)
@[simp] theorem kRem1_er {v : E} {x : Xn} {st : Sto} : kRem1 T cf v ρ (.er x st) = .er x ρ st := (rfl)
@[simp] theorem kRem1_no {v : E} : kRem1 T cf v ρ .no = .no := (rfl)
@[simp] theorem exS_remr {a v : E} : exS T cf (.remr a v) ρ st = kRem1 T cf v ρ (evE T cf a ρ st) := by
  show (evE T cf a ρ st).f ρ _ = (evE T cf a ρ st).f ρ _
  cases evE T cf a ρ st with
  | er x st => rfl
  | no => rfl
  | ok x st =>
    show (if isLR st x then (evE T cf v ρ st).f ρ _ else F.no) = (if isLR st x then kRem2 x ρ (evE T cf v ρ st) else .no)
    by_cases h : isLR st x = true
    · rw [if_pos h, if_pos h]
      cases evE T cf v ρ st with
      | er x st => rfl
      | no => rfl
      | ok d st =>
        show (match remD x (fz d) st with | some st => F.nx ρ st | none => .no) = kStF ρ (remD x (fz d) st)
        cases remD x (fz d) st <;> rfl
    · rw [if_neg h, if_neg h]
def kDp2 (d : D) (ρ : Rho) (r : R D) : F := r.f ρ fun x st => kStF ρ (dropD d x st)
@[simp] theorem kDp2_ok {d : D} {x : D} {st : Sto} : kDp2 d ρ (.ok x st) = kStF ρ (dropD d x st) := (rfl)
@[simp] theorem kDp2_er {d : D} {x : Xn} {st : Sto} : kDp2 d ρ (.er x st) = .er x ρ st := (rfl)
@[simp] theorem kDp2_no {d : D} : kDp2 d ρ .no = .no := (rfl)
def kDp1 (T : Tab) (cf : Nat → List D → Sto → R D) (v : E) (ρ : Rho) (r : R D) : F := r.f ρ fun x st => if isDR st x then kDp2 x ρ (evE T cf v ρ st) else .no
@[simp] theorem kDp1_ok {v : E} {x : D} {st : Sto} : kDp1 T cf v ρ (.ok x st) = if isDR st x then kDp2 x ρ (evE T cf v ρ st) else .no := (rfl)
@[simp] theorem kDp1_er {v : E} {x : Xn} {st : Sto} : kDp1 T cf v ρ (.er x st) = .er x ρ st := (rfl)
@[simp] theorem kDp1_no {v : E} : kDp1 T cf v ρ .no = .no := (rfl)
@[simp] theorem exS_dpop {a v : E} : exS T cf (.dpop a v) ρ st = kDp1 T cf v ρ (evE T cf a ρ st) := by
  show (evE T cf a ρ st).f ρ _ = (evE T cf a ρ st).f ρ _
  cases evE T cf a ρ st with
  | er x st => rfl
  | no => rfl
  | ok x st =>
    show (if isDR st x then (evE T cf v ρ st).f ρ _ else F.no) = (if isDR st x then kDp2 x ρ (evE T cf v ρ st) else .no)
    by_cases h : isDR st x = true
    · rw [if_pos h, if_pos h]
      cases evE T cf v ρ st with
      | er x st => rfl
      | no => rfl
      | ok d st =>
        show (match dropD x d st with | some st => F.nx ρ st | none => .no) = kStF ρ (dropD x d st)
        cases dropD x d st <;> rfl
    · rw [if_neg h, if_neg h]
def kClr  (ρ : Rho) (r : R D) : F := r.f ρ fun x st => kStF ρ (clrD x st)
@[simp] theorem kClr_ok  {x : D} {st : Sto} : kClr  ρ (.ok x st) = kStF ρ (clrD x st) := (rfl)
@[simp] theorem kClr_er  {x : Xn} {st : Sto} : kClr  ρ (.er x st) = .er x ρ st := (rfl)
@[simp] theorem kClr_no  : kClr  ρ .no = .no := (rfl)
@[simp] theorem exS_clr {a : E} : exS T cf (.clr a) ρ st = kClr ρ (evE T cf a ρ st) := by
  show (evE T cf a ρ st).f ρ _ = (evE T cf a ρ st).f ρ _
  cases evE T cf a ρ st with
  | er x st => rfl
  | no => rfl
  | ok x st =>
    show (match clrD x st with | some st => F.nx ρ st | none => .no) = kStF ρ (clrD x st)
    cases clrD x st <;> rfl
def kRet  (ρ : Rho) (r : R D) : F := r.f ρ fun x st => .rt x st
@[simp] theorem kRet_ok  {x : D} {st : Sto} : kRet  ρ (.ok x st) = .rt x st := (rfl)
@[simp] theorem kRet_er  {x : Xn} {st : Sto} : kRet  ρ (.er x st) = .er x ρ st := (rfl)
@[simp] theorem kRet_no  : kRet  ρ .no = .no := (rfl)
@[simp] theorem exS_ret {a : E} : exS T cf (.ret a) ρ st = kRet ρ (evE T cf a ρ st) := (rfl)
@[simp] theorem exS_ret0  : exS T cf .ret0 ρ st = .rt .non st := (rfl)
@[simp] theorem exS_brk  : exS T cf .brk ρ st = .bk ρ st := (rfl)
@[simp] theorem exS_cnt  : exS T cf .cnt ρ st = .ct ρ st := (rfl)
def kIf (T : Tab) (cf : Nat → List D → Sto → R D) (a : S) (b : S) (ρ : Rho) (r : R Bool) : F := r.f ρ fun x st => if x then exS T cf a ρ st else exS T cf b ρ st
@[simp] theorem kIf_ok {a : S} {b : S} {x : Bool} {st : Sto} : kIf T cf a b ρ (.ok x st) = if x then exS T cf a ρ st else exS T cf b ρ st := (rfl)
@[simp] theorem kIf_er {a : S} {b : S} {x : Xn} {st : Sto} : kIf T cf a b ρ (.er x st) = .er x ρ st := (rfl)
@[simp] theorem kIf_no {a : S} {b : S} : kIf T cf a b ρ .no = .no := (rfl)
@[simp] theorem exS_ifs {t : Tt} {a b : S} : exS T cf (.ifs t a b) ρ st = kIf T cf a b ρ (evT T cf t ρ st) := (rfl)
def kRz (c : Nat) (ρ : Rho) (ds : List D) (st : Sto) : Option Cls → F
  | some C => if raisable C ds then .er ⟨c, ds⟩ ρ st else .no
  | none => .no
@[simp] theorem kRz_some {c : Nat} {ds : List D} {C : Cls} : kRz c ρ ds st (some C) = if raisable C ds then .er ⟨c, ds⟩ ρ st else .no := (rfl)
def kRaise (T : Tab) (cf : Nat → List D → Sto → R D) (c : Nat) (ρ : Rho) (r : R (List D)) : F := r.f ρ fun x st => kRz c ρ x st (T.cls c)
@[simp] theorem kRaise_ok {c : Nat} {x : List D} {st : Sto} : kRaise T cf c ρ (.ok x st) = kRz c ρ x st (T.cls c) := (rfl)
@[simp] theorem kRaise_er {c : Nat} {x : Xn} {st : Sto} : kRaise T cf c ρ (.er x st) = .er x ρ st := (rfl)
@[simp] theorem kRaise_no {c : Nat} : kRaise T cf c ρ .no = .no := (rfl)
@[simp] theorem exS_raise {c : Nat} {as : Es} : exS T cf (.raise c as) ρ st = kRaise T cf c ρ (evA T cf as ρ st) := by
  show (evA T cf as ρ st).f ρ _ = (evA T cf as ρ st).f ρ _
  cases evA T cf as ρ st with
  | ok ds st =>
    show (match T.cls c with | some C => if raisable C ds then F.er ⟨c, ds⟩ ρ st else .no | none => .no) = kRz c ρ ds st (T.cls c)
    cases T.cls c <;> rfl
  | er x st => rfl
  | no => rfl
def kTry (T : Tab) (cf : Nat → List D → Sto → R D) (hs : S) : F → F
  | .er x ρ st => exS.hdS T cf x hs ρ st
  | r => r
@[simp] theorem kTry_nx {hs : S} : kTry T cf hs (.nx ρ st) = .nx ρ st := (rfl)
@[simp] theorem kTry_rt {hs : S} {d : D} : kTry T cf hs (.rt d st) = .rt d st := (rfl)
@[simp] theorem kTry_bk {hs : S} : kTry T cf hs (.bk ρ st) = .bk ρ st := (rfl)
@[simp] theorem kTry_ct {hs : S} : kTry T cf hs (.ct ρ st) = .ct ρ st := (rfl)
@[simp] theorem kTry_er {hs : S} {x : Xn} : kTry T cf hs (.er x ρ st) = exS.hdS T cf x hs ρ st := (rfl)
@[simp] theorem exS_try {b hs : S} : exS T cf (.try_ b hs) ρ st = kTry T cf hs (exS T cf b ρ st) := by
  show (match exS T cf b ρ st with | .er x ρ st => exS.hdS T cf x hs ρ st | r => r) = _
  cases exS T cf b ρ st <;> rfl
@[simp] theorem hdS_hnd {c : Nat} {o : Option Nat} {h r : S} {x : Xn} : exS.hdS T cf x (.hnd c o h r) ρ st = if isErr T x.c then (if under T x.c c then (exS T cf h (setO ρ o (some (.exc x.c x.ds))) st).unset o else exS.hdS T cf x r ρ st) else .no := (rfl)
@[simp] theorem hdS_skip {x : Xn} : exS.hdS T cf x .skip ρ st = .er x ρ st := (rfl)
@[simp] theorem un_nx {o : Option Nat} : (F.nx ρ st).unset o = if (setO ρ o none).all notExc then .nx (setO ρ o none) st else .no := (rfl)
@[simp] theorem un_rt {o : Option Nat} {d : D} : (F.rt d st).unset o = .rt d st := (rfl)
@[simp] theorem setO_none' {d : Option D} : setO ρ none d = ρ := (rfl)
@[simp] theorem setO_some' {i : Nat} {d : Option D} : setO ρ (some i) d = ρ.set i d := (rfl)
@[simp] theorem fin_nx0 : fin T none (.nx ρ st) = .ok .non st := (rfl)
@[simp] theorem fin_rt0 {d : D} : fin T none (.rt d st) = .ok d st := (rfl)
@[simp] theorem fin_er {x : Xn} {i : Option Nat} : fin T i (.er x ρ st) = .er x st := (rfl)
def kFin (c : Nat) (st : Sto) : Option (Option D) → Option Cls → R D
  | some (some (.obj k ds)), some C => if k = c ∧ ds.length = C.fields.length then .ok (.ins c ds) st else .no
  | _, _ => .no
@[simp] theorem kFin_obj {c k : Nat} {ds : List D} {C : Cls} : kFin c st (some (some (.obj k ds))) (some C) = if k = c ∧ ds.length = C.fields.length then .ok (.ins c ds) st else .no := (rfl)
@[simp] theorem fin_nx1 {c : Nat} : fin T (some c) (.nx ρ st) = kFin c st ρ[0]? (T.cls c) := by
  first
    | (unfold fin kFin; split <;> simp_all; done)
    | (unfold fin kFin; split <;> simp_all; split <;> simp_all)

def kFor (T : Tab) (cf : Nat → List D → Sto → R D) (ts : List Nat) (b : S) (ρ : Rho) (fb : F) (r : R (List (List D))) : F := orF r ρ (fun dss st => forL (exS T cf b) ts dss ρ st) fb
@[simp] theorem kFor_ok {ts : List Nat} {b : S} {dss : List (List D)} {fb : F} : kFor T cf ts b ρ fb (.ok dss st) = forL (exS T cf b) ts dss ρ st := (rfl)
@[simp] theorem kFor_er {ts : List Nat} {b : S} {x : Xn} {fb : F} : kFor T cf ts b ρ fb (.er x st) = .er x ρ st := (rfl)
@[simp] theorem kFor_no {ts : List Nat} {b : S} {fb : F} : kFor T cf ts b ρ fb .no = fb := (rfl)
def kForR (T : Tab) (cf : Nat → List D → Sto → R D) (ts : List Nat) (b : S) (ρ : Rho) (r : R (Nat × List D × List (List D))) : F := r.f ρ fun q st => forG (grd q.1 q.2.1) (exS T cf b) ts q.2.2 ρ st
@[simp] theorem exS_for {ts : List Nat} {src : It} {b : S} : exS T cf (.for_ ts src b) ρ st = kFor T cf ts b ρ (kForR T cf ts b ρ (evRE T cf src ρ st)) (evI T cf src ρ st) := (rfl)
def kForS (T : Tab) (cf : Nat → List D → Sto → R D) (i : Nat) (b : S) (ρ : Rho) (r : R D) : F := r.f ρ fun d st => (match refOf d with
    | some r => (match st[r]? with
      | some (.lst ds) => forRef (exS T cf b) i r 0 (ds.length + 1) ρ st
      | _ => .no)
    | none => (match seqOf d with
      | some ds => forL (exS T cf b) [i] (ds.map fun x => [x]) ρ st
      | none => .no))
@[simp] theorem kForS_er {i : Nat} {b : S} {x : Xn} : kForS T cf i b ρ (.er x st) = .er x ρ st := (rfl)
@[simp] theorem kForS_own {i : Nat} {b : S} {ds : List D} : kForS T cf i b ρ (.ok (.own ds) st) = forL (exS T cf b) [i] (ds.map fun x => [x]) ρ st := (rfl)
@[simp] theorem kForS_lst {i : Nat} {b : S} {ds : List D} : kForS T cf i b ρ (.ok (.lst ds) st) = forL (exS T cf b) [i] (ds.map fun x => [x]) ρ st := (rfl)
@[simp] theorem kForS_tup {i : Nat} {b : S} {ds : List D} : kForS T cf i b ρ (.ok (.tup ds) st) = forL (exS T cf b) [i] (ds.map fun x => [x]) ρ st := (rfl)
@[simp] theorem exS_forS {i : Nat} {a : E} {b : S} : exS T cf (.forS i a b) ρ st = kForS T cf i b ρ (evE T cf a ρ st) := (rfl)
def kForT2 (T : Tab) (cf : Nat → List D → Sto → R D) (i : Nat) (b : S) (ρ : Rho) (st : Sto) : D → F
  | .str s => forL (exS T cf b) [i] (s.map fun c => [.str [c]]) ρ st
  | _ => .no
@[simp] theorem kForT2_str {i : Nat} {b : S} {s : List Nat} : kForT2 T cf i b ρ st (.str s) = forL (exS T cf b) [i] (s.map fun c => [.str [c]]) ρ st := (rfl)
def kForT (T : Tab) (cf : Nat → List D → Sto → R D) (i : Nat) (b : S) (ρ : Rho) (r : R D) : F := r.f ρ fun d st => kForT2 T cf i b ρ st d
@[simp] theorem kForT_ok {i : Nat} {b : S} {d : D} : kForT T cf i b ρ (.ok d st) = kForT2 T cf i b ρ st d := (rfl)
@[simp] theorem kForT_er {i : Nat} {b : S} {x : Xn} : kForT T cf i b ρ (.er x st) = .er x ρ st := (rfl)
def kForV2 (T : Tab) (cf : Nat → List D → Sto → R D) (i : Nat) (b : S) (ρ : Rho) (st : Sto) : D → F
  | .own ds => forL (exS T cf b) [i] (ds.reverse.map fun x => [x]) ρ st
  | .lst ds => forL (exS T cf b) [i] (ds.reverse.map fun x => [x]) ρ st
  | _ => .no
@[simp] theorem kForV2_own {i : Nat} {b : S} {ds : List D} : kForV2 T cf i b ρ st (.own ds) = forL (exS T cf b) [i] (ds.reverse.map fun x => [x]) ρ st := (rfl)
@[simp] theorem kForV2_lst {i : Nat} {b : S} {ds : List D} : kForV2 T cf i b ρ st (.lst ds) = forL (exS T cf b) [i] (ds.reverse.map fun x => [x]) ρ st := (rfl)
def kForV (T : Tab) (cf : Nat → List D → Sto → R D) (i : Nat) (b : S) (ρ : Rho) (r : R D) : F := r.f ρ fun d st => kForV2 T cf i b ρ st d
@[simp] theorem kForV_ok {i : Nat} {b : S} {d : D} : kForV T cf i b ρ (.ok d st) = kForV2 T cf i b ρ st d := (rfl)
@[simp] theorem kForV_er {i : Nat} {b : S} {x : Xn} : kForV T cf i b ρ (.er x st) = .er x ρ st := (rfl)
@[simp] theorem exS_while {t : Tt} {b : S} : exS T cf (.while_ t b) ρ st = whileL (evT T cf t) (exS T cf b) LINE ρ st := (rfl)
def kApp (x : Nat) (ds : List D) (ρ : Rho) (r : R D) : F := r.f ρ fun d st => .nx (ρ.set x (some (.own (ds ++ [fz d])))) st
@[simp] theorem kApp_ok {x : Nat} {ds : List D} {d : D} : kApp x ds ρ (.ok d st) = .nx (ρ.set x (some (.own (ds ++ [fz d])))) st := (rfl)
@[simp] theorem kApp_er {x : Nat} {ds : List D} {e : Xn} : kApp x ds ρ (.er e st) = .er e ρ st := (rfl)
def kExt (x : Nat) (ds : List D) (ρ : Rho) (r : R D) : F := r.f ρ fun d st => extF x ds ρ st (lstS st d)
@[simp] theorem kExt_ok {x : Nat} {ds : List D} {d : D} : kExt x ds ρ (.ok d st) = extF x ds ρ st (lstS st d) := (rfl)
@[simp] theorem kExt_er {x : Nat} {ds : List D} {e : Xn} : kExt x ds ρ (.er e st) = .er e ρ st := (rfl)
end
@[simp] theorem ty_beq (a b : TY) : (a == b) = decide (a = b) := (rfl)
@[simp] theorem int_bne (a b : Int) : (a != b) = !decide (a = b) := rfl
end Ev
set_option Elab.async false
set_option linter.all false
namespace Ev
def drawB : S := (.seq (.ifs (.and (.e (.cmp .eq (.ix (.var 1) (.int 0)) (.int 0))) (.e (.cmp .lt (.ix (.var 1) (.int 1)) (.bi .len (.cons (.var 0) .nil))))) (.seq (.set 3 (.ix (.var 0) (.ix (.var 1) (.int 1)))) (.seq (.seti (.var 1) (.int 1) (.bin .add (.ix (.var 1) (.int 1)) (.int 1))) (.seq (.ifs (.e (.cmp .ge (.var 3) (.bin .pow (.int 10) (.int 18)))) (.seq (.seti (.var 1) (.int 0) (.var 3)) .skip) (.seq (.seti (.var 1) (.int 2) (.bin .mod (.bi .int (.cons (.bin .add (.bin .mul (.ix (.var 1) (.int 2)) (.int 69621)) (.var 3)) .nil)) (.int 2147483647))) .skip)) .skip))) .skip) (.seq (.ifs (.e (.cmp .gt (.ix (.var 1) (.int 0)) (.int 0))) (.seq (.set 4 (.bin .mod (.bi .int (.cons (.ix (.var 1) (.int 0)) .nil)) (.var 2))) (.seq (.seti (.var 1) (.int 0) (.bin .fdv (.ix (.var 1) (.int 0)) (.var 2))) (.seq (.ret (.var 4)) .skip))) .skip) (.seq (.seti (.var 1) (.int 3) (.bin .add (.ix (.var 1) (.int 3)) (.int 1))) (.seq (.seti (.var 1) (.int 2) (.bin .mod (.bi .int (.cons (.bin .add (.bin .add (.bin .mul (.ix (.var 1) (.int 2)) (.int 48271)) (.bin .mul (.ix (.var 1) (.int 3)) (.int 7919))) (.int 30103)) .nil)) (.int 2147483647))) (.seq (.set 5 (.bin .mod (.bi .int (.cons (.bin .mul (.ix (.var 1) (.int 2)) (.bin .add (.bin .fdv (.ix (.var 1) (.int 2)) (.int 1009)) (.int 69621))) .nil)) (.int 2147483647))) (.seq (.ret (.bin .mod (.bin .mod (.bi .int (.cons (.bin .mul (.var 5) (.bin .add (.bin .fdv (.var 5) (.int 2003)) (.int 40692))) .nil)) (.int 2147483399)) (.var 2))) .skip))))))
def drawFn (lv : Nat) : Fn := { np := 3, nl := 6, body := drawB, ini := none, lv := lv }
def st4 (a b c d : Int) : Sto := [.lst [.int a, .int b, .int c, .int d]]
def Draws (s : Sto) : Prop := ∃ a b c d, s = st4 a b c d ∧ 0 ≤ a ∧ 0 ≤ b ∧ 0 ≤ c ∧ c < 2147483647 ∧ 0 ≤ d
section
variable {T : Tab} {cf : Nat → List D → Sto → R D}
theorem mulOk_r {i j : Int} (h : small j = true) : mulOk i j = true := by
  unfold mulOk
  rw [h]
  simp
theorem mulOk_l {i j : Int} (h : small i = true) : mulOk i j = true := by
  unfold mulOk
  rw [h]
  simp
theorem small_of {i : Int} (h1 : -18446744073709551616 < i) (h2 : i < 18446744073709551616) : small i = true := by
  unfold small
  simp [h1, h2]
theorem fmod_lo {a m : Int} (h : 0 < m) : 0 ≤ a.fmod m := Int.fmod_nonneg_of_pos a h
theorem fmod_hi {a m : Int} (h : 0 < m) : a.fmod m < m := Int.fmod_lt_of_pos a h
def drawT (many a b c d : Int) : Int × Sto :=
  let d1 := d + 1
  let c1 := (c * 48271 + d1 * 7919 + 30103).fmod 2147483647
  let n := (c1 * (c1.fdiv 1009 + 69621)).fmod 2147483647
  (((n * (n.fdiv 2003 + 40692)).fmod 2147483399).fmod many, st4 a b c1 d1)
def drawQ : S := (.seq (.ifs (.e (.cmp .gt (.ix (.var 1) (.int 0)) (.int 0))) (.seq (.set 4 (.bin .mod (.bi .int (.cons (.ix (.var 1) (.int 0)) .nil)) (.var 2))) (.seq (.seti (.var 1) (.int 0) (.bin .fdv (.ix (.var 1) (.int 0)) (.var 2))) (.seq (.ret (.var 4)) .skip))) .skip) (.seq (.seti (.var 1) (.int 3) (.bin .add (.ix (.var 1) (.int 3)) (.int 1))) (.seq (.seti (.var 1) (.int 2) (.bin .mod (.bi .int (.cons (.bin .add (.bin .add (.bin .mul (.ix (.var 1) (.int 2)) (.int 48271)) (.bin .mul (.ix (.var 1) (.int 3)) (.int 7919))) (.int 30103)) .nil)) (.int 2147483647))) (.seq (.set 5 (.bin .mod (.bi .int (.cons (.bin .mul (.ix (.var 1) (.int 2)) (.bin .add (.bin .fdv (.ix (.var 1) (.int 2)) (.int 1009)) (.int 69621))) .nil)) (.int 2147483647))) (.seq (.ret (.bin .mod (.bin .mod (.bi .int (.cons (.bin .mul (.var 5) (.bin .add (.bin .fdv (.var 5) (.int 2003)) (.int 40692))) .nil)) (.int 2147483399)) (.var 2))) .skip)))))
theorem drawQ_pos {many a b c d : Int} {x : Option D} {ns : List Int} (ha : 0 < a) (hm : 0 < many) (hm2 : many < 1073741824) :
    exS T cf drawQ [some (.scr ns), some (.ref 0), some (.int many), x, none, none] (st4 a b c d) = .rt (.int (a.fmod many)) (st4 (a.fdiv many) b c d) := by
  have h1 : divOk many = true := by
    unfold divOk
    have : many.natAbs.log2 < 9000 := by
      have h3 : many.natAbs < 2 ^ 30 := by omega
      have := (Nat.log2_lt (by omega)).mpr h3
      omega
    simp [this]
    omega
  have h0 : many ≠ 0 := by omega
  simp [drawQ, st4, binE, binD, cmpE, cmpD, eqF, biE, biD, ixE, atI, ixN, truth, fz, setiD, seqOf, inF, noBl, leafEq, isNon, attrE, fieldD, posOf, clsI, makeE, mis, methE, methOf, nameOf, prop, noEr, asBl, isErr, xatD, xisD, kdOf, kdIs, isInst, isAny, under, raisable, isTxt, setfD, setAll, notExc, slE, strE, negE, rngI, enumD, zipD, ownAt, insAt, pkB, LINE, small, spec, isInO, isTup, isRowL, isRel, isEq, isIns, isRow, isLst, rowB, lstS, seqS, kdS, truthS, cmpS, cmpI, cmpG, insC, mayR, mayL, flipC, isKey, keyEq, dGet, dPut, inD, invE, popE, isLR, apprD, ha, h1, h0, fz]
theorem drawQ_zero {many a b c d : Int} {x : Option D} {ns : List Int} (ha : ¬ 0 < a) (hm : 0 < many) (hm2 : many < 1073741824) (hc : 0 ≤ c) (hc2 : c < 2147483647) (hd : 0 ≤ d) :
    exS T cf drawQ [some (.scr ns), some (.ref 0), some (.int many), x, none, none] (st4 a b c d) = .rt (.int (drawT many a b c d).1) (drawT many a b c d).2 := by
  have h0 : many ≠ 0 := by omega
  have m1 : mulOk c 48271 = true := mulOk_r (by decide)
  have m2 : ∀ z, mulOk z 7919 = true := fun z => mulOk_r (by decide)
  have m3 : ∀ z y, mulOk (Int.fmod z 2147483647) y = true := fun z y => mulOk_l (small_of (by have := fmod_lo (a := z) (m := 2147483647) (by decide); omega) (by have := fmod_hi (a := z) (m := 2147483647) (by decide); omega))
  have d1 : divOk 1009 = true := by decide
  have d2 : divOk 2003 = true := by decide
  simp [drawQ, st4, binE, binD, cmpE, cmpD, eqF, biE, biD, ixE, atI, ixN, truth, fz, setiD, seqOf, inF, noBl, leafEq, isNon, attrE, fieldD, posOf, clsI, makeE, mis, methE, methOf, nameOf, prop, noEr, asBl, isErr, xatD, xisD, kdOf, kdIs, isInst, isAny, under, raisable, isTxt, setfD, setAll, notExc, slE, strE, negE, rngI, enumD, zipD, ownAt, insAt, pkB, LINE, small, spec, isInO, isTup, isRowL, isRel, isEq, isIns, isRow, isLst, rowB, lstS, seqS, kdS, truthS, cmpS, cmpI, cmpG, insC, mayR, mayL, flipC, isKey, keyEq, dGet, dPut, inD, invE, popE, isLR, apprD, ha, m1, m2, m3, d1, d2, h0, fz, drawT]
def drawH : S := (.ifs (.and (.e (.cmp .eq (.ix (.var 1) (.int 0)) (.int 0))) (.e (.cmp .lt (.ix (.var 1) (.int 1)) (.bi .len (.cons (.var 0) .nil))))) (.seq (.set 3 (.ix (.var 0) (.ix (.var 1) (.int 1)))) (.seq (.seti (.var 1) (.int 1) (.bin .add (.ix (.var 1) (.int 1)) (.int 1))) (.seq (.ifs (.e (.cmp .ge (.var 3) (.bin .pow (.int 10) (.int 18)))) (.seq (.seti (.var 1) (.int 0) (.var 3)) .skip) (.seq (.seti (.var 1) (.int 2) (.bin .mod (.bi .int (.cons (.bin .add (.bin .mul (.ix (.var 1) (.int 2)) (.int 69621)) (.var 3)) .nil)) (.int 2147483647))) .skip)) .skip))) .skip)
theorem drawH_ok {many a b c d : Int} {ns : List Int} (h : 0 ≤ a ∧ 0 ≤ b ∧ 0 ≤ c ∧ c < 2147483647 ∧ 0 ≤ d) :
    ∃ x a' b' c', (0 ≤ a' ∧ 0 ≤ b' ∧ 0 ≤ c' ∧ c' < 2147483647) ∧ exS T cf drawH [some (.scr ns), some (.ref 0), some (.int many), none, none, none] (st4 a b c d) = .nx [some (.scr ns), some (.ref 0), some (.int many), x, none, none] (st4 a' b' c' d) := by
  obtain ⟨h1, h2, h3, h4, h5⟩ := h
  by_cases ha : a = 0
  · by_cases hb : b < (ns.length : Int)
    · subst ha
      have hb' : b.toNat < ns.length := by omega
      by_cases hx : 1000000000000000000 ≤ ns[b.toNat]
      · refine ⟨some (.int ns[b.toNat]), ns[b.toNat], b + 1, c, ⟨by omega, by omega, h3, h4⟩, ?_⟩
        simp [drawH, st4, binE, binD, cmpE, cmpD, eqF, biE, biD, ixE, atI, ixN, truth, fz, setiD, seqOf, inF, noBl, leafEq, isNon, attrE, fieldD, posOf, clsI, makeE, mis, methE, methOf, nameOf, prop, noEr, asBl, isErr, xatD, xisD, kdOf, kdIs, isInst, isAny, under, raisable, isTxt, setfD, setAll, notExc, slE, strE, negE, rngI, enumD, zipD, ownAt, insAt, pkB, LINE, small, spec, isInO, isTup, isRowL, isRel, isEq, isIns, isRow, isLst, rowB, lstS, seqS, kdS, truthS, cmpS, cmpI, cmpG, insC, mayR, mayL, flipC, isKey, keyEq, dGet, dPut, inD, invE, popE, isLR, apprD, fz, eqF, hb, h2, hb', small, hx]
      · refine ⟨some (.int ns[b.toNat]), 0, b + 1, (c * 69621 + ns[b.toNat]).fmod 2147483647, ⟨by omega, by omega, fmod_lo (by decide), fmod_hi (by decide)⟩, ?_⟩
        have m1 : mulOk c 69621 = true := mulOk_r (by decide)
        simp [drawH, st4, binE, binD, cmpE, cmpD, eqF, biE, biD, ixE, atI, ixN, truth, fz, setiD, seqOf, inF, noBl, leafEq, isNon, attrE, fieldD, posOf, clsI, makeE, mis, methE, methOf, nameOf, prop, noEr, asBl, isErr, xatD, xisD, kdOf, kdIs, isInst, isAny, under, raisable, isTxt, setfD, setAll, notExc, slE, strE, negE, rngI, enumD, zipD, ownAt, insAt, pkB, LINE, small, spec, isInO, isTup, isRowL, isRel, isEq, isIns, isRow, isLst, rowB, lstS, seqS, kdS, truthS, cmpS, cmpI, cmpG, insC, mayR, mayL, flipC, isKey, keyEq, dGet, dPut, inD, invE, popE, isLR, apprD, fz, eqF, hb, h2, hb', small, hx, m1]
    · refine ⟨none, a, b, c, ⟨h1, h2, h3, h4⟩, ?_⟩
      simp [drawH, st4, binE, binD, cmpE, cmpD, eqF, biE, biD, ixE, atI, ixN, truth, fz, setiD, seqOf, inF, noBl, leafEq, isNon, attrE, fieldD, posOf, clsI, makeE, mis, methE, methOf, nameOf, prop, noEr, asBl, isErr, xatD, xisD, kdOf, kdIs, isInst, isAny, under, raisable, isTxt, setfD, setAll, notExc, slE, strE, negE, rngI, enumD, zipD, ownAt, insAt, pkB, LINE, small, spec, isInO, isTup, isRowL, isRel, isEq, isIns, isRow, isLst, rowB, lstS, seqS, kdS, truthS, cmpS, cmpI, cmpG, insC, mayR, mayL, flipC, isKey, keyEq, dGet, dPut, inD, invE, popE, isLR, apprD, fz, eqF, hb, ha]
  · refine ⟨none, a, b, c, ⟨h1, h2, h3, h4⟩, ?_⟩
    simp [drawH, st4, binE, binD, cmpE, cmpD, eqF, biE, biD, ixE, atI, ixN, truth, fz, setiD, seqOf, inF, noBl, leafEq, isNon, attrE, fieldD, posOf, clsI, makeE, mis, methE, methOf, nameOf, prop, noEr, asBl, isErr, xatD, xisD, kdOf, kdIs, isInst, isAny, under, raisable, isTxt, setfD, setAll, notExc, slE, strE, negE, rngI, enumD, zipD, ownAt, insAt, pkB, LINE, small, spec, isInO, isTup, isRowL, isRel, isEq, isIns, isRow, isLst, rowB, lstS, seqS, kdS, truthS, cmpS, cmpI, cmpG, insC, mayR, mayL, flipC, isKey, keyEq, dGet, dPut, inD, invE, popE, isLR, apprD, fz, eqF, ha]
theorem draw_run {many : Int} {ns : List Int} {s : Sto} (h : Draws s) (hm : 0 < many) (hm2 : many < 1073741824) (lv : Nat) : ∃ n s', 0 ≤ n ∧ n < many ∧ Draws s' ∧ runB T cf (drawFn lv) [.scr ns, .ref 0, .int many] s = .ok (.int n) s' := by
  obtain ⟨a, b, c, d, rfl, h⟩ := h
  obtain ⟨x, a', b', c', ⟨q1, q2, q3, q4⟩, e⟩ := drawH_ok (T := T) (cf := cf) (many := many) (ns := ns) h
  have h5 := h.2.2.2.2
  have key : runB T cf (drawFn lv) [.scr ns, .ref 0, .int many] (st4 a b c d) = fin T none ((exS T cf drawH [some (.scr ns), some (.ref 0), some (.int many), none, none, none] (st4 a b c d)).then fun ρ st => exS T cf drawQ ρ st) := rfl
  rw [key, e]
  by_cases ha : 0 < a'
  · refine ⟨a'.fmod many, st4 (a'.fdiv many) b' c' d, fmod_lo hm, fmod_hi hm, ⟨_, _, _, _, rfl, Int.fdiv_nonneg (by omega) (by omega), q2, q3, q4, h5⟩, ?_⟩
    rw [then_nx, drawQ_pos ha hm hm2]
    rfl
  · refine ⟨(drawT many a' b' c' d).1, (drawT many a' b' c' d).2, fmod_lo hm, fmod_hi hm, ⟨_, _, _, _, rfl, q1, q2, fmod_lo (by decide), fmod_hi (by decide), by omega⟩, ?_⟩
    rw [then_nx, drawQ_zero ha hm hm2 q3 q4 h5]
    rfl
end
end Ev
set_option Elab.async false
set_option linter.all false
namespace Lib
open Ev
def A0 : Fn := { np := 3, nl := 6, body := B0, ini := none, lv := 4 }
def B2 : Ev.S := (.seq (.ret (.and (.isi (.var 0) [.int]) (.not (.isi (.var 0) [.bool])))) .skip)
def A2 : Fn := { np := 1, nl := 1, body := B2, ini := none, lv := 0 }
end Lib
set_option Elab.async false
set_option linter.all false
namespace Ev
section
variable {T : Tab} {st : Sto} {cf : Nat → List D → Sto → R D} {a b : Int}
@[simp] theorem bin_add : binE T cf .add (.int a) (.int b) st = .ok (.int (a + b)) st := (rfl)
@[simp] theorem bin_sub : binE T cf .sub (.int a) (.int b) st = .ok (.int (a - b)) st := (rfl)
@[simp] theorem bin_mul (h : mulOk a b = true) : binE T cf .mul (.int a) (.int b) st = .ok (.int (a * b)) st := by
  show R.of (binD .mul (.int a) (.int b)) st = _
  simp only [binD, h]
  rfl
@[simp] theorem bin_fdv (h : divOk b = true) : binE T cf .fdv (.int a) (.int b) st = .ok (.int (a.fdiv b)) st := by
  show R.of (binD .fdv (.int a) (.int b)) st = _
  simp only [binD, h]
  rfl
@[simp] theorem bin_mod (h : b ≠ 0) : binE T cf .mod (.int a) (.int b) st = .ok (.int (a.fmod b)) st := by
  show R.of (binD .mod (.int a) (.int b)) st = _
  simp only [binD, if_pos h]
  rfl
theorem bin_pow (h : 0 ≤ b ∧ b ≤ 1000000 ∧ small a = true) : binE T cf .pow (.int a) (.int b) st = .ok (.int (a ^ b.toNat)) st := by
  show R.of (binD .pow (.int a) (.int b)) st = _
  simp only [binD, if_pos h]
  rfl
@[simp] theorem pow10_8 : binE T cf .pow (.int 10) (.int 8) st = .ok (.int 100000000) st := bin_pow (by decide)
@[simp] theorem pow10_9 : binE T cf .pow (.int 10) (.int 9) st = .ok (.int 1000000000) st := bin_pow (by decide)
@[simp] theorem pow10_6 : binE T cf .pow (.int 10) (.int 6) st = .ok (.int 1000000) st := bin_pow (by decide)
@[simp] theorem pow10_18 : binE T cf .pow (.int 10) (.int 18) st = .ok (.int 1000000000000000000) st := bin_pow (by decide)
@[simp] theorem pow10_40 : binE T cf .pow (.int 10) (.int 40) st = .ok (.int 10000000000000000000000000000000000000000) st := bin_pow (by decide)
@[simp] theorem pow10_20 : binE T cf .pow (.int 10) (.int 20) st = .ok (.int 100000000000000000000) st := bin_pow (by decide)
@[simp] theorem pow10_98 : binE T cf .pow (.int 10) (.int 98) st = .ok (.int (10 ^ 98)) st := bin_pow (by decide)
@[simp] theorem cmp_eq : cmpE T cf .eq (.int a) (.int b) st = .ok (decide (a = b)) st := (rfl)
@[simp] theorem cmp_ne : cmpE T cf .ne (.int a) (.int b) st = .ok (!decide (a = b)) st := (rfl)
@[simp] theorem cmp_lt : cmpE T cf .lt (.int a) (.int b) st = .ok (decide (a < b)) st := (rfl)
@[simp] theorem cmp_le : cmpE T cf .le (.int a) (.int b) st = .ok (decide (a ≤ b)) st := (rfl)
@[simp] theorem cmp_gt : cmpE T cf .gt (.int a) (.int b) st = .ok (decide (b < a)) st := by
  show R.of (cmpD .gt (.int a) (.int b)) st = _
  simp only [cmpD]
  rfl
@[simp] theorem cmp_ge : cmpE T cf .ge (.int a) (.int b) st = .ok (decide (b ≤ a)) st := by
  show R.of (cmpD .ge (.int a) (.int b)) st = _
  simp only [cmpD]
  rfl
@[simp] theorem cmp_eqs {s t : List Nat} : cmpE T cf .eq (.str s) (.str t) st = .ok (decide (s = t)) st := (rfl)
@[simp] theorem cmp_nes {s t : List Nat} : cmpE T cf .ne (.str s) (.str t) st = .ok (!decide (s = t)) st := (rfl)
@[simp] theorem cmp_isbl {a b : Bool} : cmpE T cf .is_ (.bl a) (.bl b) st = .ok (decide (a = b)) st := (rfl)
@[simp] theorem kdS_int : kdS st (.int a) = some .int := (rfl)
@[simp] theorem kdS_bl {b : Bool} : kdS st (.bl b) = some .bool := (rfl)
@[simp] theorem kdS_str {b : List Nat} : kdS st (.str b) = some .str := (rfl)
@[simp] theorem kdS_non : kdS st .non = some .non := (rfl)
@[simp] theorem kdS_ins {c : Nat} {ds : List D} : kdS st (.ins c ds) = some (.ins c) := (rfl)
@[simp] theorem truthS_bl {b : Bool} : truthS st (.bl b) = some b := (rfl)
@[simp] theorem truth_bl {b : Bool} : truth (.bl b) = some b := (rfl)
@[simp] theorem negE_int : negE T cf (.int a) st = .ok (.int (-a)) st := (rfl)
@[simp] theorem biE_abs : biE T cf .abs [.int a] st = .ok (.int (if a < 0 then -a else a)) st := (rfl)
@[simp] theorem biE_int : biE T cf .int [.int a] st = .ok (.int a) st := (rfl)
end
end Ev
set_option Elab.async false
set_option linter.all false
set_option maxHeartbeats 1000000
namespace Ev
open Lib
def sh (r : Rat) : D := .ins 0 [.int r.num, .int (r.den : Int)]
class HasSh0 (T : Tab) : Prop where
  isi0 : T.isi.contains .int = true ∧ T.isi.contains .bool = true
  f2 : T.fn 2 = some A2
theorem call_of {T : Tab} {f : Nat} {fn : Fn} (h : T.fn f = some fn) (ds : List D) (st : Sto) : call T f ds st = runB T (tbl T fn.lv) fn ds st := by
  unfold call
  rw [h]
def plainK : Kd → Bool
  | .ins _ => false | .exc _ => false
  | _ => true
section
variable {T : Tab} [HasSh0 T] {st : Sto} {cf : Nat → List D → Sto → R D} {l : Nat}
@[simp] theorem tb2 (h : 0 < l) : tbl T l 2 = call T 2 := tbl_eq T HasSh0.f2 h
theorem isi_int (k : Kd) : isInst T k .int = kdIs T k .int := by unfold isInst; rw [if_pos HasSh0.isi0.1]
theorem isi_bool (k : Kd) : isInst T k .bool = kdIs T k .bool := by unfold isInst; rw [if_pos HasSh0.isi0.2]
theorem run2 (x : D) : call T 2 [x] st = fin T none (exS T (tbl T 0) B2 [some x] st) := by rw [call_of HasSh0.f2]; rfl
theorem isint_k0 {d : D} {k : Kd} (h : kdS st d = some k) (h2 : plainK k = true) : call T 2 [d] st = .ok (.bl (match k with
    | .int => true
    | _ => false)) st := by
  rw [run2]
  have hb : rdB [some d] 0 = some d := rfl
  have e1 : isAny T k [.int] = some (match k with
    | .int => true | .bool => true
    | _ => false) := by
    cases k <;> first | (cases h2; done) | simp [isAny, isi_int, kdIs]
  have e2 : isAny T k [.bool] = some (match k with
    | .bool => true
    | _ => false) := by
    cases k <;> first | (cases h2; done) | simp [isAny, isi_bool, kdIs]
  cases k <;> simp [B2, pkB, h, e1, e2, truthS, truth]
@[simp] theorem isint_int (i : Int) : call T 2 [.int i] st = .ok (.bl true) st := isint_k0 (k := .int) rfl rfl
@[simp] theorem isint_bl (i : Bool) : call T 2 [.bl i] st = .ok (.bl false) st := isint_k0 (k := .bool) rfl rfl
@[simp] theorem isint_str (s : List Nat) : call T 2 [.str s] st = .ok (.bl false) st := isint_k0 (k := .str) rfl rfl
@[simp] theorem isint_non : call T 2 [.non] st = .ok (.bl false) st := isint_k0 (k := .non) rfl rfl
@[simp] theorem isint_tup (s : List D) : call T 2 [.tup s] st = .ok (.bl false) st := isint_k0 (k := .tuple) rfl rfl
@[simp] theorem isint_lst (s : List D) : call T 2 [.lst s] st = .ok (.bl false) st := isint_k0 (k := .list) rfl rfl
end
section
variable {T : Tab} {st : Sto} {cf : Nat → List D → Sto → R D} {l : Nat}
def Sz (n : Nat) (r : Rat) : Prop := r.num.natAbs < 2 ^ n ∧ r.den < 2 ^ n
def Bz (n : Nat) (i : Int) : Prop := i.natAbs < 2 ^ n
theorem Bz.mono {n m : Nat} {i : Int} (h : Bz n i) (l : n ≤ m) : Bz m i := Nat.lt_of_lt_of_le h (Nat.pow_le_pow_right (by decide) l)
theorem Sz.mono {n m : Nat} {r : Rat} (h : Sz n r) (l : n ≤ m) : Sz m r := ⟨Nat.lt_of_lt_of_le h.1 (Nat.pow_le_pow_right (by decide) l), Nat.lt_of_lt_of_le h.2 (Nat.pow_le_pow_right (by decide) l)⟩
theorem Sz.num {n : Nat} {r : Rat} (h : Sz n r) : Bz n r.num := h.1
theorem Sz.den {n : Nat} {r : Rat} (h : Sz n r) : Bz n (r.den : Int) := by show (r.den : Int).natAbs < _; simpa using h.2
theorem Bz.mul {n m : Nat} {i j : Int} (h : Bz n i) (h' : Bz m j) : Bz (n + m) (i * j) := by
  unfold Bz at *
  rw [Int.natAbs_mul, Nat.pow_add]
  exact Nat.mul_lt_mul'' h h'
theorem Bz.add {n m : Nat} {i j : Int} (h : Bz n i) (h' : Bz m j) : Bz (max n m + 1) (i + j) := by
  have a := h.mono (Nat.le_max_left n m)
  have b := h'.mono (Nat.le_max_right n m)
  unfold Bz at *
  rw [Nat.pow_succ]
  omega
theorem Bz.neg {n : Nat} {i : Int} (h : Bz n i) : Bz n (-i) := by
  unfold Bz at *
  omega
theorem Bz.sub {n m : Nat} {i j : Int} (h : Bz n i) (h' : Bz m j) : Bz (max n m + 1) (i - j) := by
  rw [Int.sub_eq_add_neg]
  exact h.add h'.neg
theorem Bz.log {n : Nat} {i : Int} (h : Bz n i) : i.natAbs.log2 ≤ n := by
  by_cases z : i.natAbs = 0
  · rw [z]; simp [Nat.log2_zero]
  · have := (Nat.log2_lt z).mpr h
    omega
theorem Bz.mulOk {n m : Nat} {i j : Int} (h : Bz n i) (h' : Bz m j) (l : n + m < 1000000) : mulOk i j = true := by
  have a := h.log
  have b := h'.log
  have c : i.natAbs.log2 + j.natAbs.log2 < 1000000 := by omega
  unfold Ev.mulOk
  rw [decide_eq_true c]
  simp
end
end Ev
set_option Elab.async false
set_option linter.all false
set_option maxHeartbeats 1000000
set_option maxRecDepth 8000
namespace Ev
open Lib
section
variable {T : Tab} {st : Sto} {cf : Nat → List D → Sto → R D} {l : Nat}
@[simp] theorem pkV_sh {r : Rat} : pkV (some (some (sh r))) = some (sh r) := rfl
@[simp] theorem fz_sh {r : Rat} : fz (sh r) = sh r := rfl
@[simp] theorem kdS_sh {r : Rat} : kdS st (sh r) = some (.ins 0) := rfl
section
variable {r s : Rat} {i : Int}
end
theorem den_ne (r : Rat) : ((r.den : Nat) : Int) ≠ 0 := by have := r.den_pos; omega
structure Mm (r s : Rat) : Prop where
  nd : mulOk r.num s.den = true
  dn : mulOk s.num r.den = true
  nn : mulOk r.num s.num = true
  dd : mulOk r.den s.den = true
  lg : ((r.den : Int) * (s.den : Int)).natAbs.log2 < 9000
  ne : (r.den : Int) * (s.den : Int) ≠ 0
theorem mm {r s : Rat} {n m : Nat} (h : Sz n r) (h' : Sz m s) (l : n + m < 9000) : Mm r s where
  nd := h.num.mulOk h'.den (by omega)
  dn := h'.num.mulOk h.den (by omega)
  nn := h.num.mulOk h'.num (by omega)
  dd := h.den.mulOk h'.den (by omega)
  lg := by
    have := (h.den.mul h'.den).log
    omega
  ne := Int.mul_ne_zero (den_ne r) (den_ne s)
end
end Ev
set_option Elab.async false
set_option linter.all false
set_option maxHeartbeats 1000000
namespace Ev
open Lib
theorem seq_go {T : Tab} {cf : Nat → List D → Sto → R D} {a b : Ev.S} {ρ ρ' : Rho} {st st' : Sto} {X : F} (h : exS T cf a ρ st = .nx ρ' st') (h2 : exS T cf b ρ' st' = X) : exS T cf (.seq a b) ρ st = X := by
  rw [exS_seq, h, kSeq_nx, h2]
class HasD0 (T : Tab) : Prop extends HasSh0 T where
  f0 : T.fn 0 = some A0
section
variable {T : Tab} [HasD0 T] {st : Sto} {cf : Nat → List D → Sto → R D} {l : Nat}
@[simp] theorem tb0 (h : 4 < l) : tbl T l 0 = call T 0 := tbl_eq T HasD0.f0 h
theorem dr (ns : List Int) {s : Sto} (h : Draws s) (m : Int) (hm : 0 < m) (hm2 : m < 1073741824) : ∃ n s', (0 ≤ n ∧ n < m) ∧ Draws s' ∧ call T 0 [.scr ns, .ref 0, .int m] s = .ok (.int n) s' := by
  obtain ⟨n, s', h1, h2, h3, e⟩ := draw_run (T := T) (cf := tbl T 4) (ns := ns) h hm hm2 4
  refine ⟨n, s', ⟨h1, h2⟩, h3, ?_⟩
  rw [call_of HasD0.f0]
  exact e
end
section
variable {T : Tab} {st : Sto} {cf : Nat → List D → Sto → R D} {l : Nat}
end
section
variable {T : Tab} {st : Sto} {cf : Nat → List D → Sto → R D} {l : Nat}
theorem divInt_int (i : Int) : (i : Rat) = Rat.divInt i 1 := by
  rw [show (1 : Int) = ((1 : Nat) : Int) from rfl, Rat.divInt_ofNat]
  exact (Rat.mkRat_self (i : Rat)).symm
end
end Ev
set_option Elab.async false
set_option linter.all false
set_option maxHeartbeats 1000000
namespace Ev
open Lib
section
variable {T : Tab} {st : Sto} {cf : Nat → List D → Sto → R D} {l : Nat}
section
variable {r s : Rat} {i : Int}
end
end
end Ev
set_option Elab.async false
set_option linter.all false
namespace Lib
open Ev
end Lib
set_option Elab.async false
set_option linter.all false
set_option maxHeartbeats 1000000
namespace Ev
open Lib
theorem fin_of {T : Tab} {r : F} {d : D} {st : Sto} (h : r = .rt d st) : fin T none r = .ok d st := by rw [h]; rfl

theorem forL_pre {α : Type} {b : Rho → Sto → F} {ts : List Nat} {en : α → List D} {xs : List α} (P : List α → Rho → Sto → Prop)
    (step : ∀ pre x post, xs = pre ++ x :: post → ∀ ρ st, P pre ρ st → ∃ ρ1 ρ' st', setAll ρ ts (en x) = some ρ1 ∧ (b ρ1 st = .nx ρ' st' ∨ b ρ1 st = .ct ρ' st') ∧ P (pre ++ [x]) ρ' st')
    {ρ : Rho} {st : Sto} (h : P [] ρ st) : ∃ ρ' st', forL b ts (xs.map en) ρ st = .nx ρ' st' ∧ P xs ρ' st' := by
  suffices ∀ (post pre : List α) (ρ : Rho) (st : Sto), xs = pre ++ post → P pre ρ st → ∃ ρ' st', forL b ts (post.map en) ρ st = .nx ρ' st' ∧ P xs ρ' st' from this xs [] ρ st rfl h
  intro post
  induction post with
  | nil => intro pre ρ st e h; rw [List.append_nil] at e; subst e; exact ⟨ρ, st, rfl, h⟩
  | cons x r ih =>
    intro pre ρ st e h
    obtain ⟨ρ1, ρ', st', h1, h2, h3⟩ := step pre x r e ρ st h
    obtain ⟨ρ2, st2, h4, h5⟩ := ih (pre ++ [x]) ρ' st' (by rw [e]; simp) h3
    refine ⟨ρ2, st2, ?_, h5⟩
    rw [List.map_cons, forL, h1]
    rcases h2 with h2 | h2 <;> simp only [h2] <;> exact h4
theorem comp_of {T : Tab} {cf : Nat → List D → Sto → R D} {is : List Nat} {e : E} {src : It} {t : Tt} {ρ : Rho} {st st1 st2 : Sto} {dss : List (List D)} {ds : List D} (h1 : evI T cf src ρ st = .ok dss st1) (h2 : (is.all fun i => plainO ρ[i]?) = true) (h3 : compL (evE T cf e) (evT T cf t) ρ is dss [] st1 = .ok ds st2) : evE T cf (.comp is e src t) ρ st = .ok (.own ds) st2 := by
  rw [evE_comp, h1, kComp_ok, if_pos h2, h3]
  rfl
inductive Nu where
  | i (z : Int) | s (r : Rat)
def Nu.d : Nu → D
  | .i z => .int z
  | .s r => sh r
def Nu.v : Nu → Rat
  | .i z => z
  | .s r => r
@[simp] theorem Nu.d_i (z : Int) : (Nu.i z).d = .int z := rfl
@[simp] theorem Nu.d_s (r : Rat) : (Nu.s r).d = sh r := rfl
@[simp] theorem Nu.v_i (z : Int) : (Nu.i z).v = z := rfl
@[simp] theorem Nu.v_s (r : Rat) : (Nu.s r).v = r := rfl
@[simp] theorem pkV_nu (x : Nu) : pkV (some (some x.d)) = some x.d := by cases x <;> rfl
@[simp] theorem fz_nu (x : Nu) : fz x.d = x.d := by cases x <;> rfl
section
variable {T : Tab} {cf : Nat → List D → Sto → R D} {st : Sto}
@[simp] theorem len_lst (ds : List D) : biE T cf .len [.lst ds] st = .ok (.int ds.length) st := (rfl)
@[simp] theorem len_own (ds : List D) : biE T cf .len [.own ds] st = .ok (.int ds.length) st := (rfl)
@[simp] theorem len_tup (ds : List D) : biE T cf .len [.tup ds] st = .ok (.int ds.length) st := (rfl)
@[simp] theorem len_scr (ds : List Int) : biE T cf .len [.scr ds] st = .ok (.int ds.length) st := (rfl)
@[simp] theorem list_lst (ds : List D) : biE T cf .list [.lst ds] st = .ok (.own ds) st := (rfl)
@[simp] theorem list_own (ds : List D) : biE T cf .list [.own ds] st = .ok (.own ds) st := (rfl)
@[simp] theorem list_tup (ds : List D) : biE T cf .list [.tup ds] st = .ok (.own ds) st := (rfl)
@[simp] theorem tuple_lst (ds : List D) : biE T cf .tuple [.lst ds] st = .ok (.tup ds) st := (rfl)
@[simp] theorem tuple_own (ds : List D) : biE T cf .tuple [.own ds] st = .ok (.tup ds) st := (rfl)
@[simp] theorem tuple_tup (ds : List D) : biE T cf .tuple [.tup ds] st = .ok (.tup ds) st := (rfl)
@[simp] theorem ix_tup (ds : List D) (i : Int) : ixE T cf (.tup ds) (.int i) st = R.of (atI ds i) st := (rfl)
@[simp] theorem ix_lst (ds : List D) (i : Int) : ixE T cf (.lst ds) (.int i) st = R.of (atI ds i) st := (rfl)
@[simp] theorem ix_own (ds : List D) (i : Int) : ixE T cf (.own ds) (.int i) st = R.of (atI ds i) st := (rfl)
@[simp] theorem seqOf_lst (ds : List D) : seqOf (.lst ds) = some ds := rfl
@[simp] theorem seqOf_own (ds : List D) : seqOf (.own ds) = some ds := rfl
@[simp] theorem seqOf_tup (ds : List D) : seqOf (.tup ds) = some ds := rfl
@[simp] theorem kdS_lst (ds : List D) : kdS st (.lst ds) = some .list := rfl
@[simp] theorem kdS_own (ds : List D) : kdS st (.own ds) = some .list := rfl
@[simp] theorem kdS_tup (ds : List D) : kdS st (.tup ds) = some .tuple := rfl
end
theorem atI_nat {α : Type} {xs : List α} {k : Nat} (h : k < xs.length) : atI xs (k : Int) = some xs[k] := by
  unfold atI ixN
  rw [if_pos (by omega), if_pos (by omega)]
  simp [h]
def Qn (n N : Nat) (r : Rat) : Prop := ∃ z : Int, r * (N : Rat) = (z : Rat) ∧ z.natAbs < 2 ^ n
def Nb (n N : Nat) : Prop := 0 < N ∧ N < 2 ^ n
theorem Qn.mono {n m N : Nat} {r : Rat} (h : Qn n N r) (l : n ≤ m) : Qn m N r := by
  obtain ⟨z, h1, h2⟩ := h
  exact ⟨z, h1, Nat.lt_of_lt_of_le h2 (Nat.pow_le_pow_right (by decide) l)⟩
theorem Nb.mono {n m N : Nat} (h : Nb n N) (l : n ≤ m) : Nb m N := ⟨h.1, Nat.lt_of_lt_of_le h.2 (Nat.pow_le_pow_right (by decide) l)⟩
theorem Nb.mul {n m N M : Nat} (h : Nb n N) (h' : Nb m M) : Nb (n + m) (N * M) := ⟨Nat.mul_pos h.1 h'.1, by rw [Nat.pow_add]; exact Nat.mul_lt_mul'' h.2 h'.2⟩
theorem Nb.one : Nb 1 1 := ⟨by decide, by decide⟩
theorem Qn.zero (n N : Nat) : Qn n N 0 := ⟨0, by simp, by simp; exact Nat.pow_pos (by decide)⟩
theorem Qn.add {n m N : Nat} {r s : Rat} (h : Qn n N r) (h' : Qn m N s) : Qn (max n m + 1) N (r + s) := by
  obtain ⟨z, h1, h2⟩ := h
  obtain ⟨w, h3, h4⟩ := h'
  refine ⟨z + w, by rw [Rat.intCast_add, ← h1, ← h3]; grind, ?_⟩
  have := Bz.add (i := z) (j := w) h2 h4
  exact this
theorem Qn.neg {n N : Nat} {r : Rat} (h : Qn n N r) : Qn n N (-r) := by
  obtain ⟨z, h1, h2⟩ := h
  exact ⟨-z, by rw [Rat.intCast_neg, ← h1]; grind, by simpa using h2⟩
theorem Qn.sub {n m N : Nat} {r s : Rat} (h : Qn n N r) (h' : Qn m N s) : Qn (max n m + 1) N (r - s) := by
  rw [Rat.sub_eq_add_neg]
  exact h.add h'.neg
theorem Qn.mul {n m N M : Nat} {r s : Rat} (h : Qn n N r) (h' : Qn m M s) : Qn (n + m) (N * M) (r * s) := by
  obtain ⟨z, h1, h2⟩ := h
  obtain ⟨w, h3, h4⟩ := h'
  refine ⟨z * w, ?_, Bz.mul (i := z) (j := w) h2 h4⟩
  rw [Rat.intCast_mul, ← h1, ← h3, Rat.natCast_mul]
  grind
theorem Qn.int {n m N : Nat} {i : Int} (h : Bz n i) (hN : Nb m N) : Qn (n + m) N (i : Rat) := by
  refine ⟨i * N, by rw [Rat.intCast_mul, Rat.intCast_natCast], ?_⟩
  have h3 : Bz m (N : Int) := by
    unfold Bz
    simpa using hN.2
  exact h.mul h3
theorem Qn.sum {n N : Nat} : ∀ {rs : List Rat}, (∀ r, r ∈ rs → Qn n N r) → ∀ k, rs.length ≤ 2 ^ k → Qn (n + k) N rs.sum := by
  intro rs h k hk
  suffices ∃ z : Int, rs.sum * (N : Rat) = (z : Rat) ∧ z.natAbs ≤ rs.length * (2 ^ n - 1) by
    obtain ⟨z, h1, h2⟩ := this
    refine ⟨z, h1, ?_⟩
    rw [Nat.pow_add]
    have p1 : 0 < 2 ^ n := Nat.pow_pos (by decide)
    have p2 : 0 < 2 ^ k := Nat.pow_pos (by decide)
    calc z.natAbs ≤ rs.length * (2 ^ n - 1) := h2
      _ ≤ 2 ^ k * (2 ^ n - 1) := Nat.mul_le_mul_right _ hk
      _ < 2 ^ k * 2 ^ n := Nat.mul_lt_mul_of_pos_left (by omega) p2
      _ = 2 ^ n * 2 ^ k := Nat.mul_comm ..
  clear hk
  induction rs with
  | nil => exact ⟨0, by simp, by simp⟩
  | cons x r ih =>
    obtain ⟨z, h1, h2⟩ := ih (fun y hy => h y (List.mem_cons_of_mem _ hy))
    obtain ⟨w, h3, h4⟩ := h x (List.mem_cons_self ..)
    refine ⟨w + z, by rw [Rat.intCast_add, ← h1, ← h3, List.sum_cons]; grind, ?_⟩
    rw [List.length_cons, Nat.add_mul]
    omega
end Ev
set_option Elab.async false
set_option linter.all false
set_option maxHeartbeats 1000000
namespace Ev
open Lib
section
variable {T : Tab} {st : Sto} {l : Nat}
end
section
variable {T : Tab} {st : Sto} {l : Nat}
end
section
variable {T : Tab} {st : Sto} {l : Nat}
end
section
variable {T : Tab} {st : Sto}
end
section
variable {T : Tab} {st : Sto} {cf : Nat → List D → Sto → R D} {l : Nat}
end
section
variable {T : Tab} {st : Sto} {cf : Nat → List D → Sto → R D} {l : Nat}
end
end Ev
set_option Elab.async false
set_option linter.all false
set_option maxHeartbeats 1000000
namespace Ev
open Lib
def sj (J : Sto) (a b c d : Int) : Sto := .lst [.int a, .int b, .int c, .int d] :: J
def DrJ (J : Sto) (s : Sto) : Prop := ∃ a b c d, s = sj J a b c d ∧ 0 ≤ a ∧ 0 ≤ b ∧ 0 ≤ c ∧ c < 2147483647 ∧ 0 ≤ d
section
variable {T : Tab} {cf : Nat → List D → Sto → R D} {J : Sto}
def drawTJ (J : Sto) (many a b c d : Int) : Int × Sto :=
  let d1 := d + 1
  let c1 := (c * 48271 + d1 * 7919 + 30103).fmod 2147483647
  let n := (c1 * (c1.fdiv 1009 + 69621)).fmod 2147483647
  (((n * (n.fdiv 2003 + 40692)).fmod 2147483399).fmod many, sj J a b c1 d1)
theorem drawQ_posJ {many a b c d : Int} {x : Option D} {ns : List Int} (ha : 0 < a) (hm : 0 < many) (hm2 : many < 1073741824) :
    exS T cf drawQ [some (.scr ns), some (.ref 0), some (.int many), x, none, none] (sj J a b c d) = .rt (.int (a.fmod many)) (sj J (a.fdiv many) b c d) := by
  have h1 : divOk many = true := by
    unfold divOk
    have : many.natAbs.log2 < 9000 := by
      have h3 : many.natAbs < 2 ^ 30 := by omega
      have := (Nat.log2_lt (by omega)).mpr h3
      omega
    simp [this]
    omega
  have h0 : many ≠ 0 := by omega
  simp [drawQ, sj, binE, binD, cmpE, cmpD, eqF, biE, biD, ixE, atI, ixN, truth, fz, setiD, seqOf, inF, noBl, leafEq, isNon, attrE, fieldD, posOf, clsI, makeE, mis, methE, methOf, nameOf, prop, noEr, asBl, isErr, xatD, xisD, kdOf, kdIs, isInst, isAny, under, raisable, isTxt, setfD, setAll, notExc, slE, strE, negE, rngI, enumD, zipD, ownAt, insAt, pkB, LINE, small, spec, isInO, isTup, isRowL, isRel, isEq, isIns, isRow, isLst, rowB, lstS, seqS, kdS, truthS, cmpS, cmpI, cmpG, insC, mayR, mayL, flipC, isKey, keyEq, dGet, dPut, inD, invE, popE, isLR, apprD, ha, h1, h0, fz]
theorem drawQ_zeroJ {many a b c d : Int} {x : Option D} {ns : List Int} (ha : ¬ 0 < a) (hm : 0 < many) (hm2 : many < 1073741824) (hc : 0 ≤ c) (hc2 : c < 2147483647) (hd : 0 ≤ d) :
    exS T cf drawQ [some (.scr ns), some (.ref 0), some (.int many), x, none, none] (sj J a b c d) = .rt (.int (drawTJ J many a b c d).1) (drawTJ J many a b c d).2 := by
  have h0 : many ≠ 0 := by omega
  have m1 : mulOk c 48271 = true := mulOk_r (by decide)
  have m2 : ∀ z, mulOk z 7919 = true := fun z => mulOk_r (by decide)
  have m3 : ∀ z y, mulOk (Int.fmod z 2147483647) y = true := fun z y => mulOk_l (small_of (by have := fmod_lo (a := z) (m := 2147483647) (by decide); omega) (by have := fmod_hi (a := z) (m := 2147483647) (by decide); omega))
  have d1 : divOk 1009 = true := by decide
  have d2 : divOk 2003 = true := by decide
  simp [drawQ, sj, binE, binD, cmpE, cmpD, eqF, biE, biD, ixE, atI, ixN, truth, fz, setiD, seqOf, inF, noBl, leafEq, isNon, attrE, fieldD, posOf, clsI, makeE, mis, methE, methOf, nameOf, prop, noEr, asBl, isErr, xatD, xisD, kdOf, kdIs, isInst, isAny, under, raisable, isTxt, setfD, setAll, notExc, slE, strE, negE, rngI, enumD, zipD, ownAt, insAt, pkB, LINE, small, spec, isInO, isTup, isRowL, isRel, isEq, isIns, isRow, isLst, rowB, lstS, seqS, kdS, truthS, cmpS, cmpI, cmpG, insC, mayR, mayL, flipC, isKey, keyEq, dGet, dPut, inD, invE, popE, isLR, apprD, ha, m1, m2, m3, d1, d2, h0, fz, drawTJ]
theorem drawH_okJ {many a b c d : Int} {ns : List Int} (h : 0 ≤ a ∧ 0 ≤ b ∧ 0 ≤ c ∧ c < 2147483647 ∧ 0 ≤ d) :
    ∃ x a' b' c', (0 ≤ a' ∧ 0 ≤ b' ∧ 0 ≤ c' ∧ c' < 2147483647) ∧ exS T cf drawH [some (.scr ns), some (.ref 0), some (.int many), none, none, none] (sj J a b c d) = .nx [some (.scr ns), some (.ref 0), some (.int many), x, none, none] (sj J a' b' c' d) := by
  obtain ⟨h1, h2, h3, h4, h5⟩ := h
  by_cases ha : a = 0
  · by_cases hb : b < (ns.length : Int)
    · subst ha
      have hb' : b.toNat < ns.length := by omega
      by_cases hx : 1000000000000000000 ≤ ns[b.toNat]
      · refine ⟨some (.int ns[b.toNat]), ns[b.toNat], b + 1, c, ⟨by omega, by omega, h3, h4⟩, ?_⟩
        simp [drawH, sj, binE, binD, cmpE, cmpD, eqF, biE, biD, ixE, atI, ixN, truth, fz, setiD, seqOf, inF, noBl, leafEq, isNon, attrE, fieldD, posOf, clsI, makeE, mis, methE, methOf, nameOf, prop, noEr, asBl, isErr, xatD, xisD, kdOf, kdIs, isInst, isAny, under, raisable, isTxt, setfD, setAll, notExc, slE, strE, negE, rngI, enumD, zipD, ownAt, insAt, pkB, LINE, small, spec, isInO, isTup, isRowL, isRel, isEq, isIns, isRow, isLst, rowB, lstS, seqS, kdS, truthS, cmpS, cmpI, cmpG, insC, mayR, mayL, flipC, isKey, keyEq, dGet, dPut, inD, invE, popE, isLR, apprD, fz, eqF, hb, h2, hb', small, hx]
      · refine ⟨some (.int ns[b.toNat]), 0, b + 1, (c * 69621 + ns[b.toNat]).fmod 2147483647, ⟨by omega, by omega, fmod_lo (by decide), fmod_hi (by decide)⟩, ?_⟩
        have m1 : mulOk c 69621 = true := mulOk_r (by decide)
        simp [drawH, sj, binE, binD, cmpE, cmpD, eqF, biE, biD, ixE, atI, ixN, truth, fz, setiD, seqOf, inF, noBl, leafEq, isNon, attrE, fieldD, posOf, clsI, makeE, mis, methE, methOf, nameOf, prop, noEr, asBl, isErr, xatD, xisD, kdOf, kdIs, isInst, isAny, under, raisable, isTxt, setfD, setAll, notExc, slE, strE, negE, rngI, enumD, zipD, ownAt, insAt, pkB, LINE, small, spec, isInO, isTup, isRowL, isRel, isEq, isIns, isRow, isLst, rowB, lstS, seqS, kdS, truthS, cmpS, cmpI, cmpG, insC, mayR, mayL, flipC, isKey, keyEq, dGet, dPut, inD, invE, popE, isLR, apprD, fz, eqF, hb, h2, hb', small, hx, m1]
    · refine ⟨none, a, b, c, ⟨h1, h2, h3, h4⟩, ?_⟩
      simp [drawH, sj, binE, binD, cmpE, cmpD, eqF, biE, biD, ixE, atI, ixN, truth, fz, setiD, seqOf, inF, noBl, leafEq, isNon, attrE, fieldD, posOf, clsI, makeE, mis, methE, methOf, nameOf, prop, noEr, asBl, isErr, xatD, xisD, kdOf, kdIs, isInst, isAny, under, raisable, isTxt, setfD, setAll, notExc, slE, strE, negE, rngI, enumD, zipD, ownAt, insAt, pkB, LINE, small, spec, isInO, isTup, isRowL, isRel, isEq, isIns, isRow, isLst, rowB, lstS, seqS, kdS, truthS, cmpS, cmpI, cmpG, insC, mayR, mayL, flipC, isKey, keyEq, dGet, dPut, inD, invE, popE, isLR, apprD, fz, eqF, hb, ha]
  · refine ⟨none, a, b, c, ⟨h1, h2, h3, h4⟩, ?_⟩
    simp [drawH, sj, binE, binD, cmpE, cmpD, eqF, biE, biD, ixE, atI, ixN, truth, fz, setiD, seqOf, inF, noBl, leafEq, isNon, attrE, fieldD, posOf, clsI, makeE, mis, methE, methOf, nameOf, prop, noEr, asBl, isErr, xatD, xisD, kdOf, kdIs, isInst, isAny, under, raisable, isTxt, setfD, setAll, notExc, slE, strE, negE, rngI, enumD, zipD, ownAt, insAt, pkB, LINE, small, spec, isInO, isTup, isRowL, isRel, isEq, isIns, isRow, isLst, rowB, lstS, seqS, kdS, truthS, cmpS, cmpI, cmpG, insC, mayR, mayL, flipC, isKey, keyEq, dGet, dPut, inD, invE, popE, isLR, apprD, fz, eqF, ha]
theorem draw_runJ {many : Int} {ns : List Int} {s : Sto} (h : DrJ J s) (hm : 0 < many) (hm2 : many < 1073741824) (lv : Nat) : ∃ n s', 0 ≤ n ∧ n < many ∧ DrJ J s' ∧ runB T cf (drawFn lv) [.scr ns, .ref 0, .int many] s = .ok (.int n) s' := by
  obtain ⟨a, b, c, d, rfl, h⟩ := h
  obtain ⟨x, a', b', c', ⟨q1, q2, q3, q4⟩, e⟩ := drawH_okJ (T := T) (cf := cf) (many := many) (ns := ns) h
  have h5 := h.2.2.2.2
  have key : runB T cf (drawFn lv) [.scr ns, .ref 0, .int many] (sj J a b c d) = fin T none ((exS T cf drawH [some (.scr ns), some (.ref 0), some (.int many), none, none, none] (sj J a b c d)).then fun ρ st => exS T cf drawQ ρ st) := rfl
  rw [key, e]
  by_cases ha : 0 < a'
  · refine ⟨a'.fmod many, sj J (a'.fdiv many) b' c' d, fmod_lo hm, fmod_hi hm, ⟨_, _, _, _, rfl, Int.fdiv_nonneg (by omega) (by omega), q2, q3, q4, h5⟩, ?_⟩
    rw [then_nx, drawQ_posJ ha hm hm2]
    rfl
  · refine ⟨(drawTJ J many a' b' c' d).1, (drawTJ J many a' b' c' d).2, fmod_lo hm, fmod_hi hm, ⟨_, _, _, _, rfl, q1, q2, fmod_lo (by decide), fmod_hi (by decide), by omega⟩, ?_⟩
    rw [then_nx, drawQ_zeroJ ha hm hm2 q3 q4 h5]
    rfl
end
section
variable {T : Tab} [HasD0 T] {st : Sto} {cf : Nat → List D → Sto → R D} {l : Nat} {J : Sto}
end
section
variable {T : Tab} {st : Sto} {cf : Nat → List D → Sto → R D} {l : Nat} {J : Sto}
end
theorem DrJ.app {J s : Sto} (h : DrJ J s) (K : Sto) : DrJ (J ++ K) (s ++ K) := by
  obtain ⟨a, b, c, d, rfl, h⟩ := h
  exact ⟨a, b, c, d, rfl, h⟩
theorem DrJ.get {J s : Sto} (h : DrJ J s) (k : Nat) : s[k + 1]? = J[k]? := by
  obtain ⟨a, b, c, d, rfl, h⟩ := h
  rfl
theorem DrJ.len {J s : Sto} (h : DrJ J s) : s.length = J.length + 1 := by
  obtain ⟨a, b, c, d, rfl, h⟩ := h
  rfl
theorem drj0 : DrJ [] (st4 0 0 0 0) := ⟨0, 0, 0, 0, rfl, by decide⟩
end Ev
set_option Elab.async false
set_option linter.all false
set_option maxHeartbeats 1000000
namespace Ev
open Lib
inductive Kn where
  | lies | late | latelies | falls
  deriving DecidableEq
abbrev cLies : List Nat := [108, 105, 101, 115]
abbrev cLate : List Nat := [108, 97, 116, 101]
abbrev cLatelies : List Nat := [108, 97, 116, 101, 108, 105, 101, 115]
abbrev cFalls : List Nat := [102, 97, 108, 108, 115]
def Kn.c : Kn → List Nat
  | .lies => cLies
  | .late => cLate
  | .latelies => cLatelies
  | .falls => cFalls
@[simp] theorem Kn.c1 : Kn.c .lies = cLies := rfl
@[simp] theorem Kn.c2 : Kn.c .late = cLate := rfl
@[simp] theorem Kn.c3 : Kn.c .latelies = cLatelies := rfl
@[simp] theorem Kn.c4 : Kn.c .falls = cFalls := rfl
structure Sg where
  h : Nat
  f : Nat
  k : Kn
  deriving DecidableEq
def Sg.ok (s : Sg) : Prop := 2 ≤ s.h ∧ s.h ≤ 9 ∧ s.f + 2 ≤ s.h
def Sg.d (s : Sg) : D := .ins 5 [.int s.h, .int s.f, .str s.k.c]
def Sg.t (s : Sg) : D := .tup [.int s.h, .int s.f, .str s.k.c]
def Sg.size (s : Sg) : Nat := match s.k with
  | .lies => s.h
  | _ => s.h - s.f
def Sg.first (s : Sg) : Nat := match s.k with
  | .late => 0
  | .falls => 0
  | _ => s.f
def Sg.kept (s : Sg) : Int := match s.k with
  | .lies => s.h - 2 * s.f
  | .latelies => s.h - 3 * s.f
  | _ => s.h - s.f
def Sg.tc (s : Sg) : Nat := match s.k with
  | .late => s.h
  | _ => s.h - s.f
def Sg.sizes (s : Sg) : List Nat := match s.k with
  | .falls => (List.range (s.f + 1)).map fun n => s.h - s.f + n
  | _ => [s.size]
theorem rangeI_nat {a b : Nat} : rangeI a b = (List.range (b - a)).map fun n => ((a + n : Nat) : Int) := by
  unfold rangeI
  rw [show ((b : Int) - (a : Int)).toNat = b - a by omega]
  exact List.map_congr_left fun n _ => by simp
@[simp] theorem pkV_sd (s : Sg) : pkV (some (some s.d)) = some s.d := rfl
@[simp] theorem fz_sd (s : Sg) : fz s.d = s.d := rfl
@[simp] theorem pkV_stt (s : Sg) : pkV (some (some s.t)) = some s.t := rfl
@[simp] theorem fz_stt (s : Sg) : fz s.t = s.t := rfl
@[simp] theorem kdS_sd (s : Sg) {st : Sto} : kdS st s.d = some (.ins 5) := rfl
section
variable {T : Tab} {st : Sto} {cf : Nat → List D → Sto → R D} {l : Nat} {s : Sg}
@[simp] theorem st0 : ixE T cf s.t (.int 0) st = .ok (.int s.h) st := rfl
@[simp] theorem st1 : ixE T cf s.t (.int 1) st = .ok (.int s.f) st := rfl
@[simp] theorem st2 : ixE T cf s.t (.int 2) st = .ok (.str s.k.c) st := rfl
@[simp] theorem range2_nat {a b : Nat} (ha : a ≤ 1000) (hb : b ≤ 1000) : biE T cf .range2 [.int a, .int b] st = .ok (.own ((List.range (b - a)).map fun n => .int ((a + n : Nat) : Int))) st := by
  show R.of (biD .range2 [.int a, .int b]) st = _
  simp only [biD]
  rw [if_pos (by unfold LINE; omega), rangeI_nat, List.map_map]
  rfl
end
section
variable {T : Tab} {st : Sto} {l : Nat}
end
section
variable {T : Tab} {st : Sto} {l : Nat}
end
section
variable {T : Tab} {st : Sto} {l : Nat}
end
section
variable {T : Tab} {st : Sto} {l : Nat}
end
section
variable {T : Tab} {st : Sto} {l : Nat}
end
section
variable {T : Tab} {st : Sto} {l : Nat}
end
section
variable {T : Tab} [HasD0 T] {st : Sto} {cf : Nat → List D → Sto → R D} {l : Nat} {s : Sg}
end
end Ev
set_option Elab.async false
set_option linter.all false
set_option maxHeartbeats 1000000
set_option maxRecDepth 4000
namespace Ev
open Lib
section
variable {T : Tab} {st : Sto} {l : Nat}
end
section
variable {T : Tab} {st : Sto} {l : Nat}
end
section
variable {T : Tab} {st : Sto} {l : Nat}
end
section
variable {T : Tab} {st : Sto} {l : Nat}
end
section
variable {T : Tab} {st : Sto} {l : Nat}
end
section
variable {T : Tab} {st : Sto} {l : Nat}
end
section
variable {T : Tab} {st : Sto} {cf : Nat → List D → Sto → R D} {l : Nat} {s : Sg}
end
end Ev
set_option Elab.async false
set_option linter.all false
set_option maxHeartbeats 1000000
set_option maxRecDepth 4000
namespace Ev
open Lib
section
variable {T : Tab}
end
section
variable {T : Tab} {st : Sto} {l : Nat}
end
section
variable {T : Tab} {st : Sto} {l : Nat}
end
section
variable {T : Tab} {st : Sto} {l : Nat}
end
def rlD (s : Sg) (rows : List (List Rat)) : D := .ins 7 [s.d, .tup (rows.map fun r => .tup (r.map sh))]
section
variable {T : Tab} {st : Sto} {l : Nat}
end
section
variable {T : Tab} {st : Sto} {cf : Nat → List D → Sto → R D} {l : Nat} {s : Sg} {rows : List (List Rat)}
@[simp] theorem pkV_rl : pkV (some (some (rlD s rows))) = some (rlD s rows) := rfl
@[simp] theorem fz_rl : fz (rlD s rows) = rlD s rows := rfl
@[simp] theorem kdS_rl : kdS st (rlD s rows) = some (.ins 7) := rfl
@[simp] theorem isIns_rl : isIns (rlD s rows) = true := rfl
end
end Ev
set_option Elab.async false
set_option linter.all false
set_option maxHeartbeats 1000000
set_option maxRecDepth 4000
namespace Ev
open Lib
section
variable {T : Tab} {st : Sto} {cf : Nat → List D → Sto → R D}
end
section
variable {T : Tab} {st : Sto} {cf : Nat → List D → Sto → R D} {l : Nat} {s : Sg} {rows : List (List Rat)}
end
end Ev
set_option Elab.async false
set_option linter.all false
set_option maxHeartbeats 1000000
set_option maxRecDepth 4000
namespace Ev
open Lib
inductive All2 {α β : Type} (R : α → β → Prop) : List α → List β → Prop
  | nil : All2 R [] []
  | cons {x : α} {y : β} {xs : List α} {ys : List β} (h : R x y) (t : All2 R xs ys) : All2 R (x :: xs) (y :: ys)
theorem All2.len {α β : Type} {R : α → β → Prop} {xs : List α} {ys : List β} (h : All2 R xs ys) : xs.length = ys.length := by
  induction h with
  | nil => rfl
  | cons h t ih => simp [ih]
theorem All2.mono {α β : Type} {R S : α → β → Prop} {xs : List α} {ys : List β} (h : All2 R xs ys) (f : ∀ x y, R x y → S x y) : All2 S xs ys := by
  induction h with
  | nil => exact .nil
  | cons h t ih => exact .cons (f _ _ h) ih
theorem compL_st {α β : Type} {el : Rho → Sto → R D} {te : Rho → Sto → R Bool} {ρ : Rho} {ts : List Nat} {en : α → List D} {xs : List α} (P : Sto → Prop) (g : β → D) (Q : α → β → Prop) (hx : xs.length ≤ LINE)
    (step : ∀ x, x ∈ xs → ∀ st, P st → ∃ ρ1 d y st', setAll ρ ts (en x) = some ρ1 ∧ te ρ1 st = .ok true st ∧ el ρ1 st = .ok d st' ∧ fz d = g y ∧ Q x y ∧ P st') {st : Sto} (hP : P st) :
    ∃ ys st', compL el te ρ ts (xs.map en) [] st = .ok (ys.map g) st' ∧ All2 Q xs ys ∧ P st' := by
  suffices ∀ (post : List α) (acc : List D) (st : Sto), P st → acc.length + post.length ≤ LINE → (∀ x, x ∈ post → x ∈ xs) → ∃ ys st', compL el te ρ ts (post.map en) acc st = .ok (acc ++ ys.map g) st' ∧ All2 Q post ys ∧ P st' by
    have := this xs [] st hP (by simpa using hx) (fun _ h => h)
    simpa using this
  intro post
  induction post with
  | nil => intro acc st hP _ _; exact ⟨[], st, by simp [compL], .nil, hP⟩
  | cons x r ih =>
    intro acc st hP hl hm
    obtain ⟨ρ1, d, y, st', h1, h2, h3, h4, h5, h6⟩ := step x (hm x (List.mem_cons_self ..)) st hP
    rw [List.length_cons] at hl
    obtain ⟨ys, st2, k1, k2, k3⟩ := ih (acc ++ [g y]) st' h6 (by simp; omega) (fun z hz => hm z (List.mem_cons_of_mem _ hz))
    refine ⟨y :: ys, st2, ?_, .cons h5 k2, k3⟩
    rw [List.map_cons, compL, h1]
    simp only [h2, bind_ok, h3, h4, if_true]
    rw [if_pos (by omega), k1]
    simp
theorem allInt_map (xs : List Int) : allInt (xs.map D.int) = some xs := by
  induction xs with
  | nil => rfl
  | cons x r ih => simp [allInt, ih]
section
variable {T : Tab} {cf : Nat → List D → Sto → R D} {st : Sto}
@[simp] theorem sum_own (xs : List Int) : biE T cf .sum [.own (xs.map D.int)] st = .ok (.int xs.sum) st := by
  show R.of (biD .sum [.own (xs.map D.int)]) st = _
  simp [biD, asL, allInt_map]
@[simp] theorem sum_lst (xs : List Int) : biE T cf .sum [.lst (xs.map D.int)] st = .ok (.int xs.sum) st := by
  show R.of (biD .sum [.lst (xs.map D.int)]) st = _
  simp [biD, asL, allInt_map]
end
structure Ts (size a b : Nat) (ts : List Int) : Prop where
  len : ts.length = size
  sm : size ≤ 9
  rng : ∀ t, t ∈ ts → 0 ≤ t ∧ t < 1073741824
  out : ∀ j (h : j < ts.length), ¬ (a ≤ j ∧ j < b) → ts[j] = 0
  pos : 0 < ts.sum
theorem sum_le {ts : List Int} {m : Int} (h : ∀ t, t ∈ ts → t ≤ m) : ts.sum ≤ ts.length * m := by
  induction ts with
  | nil => simp
  | cons x r ih =>
    have a := ih (fun t ht => h t (List.mem_cons_of_mem _ ht))
    have b := h x (List.mem_cons_self ..)
    rw [List.sum_cons, List.length_cons, Int.natCast_add, Int.add_mul]
    omega
section
variable {T : Tab} {st : Sto} {l : Nat}
end
section
variable {T : Tab} {st : Sto} {cf : Nat → List D → Sto → R D} {l : Nat} {J : Sto}
end
end Ev
set_option Elab.async false
set_option linter.all false
set_option maxHeartbeats 1000000
set_option maxRecDepth 4000
namespace Ev
open Lib
def wts (ts : List Int) : List Rat := ts.map fun t => Rat.divInt t ts.sum
theorem divInt_mul_cancel {t : Int} {S : Int} (h : S ≠ 0) : Rat.divInt t S * (S : Rat) = t := by
  rw [divInt_int S, Rat.divInt_mul_divInt, Int.mul_one, divInt_int t, Rat.divInt_eq_divInt_iff h (by decide)]
  omega
theorem Ts.sumlt {size a b : Nat} {ts : List Int} (h : Ts size a b ts) : ts.sum < 17179869184 := by
  have := sum_le (ts := ts) (m := 1073741823) (fun t ht => by have := h.rng t ht; omega)
  have := h.len
  have := h.sm
  have e : (ts.length : Int) * 1073741823 ≤ 9 * 1073741823 := Int.mul_le_mul_of_nonneg_right (by omega) (by decide)
  omega
theorem Ts.qn {size a b : Nat} {ts : List Int} (h : Ts size a b ts) : Nb 34 ts.sum.toNat ∧ ∀ x, x ∈ wts ts → Qn 34 ts.sum.toNat x := by
  have h1 := h.sumlt
  have h2 := h.pos
  refine ⟨⟨by omega, by omega⟩, ?_⟩
  intro x hx
  obtain ⟨t, ht, rfl⟩ := List.mem_map.mp hx
  have := h.rng t ht
  refine ⟨t, ?_, by omega⟩
  have e : ((ts.sum.toNat : Nat) : Rat) = ((ts.sum : Int) : Rat) := by
    rw [← Rat.intCast_natCast, show ((ts.sum.toNat : Nat) : Int) = ts.sum by omega]
  rw [e]
  exact divInt_mul_cancel (by omega)
section
variable {T : Tab} {st : Sto} {l : Nat}
end
section
variable {T : Tab} {st : Sto} {l : Nat}
end
section
variable {T : Tab} {st : Sto} {l : Nat}
end
section
variable {T : Tab} {st : Sto} {l : Nat}
end
section
variable {T : Tab} {st : Sto} {cf : Nat → List D → Sto → R D} {l : Nat} {J : Sto} {s : Sg}
end
section
variable {T : Tab} {st : Sto} {cf : Nat → List D → Sto → R D} {l : Nat} {J : Sto} {s : Sg}
def Tss (s : Sg) (b : Bool) (tss : List (List Int)) : Prop := All2 (fun n ts => Ts n (if b && s.k != .falls then s.first else 0) (if b && s.k != .falls then s.first + s.kept.toNat else n) ts) s.sizes tss
end
section
variable {T : Tab} {st : Sto} {cf : Nat → List D → Sto → R D} {l : Nat} {J : Sto} {s : Sg}
end
section
variable {T : Tab} {st : Sto} {cf : Nat → List D → Sto → R D} {l : Nat} {J : Sto} {s : Sg}
theorem Tss.lens {b : Bool} {tss : List (List Int)} (h : Tss s b tss) : tss.map List.length = s.sizes := by
  unfold Tss at h
  generalize s.sizes = ns at h
  induction h with
  | nil => rfl
  | cons h t ih => rw [List.map_cons, ih, h.len]
theorem sizes_nodup : s.sizes.Nodup := by
  unfold Sg.sizes
  split
  · refine List.Pairwise.map _ (R := (· ≠ ·)) ?_ List.nodup_range
    intro a b hab e
    omega
  · simp
theorem find_len {α : Type} {tss : List (List α)} (h : (tss.map List.length).Nodup) {ts : List α} (ht : ts ∈ tss) : tss.find? (fun r => r.length == ts.length) = some ts := by
  induction tss with
  | nil => cases ht
  | cons x r ih =>
    rw [List.map_cons, List.nodup_cons] at h
    rcases List.mem_cons.mp ht with rfl | ht
    · simp
    · have : x.length ≠ ts.length := fun e => h.1 (by rw [e]; exact List.mem_map_of_mem ht)
      rw [List.find?_cons_of_neg (by simpa using this)]
      exact ih h.2 ht
theorem Tss.find {b : Bool} {tss : List (List Int)} (h : Tss s b tss) {ts : List Int} (ht : ts ∈ tss) : (tss.map wts).find? (fun r => r.length == ts.length) = some (wts ts) := by
  have e : (wts ts).length = ts.length := by unfold wts; rw [List.length_map]
  have := find_len (tss := tss.map wts) (ts := wts ts) (by
    rw [List.map_map]
    have : (List.length ∘ wts) = (List.length : List Int → Nat) := by funext ts; simp [wts]
    rw [this, h.lens]
    exact sizes_nodup) (List.mem_map_of_mem ht)
  rw [e] at this
  exact this
end
end Ev
set_option Elab.async false
set_option linter.all false
set_option maxHeartbeats 1000000
set_option maxRecDepth 4000
namespace Ev
open Lib
def Sg.down (s : Sg) : Nat := match s.k with
  | .late => 0
  | _ => s.f
def Sg.up (s : Sg) : Nat := match s.k with
  | .lies => 0
  | _ => s.f
def Sg.wb (s : Sg) (z : Nat) : Nat := if s.f = 0 then z else max (z - s.up) s.first
def Sg.we (s : Sg) (z : Nat) : Nat := if s.f = 0 then z else min (z + s.down) (s.first + s.kept.toNat)
def cutN {α : Type} (row : List α) (b e : Nat) : List α := (row.drop b).take (e - b)
def win (s : Sg) (row : List Rat) (z : Nat) : Rat := (cutN row (s.wb z) (s.we z)).sum
def Sg.zs (s : Sg) : List Nat := (List.range (s.tc - 1)).map fun n => 1 + n
def maxQ (b : Rat) (xs : List Rat) : Rat := xs.foldl (fun b x => if b < x then x else b) b
def shr (s : Sg) (row : List Rat) : Rat := maxQ 0 (s.zs.map (win s row))
section
variable {T : Tab} {st : Sto} {l : Nat}
end
section
variable {T : Tab} {st : Sto} {l : Nat}
end
section
variable {T : Tab} {st : Sto} {l : Nat}
end
section
variable {T : Tab} {st : Sto} {l : Nat}
end
section
variable {T : Tab} {st : Sto} {cf : Nat → List D → Sto → R D} {l : Nat} {J : Sto} {s : Sg} {row : List Rat}
end
end Ev
set_option Elab.async false
set_option linter.all false
set_option maxHeartbeats 1000000
set_option maxRecDepth 4000
namespace Ev
open Lib
section
variable {T : Tab} {st : Sto} {l : Nat}
end
section
variable {T : Tab} {st : Sto} {cf : Nat → List D → Sto → R D} {l : Nat} {J : Sto} {s : Sg} {row : List Rat}
end
end Ev
set_option Elab.async false
set_option linter.all false
set_option maxHeartbeats 1000000
set_option maxRecDepth 4000
namespace Ev
open Lib
section
variable {T : Tab} {st : Sto} {l : Nat}
end
section
variable {T : Tab} {st : Sto} {l : Nat}
end
section
variable {T : Tab} {st : Sto} {l : Nat}
end
section
variable {T : Tab} {st : Sto} {l : Nat}
end
section
variable {T : Tab} {st : Sto} {l : Nat}
end
section
variable {T : Tab} {st : Sto} {cf : Nat → List D → Sto → R D} {l : Nat} {J : Sto} {s : Sg} {ts : List Int}
def Sg.lo (s : Sg) (z : Nat) : Nat := max (z - s.up) s.first
end
section
variable {T : Tab} {st : Sto} {cf : Nat → List D → Sto → R D} {l : Nat} {J : Sto} {s : Sg} {ts : List Int}
end
end Ev
set_option Elab.async false
set_option linter.all false
set_option maxRecDepth 100000
set_option maxHeartbeats 0
namespace K98
open PySem PySem.Spec PyProof.Rows L2 Ev Snd Lib
theorem hf_0 : S.fnAt 0 = some F0 := rfl
theorem hf_3 : S.fnAt 3 = some F3 := rfl
theorem hf_44 : S.fnAt 44 = some F44 := rfl
theorem hf_78 : S.fnAt 78 = some F78 := rfl
theorem hf_72 : S.fnAt 72 = some F72 := rfl
theorem hf_93 : S.fnAt 93 = some F93 := rfl
theorem hf_94 : S.fnAt 94 = some F94 := rfl
theorem hf_95 : S.fnAt 95 = some F95 := rfl
theorem hf_96 : S.fnAt 96 = some F96 := rfl
theorem hf_97 : S.fnAt 97 = some F97 := rfl
theorem hf_80 : S.fnAt 80 = some F80 := rfl
theorem hf_98 : S.fnAt 98 = some F98 := rfl
theorem hf_99 : S.fnAt 99 = some F99 := rfl
theorem hf_100 : S.fnAt 100 = some F100 := rfl
theorem hf_101 : S.fnAt 101 = some F101 := rfl
theorem hf_102 : S.fnAt 102 = some F102 := rfl
theorem hf_103 : S.fnAt 103 = some F103 := rfl
theorem hc_1 : S.clAt 1 = some C1 := rfl
theorem hc_2 : S.clAt 2 = some C2 := rfl
theorem hc_4 : S.clAt 4 = some C4 := rfl
theorem hc_3 : S.clAt 3 = some C3 := rfl
theorem hc_6 : S.clAt 6 = some C6 := rfl
theorem hc_9 : S.clAt 9 = some C9 := rfl
theorem hc_12 : S.clAt 12 = some C12 := rfl
theorem hc_8 : S.clAt 8 = some C8 := rfl
theorem hc_13 : S.clAt 13 = some C13 := rfl
theorem hc_14 : S.clAt 14 = some C14 := rfl
theorem hc_15 : S.clAt 15 = some C15 := rfl
theorem hc_11 : S.clAt 11 = some C11 := rfl
theorem hc_16 : S.clAt 16 = some C16 := rfl
theorem hc_17 : S.clAt 17 = some C17 := rfl
theorem hc_18 : S.clAt 18 = some C18 := rfl
theorem hc_19 : S.clAt 19 = some C19 := rfl
theorem hc_20 : S.clAt 20 = some C20 := rfl
theorem hc_21 : S.clAt 21 = some C21 := rfl
theorem hc_22 : S.clAt 22 = some C22 := rfl
theorem hc_23 : S.clAt 23 = some C23 := rfl
theorem hc_24 : S.clAt 24 = some C24 := rfl
theorem hc_25 : S.clAt 25 = some C25 := rfl
theorem hc_26 : S.clAt 26 = some C26 := rfl
theorem hc_27 : S.clAt 27 = some C27 := rfl
theorem hc_28 : S.clAt 28 = some C28 := rfl
theorem hc_29 : S.clAt 29 = some C29 := rfl
theorem hc_10 : S.clAt 10 = some C10 := rfl
theorem hc_30 : S.clAt 30 = some C30 := rfl
theorem hc_31 : S.clAt 31 = some C31 := rfl
theorem hc_32 : S.clAt 32 = some C32 := rfl
theorem hc_33 : S.clAt 33 = some C33 := rfl
theorem hc_34 : S.clAt 34 = some C34 := rfl
theorem im (i : Nat) {x : Str × String} (h : S.imp[i]? = some x := by rfl) : x ∈ S.imp := List.mem_of_getElem? h
theorem fr (i : Nat) {x : Str} (h : S.free[i]? = some x := by rfl) : x ∈ S.free := List.mem_of_getElem? h
theorem hk (i : Nat) {x : Nat} (h : S.caught[i]? = some x := by rfl) : x ∈ S.caught := List.mem_of_getElem? h
theorem g_0 (Y : Core) : GoodF S Y F0 where
  sc := ⟨rfl, rfl, rfl, by decide +kernel, rfl, by decide +kernel, by decide +kernel⟩
  n1 := rfl
  n2 := rfl
  n3 := by decide
  kwd := fun _ => rfl
  dfl := fun _ => rfl
  bindD := fun h => absurd rfl h
  bind := fun _ _ _ _ _ _ _ _ us hl => match us, hl with
    | [_, _, _], _ => rfl
  body := fun me cf k f fa cdv A outer s H E r => by
    have cc : Ct S (cxF Y F0.N F0.d.qual F0.d.scope fa cdv A outer s H E) (wF E) (nmE S me) cf k := Ct.of f r (by decide +kernel)
    have c := cc.toCtE
    exact (ss_cons (ss_if (PW.pt (sw_and (t_cmp c (op := .eq) (b_of (x_ix c b_var se_int)) (b_of se_int)) (pw_and1 (t_cmp c (op := .lt) (b_of (x_ix c b_var se_int)) (b_of (x_len c (fr 2) (xl_cons b_var xl_nil))))))) (ss_cons (y_set cc (x_ix c b_var (x_ix c b_var se_int)))
      (ss_cons (y_seti cc x_var se_int (x_bin c (op := .add) (b_of (x_ix c b_var se_int)) (b_of se_int)))
      (ss_cons (ss_if (t_cmp c (op := .ge) b_var (b_of (x_bin c (op := .pow) (b_of se_int) (b_of se_int)))) (ss_cons (y_seti cc x_var se_int x_var)
      ss_skip) (ss_cons (y_seti cc x_var se_int (x_bin c (op := .mod) (b_of (x_int c (fr 1) (xl_cons (b_of (x_bin c (op := .add) (b_of (x_bin c (op := .mul) (b_of (x_ix c b_var se_int)) (b_of se_int))) b_var)) xl_nil))) (b_of se_int)))
      ss_skip))
      ss_skip))) ss_skip)
      (ss_cons (ss_if (t_cmp c (op := .gt) (b_of (x_ix c b_var se_int)) (b_of se_int)) (ss_cons (y_set cc (x_bin c (op := .mod) (b_of (x_int c (fr 1) (xl_cons (b_of (x_ix c b_var se_int)) xl_nil))) b_var))
      (ss_cons (y_seti cc x_var se_int (x_bin c (op := .fdv) (b_of (x_ix c b_var se_int)) b_var))
      (ss_cons (ss_ret x_var)
      ss_skip))) ss_skip)
      (ss_cons (y_seti cc x_var se_int (x_bin c (op := .add) (b_of (x_ix c b_var se_int)) (b_of se_int)))
      (ss_cons (y_seti cc x_var se_int (x_bin c (op := .mod) (b_of (x_int c (fr 1) (xl_cons (b_of (x_bin c (op := .add) (b_of (x_bin c (op := .add) (b_of (x_bin c (op := .mul) (b_of (x_ix c b_var se_int)) (b_of se_int))) (b_of (x_bin c (op := .mul) (b_of (x_ix c b_var se_int)) (b_of se_int))))) (b_of se_int))) xl_nil))) (b_of se_int)))
      (ss_cons (y_set cc (x_bin c (op := .mod) (b_of (x_int c (fr 1) (xl_cons (b_of (x_bin c (op := .mul) (b_of (x_ix c b_var se_int)) (b_of (x_bin c (op := .add) (b_of (x_bin c (op := .fdv) (b_of (x_ix c b_var se_int)) (b_of se_int))) (b_of se_int))))) xl_nil))) (b_of se_int)))
      (ss_cons (ss_ret (x_bin c (op := .mod) (b_of (x_bin c (op := .mod) (b_of (x_int c (fr 1) (xl_cons (b_of (x_bin c (op := .mul) b_var (b_of (x_bin c (op := .add) (b_of (x_bin c (op := .fdv) b_var (b_of se_int))) (b_of se_int))))) xl_nil))) (b_of se_int))) b_var))
      ss_skip))))))
theorem g_100 (Y : Core) : GoodF S Y F100 where
  sc := ⟨rfl, rfl, rfl, by decide +kernel, rfl, by decide +kernel, by decide +kernel⟩
  n1 := rfl
  n2 := rfl
  n3 := by decide
  kwd := fun _ => rfl
  dfl := fun _ => rfl
  bindD := fun h => absurd rfl h
  bind := fun _ _ _ _ _ _ _ _ us hl => match us, hl with
    | [_], _ => rfl
  body := fun me cf k f fa cdv A outer s H E r => by
    have cc : Ct S (cxF Y F100.N F100.d.qual F100.d.scope fa cdv A outer s H E) (wF E) (nmE S me) cf k := Ct.of f r (by decide +kernel)
    have c := cc.toCtE
    exact (ss_cons (y_set cc (se_lst (xa_cons (x_isX c (fr 5) x_var (x_cls c (hc_2))) (xa_cons (x_isX c (fr 5) x_var (x_cls c (hc_4))) (xa_cons (x_isX c (fr 5) x_var (x_cls c (hc_3))) xa_nil)))))
      (ss_cons (y_set cc (se_lst (xa_cons (x_isX c (fr 5) x_var (x_cls c (hc_6))) (xa_cons (x_isX c (fr 5) x_var (x_cls c (hc_9))) (xa_cons (x_isX c (fr 5) x_var (x_cls c (hc_12))) xa_nil)))))
      (ss_cons (y_set cc (se_lst (xa_cons (x_isX c (fr 5) x_var (x_cls c (hc_8))) (xa_cons (x_isX c (fr 5) x_var (x_cls c (hc_10))) (xa_cons (x_isX c (fr 5) x_var (x_cls c (hc_30))) xa_nil)))))
      (ss_cons (y_set cc (se_lst (xa_cons (x_isX c (fr 5) x_var (x_cls c (hc_31))) (xa_cons (x_isX c (fr 5) x_var (x_cls c (hc_32))) (xa_cons (x_isX c (fr 5) x_var (x_cls c (hc_33))) xa_nil)))))
      (ss_cons (ss_ret (x_bin c (op := .add) (b_of (x_bin c (op := .add) (b_of (x_bin c (op := .add) (b_of (x_bin c (op := .add) b_var b_var)) b_var)) b_var)) (b_of (se_frz (se_lst (xa_cons (x_isX c (fr 5) x_var (x_cls c (hc_34))) xa_nil))))))
      ss_skip)))))
theorem g_101 (Y : Core) : GoodF S Y F101 where
  sc := ⟨rfl, rfl, rfl, by decide +kernel, rfl, by decide +kernel, by decide +kernel⟩
  n1 := rfl
  n2 := rfl
  n3 := by decide
  kwd := fun _ => rfl
  dfl := fun _ => rfl
  bindD := fun h => absurd rfl h
  bind := fun _ _ _ _ _ _ _ _ us hl => match us, hl with
    | [_], _ => rfl
  body := fun me cf k f fa cdv A outer s H E r => by
    have cc : Ct S (cxF Y F101.N F101.d.qual F101.d.scope fa cdv A outer s H E) (wF E) (nmE S me) cf k := Ct.of f r (by decide +kernel)
    have c := cc.toCtE
    exact (ss_cons (y_set cc (se_lst (xa_cons (x_isX c (fr 5) x_var (x_cls c (hc_13))) (xa_cons (x_isX c (fr 5) x_var (x_cls c (hc_14))) (xa_cons (x_isX c (fr 5) x_var (x_cls c (hc_15))) xa_nil)))))
      (ss_cons (y_set cc (se_lst (xa_cons (x_isX c (fr 5) x_var (x_cls c (hc_11))) (xa_cons (x_isX c (fr 5) x_var (x_cls c (hc_16))) (xa_cons (x_isX c (fr 5) x_var (x_cls c (hc_17))) xa_nil)))))
      (ss_cons (y_set cc (se_lst (xa_cons (x_isX c (fr 5) x_var (x_cls c (hc_18))) (xa_cons (x_isX c (fr 5) x_var (x_cls c (hc_19))) (xa_cons (x_isX c (fr 5) x_var (x_cls c (hc_20))) xa_nil)))))
      (ss_cons (y_set cc (se_lst (xa_cons (x_isX c (fr 5) x_var (x_cls c (hc_21))) (xa_cons (x_isX c (fr 5) x_var (x_cls c (hc_22))) (xa_cons (x_isX c (fr 5) x_var (x_cls c (hc_23))) xa_nil)))))
      (ss_cons (y_set cc (se_lst (xa_cons (x_isX c (fr 5) x_var (x_cls c (hc_24))) (xa_cons (x_isX c (fr 5) x_var (x_cls c (hc_25))) (xa_cons (x_isX c (fr 5) x_var (x_cls c (hc_26))) xa_nil)))))
      (ss_cons (y_set cc (se_lst (xa_cons (x_isX c (fr 5) x_var (x_cls c (hc_27))) (xa_cons (x_isX c (fr 5) x_var (x_cls c (hc_28))) (xa_cons (x_isX c (fr 5) x_var (x_cls c (hc_29))) xa_nil)))))
      (ss_cons (ss_ret (x_bin c (op := .add) (b_of (x_bin c (op := .add) (b_of (x_bin c (op := .add) (b_of (x_bin c (op := .add) (b_of (x_bin c (op := .add) (b_of (x_bin c (op := .add) (b_of (x_call c hf_100 (xa_cons x_var xa_nil))) b_var)) b_var)) b_var)) b_var)) b_var)) b_var))
      ss_skip)))))))
theorem g_102 (Y : Core) : GoodF S Y F102 where
  sc := ⟨rfl, rfl, rfl, by decide +kernel, rfl, by decide +kernel, by decide +kernel⟩
  n1 := rfl
  n2 := rfl
  n3 := by decide
  kwd := fun _ => rfl
  dfl := fun _ => rfl
  bindD := fun h => absurd rfl h
  bind := fun _ _ _ _ _ _ _ _ us hl => match us, hl with
    | [_], _ => rfl
  body := fun me cf k f fa cdv A outer s H E r => by
    have cc : Ct S (cxF Y F102.N F102.d.qual F102.d.scope fa cdv A outer s H E) (wF E) (nmE S me) cf k := Ct.of f r (by decide +kernel)
    have c := cc.toCtE
    exact (ss_cons (y_forR1 cc (fr 4) (xa_cons (x_len c (fr 2) (xl_cons b_var xl_nil)) xa_nil)
      (ss_cons (ss_if (PW.pt (sw_or (st_not (t_e (b_of (x_isX c (fr 5) (x_ix c b_var x_var) (x_cls c (hc_1)))))) (pw_or1 (st_not (t_e (b_of (x_isX c (fr 5) (x_ix c b_var x_var) (x_ty c boot_ValueError (fr 6) (by decide) rfl rfl)))))))) (ss_cons (ss_ret se_bl)
      ss_skip) ss_skip)
      (ss_cons (y_set cc (x_call c hf_101 (xa_cons (x_ix c b_var x_var) xa_nil)))
      (ss_cons (y_forR1 cc (fr 4) (xa_cons (x_len c (fr 2) (xl_cons b_var xl_nil)) xa_nil)
      (ss_cons (ss_if (t_cmp c (op := .ne) (b_of (x_ix c b_var x_var)) (b_of (x_cmp c (op := .eq) b_var b_var))) (ss_cons (ss_ret se_bl)
      ss_skip) ss_skip)
      ss_skip))
      ss_skip))))
      (ss_cons (ss_ret se_bl)
      ss_skip))
theorem g_103 (Y : Core) : GoodF S Y F103 where
  sc := ⟨rfl, rfl, rfl, by decide +kernel, rfl, by decide +kernel, by decide +kernel⟩
  n1 := rfl
  n2 := rfl
  n3 := by decide
  kwd := fun _ => rfl
  dfl := fun _ => rfl
  bindD := fun h => absurd rfl h
  bind := fun _ _ _ _ _ _ _ _ us hl => match us, hl with
    | [_], _ => rfl
  body := fun me cf k f fa cdv A outer s H E r => by
    have cc : Ct S (cxF Y F103.N F103.d.qual F103.d.scope fa cdv A outer s H E) (wF E) (nmE S me) cf k := Ct.of f r (by decide +kernel)
    have c := cc.toCtE
    exact (ss_cons (y_set cc (se_sto (xa_cons se_int (xa_cons se_int (xa_cons se_int (xa_cons se_int xa_nil))))))
      (ss_cons (y_set cc (x_bin c (op := .sub) (b_of (x_call c hf_0 (xa_cons x_var (xa_cons x_var (xa_cons se_int xa_nil))))) (b_of se_int)))
      (ss_cons (y_set cc (x_bin c (op := .sub) (b_of (x_call c hf_0 (xa_cons x_var (xa_cons x_var (xa_cons se_int xa_nil))))) (b_of se_int)))
      (ss_cons (y_set cc (x_bin c (op := .sub) (b_of (x_call c hf_0 (xa_cons x_var (xa_cons x_var (xa_cons se_int xa_nil))))) (b_of se_int)))
      (ss_cons (y_set cc (x_ix c (b_of (se_frz (se_lst (xa_cons x_str (xa_cons x_str (xa_cons x_str (xa_cons x_str (xa_cons x_str xa_nil)))))))) (x_call c hf_0 (xa_cons x_var (xa_cons x_var (xa_cons se_int xa_nil))))))
      (ss_cons (y_set cc (x_tuple c (fr 0) (xl_cons (b_of (se_frz (x_compR1 c (fr 4) (xa_cons (x_bin c (op := .add) (b_of se_int) (b_of (x_call c hf_0 (xa_cons x_var (xa_cons x_var (xa_cons se_int xa_nil)))))) xa_nil) (fun _ _ _ _ _ c => pts_none) (fun _ _ _ _ _ c => (x_call c hf_0 (xa_cons x_var (xa_cons x_var (xa_cons se_int xa_nil)))))))) xl_nil)))
      (ss_cons (y_set cc (se_lst (xa_cons (x_makX c hc_2 (xa_cons x_var xa_nil)) (xa_cons (x_makX0 c hc_4) (xa_cons (x_makX0 c hc_3) (xa_cons (x_makX c hc_6 (xa_cons x_var xa_nil)) (xa_cons (x_makX c hc_9 (xa_cons x_var xa_nil)) (xa_cons (x_makX0 c hc_12) (xa_cons (x_makX c hc_8 (xa_cons x_var (xa_cons x_var xa_nil))) xa_nil)))))))))
      (ss_cons (y_set cc (x_bin c (op := .add) b_var (b_of (se_frz (se_lst (xa_cons (x_makX c hc_10 (xa_cons x_var xa_nil)) (xa_cons (x_makX c hc_30 (xa_cons x_var (xa_cons x_var xa_nil))) (xa_cons (x_makX0 c hc_31) (xa_cons (x_makX0 c hc_32) (xa_cons (x_makX0 c hc_33) (xa_cons (x_makX c hc_34 (xa_cons x_var xa_nil)) xa_nil)))))))))))
      (ss_cons (y_set cc (x_bin c (op := .add) b_var (b_of (se_frz (se_lst (xa_cons (x_makX0 c hc_13) (xa_cons (x_makX0 c hc_14) (xa_cons (x_makX c hc_15 (xa_cons x_var xa_nil)) (xa_cons (x_makX0 c hc_11) (xa_cons (x_makX c hc_16 (xa_cons x_var xa_nil)) (xa_cons (x_makX0 c hc_17) (xa_cons (x_makX0 c hc_18) (xa_cons (x_makX0 c hc_19) xa_nil)))))))))))))
      (ss_cons (y_set cc (x_bin c (op := .add) b_var (b_of (se_frz (se_lst (xa_cons (x_makX c hc_20 (xa_cons x_var xa_nil)) (xa_cons (x_makX0 c hc_21) (xa_cons (x_makX0 c hc_22) (xa_cons (x_makX c hc_23 (xa_cons x_var (xa_cons x_var xa_nil))) (xa_cons (x_makX0 c hc_24) (xa_cons (x_makX0 c hc_25) (xa_cons (x_makX0 c hc_26) xa_nil))))))))))))
      (ss_cons (y_set cc (x_bin c (op := .add) b_var (b_of (se_frz (se_lst (xa_cons (x_makX c hc_27 (xa_cons x_var xa_nil)) (xa_cons (x_makX0 c hc_28) (xa_cons (x_makX0 c hc_29) xa_nil))))))))
      (ss_cons (ss_if (st_not (t_e (b_of (x_call c hf_102 (xa_cons x_var xa_nil))))) (ss_cons (ss_ret se_bl)
      ss_skip) ss_skip)
      (ss_cons (ss_if (PW.pt (sw_or (t_cmp c (op := .ne) (b_of (x_atX c (x_ix c b_var se_int))) b_var) (sw_or (t_cmp c (op := .ne) (b_of (x_atX c (x_ix c b_var se_int))) b_var) (pw_or1 (t_cmp c (op := .ne) (b_of (x_atX c (x_ix c b_var se_int))) b_var))))) (ss_cons (ss_ret se_bl)
      ss_skip) ss_skip)
      (ss_cons (ss_if (PW.pt (sw_or (t_cmp c (op := .ne) (b_of (x_atX c (x_ix c b_var se_int))) b_var) (sw_or (t_cmp c (op := .ne) (b_of (x_atX c (x_ix c b_var se_int))) b_var) (pw_or1 (t_cmp c (op := .ne) (b_of (x_atX c (x_ix c b_var se_int))) b_var))))) (ss_cons (ss_ret se_bl)
      ss_skip) ss_skip)
      (ss_cons (ss_if (PW.pt (sw_or (t_cmp c (op := .ne) (b_of (x_atX c (x_ix c b_var se_int))) b_var) (sw_or (t_cmp c (op := .ne) (b_of (x_atX c (x_ix c b_var se_int))) b_var) (pw_or1 (t_cmp c (op := .ne) (b_of (x_atX c (x_ix c b_var se_int))) b_var))))) (ss_cons (ss_ret se_bl)
      ss_skip) ss_skip)
      (ss_cons (ss_if (PW.pt (sw_or (t_cmp c (op := .ne) (b_of (x_atX c (x_ix c b_var se_int))) b_var) (sw_or (t_cmp c (op := .ne) (b_of (x_atX c (x_ix c b_var se_int))) b_var) (pw_or1 (t_cmp c (op := .ne) (b_of (x_atX c (x_ix c b_var se_int))) b_var))))) (ss_cons (ss_ret se_bl)
      ss_skip) ss_skip)
      (ss_cons (ss_ret (se_and (x_cmp c (op := .eq) (b_of (x_atX c (x_ix c b_var se_int))) b_var) (se_and (x_cmp c (op := .eq) (b_of (x_atX c (x_ix c b_var se_int))) b_var) (pe_one (x_cmp c (op := .eq) (b_of (x_atX c (x_ix c b_var se_int))) b_var)))))
      ss_skip)))))))))))))))))
theorem e_2 : GoodE (C2.fields.map S.nm.attr) C2.cat F3.d where
  nam := rfl
  body := .mk _ _ _ _ _ rfl (.cat _ _ _ _ _ _ _ (by decide)) (.cons _ _ _ _ _ .nil)
  scp := ⟨rfl, rfl, by decide +kernel, rfl, rfl, by decide +kernel, rfl, rfl⟩
  head := ⟨_, rfl, rfl⟩
  bind := fun dV kV doc pm an cdv ct cc us hl e => by
    subst e
    match us, hl with
    | [_, _], _ => rfl
theorem e_6 : GoodE (C6.fields.map S.nm.attr) C6.cat F44.d where
  nam := rfl
  body := .mk _ _ _ _ _ rfl (.cat _ _ _ _ _ _ _ (by decide)) (.cons _ _ _ _ _ .nil)
  scp := ⟨rfl, rfl, by decide +kernel, rfl, rfl, by decide +kernel, rfl, rfl⟩
  head := ⟨_, rfl, rfl⟩
  bind := fun dV kV doc pm an cdv ct cc us hl e => by
    subst e
    match us, hl with
    | [_, _], _ => rfl
theorem e_9 : GoodE (C9.fields.map S.nm.attr) C9.cat F78.d where
  nam := rfl
  body := .mk _ _ _ _ _ rfl (.con _ _ _ _ (by decide)) (.cons _ _ _ _ _ .nil)
  scp := ⟨rfl, rfl, by decide +kernel, rfl, rfl, by decide +kernel, rfl, rfl⟩
  head := ⟨_, rfl, rfl⟩
  bind := fun dV kV doc pm an cdv ct cc us hl e => by
    subst e
    match us, hl with
    | [_, _], _ => rfl
theorem e_8 : GoodE (C8.fields.map S.nm.attr) C8.cat F72.d where
  nam := rfl
  body := .mk _ _ _ _ _ rfl (.con _ _ _ _ (by decide)) (.cons _ _ _ _ _ (.cons _ _ _ _ _ .nil))
  scp := ⟨rfl, rfl, by decide +kernel, rfl, rfl, by decide +kernel, rfl, rfl⟩
  head := ⟨_, rfl, rfl⟩
  bind := fun dV kV doc pm an cdv ct cc us hl e => by
    subst e
    match us, hl with
    | [_, _, _], _ => rfl
theorem e_15 : GoodE (C15.fields.map S.nm.attr) C15.cat F93.d where
  nam := rfl
  body := .mk _ _ _ _ _ rfl (.con _ _ _ _ (by decide)) (.cons _ _ _ _ _ .nil)
  scp := ⟨rfl, rfl, by decide +kernel, rfl, rfl, by decide +kernel, rfl, rfl⟩
  head := ⟨_, rfl, rfl⟩
  bind := fun dV kV doc pm an cdv ct cc us hl e => by
    subst e
    match us, hl with
    | [_, _], _ => rfl
theorem e_16 : GoodE (C16.fields.map S.nm.attr) C16.cat F94.d where
  nam := rfl
  body := .mk _ _ _ _ _ rfl (.con _ _ _ _ (by decide)) (.cons _ _ _ _ _ .nil)
  scp := ⟨rfl, rfl, by decide +kernel, rfl, rfl, by decide +kernel, rfl, rfl⟩
  head := ⟨_, rfl, rfl⟩
  bind := fun dV kV doc pm an cdv ct cc us hl e => by
    subst e
    match us, hl with
    | [_, _], _ => rfl
theorem e_20 : GoodE (C20.fields.map S.nm.attr) C20.cat F95.d where
  nam := rfl
  body := .mk _ _ _ _ _ rfl (.con _ _ _ _ (by decide)) (.cons _ _ _ _ _ .nil)
  scp := ⟨rfl, rfl, by decide +kernel, rfl, rfl, by decide +kernel, rfl, rfl⟩
  head := ⟨_, rfl, rfl⟩
  bind := fun dV kV doc pm an cdv ct cc us hl e => by
    subst e
    match us, hl with
    | [_, _], _ => rfl
theorem e_23 : GoodE (C23.fields.map S.nm.attr) C23.cat F96.d where
  nam := rfl
  body := .mk _ _ _ _ _ rfl (.con _ _ _ _ (by decide)) (.cons _ _ _ _ _ (.cons _ _ _ _ _ .nil))
  scp := ⟨rfl, rfl, by decide +kernel, rfl, rfl, by decide +kernel, rfl, rfl⟩
  head := ⟨_, rfl, rfl⟩
  bind := fun dV kV doc pm an cdv ct cc us hl e => by
    subst e
    match us, hl with
    | [_, _, _], _ => rfl
theorem e_27 : GoodE (C27.fields.map S.nm.attr) C27.cat F97.d where
  nam := rfl
  body := .mk _ _ _ _ _ rfl (.con _ _ _ _ (by decide)) (.cons _ _ _ _ _ .nil)
  scp := ⟨rfl, rfl, by decide +kernel, rfl, rfl, by decide +kernel, rfl, rfl⟩
  head := ⟨_, rfl, rfl⟩
  bind := fun dV kV doc pm an cdv ct cc us hl e => by
    subst e
    match us, hl with
    | [_, _], _ => rfl
theorem e_10 : GoodE (C10.fields.map S.nm.attr) C10.cat F80.d where
  nam := rfl
  body := .mk _ _ _ _ _ rfl (.con _ _ _ _ (by decide)) (.cons _ _ _ _ _ .nil)
  scp := ⟨rfl, rfl, by decide +kernel, rfl, rfl, by decide +kernel, rfl, rfl⟩
  head := ⟨_, rfl, rfl⟩
  bind := fun dV kV doc pm an cdv ct cc us hl e => by
    subst e
    match us, hl with
    | [_, _], _ => rfl
theorem e_30 : GoodE (C30.fields.map S.nm.attr) C30.cat F98.d where
  nam := rfl
  body := .mk _ _ _ _ _ rfl (.cat _ _ _ _ _ _ _ (by decide)) (.cons _ _ _ _ _ (.cons _ _ _ _ _ .nil))
  scp := ⟨rfl, rfl, by decide +kernel, rfl, rfl, by decide +kernel, rfl, rfl⟩
  head := ⟨_, rfl, rfl⟩
  bind := fun dV kV doc pm an cdv ct cc us hl e => by
    subst e
    match us, hl with
    | [_, _, _], _ => rfl
theorem e_34 : GoodE (C34.fields.map S.nm.attr) C34.cat F99.d where
  nam := rfl
  body := .mk _ _ _ _ _ rfl (.con _ _ _ _ (by decide)) (.cons _ _ _ _ _ .nil)
  scp := ⟨rfl, rfl, by decide +kernel, rfl, rfl, by decide +kernel, rfl, rfl⟩
  head := ⟨_, rfl, rfl⟩
  bind := fun dV kV doc pm an cdv ct cc us hl e => by
    subst e
    match us, hl with
    | [_, _], _ => rfl
theorem good (Y : Core) : Good S Y := good_of (by decide +kernel)
  (all_cons (fun _ h => absurd rfl h) (all_cons (fun _ _ F hF => by cases (show some F3 = some F from hF); exact e_2) (all_cons (fun _ h => absurd rfl h) (all_cons (fun _ h => absurd rfl h) (all_cons (fun _ _ F hF => by cases (show some F44 = some F from hF); exact e_6) (all_cons (fun _ _ F hF => by cases (show some F78 = some F from hF); exact e_9) (all_cons (fun _ h => absurd rfl h) (all_cons (fun _ _ F hF => by cases (show some F72 = some F from hF); exact e_8) (all_cons (fun _ h => absurd rfl h) (all_cons (fun _ h => absurd rfl h) (all_cons (fun _ _ F hF => by cases (show some F93 = some F from hF); exact e_15) (all_cons (fun _ h => absurd rfl h) (all_cons (fun _ _ F hF => by cases (show some F94 = some F from hF); exact e_16) (all_cons (fun _ h => absurd rfl h) (all_cons (fun _ h => absurd rfl h) (all_cons (fun _ h => absurd rfl h) (all_cons (fun _ _ F hF => by cases (show some F95 = some F from hF); exact e_20) (all_cons (fun _ h => absurd rfl h) (all_cons (fun _ h => absurd rfl h) (all_cons (fun _ _ F hF => by cases (show some F96 = some F from hF); exact e_23) (all_cons (fun _ h => absurd rfl h) (all_cons (fun _ h => absurd rfl h) (all_cons (fun _ h => absurd rfl h) (all_cons (fun _ _ F hF => by cases (show some F97 = some F from hF); exact e_27) (all_cons (fun _ h => absurd rfl h) (all_cons (fun _ h => absurd rfl h) (all_cons (fun _ _ F hF => by cases (show some F80 = some F from hF); exact e_10) (all_cons (fun _ _ F hF => by cases (show some F98 = some F from hF); exact e_30) (all_cons (fun _ h => absurd rfl h) (all_cons (fun _ h => absurd rfl h) (all_cons (fun _ h => absurd rfl h) (all_cons (fun _ _ F hF => by cases (show some F99 = some F from hF); exact e_34) all_nil))))))))))))))))))))))))))))))))
  (all_cons (fun _ => g_0 Y) (all_cons (fun h => nomatch h) (all_cons (fun h => nomatch h) (all_cons (fun h => nomatch h) (all_cons (fun h => nomatch h) (all_cons (fun h => nomatch h) (all_cons (fun h => nomatch h) (all_cons (fun h => nomatch h) (all_cons (fun h => nomatch h) (all_cons (fun h => nomatch h) (all_cons (fun h => nomatch h) (all_cons (fun h => nomatch h) (all_cons (fun h => nomatch h) (all_cons (fun _ => g_100 Y) (all_cons (fun _ => g_101 Y) (all_cons (fun _ => g_102 Y) (all_cons (fun _ => g_103 Y) all_nil)))))))))))))))))
theorem run_103 (x0 : D) (st : Sto) : call S.T 103 [x0] st = fin S.T (none) (exS S.T (tbl S.T 7) B103 [some x0, none, none, none, none, none, none, none, none] st) := rfl
@[simp] theorem Tcls_1 : S.T.cls 1 = some C1 := rfl
@[simp] theorem Tcls_2 : S.T.cls 2 = some C2 := rfl
@[simp] theorem Tcls_4 : S.T.cls 4 = some C4 := rfl
@[simp] theorem Tcls_3 : S.T.cls 3 = some C3 := rfl
@[simp] theorem Tcls_6 : S.T.cls 6 = some C6 := rfl
@[simp] theorem Tcls_9 : S.T.cls 9 = some C9 := rfl
@[simp] theorem Tcls_12 : S.T.cls 12 = some C12 := rfl
@[simp] theorem Tcls_8 : S.T.cls 8 = some C8 := rfl
@[simp] theorem Tcls_13 : S.T.cls 13 = some C13 := rfl
@[simp] theorem Tcls_14 : S.T.cls 14 = some C14 := rfl
@[simp] theorem Tcls_15 : S.T.cls 15 = some C15 := rfl
@[simp] theorem Tcls_11 : S.T.cls 11 = some C11 := rfl
@[simp] theorem Tcls_16 : S.T.cls 16 = some C16 := rfl
@[simp] theorem Tcls_17 : S.T.cls 17 = some C17 := rfl
@[simp] theorem Tcls_18 : S.T.cls 18 = some C18 := rfl
@[simp] theorem Tcls_19 : S.T.cls 19 = some C19 := rfl
@[simp] theorem Tcls_20 : S.T.cls 20 = some C20 := rfl
@[simp] theorem Tcls_21 : S.T.cls 21 = some C21 := rfl
@[simp] theorem Tcls_22 : S.T.cls 22 = some C22 := rfl
@[simp] theorem Tcls_23 : S.T.cls 23 = some C23 := rfl
@[simp] theorem Tcls_24 : S.T.cls 24 = some C24 := rfl
@[simp] theorem Tcls_25 : S.T.cls 25 = some C25 := rfl
@[simp] theorem Tcls_26 : S.T.cls 26 = some C26 := rfl
@[simp] theorem Tcls_27 : S.T.cls 27 = some C27 := rfl
@[simp] theorem Tcls_28 : S.T.cls 28 = some C28 := rfl
@[simp] theorem Tcls_29 : S.T.cls 29 = some C29 := rfl
@[simp] theorem Tcls_10 : S.T.cls 10 = some C10 := rfl
@[simp] theorem Tcls_30 : S.T.cls 30 = some C30 := rfl
@[simp] theorem Tcls_31 : S.T.cls 31 = some C31 := rfl
@[simp] theorem Tcls_32 : S.T.cls 32 = some C32 := rfl
@[simp] theorem Tcls_33 : S.T.cls 33 = some C33 := rfl
@[simp] theorem Tcls_34 : S.T.cls 34 = some C34 := rfl
@[simp] theorem Tisi : S.T.isi = [(.cls 3), (.cls 4), (.cls 2), (.cls 12), (.cls 9), (.cls 6), (.cls 30), (.cls 10), (.cls 8), (.cls 33), (.cls 32), (.cls 31), (.cls 34), (.cls 15), (.cls 14), (.cls 13), (.cls 17), (.cls 16), (.cls 11), (.cls 20), (.cls 19), (.cls 18), (.cls 23), (.cls 22), (.cls 21), (.cls 26), (.cls 25), (.cls 24), (.cls 29), (.cls 28), (.cls 27), (.cls 1), .verr] := rfl
end K98
set_option Elab.async false
set_option linter.all false
set_option maxHeartbeats 4000000
set_option maxRecDepth 4000
namespace Ev
open Lib
section
variable {T : Tab} {st : Sto} {cf : Nat → List D → Sto → R D} {l : Nat} {J : Sto} {s : Sg} {ts : List Int}
end
end Ev
set_option Elab.async false
set_option linter.all false
set_option maxHeartbeats 1000000
set_option maxRecDepth 4000
namespace Ev
open Lib
section
variable {T : Tab} {st : Sto} {cf : Nat → List D → Sto → R D} {l : Nat} {J : Sto} {s : Sg} {ts : List Int}
theorem eqAll_map {α : Type} {f : D → D → Sto → R Bool} {g : α → D} [DecidableEq α] : ∀ (xs ys : List α), (∀ x y, x ∈ xs → y ∈ ys → f (g x) (g y) st = .ok (decide (x = y)) st) → ∃ b, eqAll f (xs.map g) (ys.map g) st = .ok b st ∧ (b && xs.length == ys.length) = decide (xs = ys)
  | [], [], _ => ⟨true, rfl, by simp⟩
  | [], y :: ys, _ => ⟨true, rfl, by simp⟩
  | x :: xs, [], _ => ⟨true, rfl, by simp⟩
  | x :: xs, y :: ys, hf => by
    have h1 := hf x y (List.mem_cons_self ..) (List.mem_cons_self ..)
    rw [List.map_cons, List.map_cons, eqAll, h1, bind_ok]
    by_cases c : x = y
    · obtain ⟨b, k1, k2⟩ := eqAll_map xs ys (fun x y hx hy => hf x y (List.mem_cons_of_mem _ hx) (List.mem_cons_of_mem _ hy))
      refine ⟨b, by simpa [c] using k1, ?_⟩
      rw [Bool.eq_iff_iff] at k2 ⊢
      simp at k2 ⊢
      rw [k2]
      simp [c]
    · exact ⟨false, by simp [c], by simp [c]⟩
theorem eqRow_map {α : Type} {f : D → D → Sto → R Bool} {g : α → D} [DecidableEq α] (k : Bool) (xs ys : List α) (hf : ∀ x y, x ∈ xs → y ∈ ys → f (g x) (g y) st = .ok (decide (x = y)) st) : eqRow f k (xs.map g) (ys.map g) st = .ok (decide (xs = ys)) st := by
  unfold eqRow
  by_cases c : (k && (xs.map g).length != (ys.map g).length) = true
  · rw [if_pos c]
    have : ¬ xs = ys := by
      rintro rfl
      simp at c
    rw [decide_eq_false this]
  · rw [if_neg c]
    obtain ⟨b, k1, k2⟩ := eqAll_map xs ys hf
    rw [k1, bind_ok, List.length_map, List.length_map, k2]
theorem eqX_tup {α : Type} {g : α → D} [DecidableEq α] {n : Nat} (xs ys : List α) (hf : ∀ x y, x ∈ xs → y ∈ ys → eqX T cf n (g x) (g y) st = .ok (decide (x = y)) st) : eqX T cf (n + 1) (.tup (xs.map g)) (.tup (ys.map g)) st = .ok (decide (xs = ys)) st := by
  rw [eqX]
  simp only [isIns, rowOf, Bool.or_self]
  exact eqRow_map false xs ys hf
end
end Ev
set_option Elab.async false
set_option linter.all false
namespace Lib
open Ev
def A100 : Fn := { np := 1, nl := 5, body := B100, ini := none, lv := 4 }
def A101 : Fn := { np := 1, nl := 7, body := B101, ini := none, lv := 5 }
def A102 : Fn := { np := 1, nl := 4, body := B102, ini := none, lv := 6 }
end Lib
set_option Elab.async false
set_option linter.all false
set_option maxHeartbeats 4000000
set_option maxRecDepth 4000
namespace Ev
open Lib
def CL98 : List (Nat × List Nat × Bool) := [(2, [2], true), (4, [], false), (3, [], false), (6, [2], true), (9, [16], false), (12, [], false), (8, [16, 17], false), (10, [17], false), (30, [2, 19], true), (31, [], false), (32, [], false), (33, [], false), (34, [21], false), (13, [], false), (14, [], false), (15, [17], false), (11, [], false), (16, [17], false), (17, [], false), (18, [], false), (19, [], false), (20, [18], false), (21, [], false), (22, [], false), (23, [19, 20], false), (24, [], false), (25, [], false), (26, [], false), (27, [19], false), (28, [], false), (29, [], false)]
def cl98 (k : Nat) : Nat := (CL98.getD k (0, [], false)).1
class HasX98 (T : Tab) : Prop where
  f0 : T.fn 0 = some A0
  cls98 : (CL98.all fun p => match T.cls p.1 with | some C => C.exc && C.fields == p.2.1 && C.cat == p.2.2 | none => false) = true
  isx98 : ((List.range 31).all fun k => (List.range 31).all fun j => kdIs T (.exc (cl98 k)) (.cls (cl98 j)) == some (j == k)) = true
  isn98 : ((List.range 31).all fun k => kdIs T (.exc (cl98 k)) (.cls 1) == some true && kdIs T (.exc (cl98 k)) .verr == some true) = true
  isi98 : ((List.range 31).all fun j => T.isi.contains (.cls (cl98 j))) = true
  isi1 : T.isi.contains (.cls 1) = true
  isv1 : T.isi.contains .verr = true
class HasK98 (T : Tab) : Prop extends HasX98 T where
  f100 : T.fn 100 = some A100
  f101 : T.fn 101 = some A101
  f102 : T.fn 102 = some A102
section
variable {T : Tab} [HasK98 T] {st : Sto} {l : Nat}
@[simp] theorem tb100 (h : 4 < l) : tbl T l 100 = call T 100 := tbl_eq T HasK98.f100 h
theorem run100 (x0 : D) : call T 100 [x0] st = fin T none (exS T (tbl T 4) B100 [some x0, none, none, none, none] st) := by rw [call_of HasK98.f100]; rfl
@[simp] theorem tb101 (h : 5 < l) : tbl T l 101 = call T 101 := tbl_eq T HasK98.f101 h
theorem run101 (x0 : D) : call T 101 [x0] st = fin T none (exS T (tbl T 5) B101 [some x0, none, none, none, none, none, none] st) := by rw [call_of HasK98.f101]; rfl
@[simp] theorem tb102 (h : 6 < l) : tbl T l 102 = call T 102 := tbl_eq T HasK98.f102 h
theorem run102 (x0 : D) : call T 102 [x0] st = fin T none (exS T (tbl T 6) B102 [some x0, none, none, none] st) := by rw [call_of HasK98.f102]; rfl
end
section
variable {T : Tab} {st : Sto} {cf : Nat → List D → Sto → R D} {l : Nat} {J : Sto}
@[simp] theorem tb0x [HasX98 T] (h : 4 < l) : tbl T l 0 = call T 0 := tbl_eq T HasX98.f0 h
theorem drx [HasX98 T] (ns : List Int) {s : Sto} (h : DrJ J s) (m : Int) (hm : 0 < m) (hm2 : m < 1073741824) : ∃ n s', (0 ≤ n ∧ n < m) ∧ DrJ J s' ∧ call T 0 [.scr ns, .ref 0, .int m] s = .ok (.int n) s' := by
  obtain ⟨n, s', h1, h2, h3, e⟩ := draw_runJ (T := T) (cf := tbl T 4) (ns := ns) h hm hm2 4
  refine ⟨n, s', ⟨h1, h2⟩, h3, ?_⟩
  rw [call_of HasX98.f0]
  exact e
theorem add98 {x y : D} {xs ys : List D} (hx : x = .lst xs ∨ x = .own xs) (hy : y = .lst ys ∨ y = .own ys) (h : xs.length + ys.length ≤ LINE) : binE T cf .add x y st = .ok (.own (xs ++ ys)) st := by
  have : rowB .add x y st = some (xs ++ ys) := by
    rcases hx with rfl | rfl <;> rcases hy with rfl | rfl <;> (show (if xs.length + ys.length ≤ LINE then some (xs ++ ys) else none) = some (xs ++ ys); rw [if_pos h])
  have key : ∀ o : Option (List D), o = some (xs ++ ys) → (match o with
    | some ds => R.ok (D.own ds) st
    | none => R.no) = R.ok (D.own (xs ++ ys)) st := by
    rintro _ rfl
    rfl
  rcases hx with rfl | rfl <;> rcases hy with rfl | rfl <;> exact key _ this
theorem addLL {xs ys : List D} (h : xs.length + ys.length ≤ LINE) : binE T cf .add (.lst xs) (.lst ys) st = .ok (.own (xs ++ ys)) st := add98 (.inl rfl) (.inl rfl) h
theorem addOL {xs ys : List D} (h : xs.length + ys.length ≤ LINE) : binE T cf .add (.own xs) (.lst ys) st = .ok (.own (xs ++ ys)) st := add98 (.inr rfl) (.inl rfl) h
theorem cls_of [HasX98 T] {c : Nat} {fs : List Nat} {b : Bool} (hm : (c, fs, b) ∈ CL98) : ∃ C, T.cls c = some C ∧ C.exc = true ∧ C.fields = fs ∧ C.cat = b := by
  have q := List.all_eq_true.mp (HasX98.cls98 (T := T)) _ hm
  cases e : T.cls c with
  | none => simp [e] at q
  | some C =>
    simp [e] at q
    exact ⟨C, rfl, q.1.1, q.1.2, q.2⟩
theorem mk98 [HasX98 T] {c : Nat} {fs : List Nat} {b : Bool} (hm : (c, fs, b) ∈ CL98) (ds : List D) (hl : ds.length = fs.length) (hb : b = true → isTxt ds = true) : mkXE T c ds st = .ok (.ref st.length) (st ++ [.exv c ds]) := by
  obtain ⟨C, c1, c2, c3, c4⟩ := cls_of (T := T) hm
  unfold mkXE
  rw [c1]
  have r : raisable C ds = true := by
    unfold raisable
    rw [c2, c3, c4]
    cases b with
    | false => simp [hl]
    | true => simp [hl, hb rfl]
  show (if raisable C ds then _ else _) = _
  rw [if_pos r]
theorem at98 [HasX98 T] {c m j r : Nat} {fs : List Nat} {b : Bool} {ds : List D} {d : D} (hm : (c, fs, b) ∈ CL98) (hg : st[r]? = some (.exv c ds)) (hf : posOf m fs = some j) (hd : ds[j]? = some d) : atXE T (.ref r) m st = .ok d st := by
  obtain ⟨C, c1, c2, c3, c4⟩ := cls_of (T := T) hm
  have e : isErr T c = true := by unfold isErr; rw [c1]; exact c2
  have f : fieldD T c m ds = some d := by unfold fieldD; rw [c1]; simp [c3, hf, hd]
  unfold atXE
  simp [hg, e, f]
theorem cl_mem {k : Nat} (h : k < 31) : ∃ fs b, (cl98 k, fs, b) ∈ CL98 := by
  have hl : k < CL98.length := h
  refine ⟨CL98[k].2.1, CL98[k].2.2, ?_⟩
  have : cl98 k = CL98[k].1 := by unfold cl98; rw [List.getD_eq_getElem?_getD, List.getElem?_eq_getElem hl]; rfl
  rw [this]
  exact List.getElem_mem hl
theorem cl_err [HasX98 T] {k : Nat} (h : k < 31) : isErr T (cl98 k) = true := by
  obtain ⟨fs, b, hm⟩ := cl_mem h
  obtain ⟨C, c1, c2, _⟩ := cls_of (T := T) hm
  unfold isErr
  rw [c1]
  exact c2
theorem isx_ok [HasX98 T] {r k j : Nat} {ds : List D} (hg : st[r]? = some (.exv (cl98 k) ds)) (hk : k < 31) (hj : j < 31) : isXE T (.ref r) (.cls (cl98 j)) st = .ok (.bl (j == k)) st := by
  have q := List.all_eq_true.mp (List.all_eq_true.mp (HasX98.isx98 (T := T)) k (List.mem_range.mpr hk)) j (List.mem_range.mpr hj)
  have i := List.all_eq_true.mp (HasX98.isi98 (T := T)) j (List.mem_range.mpr hj)
  have e := cl_err (T := T) hk
  unfold isXE
  simp only [hg, e, i, Bool.and_self, if_true]
  rw [beq_iff_eq.mp q]
  rfl
theorem isn_ok [HasX98 T] {r k : Nat} {ds : List D} (hg : st[r]? = some (.exv (cl98 k) ds)) (hk : k < 31) : isXE T (.ref r) (.cls 1) st = .ok (.bl true) st ∧ isXE T (.ref r) .verr st = .ok (.bl true) st := by
  have q := List.all_eq_true.mp (HasX98.isn98 (T := T)) k (List.mem_range.mpr hk)
  have i1 := HasX98.isi1 (T := T)
  have i2 := HasX98.isv1 (T := T)
  have e := cl_err (T := T) hk
  obtain ⟨q1, q2⟩ := Bool.and_eq_true_iff.mp q
  refine ⟨?_, ?_⟩
  · unfold isXE
    simp only [hg, e, i1, Bool.and_self, if_true]
    rw [beq_iff_eq.mp q1]
    rfl
  · unfold isXE
    simp only [hg, e, i2, Bool.and_self, if_true]
    rw [beq_iff_eq.mp q2]
    rfl
theorem l_100 [HasK98 T] {r : Nat} (F : Nat → Bool) (hF : ∀ j, j < 31 → isXE T (.ref r) (.cls (cl98 j)) st = .ok (.bl (F j)) st) : call T 100 [.ref r] st = .ok (.own [.bl (F 0), .bl (F 1), .bl (F 2), .bl (F 3), .bl (F 4), .bl (F 5), .bl (F 6), .bl (F 7), .bl (F 8), .bl (F 9), .bl (F 10), .bl (F 11), .bl (F 12)]) st := by
  have g0 : isXE T (.ref r) (.cls 2) st = .ok (.bl (F 0)) st := hF 0 (by decide)
  have g1 : isXE T (.ref r) (.cls 4) st = .ok (.bl (F 1)) st := hF 1 (by decide)
  have g2 : isXE T (.ref r) (.cls 3) st = .ok (.bl (F 2)) st := hF 2 (by decide)
  have g3 : isXE T (.ref r) (.cls 6) st = .ok (.bl (F 3)) st := hF 3 (by decide)
  have g4 : isXE T (.ref r) (.cls 9) st = .ok (.bl (F 4)) st := hF 4 (by decide)
  have g5 : isXE T (.ref r) (.cls 12) st = .ok (.bl (F 5)) st := hF 5 (by decide)
  have g6 : isXE T (.ref r) (.cls 8) st = .ok (.bl (F 6)) st := hF 6 (by decide)
  have g7 : isXE T (.ref r) (.cls 10) st = .ok (.bl (F 7)) st := hF 7 (by decide)
  have g8 : isXE T (.ref r) (.cls 30) st = .ok (.bl (F 8)) st := hF 8 (by decide)
  have g9 : isXE T (.ref r) (.cls 31) st = .ok (.bl (F 9)) st := hF 9 (by decide)
  have g10 : isXE T (.ref r) (.cls 32) st = .ok (.bl (F 10)) st := hF 10 (by decide)
  have g11 : isXE T (.ref r) (.cls 33) st = .ok (.bl (F 11)) st := hF 11 (by decide)
  have g12 : isXE T (.ref r) (.cls 34) st = .ok (.bl (F 12)) st := hF 12 (by decide)
  have q1 : binE T (tbl T 4) .add (.lst [.bl (F 0), .bl (F 1), .bl (F 2)]) (.lst [.bl (F 3), .bl (F 4), .bl (F 5)]) st = .ok (.own [.bl (F 0), .bl (F 1), .bl (F 2), .bl (F 3), .bl (F 4), .bl (F 5)]) st := addLL (by simp [LINE])
  have q2 : binE T (tbl T 4) .add (.own [.bl (F 0), .bl (F 1), .bl (F 2), .bl (F 3), .bl (F 4), .bl (F 5)]) (.lst [.bl (F 6), .bl (F 7), .bl (F 8)]) st = .ok (.own [.bl (F 0), .bl (F 1), .bl (F 2), .bl (F 3), .bl (F 4), .bl (F 5), .bl (F 6), .bl (F 7), .bl (F 8)]) st := addOL (by simp [LINE])
  have q3 : binE T (tbl T 4) .add (.own [.bl (F 0), .bl (F 1), .bl (F 2), .bl (F 3), .bl (F 4), .bl (F 5), .bl (F 6), .bl (F 7), .bl (F 8)]) (.lst [.bl (F 9), .bl (F 10), .bl (F 11)]) st = .ok (.own [.bl (F 0), .bl (F 1), .bl (F 2), .bl (F 3), .bl (F 4), .bl (F 5), .bl (F 6), .bl (F 7), .bl (F 8), .bl (F 9), .bl (F 10), .bl (F 11)]) st := addOL (by simp [LINE])
  have q4 : binE T (tbl T 4) .add (.own [.bl (F 0), .bl (F 1), .bl (F 2), .bl (F 3), .bl (F 4), .bl (F 5), .bl (F 6), .bl (F 7), .bl (F 8), .bl (F 9), .bl (F 10), .bl (F 11)]) (.lst [.bl (F 12)]) st = .ok (.own [.bl (F 0), .bl (F 1), .bl (F 2), .bl (F 3), .bl (F 4), .bl (F 5), .bl (F 6), .bl (F 7), .bl (F 8), .bl (F 9), .bl (F 10), .bl (F 11), .bl (F 12)]) st := addOL (by simp [LINE])
  rw [run100]
  apply fin_of
  simp [B100, pkB, truthS, isAny, setfD, setAll, noBl, asBl, noEr, xatD, xisD, under, raisable, isErr, LINE, q1, q2, q3, q4, g0, g1, g2, g3, g4, g5, g6, g7, g8, g9, g10, g11, g12]
theorem l_101 [HasK98 T] {r : Nat} (F : Nat → Bool) (hF : ∀ j, j < 31 → isXE T (.ref r) (.cls (cl98 j)) st = .ok (.bl (F j)) st) : call T 101 [.ref r] st = .ok (.own [.bl (F 0), .bl (F 1), .bl (F 2), .bl (F 3), .bl (F 4), .bl (F 5), .bl (F 6), .bl (F 7), .bl (F 8), .bl (F 9), .bl (F 10), .bl (F 11), .bl (F 12), .bl (F 13), .bl (F 14), .bl (F 15), .bl (F 16), .bl (F 17), .bl (F 18), .bl (F 19), .bl (F 20), .bl (F 21), .bl (F 22), .bl (F 23), .bl (F 24), .bl (F 25), .bl (F 26), .bl (F 27), .bl (F 28), .bl (F 29), .bl (F 30)]) st := by
  have g13 : isXE T (.ref r) (.cls 13) st = .ok (.bl (F 13)) st := hF 13 (by decide)
  have g14 : isXE T (.ref r) (.cls 14) st = .ok (.bl (F 14)) st := hF 14 (by decide)
  have g15 : isXE T (.ref r) (.cls 15) st = .ok (.bl (F 15)) st := hF 15 (by decide)
  have g16 : isXE T (.ref r) (.cls 11) st = .ok (.bl (F 16)) st := hF 16 (by decide)
  have g17 : isXE T (.ref r) (.cls 16) st = .ok (.bl (F 17)) st := hF 17 (by decide)
  have g18 : isXE T (.ref r) (.cls 17) st = .ok (.bl (F 18)) st := hF 18 (by decide)
  have g19 : isXE T (.ref r) (.cls 18) st = .ok (.bl (F 19)) st := hF 19 (by decide)
  have g20 : isXE T (.ref r) (.cls 19) st = .ok (.bl (F 20)) st := hF 20 (by decide)
  have g21 : isXE T (.ref r) (.cls 20) st = .ok (.bl (F 21)) st := hF 21 (by decide)
  have g22 : isXE T (.ref r) (.cls 21) st = .ok (.bl (F 22)) st := hF 22 (by decide)
  have g23 : isXE T (.ref r) (.cls 22) st = .ok (.bl (F 23)) st := hF 23 (by decide)
  have g24 : isXE T (.ref r) (.cls 23) st = .ok (.bl (F 24)) st := hF 24 (by decide)
  have g25 : isXE T (.ref r) (.cls 24) st = .ok (.bl (F 25)) st := hF 25 (by decide)
  have g26 : isXE T (.ref r) (.cls 25) st = .ok (.bl (F 26)) st := hF 26 (by decide)
  have g27 : isXE T (.ref r) (.cls 26) st = .ok (.bl (F 27)) st := hF 27 (by decide)
  have g28 : isXE T (.ref r) (.cls 27) st = .ok (.bl (F 28)) st := hF 28 (by decide)
  have g29 : isXE T (.ref r) (.cls 28) st = .ok (.bl (F 29)) st := hF 29 (by decide)
  have g30 : isXE T (.ref r) (.cls 29) st = .ok (.bl (F 30)) st := hF 30 (by decide)
  have k1 := l_100 (T := T) F hF
  have q1 : binE T (tbl T 5) .add (.own [.bl (F 0), .bl (F 1), .bl (F 2), .bl (F 3), .bl (F 4), .bl (F 5), .bl (F 6), .bl (F 7), .bl (F 8), .bl (F 9), .bl (F 10), .bl (F 11), .bl (F 12)]) (.lst [.bl (F 13), .bl (F 14), .bl (F 15)]) st = .ok (.own [.bl (F 0), .bl (F 1), .bl (F 2), .bl (F 3), .bl (F 4), .bl (F 5), .bl (F 6), .bl (F 7), .bl (F 8), .bl (F 9), .bl (F 10), .bl (F 11), .bl (F 12), .bl (F 13), .bl (F 14), .bl (F 15)]) st := addOL (by simp [LINE])
  have q2 : binE T (tbl T 5) .add (.own [.bl (F 0), .bl (F 1), .bl (F 2), .bl (F 3), .bl (F 4), .bl (F 5), .bl (F 6), .bl (F 7), .bl (F 8), .bl (F 9), .bl (F 10), .bl (F 11), .bl (F 12), .bl (F 13), .bl (F 14), .bl (F 15)]) (.lst [.bl (F 16), .bl (F 17), .bl (F 18)]) st = .ok (.own [.bl (F 0), .bl (F 1), .bl (F 2), .bl (F 3), .bl (F 4), .bl (F 5), .bl (F 6), .bl (F 7), .bl (F 8), .bl (F 9), .bl (F 10), .bl (F 11), .bl (F 12), .bl (F 13), .bl (F 14), .bl (F 15), .bl (F 16), .bl (F 17), .bl (F 18)]) st := addOL (by simp [LINE])
  have q3 : binE T (tbl T 5) .add (.own [.bl (F 0), .bl (F 1), .bl (F 2), .bl (F 3), .bl (F 4), .bl (F 5), .bl (F 6), .bl (F 7), .bl (F 8), .bl (F 9), .bl (F 10), .bl (F 11), .bl (F 12), .bl (F 13), .bl (F 14), .bl (F 15), .bl (F 16), .bl (F 17), .bl (F 18)]) (.lst [.bl (F 19), .bl (F 20), .bl (F 21)]) st = .ok (.own [.bl (F 0), .bl (F 1), .bl (F 2), .bl (F 3), .bl (F 4), .bl (F 5), .bl (F 6), .bl (F 7), .bl (F 8), .bl (F 9), .bl (F 10), .bl (F 11), .bl (F 12), .bl (F 13), .bl (F 14), .bl (F 15), .bl (F 16), .bl (F 17), .bl (F 18), .bl (F 19), .bl (F 20), .bl (F 21)]) st := addOL (by simp [LINE])
  have q4 : binE T (tbl T 5) .add (.own [.bl (F 0), .bl (F 1), .bl (F 2), .bl (F 3), .bl (F 4), .bl (F 5), .bl (F 6), .bl (F 7), .bl (F 8), .bl (F 9), .bl (F 10), .bl (F 11), .bl (F 12), .bl (F 13), .bl (F 14), .bl (F 15), .bl (F 16), .bl (F 17), .bl (F 18), .bl (F 19), .bl (F 20), .bl (F 21)]) (.lst [.bl (F 22), .bl (F 23), .bl (F 24)]) st = .ok (.own [.bl (F 0), .bl (F 1), .bl (F 2), .bl (F 3), .bl (F 4), .bl (F 5), .bl (F 6), .bl (F 7), .bl (F 8), .bl (F 9), .bl (F 10), .bl (F 11), .bl (F 12), .bl (F 13), .bl (F 14), .bl (F 15), .bl (F 16), .bl (F 17), .bl (F 18), .bl (F 19), .bl (F 20), .bl (F 21), .bl (F 22), .bl (F 23), .bl (F 24)]) st := addOL (by simp [LINE])
  have q5 : binE T (tbl T 5) .add (.own [.bl (F 0), .bl (F 1), .bl (F 2), .bl (F 3), .bl (F 4), .bl (F 5), .bl (F 6), .bl (F 7), .bl (F 8), .bl (F 9), .bl (F 10), .bl (F 11), .bl (F 12), .bl (F 13), .bl (F 14), .bl (F 15), .bl (F 16), .bl (F 17), .bl (F 18), .bl (F 19), .bl (F 20), .bl (F 21), .bl (F 22), .bl (F 23), .bl (F 24)]) (.lst [.bl (F 25), .bl (F 26), .bl (F 27)]) st = .ok (.own [.bl (F 0), .bl (F 1), .bl (F 2), .bl (F 3), .bl (F 4), .bl (F 5), .bl (F 6), .bl (F 7), .bl (F 8), .bl (F 9), .bl (F 10), .bl (F 11), .bl (F 12), .bl (F 13), .bl (F 14), .bl (F 15), .bl (F 16), .bl (F 17), .bl (F 18), .bl (F 19), .bl (F 20), .bl (F 21), .bl (F 22), .bl (F 23), .bl (F 24), .bl (F 25), .bl (F 26), .bl (F 27)]) st := addOL (by simp [LINE])
  have q6 : binE T (tbl T 5) .add (.own [.bl (F 0), .bl (F 1), .bl (F 2), .bl (F 3), .bl (F 4), .bl (F 5), .bl (F 6), .bl (F 7), .bl (F 8), .bl (F 9), .bl (F 10), .bl (F 11), .bl (F 12), .bl (F 13), .bl (F 14), .bl (F 15), .bl (F 16), .bl (F 17), .bl (F 18), .bl (F 19), .bl (F 20), .bl (F 21), .bl (F 22), .bl (F 23), .bl (F 24), .bl (F 25), .bl (F 26), .bl (F 27)]) (.lst [.bl (F 28), .bl (F 29), .bl (F 30)]) st = .ok (.own [.bl (F 0), .bl (F 1), .bl (F 2), .bl (F 3), .bl (F 4), .bl (F 5), .bl (F 6), .bl (F 7), .bl (F 8), .bl (F 9), .bl (F 10), .bl (F 11), .bl (F 12), .bl (F 13), .bl (F 14), .bl (F 15), .bl (F 16), .bl (F 17), .bl (F 18), .bl (F 19), .bl (F 20), .bl (F 21), .bl (F 22), .bl (F 23), .bl (F 24), .bl (F 25), .bl (F 26), .bl (F 27), .bl (F 28), .bl (F 29), .bl (F 30)]) st := addOL (by simp [LINE])
  rw [run101]
  apply fin_of
  simp [B101, pkB, truthS, isAny, setfD, setAll, noBl, asBl, noEr, xatD, xisD, under, raisable, isErr, LINE, k1, q1, q2, q3, q4, q5, q6, g13, g14, g15, g16, g17, g18, g19, g20, g21, g22, g23, g24, g25, g26, g27, g28, g29, g30]
def ap98B : Ev.S := (.seq (.ifs (.e (.cmp .ne (.ix (.var 2) (.var 3)) (.cmp .eq (.var 3) (.var 1)))) (.seq (.ret (.bl false)) .skip) .skip) .skip)
def ap98A : Ev.S := (.seq (.ifs (.or (.not (.e (.isX (.ix (.var 0) (.var 1)) (.cls 1)))) (.not (.e (.isX (.ix (.var 0) (.var 1)) .verr)))) (.seq (.ret (.bl false)) .skip) .skip) (.seq (.set 2 (.call 101 (.cons (.ix (.var 0) (.var 1)) .nil))) (.seq (.for_ [3] (.rng (.cons (.bi .len (.cons (.var 2) .nil)) .nil)) ap98B) .skip)))
theorem rg98 {n : Nat} (h : n ≤ 1000) : rngI [.int n] = some ((List.range n).map fun k : Nat => (k : Int)) := by
  show (if -(LINE : Int) < (n : Int) ∧ (n : Int) < LINE then some (rangeI 0 n) else none) = _
  rw [if_pos (by unfold LINE; omega), show (0 : Int) = ((0 : Nat) : Int) from rfl, rangeI_nat]
  congr 1
  exact List.map_congr_left fun k _ => by simp
def R98 (n : Nat) : List D := (List.range 31).map fun i => D.ref (n + i)
def F98 (k : Nat) : List D := (List.range 31).map fun j => D.bl (j == k)
theorem in98 {k : Nat} (hk : k < 31) {x y : Option D} {d : D} : ∃ z, forL (exS T (tbl T 6) ap98B) [3] (((List.range 31).map fun k : Nat => (k : Int)).map fun n => [D.int n]) [some d, some (.int k), some (.lst (F98 k)), x] st = .nx [some d, some (.int k), some (.lst (F98 k)), z] st := by
  rw [List.map_map]
  obtain ⟨ρ', st', e, ⟨z, rfl⟩, rfl⟩ := forL_pre (b := exS T (tbl T 6) ap98B) (ts := [3]) (en := (fun n => [D.int n]) ∘ fun k : Nat => (k : Int)) (xs := List.range 31) (ρ := [some d, some (.int k), some (.lst (F98 k)), x]) (st := st) (fun pre ρ s' => (∃ z, ρ = [some d, some (.int k), some (.lst (F98 k)), z]) ∧ s' = st) (by
    rintro pre j post hx ρ st' ⟨⟨z, rfl⟩, rfl⟩
    have jl : j < 31 := List.mem_range.mp (by rw [hx]; simp)
    have ix : ixE T (tbl T 6) (.lst (F98 k)) (.int j) st' = .ok (.bl (j == k)) st' := by
      have : atI (F98 k) (j : Int) = some (.bl (j == k)) := by
        unfold F98
        rw [atI_nat (by rw [List.length_map, List.length_range]; exact jl)]
        simp
      show R.of (atI (F98 k) (j : Int)) st' = _
      rw [this]; rfl
    have ne : ∀ b : Bool, cmpE T (tbl T 6) .ne (.bl b) (.bl b) st' = .ok false st' := fun b => by cases b <;> rfl
    refine ⟨_, [some d, some (.int k), some (.lst (F98 k)), some (.int j)], st', rfl, .inl ?_, ⟨_, rfl⟩, rfl⟩
    by_cases c : j = k
    · subst c
      have ix' : ixE T (tbl T 6) (.lst (F98 j)) (.int j) st' = .ok (.bl true) st' := by rw [ix]; simp
      simp [ap98B, pkB, truthS, isAny, setfD, setAll, noBl, asBl, noEr, xatD, xisD, under, raisable, isErr, LINE, ix', ne]
    · have ix' : ixE T (tbl T 6) (.lst (F98 k)) (.int j) st' = .ok (.bl false) st' := by rw [ix, show (j == k) = false by simpa using c]
      have c' : ¬ (j : Int) = (k : Int) := by omega
      have dj : decide ((j : Int) = (k : Int)) = false := decide_eq_false c'
      have dk : ((j : Int) == (k : Int)) = false := by simpa using c'
      simp [ap98B, pkB, truthS, isAny, setfD, setAll, noBl, asBl, noEr, xatD, xisD, under, raisable, isErr, LINE, ix', ne, c, c', dj, dk]) ⟨⟨x, rfl⟩, rfl⟩
  exact ⟨z, e⟩
theorem l_102 [HasK98 T] {n : Nat} (hg : ∀ k, k < 31 → ∃ ds, st[n + k]? = some (.exv (cl98 k) ds)) : call T 102 [.lst (R98 n)] st = .ok (.bl true) st := by
  rw [run102]
  have rg : rngI [.int 31] = some ((List.range 31).map fun k : Nat => (k : Int)) := rg98 (n := 31) (by decide)
  have ln : (R98 n).length = 31 := by unfold R98; rw [List.length_map, List.length_range]
  obtain ⟨ρ', st', e, ⟨y, z, w, rfl⟩, rfl⟩ := forL_pre (b := exS T (tbl T 6) ap98A) (ts := [1]) (en := (fun n => [D.int n]) ∘ fun k : Nat => (k : Int)) (xs := List.range 31) (ρ := [some (.lst (R98 n)), none, none, none]) (st := st) (fun pre ρ s' => (∃ y z w, ρ = [some (.lst (R98 n)), y, z, w]) ∧ s' = st) (by
    rintro pre k post hx ρ st' ⟨⟨y, z, w, rfl⟩, rfl⟩
    have kl : k < 31 := List.mem_range.mp (by rw [hx]; simp)
    obtain ⟨ds, g⟩ := hg k kl
    obtain ⟨q1, q2⟩ := isn_ok (T := T) g kl
    have ix : ixE T (tbl T 6) (.lst (R98 n)) (.int k) st' = .ok (.ref (n + k)) st' := by
      have : atI (R98 n) (k : Int) = some (.ref (n + k)) := by
        unfold R98
        rw [atI_nat (by rw [List.length_map, List.length_range]; exact kl)]
        simp
      show R.of (atI (R98 n) (k : Int)) st' = _
      rw [this]; rfl
    have f := l_101 (T := T) (fun j => j == k) (fun j hj => isx_ok (T := T) g kl hj)
    have f : call T 101 [.ref (n + k)] st' = .ok (.own (F98 k)) st' := f
    have fl : (F98 k).length = 31 := by unfold F98; rw [List.length_map, List.length_range]
    obtain ⟨v, i⟩ := in98 (T := T) (st := st') kl (x := w) (y := none) (d := .lst (R98 n))
    refine ⟨_, [some (.lst (R98 n)), some (.int k), some (.lst (F98 k)), v], st', rfl, .inl ?_, ⟨_, _, _, rfl⟩, rfl⟩
    simp only [ap98A]
    refine seq_go (ρ' := [some (.lst (R98 n)), some (.int k), z, w]) (st' := st') (by simp [pkB, truthS, isAny, setfD, setAll, noBl, asBl, noEr, xatD, xisD, under, raisable, isErr, LINE, ix, q1, q2]) ?_
    refine seq_go (ρ' := [some (.lst (R98 n)), some (.int k), some (.lst (F98 k)), w]) (st' := st') (by simp [pkB, truthS, isAny, setfD, setAll, noBl, asBl, noEr, xatD, xisD, under, raisable, isErr, LINE, ix, f]) ?_
    refine seq_go (ρ' := [some (.lst (R98 n)), some (.int k), some (.lst (F98 k)), v]) (st' := st') (by simp [pkB, truthS, isAny, setfD, setAll, noBl, asBl, noEr, xatD, xisD, under, raisable, isErr, LINE, fl, rg, i, -List.map_map]) ?_
    simp) ⟨⟨none, none, none, rfl⟩, rfl⟩
  rw [← List.map_map] at e
  simp only [ap98A, ap98B] at e
  simp only [B102]
  apply fin_of
  refine seq_go (ρ' := [some (.lst (R98 n)), y, z, w]) (st' := st') (by simp [pkB, truthS, isAny, setfD, setAll, noBl, asBl, noEr, xatD, xisD, under, raisable, isErr, LINE, ln, rg, e, -List.map_map]) ?_
  simp [pkB, truthS, isAny, setfD, setAll, noBl, asBl, noEr, xatD, xisD, under, raisable, isErr, LINE]
theorem cne_str (p : List Nat) : cmpE T cf .ne (.str p) (.str p) st = .ok false st := by
  simp [cmpE, spec, isRel, isEq, isInO, isTup, isIns, isRow, cmpD, eqF, R.of]
theorem cne_bits (bs : List Int) : cmpE T cf .ne (.tup (bs.map D.int)) (.tup (bs.map D.int)) st = .ok false st := by
  unfold cmpE
  rw [if_pos (by simp [spec, isRel, isEq, isRow])]
  unfold cmpS
  rw [if_neg (by simp [isIns]), if_neg (by simp [isInO]), eqX_tup bs bs (fun x y _ _ => rfl)]
  simp
theorem k98_law [HasK98 T] (ns : List Int) : ∃ st, exS T (tbl T 7) B103 [some (.scr ns), none, none, none, none, none, none, none, none] [] = .rt (.bl true) st := by
  obtain ⟨a, s1, ha, d1, e1⟩ := drx (T := T) ns drj0 12 (by decide) (by decide)
  obtain ⟨h, s2, hh, d2, e2⟩ := drx (T := T) ns d1 12 (by decide) (by decide)
  obtain ⟨n, s3, hn, d3, e3⟩ := drx (T := T) ns d2 12 (by decide) (by decide)
  obtain ⟨j, s4, hj, d4, e4⟩ := drx (T := T) ns d3 5 (by decide) (by decide)
  obtain ⟨p, hp, em⟩ : ∃ p : List Nat, p.length ≤ LINE ∧ atI [D.str [116, 111, 112], D.str [98, 111, 116, 116, 111, 109], D.str [104, 111, 117, 115, 101, 115], D.str [116, 111, 108, 100], D.str [98, 97, 100]] j = some (.str p) := by
    rcases (show j = 0 ∨ j = 1 ∨ j = 2 ∨ j = 3 ∨ j = 4 by omega) with rfl | rfl | rfl | rfl | rfl <;> exact ⟨_, by simp [LINE], rfl⟩
  obtain ⟨m, s5, hm, d5, e5⟩ := drx (T := T) ns d4 8 (by decide) (by decide)
  obtain ⟨a, rfl⟩ : ∃ x, x + 1 = a := ⟨a - 1, by omega⟩
  obtain ⟨h, rfl⟩ : ∃ x, x + 1 = h := ⟨h - 1, by omega⟩
  obtain ⟨n, rfl⟩ : ∃ x, x + 1 = n := ⟨n - 1, by omega⟩
  obtain ⟨m, rfl⟩ : ∃ x : Nat, x = m := ⟨m.toNat, by omega⟩
  have rg := rg98 (n := 2 + m) (by omega)
  rw [show ((2 + m : Nat) : Int) = 2 + (m : Int) by omega] at rg
  obtain ⟨bs, s6, e6, _, d6⟩ := compL_st (el := evE T (tbl T 7) (.call 0 (.cons (.var 0) (.cons (.var 1) (.cons (.int 2) .nil))))) (te := evT T (tbl T 7) (.e (.bl true))) (ρ := [some (.scr ns), some (.ref 0), some (.int a), some (.int h), some (.int n), some (.str p), none, none, none]) (ts := [8]) (en := (fun n : Int => [D.int n]) ∘ fun k : Nat => (k : Int)) (xs := List.range (2 + m)) (DrJ []) (fun x : Int => D.int x) (fun _ _ => True) (by rw [List.length_range]; unfold LINE; omega) (by
    intro k _ st d
    obtain ⟨x, st2, _, d2, e⟩ := drx (T := T) ns d 2 (by decide) (by decide)
    exact ⟨_, .int x, x, st2, rfl, by simp [pkB, truthS, isAny, setfD, setAll, noBl, asBl, noEr, xatD, xisD, under, raisable, isErr, LINE], by simp [pkB, truthS, isAny, setfD, setAll, noBl, asBl, noEr, xatD, xisD, under, raisable, isErr, LINE, e], rfl, trivial, d2⟩) d5
  have cc := comp_of (T := T) (cf := tbl T 7) (is := [8]) (e := .call 0 (.cons (.var 0) (.cons (.var 1) (.cons (.int 2) .nil)))) (src := .rng (.cons (.bin .add (.int 2) (.call 0 (.cons (.var 0) (.cons (.var 1) (.cons (.int 8) .nil))))) .nil)) (t := .e (.bl true)) (ρ := [some (.scr ns), some (.ref 0), some (.int a), some (.int h), some (.int n), some (.str p), none, none, none]) (st := s4) (st1 := s5) (by rw [← List.map_map]; simp [pkB, truthS, isAny, setfD, setAll, noBl, asBl, noEr, xatD, xisD, under, raisable, isErr, LINE, e5, rg]) (by rfl) e6
  have m0 : ∀ st, mkXE T 2 [.str p] st = .ok (.ref st.length) (st ++ [.exv 2 [.str p]]) := fun st => mk98 (T := T) (fs := [2]) (b := true) (by decide) _ (by rfl) (fun z => by simpa [isTxt] using hp)
  have m1 : ∀ st, mkXE T 4 [] st = .ok (.ref st.length) (st ++ [.exv 4 []]) := fun st => mk98 (T := T) (fs := []) (b := false) (by decide) _ (by rfl) (fun z => by cases z)
  have m2 : ∀ st, mkXE T 3 [] st = .ok (.ref st.length) (st ++ [.exv 3 []]) := fun st => mk98 (T := T) (fs := []) (b := false) (by decide) _ (by rfl) (fun z => by cases z)
  have m3 : ∀ st, mkXE T 6 [.str p] st = .ok (.ref st.length) (st ++ [.exv 6 [.str p]]) := fun st => mk98 (T := T) (fs := [2]) (b := true) (by decide) _ (by rfl) (fun z => by simpa [isTxt] using hp)
  have m4 : ∀ st, mkXE T 9 [.int a] st = .ok (.ref st.length) (st ++ [.exv 9 [.int a]]) := fun st => mk98 (T := T) (fs := [16]) (b := false) (by decide) _ (by rfl) (fun z => by cases z)
  have m5 : ∀ st, mkXE T 12 [] st = .ok (.ref st.length) (st ++ [.exv 12 []]) := fun st => mk98 (T := T) (fs := []) (b := false) (by decide) _ (by rfl) (fun z => by cases z)
  have m6 : ∀ st, mkXE T 8 [.int h, .int a] st = .ok (.ref st.length) (st ++ [.exv 8 [.int h, .int a]]) := fun st => mk98 (T := T) (fs := [16, 17]) (b := false) (by decide) _ (by rfl) (fun z => by cases z)
  have m7 : ∀ st, mkXE T 10 [.int a] st = .ok (.ref st.length) (st ++ [.exv 10 [.int a]]) := fun st => mk98 (T := T) (fs := [17]) (b := false) (by decide) _ (by rfl) (fun z => by cases z)
  have m8 : ∀ st, mkXE T 30 [.str p, .int h] st = .ok (.ref st.length) (st ++ [.exv 30 [.str p, .int h]]) := fun st => mk98 (T := T) (fs := [2, 19]) (b := true) (by decide) _ (by rfl) (fun z => by simpa [isTxt] using hp)
  have m9 : ∀ st, mkXE T 31 [] st = .ok (.ref st.length) (st ++ [.exv 31 []]) := fun st => mk98 (T := T) (fs := []) (b := false) (by decide) _ (by rfl) (fun z => by cases z)
  have m10 : ∀ st, mkXE T 32 [] st = .ok (.ref st.length) (st ++ [.exv 32 []]) := fun st => mk98 (T := T) (fs := []) (b := false) (by decide) _ (by rfl) (fun z => by cases z)
  have m11 : ∀ st, mkXE T 33 [] st = .ok (.ref st.length) (st ++ [.exv 33 []]) := fun st => mk98 (T := T) (fs := []) (b := false) (by decide) _ (by rfl) (fun z => by cases z)
  have m12 : ∀ st, mkXE T 34 [.int a] st = .ok (.ref st.length) (st ++ [.exv 34 [.int a]]) := fun st => mk98 (T := T) (fs := [21]) (b := false) (by decide) _ (by rfl) (fun z => by cases z)
  have m13 : ∀ st, mkXE T 13 [] st = .ok (.ref st.length) (st ++ [.exv 13 []]) := fun st => mk98 (T := T) (fs := []) (b := false) (by decide) _ (by rfl) (fun z => by cases z)
  have m14 : ∀ st, mkXE T 14 [] st = .ok (.ref st.length) (st ++ [.exv 14 []]) := fun st => mk98 (T := T) (fs := []) (b := false) (by decide) _ (by rfl) (fun z => by cases z)
  have m15 : ∀ st, mkXE T 15 [.int a] st = .ok (.ref st.length) (st ++ [.exv 15 [.int a]]) := fun st => mk98 (T := T) (fs := [17]) (b := false) (by decide) _ (by rfl) (fun z => by cases z)
  have m16 : ∀ st, mkXE T 11 [] st = .ok (.ref st.length) (st ++ [.exv 11 []]) := fun st => mk98 (T := T) (fs := []) (b := false) (by decide) _ (by rfl) (fun z => by cases z)
  have m17 : ∀ st, mkXE T 16 [.int a] st = .ok (.ref st.length) (st ++ [.exv 16 [.int a]]) := fun st => mk98 (T := T) (fs := [17]) (b := false) (by decide) _ (by rfl) (fun z => by cases z)
  have m18 : ∀ st, mkXE T 17 [] st = .ok (.ref st.length) (st ++ [.exv 17 []]) := fun st => mk98 (T := T) (fs := []) (b := false) (by decide) _ (by rfl) (fun z => by cases z)
  have m19 : ∀ st, mkXE T 18 [] st = .ok (.ref st.length) (st ++ [.exv 18 []]) := fun st => mk98 (T := T) (fs := []) (b := false) (by decide) _ (by rfl) (fun z => by cases z)
  have m20 : ∀ st, mkXE T 19 [] st = .ok (.ref st.length) (st ++ [.exv 19 []]) := fun st => mk98 (T := T) (fs := []) (b := false) (by decide) _ (by rfl) (fun z => by cases z)
  have m21 : ∀ st, mkXE T 20 [.tup (bs.map D.int)] st = .ok (.ref st.length) (st ++ [.exv 20 [.tup (bs.map D.int)]]) := fun st => mk98 (T := T) (fs := [18]) (b := false) (by decide) _ (by rfl) (fun z => by cases z)
  have m22 : ∀ st, mkXE T 21 [] st = .ok (.ref st.length) (st ++ [.exv 21 []]) := fun st => mk98 (T := T) (fs := []) (b := false) (by decide) _ (by rfl) (fun z => by cases z)
  have m23 : ∀ st, mkXE T 22 [] st = .ok (.ref st.length) (st ++ [.exv 22 []]) := fun st => mk98 (T := T) (fs := []) (b := false) (by decide) _ (by rfl) (fun z => by cases z)
  have m24 : ∀ st, mkXE T 23 [.int h, .int n] st = .ok (.ref st.length) (st ++ [.exv 23 [.int h, .int n]]) := fun st => mk98 (T := T) (fs := [19, 20]) (b := false) (by decide) _ (by rfl) (fun z => by cases z)
  have m25 : ∀ st, mkXE T 24 [] st = .ok (.ref st.length) (st ++ [.exv 24 []]) := fun st => mk98 (T := T) (fs := []) (b := false) (by decide) _ (by rfl) (fun z => by cases z)
  have m26 : ∀ st, mkXE T 25 [] st = .ok (.ref st.length) (st ++ [.exv 25 []]) := fun st => mk98 (T := T) (fs := []) (b := false) (by decide) _ (by rfl) (fun z => by cases z)
  have m27 : ∀ st, mkXE T 26 [] st = .ok (.ref st.length) (st ++ [.exv 26 []]) := fun st => mk98 (T := T) (fs := []) (b := false) (by decide) _ (by rfl) (fun z => by cases z)
  have m28 : ∀ st, mkXE T 27 [.int h] st = .ok (.ref st.length) (st ++ [.exv 27 [.int h]]) := fun st => mk98 (T := T) (fs := [19]) (b := false) (by decide) _ (by rfl) (fun z => by cases z)
  have m29 : ∀ st, mkXE T 28 [] st = .ok (.ref st.length) (st ++ [.exv 28 []]) := fun st => mk98 (T := T) (fs := []) (b := false) (by decide) _ (by rfl) (fun z => by cases z)
  have m30 : ∀ st, mkXE T 29 [] st = .ok (.ref st.length) (st ++ [.exv 29 []]) := fun st => mk98 (T := T) (fs := []) (b := false) (by decide) _ (by rfl) (fun z => by cases z)
  obtain ⟨n0, hn0⟩ : ∃ n0, n0 = s6.length := ⟨_, rfl⟩
  obtain ⟨S0, hS0⟩ : ∃ S, S = s6 ++ [Ob.exv 2 [.str p], Ob.exv 4 [], Ob.exv 3 [], Ob.exv 6 [.str p], Ob.exv 9 [.int a], Ob.exv 12 [], Ob.exv 8 [.int h, .int a]] := ⟨_, rfl⟩
  have l0 : S0.length = n0 + 7 := by rw [hS0, List.length_append, hn0.symm]; rfl
  obtain ⟨S1, hS1⟩ : ∃ S, S = S0 ++ [Ob.exv 10 [.int a], Ob.exv 30 [.str p, .int h], Ob.exv 31 [], Ob.exv 32 [], Ob.exv 33 [], Ob.exv 34 [.int a]] := ⟨_, rfl⟩
  have l1 : S1.length = n0 + 13 := by rw [hS1, List.length_append, l0]; rfl
  obtain ⟨S2, hS2⟩ : ∃ S, S = S1 ++ [Ob.exv 13 [], Ob.exv 14 [], Ob.exv 15 [.int a], Ob.exv 11 [], Ob.exv 16 [.int a], Ob.exv 17 [], Ob.exv 18 [], Ob.exv 19 []] := ⟨_, rfl⟩
  have l2 : S2.length = n0 + 21 := by rw [hS2, List.length_append, l1]; rfl
  obtain ⟨S3, hS3⟩ : ∃ S, S = S2 ++ [Ob.exv 20 [.tup (bs.map D.int)], Ob.exv 21 [], Ob.exv 22 [], Ob.exv 23 [.int h, .int n], Ob.exv 24 [], Ob.exv 25 [], Ob.exv 26 []] := ⟨_, rfl⟩
  have l3 : S3.length = n0 + 28 := by rw [hS3, List.length_append, l2]; rfl
  obtain ⟨S4, hS4⟩ : ∃ S, S = S3 ++ [Ob.exv 27 [.int h], Ob.exv 28 [], Ob.exv 29 []] := ⟨_, rfl⟩
  have l4 : S4.length = n0 + 31 := by rw [hS4, List.length_append, l3]; rfl
  have g0 : S4[n0 + 0]? = some (.exv 2 [.str p]) := by rw [hS4, hS3, hS2, hS1, hS0, List.append_assoc, List.append_assoc, List.append_assoc, List.append_assoc, List.getElem?_append_right (by omega), ← hn0, show n0 + 0 - n0 = 0 by omega]; rfl
  have g1 : S4[n0 + 1]? = some (.exv 4 []) := by rw [hS4, hS3, hS2, hS1, hS0, List.append_assoc, List.append_assoc, List.append_assoc, List.append_assoc, List.getElem?_append_right (by omega), ← hn0, show n0 + 1 - n0 = 1 by omega]; rfl
  have g2 : S4[n0 + 2]? = some (.exv 3 []) := by rw [hS4, hS3, hS2, hS1, hS0, List.append_assoc, List.append_assoc, List.append_assoc, List.append_assoc, List.getElem?_append_right (by omega), ← hn0, show n0 + 2 - n0 = 2 by omega]; rfl
  have g3 : S4[n0 + 3]? = some (.exv 6 [.str p]) := by rw [hS4, hS3, hS2, hS1, hS0, List.append_assoc, List.append_assoc, List.append_assoc, List.append_assoc, List.getElem?_append_right (by omega), ← hn0, show n0 + 3 - n0 = 3 by omega]; rfl
  have g4 : S4[n0 + 4]? = some (.exv 9 [.int a]) := by rw [hS4, hS3, hS2, hS1, hS0, List.append_assoc, List.append_assoc, List.append_assoc, List.append_assoc, List.getElem?_append_right (by omega), ← hn0, show n0 + 4 - n0 = 4 by omega]; rfl
  have g5 : S4[n0 + 5]? = some (.exv 12 []) := by rw [hS4, hS3, hS2, hS1, hS0, List.append_assoc, List.append_assoc, List.append_assoc, List.append_assoc, List.getElem?_append_right (by omega), ← hn0, show n0 + 5 - n0 = 5 by omega]; rfl
  have g6 : S4[n0 + 6]? = some (.exv 8 [.int h, .int a]) := by rw [hS4, hS3, hS2, hS1, hS0, List.append_assoc, List.append_assoc, List.append_assoc, List.append_assoc, List.getElem?_append_right (by omega), ← hn0, show n0 + 6 - n0 = 6 by omega]; rfl
  have g7 : S4[n0 + 7]? = some (.exv 10 [.int a]) := by rw [hS4, hS3, hS2, hS1, hS0, List.append_assoc, List.append_assoc, List.append_assoc, List.append_assoc, List.getElem?_append_right (by omega), ← hn0, show n0 + 7 - n0 = 7 by omega]; rfl
  have g8 : S4[n0 + 8]? = some (.exv 30 [.str p, .int h]) := by rw [hS4, hS3, hS2, hS1, hS0, List.append_assoc, List.append_assoc, List.append_assoc, List.append_assoc, List.getElem?_append_right (by omega), ← hn0, show n0 + 8 - n0 = 8 by omega]; rfl
  have g9 : S4[n0 + 9]? = some (.exv 31 []) := by rw [hS4, hS3, hS2, hS1, hS0, List.append_assoc, List.append_assoc, List.append_assoc, List.append_assoc, List.getElem?_append_right (by omega), ← hn0, show n0 + 9 - n0 = 9 by omega]; rfl
  have g10 : S4[n0 + 10]? = some (.exv 32 []) := by rw [hS4, hS3, hS2, hS1, hS0, List.append_assoc, List.append_assoc, List.append_assoc, List.append_assoc, List.getElem?_append_right (by omega), ← hn0, show n0 + 10 - n0 = 10 by omega]; rfl
  have g11 : S4[n0 + 11]? = some (.exv 33 []) := by rw [hS4, hS3, hS2, hS1, hS0, List.append_assoc, List.append_assoc, List.append_assoc, List.append_assoc, List.getElem?_append_right (by omega), ← hn0, show n0 + 11 - n0 = 11 by omega]; rfl
  have g12 : S4[n0 + 12]? = some (.exv 34 [.int a]) := by rw [hS4, hS3, hS2, hS1, hS0, List.append_assoc, List.append_assoc, List.append_assoc, List.append_assoc, List.getElem?_append_right (by omega), ← hn0, show n0 + 12 - n0 = 12 by omega]; rfl
  have g13 : S4[n0 + 13]? = some (.exv 13 []) := by rw [hS4, hS3, hS2, hS1, hS0, List.append_assoc, List.append_assoc, List.append_assoc, List.append_assoc, List.getElem?_append_right (by omega), ← hn0, show n0 + 13 - n0 = 13 by omega]; rfl
  have g14 : S4[n0 + 14]? = some (.exv 14 []) := by rw [hS4, hS3, hS2, hS1, hS0, List.append_assoc, List.append_assoc, List.append_assoc, List.append_assoc, List.getElem?_append_right (by omega), ← hn0, show n0 + 14 - n0 = 14 by omega]; rfl
  have g15 : S4[n0 + 15]? = some (.exv 15 [.int a]) := by rw [hS4, hS3, hS2, hS1, hS0, List.append_assoc, List.append_assoc, List.append_assoc, List.append_assoc, List.getElem?_append_right (by omega), ← hn0, show n0 + 15 - n0 = 15 by omega]; rfl
  have g16 : S4[n0 + 16]? = some (.exv 11 []) := by rw [hS4, hS3, hS2, hS1, hS0, List.append_assoc, List.append_assoc, List.append_assoc, List.append_assoc, List.getElem?_append_right (by omega), ← hn0, show n0 + 16 - n0 = 16 by omega]; rfl
  have g17 : S4[n0 + 17]? = some (.exv 16 [.int a]) := by rw [hS4, hS3, hS2, hS1, hS0, List.append_assoc, List.append_assoc, List.append_assoc, List.append_assoc, List.getElem?_append_right (by omega), ← hn0, show n0 + 17 - n0 = 17 by omega]; rfl
  have g18 : S4[n0 + 18]? = some (.exv 17 []) := by rw [hS4, hS3, hS2, hS1, hS0, List.append_assoc, List.append_assoc, List.append_assoc, List.append_assoc, List.getElem?_append_right (by omega), ← hn0, show n0 + 18 - n0 = 18 by omega]; rfl
  have g19 : S4[n0 + 19]? = some (.exv 18 []) := by rw [hS4, hS3, hS2, hS1, hS0, List.append_assoc, List.append_assoc, List.append_assoc, List.append_assoc, List.getElem?_append_right (by omega), ← hn0, show n0 + 19 - n0 = 19 by omega]; rfl
  have g20 : S4[n0 + 20]? = some (.exv 19 []) := by rw [hS4, hS3, hS2, hS1, hS0, List.append_assoc, List.append_assoc, List.append_assoc, List.append_assoc, List.getElem?_append_right (by omega), ← hn0, show n0 + 20 - n0 = 20 by omega]; rfl
  have g21 : S4[n0 + 21]? = some (.exv 20 [.tup (bs.map D.int)]) := by rw [hS4, hS3, hS2, hS1, hS0, List.append_assoc, List.append_assoc, List.append_assoc, List.append_assoc, List.getElem?_append_right (by omega), ← hn0, show n0 + 21 - n0 = 21 by omega]; rfl
  have g22 : S4[n0 + 22]? = some (.exv 21 []) := by rw [hS4, hS3, hS2, hS1, hS0, List.append_assoc, List.append_assoc, List.append_assoc, List.append_assoc, List.getElem?_append_right (by omega), ← hn0, show n0 + 22 - n0 = 22 by omega]; rfl
  have g23 : S4[n0 + 23]? = some (.exv 22 []) := by rw [hS4, hS3, hS2, hS1, hS0, List.append_assoc, List.append_assoc, List.append_assoc, List.append_assoc, List.getElem?_append_right (by omega), ← hn0, show n0 + 23 - n0 = 23 by omega]; rfl
  have g24 : S4[n0 + 24]? = some (.exv 23 [.int h, .int n]) := by rw [hS4, hS3, hS2, hS1, hS0, List.append_assoc, List.append_assoc, List.append_assoc, List.append_assoc, List.getElem?_append_right (by omega), ← hn0, show n0 + 24 - n0 = 24 by omega]; rfl
  have g25 : S4[n0 + 25]? = some (.exv 24 []) := by rw [hS4, hS3, hS2, hS1, hS0, List.append_assoc, List.append_assoc, List.append_assoc, List.append_assoc, List.getElem?_append_right (by omega), ← hn0, show n0 + 25 - n0 = 25 by omega]; rfl
  have g26 : S4[n0 + 26]? = some (.exv 25 []) := by rw [hS4, hS3, hS2, hS1, hS0, List.append_assoc, List.append_assoc, List.append_assoc, List.append_assoc, List.getElem?_append_right (by omega), ← hn0, show n0 + 26 - n0 = 26 by omega]; rfl
  have g27 : S4[n0 + 27]? = some (.exv 26 []) := by rw [hS4, hS3, hS2, hS1, hS0, List.append_assoc, List.append_assoc, List.append_assoc, List.append_assoc, List.getElem?_append_right (by omega), ← hn0, show n0 + 27 - n0 = 27 by omega]; rfl
  have g28 : S4[n0 + 28]? = some (.exv 27 [.int h]) := by rw [hS4, hS3, hS2, hS1, hS0, List.append_assoc, List.append_assoc, List.append_assoc, List.append_assoc, List.getElem?_append_right (by omega), ← hn0, show n0 + 28 - n0 = 28 by omega]; rfl
  have g29 : S4[n0 + 29]? = some (.exv 28 []) := by rw [hS4, hS3, hS2, hS1, hS0, List.append_assoc, List.append_assoc, List.append_assoc, List.append_assoc, List.getElem?_append_right (by omega), ← hn0, show n0 + 29 - n0 = 29 by omega]; rfl
  have g30 : S4[n0 + 30]? = some (.exv 29 []) := by rw [hS4, hS3, hS2, hS1, hS0, List.append_assoc, List.append_assoc, List.append_assoc, List.append_assoc, List.getElem?_append_right (by omega), ← hn0, show n0 + 30 - n0 = 30 by omega]; rfl
  have hg : ∀ k, k < 31 → ∃ ds, S4[n0 + k]? = some (.exv (cl98 k) ds) := by
    intro k hk
    have : k = 0 ∨ k = 1 ∨ k = 2 ∨ k = 3 ∨ k = 4 ∨ k = 5 ∨ k = 6 ∨ k = 7 ∨ k = 8 ∨ k = 9 ∨ k = 10 ∨ k = 11 ∨ k = 12 ∨ k = 13 ∨ k = 14 ∨ k = 15 ∨ k = 16 ∨ k = 17 ∨ k = 18 ∨ k = 19 ∨ k = 20 ∨ k = 21 ∨ k = 22 ∨ k = 23 ∨ k = 24 ∨ k = 25 ∨ k = 26 ∨ k = 27 ∨ k = 28 ∨ k = 29 ∨ k = 30 := by omega
    rcases this with rfl | rfl | rfl | rfl | rfl | rfl | rfl | rfl | rfl | rfl | rfl | rfl | rfl | rfl | rfl | rfl | rfl | rfl | rfl | rfl | rfl | rfl | rfl | rfl | rfl | rfl | rfl | rfl | rfl | rfl | rfl
    · exact ⟨_, g0⟩
    · exact ⟨_, g1⟩
    · exact ⟨_, g2⟩
    · exact ⟨_, g3⟩
    · exact ⟨_, g4⟩
    · exact ⟨_, g5⟩
    · exact ⟨_, g6⟩
    · exact ⟨_, g7⟩
    · exact ⟨_, g8⟩
    · exact ⟨_, g9⟩
    · exact ⟨_, g10⟩
    · exact ⟨_, g11⟩
    · exact ⟨_, g12⟩
    · exact ⟨_, g13⟩
    · exact ⟨_, g14⟩
    · exact ⟨_, g15⟩
    · exact ⟨_, g16⟩
    · exact ⟨_, g17⟩
    · exact ⟨_, g18⟩
    · exact ⟨_, g19⟩
    · exact ⟨_, g20⟩
    · exact ⟨_, g21⟩
    · exact ⟨_, g22⟩
    · exact ⟨_, g23⟩
    · exact ⟨_, g24⟩
    · exact ⟨_, g25⟩
    · exact ⟨_, g26⟩
    · exact ⟨_, g27⟩
    · exact ⟨_, g28⟩
    · exact ⟨_, g29⟩
    · exact ⟨_, g30⟩
  have ap := l_102 (T := T) hg
  obtain ⟨R, hR⟩ : ∃ R, R = R98 n0 := ⟨_, rfl⟩
  have hR2 : [D.ref n0, D.ref (n0 + 1), D.ref (n0 + 2), D.ref (n0 + 3), D.ref (n0 + 4), D.ref (n0 + 5), D.ref (n0 + 6), D.ref (n0 + 7), D.ref (n0 + 8), D.ref (n0 + 9), D.ref (n0 + 10), D.ref (n0 + 11), D.ref (n0 + 12), D.ref (n0 + 13), D.ref (n0 + 14), D.ref (n0 + 15), D.ref (n0 + 16), D.ref (n0 + 17), D.ref (n0 + 18), D.ref (n0 + 19), D.ref (n0 + 20), D.ref (n0 + 21), D.ref (n0 + 22), D.ref (n0 + 23), D.ref (n0 + 24), D.ref (n0 + 25), D.ref (n0 + 26), D.ref (n0 + 27), D.ref (n0 + 28), D.ref (n0 + 29), D.ref (n0 + 30)] = R := by rw [hR]; rfl
  rw [← hR] at ap
  have i0 : ixE T (tbl T 7) (.lst R) (.int 0) S4 = .ok (.ref n0) S4 := by rw [hR]; rfl
  have i3 : ixE T (tbl T 7) (.lst R) (.int 3) S4 = .ok (.ref (n0 + 3)) S4 := by rw [hR]; rfl
  have i4 : ixE T (tbl T 7) (.lst R) (.int 4) S4 = .ok (.ref (n0 + 4)) S4 := by rw [hR]; rfl
  have i6 : ixE T (tbl T 7) (.lst R) (.int 6) S4 = .ok (.ref (n0 + 6)) S4 := by rw [hR]; rfl
  have i7 : ixE T (tbl T 7) (.lst R) (.int 7) S4 = .ok (.ref (n0 + 7)) S4 := by rw [hR]; rfl
  have i8 : ixE T (tbl T 7) (.lst R) (.int 8) S4 = .ok (.ref (n0 + 8)) S4 := by rw [hR]; rfl
  have i12 : ixE T (tbl T 7) (.lst R) (.int 12) S4 = .ok (.ref (n0 + 12)) S4 := by rw [hR]; rfl
  have i15 : ixE T (tbl T 7) (.lst R) (.int 15) S4 = .ok (.ref (n0 + 15)) S4 := by rw [hR]; rfl
  have i17 : ixE T (tbl T 7) (.lst R) (.int 17) S4 = .ok (.ref (n0 + 17)) S4 := by rw [hR]; rfl
  have i21 : ixE T (tbl T 7) (.lst R) (.int 21) S4 = .ok (.ref (n0 + 21)) S4 := by rw [hR]; rfl
  have i24 : ixE T (tbl T 7) (.lst R) (.int 24) S4 = .ok (.ref (n0 + 24)) S4 := by rw [hR]; rfl
  have i28 : ixE T (tbl T 7) (.lst R) (.int 28) S4 = .ok (.ref (n0 + 28)) S4 := by rw [hR]; rfl
  have a0_2 : atXE T (.ref n0) 2 S4 = .ok (.str p) S4 := at98 (T := T) (fs := [2]) (b := true) (j := 0) (by decide) g0 rfl rfl
  have a3_2 : atXE T (.ref (n0 + 3)) 2 S4 = .ok (.str p) S4 := at98 (T := T) (fs := [2]) (b := true) (j := 0) (by decide) g3 rfl rfl
  have a4_16 : atXE T (.ref (n0 + 4)) 16 S4 = .ok (.int a) S4 := at98 (T := T) (fs := [16]) (b := false) (j := 0) (by decide) g4 rfl rfl
  have a6_16 : atXE T (.ref (n0 + 6)) 16 S4 = .ok (.int h) S4 := at98 (T := T) (fs := [16, 17]) (b := false) (j := 0) (by decide) g6 rfl rfl
  have a6_17 : atXE T (.ref (n0 + 6)) 17 S4 = .ok (.int a) S4 := at98 (T := T) (fs := [16, 17]) (b := false) (j := 1) (by decide) g6 rfl rfl
  have a7_17 : atXE T (.ref (n0 + 7)) 17 S4 = .ok (.int a) S4 := at98 (T := T) (fs := [17]) (b := false) (j := 0) (by decide) g7 rfl rfl
  have a8_2 : atXE T (.ref (n0 + 8)) 2 S4 = .ok (.str p) S4 := at98 (T := T) (fs := [2, 19]) (b := true) (j := 0) (by decide) g8 rfl rfl
  have a8_19 : atXE T (.ref (n0 + 8)) 19 S4 = .ok (.int h) S4 := at98 (T := T) (fs := [2, 19]) (b := true) (j := 1) (by decide) g8 rfl rfl
  have a12_21 : atXE T (.ref (n0 + 12)) 21 S4 = .ok (.int a) S4 := at98 (T := T) (fs := [21]) (b := false) (j := 0) (by decide) g12 rfl rfl
  have a15_17 : atXE T (.ref (n0 + 15)) 17 S4 = .ok (.int a) S4 := at98 (T := T) (fs := [17]) (b := false) (j := 0) (by decide) g15 rfl rfl
  have a17_17 : atXE T (.ref (n0 + 17)) 17 S4 = .ok (.int a) S4 := at98 (T := T) (fs := [17]) (b := false) (j := 0) (by decide) g17 rfl rfl
  have a21_18 : atXE T (.ref (n0 + 21)) 18 S4 = .ok (.tup (bs.map D.int)) S4 := at98 (T := T) (fs := [18]) (b := false) (j := 0) (by decide) g21 rfl rfl
  have a24_19 : atXE T (.ref (n0 + 24)) 19 S4 = .ok (.int h) S4 := at98 (T := T) (fs := [19, 20]) (b := false) (j := 0) (by decide) g24 rfl rfl
  have a24_20 : atXE T (.ref (n0 + 24)) 20 S4 = .ok (.int n) S4 := at98 (T := T) (fs := [19, 20]) (b := false) (j := 1) (by decide) g24 rfl rfl
  have a28_19 : atXE T (.ref (n0 + 28)) 19 S4 = .ok (.int h) S4 := at98 (T := T) (fs := [19]) (b := false) (j := 0) (by decide) g28 rfl rfl
  have cs := cne_str (T := T) (cf := tbl T 7) (st := S4) p
  have cb := cne_bits (T := T) (cf := tbl T 7) (st := S4) bs
  refine ⟨S4, ?_⟩
  simp only [B103]
  refine seq_go (ρ' := [some (.scr ns), some (.ref 0), none, none, none, none, none, none, none]) (st' := st4 0 0 0 0) (by simp [pkB, truthS, isAny, setfD, setAll, noBl, asBl, noEr, xatD, xisD, under, raisable, isErr, LINE, st4]) ?_
  refine seq_go (ρ' := [some (.scr ns), some (.ref 0), some (.int a), none, none, none, none, none, none]) (st' := s1) (by simp [pkB, truthS, isAny, setfD, setAll, noBl, asBl, noEr, xatD, xisD, under, raisable, isErr, LINE, e1]) ?_
  refine seq_go (ρ' := [some (.scr ns), some (.ref 0), some (.int a), some (.int h), none, none, none, none, none]) (st' := s2) (by simp [pkB, truthS, isAny, setfD, setAll, noBl, asBl, noEr, xatD, xisD, under, raisable, isErr, LINE, e2]) ?_
  refine seq_go (ρ' := [some (.scr ns), some (.ref 0), some (.int a), some (.int h), some (.int n), none, none, none, none]) (st' := s3) (by simp [pkB, truthS, isAny, setfD, setAll, noBl, asBl, noEr, xatD, xisD, under, raisable, isErr, LINE, e3]) ?_
  refine seq_go (ρ' := [some (.scr ns), some (.ref 0), some (.int a), some (.int h), some (.int n), some (.str p), none, none, none]) (st' := s4) (by simp [pkB, truthS, isAny, setfD, setAll, noBl, asBl, noEr, xatD, xisD, under, raisable, isErr, LINE, e4, em]) ?_
  refine seq_go (ρ' := [some (.scr ns), some (.ref 0), some (.int a), some (.int h), some (.int n), some (.str p), some (.tup (bs.map D.int)), none, none]) (st' := s6) (by simp [pkB, truthS, isAny, setfD, setAll, noBl, asBl, noEr, xatD, xisD, under, raisable, isErr, LINE, cc, -evE_comp]) ?_
  refine seq_go (ρ' := [some (.scr ns), some (.ref 0), some (.int a), some (.int h), some (.int n), some (.str p), some (.tup (bs.map D.int)), some (.lst [D.ref n0, D.ref (n0 + 1), D.ref (n0 + 2), D.ref (n0 + 3), D.ref (n0 + 4), D.ref (n0 + 5), D.ref (n0 + 6)]), none]) (st' := S0) (by rw [hS0]; simp [pkB, truthS, isAny, setfD, setAll, noBl, asBl, noEr, xatD, xisD, under, raisable, isErr, LINE, m0, m1, m2, m3, m4, m5, m6, hn0.symm, Nat.add_assoc]) ?_
  have q1 : ∀ st, binE T (tbl T 7) .add (.lst [D.ref n0, D.ref (n0 + 1), D.ref (n0 + 2), D.ref (n0 + 3), D.ref (n0 + 4), D.ref (n0 + 5), D.ref (n0 + 6)]) (.lst [D.ref (n0 + 7), D.ref (n0 + 8), D.ref (n0 + 9), D.ref (n0 + 10), D.ref (n0 + 11), D.ref (n0 + 12)]) st = .ok (.own [D.ref n0, D.ref (n0 + 1), D.ref (n0 + 2), D.ref (n0 + 3), D.ref (n0 + 4), D.ref (n0 + 5), D.ref (n0 + 6), D.ref (n0 + 7), D.ref (n0 + 8), D.ref (n0 + 9), D.ref (n0 + 10), D.ref (n0 + 11), D.ref (n0 + 12)]) st := fun st => addLL (by simp [LINE])
  refine seq_go (ρ' := [some (.scr ns), some (.ref 0), some (.int a), some (.int h), some (.int n), some (.str p), some (.tup (bs.map D.int)), some (.lst [D.ref n0, D.ref (n0 + 1), D.ref (n0 + 2), D.ref (n0 + 3), D.ref (n0 + 4), D.ref (n0 + 5), D.ref (n0 + 6), D.ref (n0 + 7), D.ref (n0 + 8), D.ref (n0 + 9), D.ref (n0 + 10), D.ref (n0 + 11), D.ref (n0 + 12)]), none]) (st' := S1) (by rw [hS1]; simp [pkB, truthS, isAny, setfD, setAll, noBl, asBl, noEr, xatD, xisD, under, raisable, isErr, LINE, m7, m8, m9, m10, m11, m12, q1, l0, Nat.add_assoc]) ?_
  have q2 : ∀ st, binE T (tbl T 7) .add (.lst [D.ref n0, D.ref (n0 + 1), D.ref (n0 + 2), D.ref (n0 + 3), D.ref (n0 + 4), D.ref (n0 + 5), D.ref (n0 + 6), D.ref (n0 + 7), D.ref (n0 + 8), D.ref (n0 + 9), D.ref (n0 + 10), D.ref (n0 + 11), D.ref (n0 + 12)]) (.lst [D.ref (n0 + 13), D.ref (n0 + 14), D.ref (n0 + 15), D.ref (n0 + 16), D.ref (n0 + 17), D.ref (n0 + 18), D.ref (n0 + 19), D.ref (n0 + 20)]) st = .ok (.own [D.ref n0, D.ref (n0 + 1), D.ref (n0 + 2), D.ref (n0 + 3), D.ref (n0 + 4), D.ref (n0 + 5), D.ref (n0 + 6), D.ref (n0 + 7), D.ref (n0 + 8), D.ref (n0 + 9), D.ref (n0 + 10), D.ref (n0 + 11), D.ref (n0 + 12), D.ref (n0 + 13), D.ref (n0 + 14), D.ref (n0 + 15), D.ref (n0 + 16), D.ref (n0 + 17), D.ref (n0 + 18), D.ref (n0 + 19), D.ref (n0 + 20)]) st := fun st => addLL (by simp [LINE])
  refine seq_go (ρ' := [some (.scr ns), some (.ref 0), some (.int a), some (.int h), some (.int n), some (.str p), some (.tup (bs.map D.int)), some (.lst [D.ref n0, D.ref (n0 + 1), D.ref (n0 + 2), D.ref (n0 + 3), D.ref (n0 + 4), D.ref (n0 + 5), D.ref (n0 + 6), D.ref (n0 + 7), D.ref (n0 + 8), D.ref (n0 + 9), D.ref (n0 + 10), D.ref (n0 + 11), D.ref (n0 + 12), D.ref (n0 + 13), D.ref (n0 + 14), D.ref (n0 + 15), D.ref (n0 + 16), D.ref (n0 + 17), D.ref (n0 + 18), D.ref (n0 + 19), D.ref (n0 + 20)]), none]) (st' := S2) (by rw [hS2]; simp [pkB, truthS, isAny, setfD, setAll, noBl, asBl, noEr, xatD, xisD, under, raisable, isErr, LINE, m13, m14, m15, m16, m17, m18, m19, m20, q2, l1, Nat.add_assoc]) ?_
  have q3 : ∀ st, binE T (tbl T 7) .add (.lst [D.ref n0, D.ref (n0 + 1), D.ref (n0 + 2), D.ref (n0 + 3), D.ref (n0 + 4), D.ref (n0 + 5), D.ref (n0 + 6), D.ref (n0 + 7), D.ref (n0 + 8), D.ref (n0 + 9), D.ref (n0 + 10), D.ref (n0 + 11), D.ref (n0 + 12), D.ref (n0 + 13), D.ref (n0 + 14), D.ref (n0 + 15), D.ref (n0 + 16), D.ref (n0 + 17), D.ref (n0 + 18), D.ref (n0 + 19), D.ref (n0 + 20)]) (.lst [D.ref (n0 + 21), D.ref (n0 + 22), D.ref (n0 + 23), D.ref (n0 + 24), D.ref (n0 + 25), D.ref (n0 + 26), D.ref (n0 + 27)]) st = .ok (.own [D.ref n0, D.ref (n0 + 1), D.ref (n0 + 2), D.ref (n0 + 3), D.ref (n0 + 4), D.ref (n0 + 5), D.ref (n0 + 6), D.ref (n0 + 7), D.ref (n0 + 8), D.ref (n0 + 9), D.ref (n0 + 10), D.ref (n0 + 11), D.ref (n0 + 12), D.ref (n0 + 13), D.ref (n0 + 14), D.ref (n0 + 15), D.ref (n0 + 16), D.ref (n0 + 17), D.ref (n0 + 18), D.ref (n0 + 19), D.ref (n0 + 20), D.ref (n0 + 21), D.ref (n0 + 22), D.ref (n0 + 23), D.ref (n0 + 24), D.ref (n0 + 25), D.ref (n0 + 26), D.ref (n0 + 27)]) st := fun st => addLL (by simp [LINE])
  refine seq_go (ρ' := [some (.scr ns), some (.ref 0), some (.int a), some (.int h), some (.int n), some (.str p), some (.tup (bs.map D.int)), some (.lst [D.ref n0, D.ref (n0 + 1), D.ref (n0 + 2), D.ref (n0 + 3), D.ref (n0 + 4), D.ref (n0 + 5), D.ref (n0 + 6), D.ref (n0 + 7), D.ref (n0 + 8), D.ref (n0 + 9), D.ref (n0 + 10), D.ref (n0 + 11), D.ref (n0 + 12), D.ref (n0 + 13), D.ref (n0 + 14), D.ref (n0 + 15), D.ref (n0 + 16), D.ref (n0 + 17), D.ref (n0 + 18), D.ref (n0 + 19), D.ref (n0 + 20), D.ref (n0 + 21), D.ref (n0 + 22), D.ref (n0 + 23), D.ref (n0 + 24), D.ref (n0 + 25), D.ref (n0 + 26), D.ref (n0 + 27)]), none]) (st' := S3) (by rw [hS3]; simp [pkB, truthS, isAny, setfD, setAll, noBl, asBl, noEr, xatD, xisD, under, raisable, isErr, LINE, m21, m22, m23, m24, m25, m26, m27, q3, l2, Nat.add_assoc]) ?_
  have q4 : ∀ st, binE T (tbl T 7) .add (.lst [D.ref n0, D.ref (n0 + 1), D.ref (n0 + 2), D.ref (n0 + 3), D.ref (n0 + 4), D.ref (n0 + 5), D.ref (n0 + 6), D.ref (n0 + 7), D.ref (n0 + 8), D.ref (n0 + 9), D.ref (n0 + 10), D.ref (n0 + 11), D.ref (n0 + 12), D.ref (n0 + 13), D.ref (n0 + 14), D.ref (n0 + 15), D.ref (n0 + 16), D.ref (n0 + 17), D.ref (n0 + 18), D.ref (n0 + 19), D.ref (n0 + 20), D.ref (n0 + 21), D.ref (n0 + 22), D.ref (n0 + 23), D.ref (n0 + 24), D.ref (n0 + 25), D.ref (n0 + 26), D.ref (n0 + 27)]) (.lst [D.ref (n0 + 28), D.ref (n0 + 29), D.ref (n0 + 30)]) st = .ok (.own [D.ref n0, D.ref (n0 + 1), D.ref (n0 + 2), D.ref (n0 + 3), D.ref (n0 + 4), D.ref (n0 + 5), D.ref (n0 + 6), D.ref (n0 + 7), D.ref (n0 + 8), D.ref (n0 + 9), D.ref (n0 + 10), D.ref (n0 + 11), D.ref (n0 + 12), D.ref (n0 + 13), D.ref (n0 + 14), D.ref (n0 + 15), D.ref (n0 + 16), D.ref (n0 + 17), D.ref (n0 + 18), D.ref (n0 + 19), D.ref (n0 + 20), D.ref (n0 + 21), D.ref (n0 + 22), D.ref (n0 + 23), D.ref (n0 + 24), D.ref (n0 + 25), D.ref (n0 + 26), D.ref (n0 + 27), D.ref (n0 + 28), D.ref (n0 + 29), D.ref (n0 + 30)]) st := fun st => addLL (by simp [LINE])
  refine seq_go (ρ' := [some (.scr ns), some (.ref 0), some (.int a), some (.int h), some (.int n), some (.str p), some (.tup (bs.map D.int)), some (.lst R), none]) (st' := S4) (by rw [hS4, ← hR2]; simp [pkB, truthS, isAny, setfD, setAll, noBl, asBl, noEr, xatD, xisD, under, raisable, isErr, LINE, m28, m29, m30, q4, l3, Nat.add_assoc]) ?_
  refine seq_go (ρ' := [some (.scr ns), some (.ref 0), some (.int a), some (.int h), some (.int n), some (.str p), some (.tup (bs.map D.int)), some (.lst R), none]) (st' := S4) (by simp [pkB, truthS, isAny, setfD, setAll, noBl, asBl, noEr, xatD, xisD, under, raisable, isErr, LINE, ap]) ?_
  refine seq_go (ρ' := [some (.scr ns), some (.ref 0), some (.int a), some (.int h), some (.int n), some (.str p), some (.tup (bs.map D.int)), some (.lst R), none]) (st' := S4) (by simp [pkB, truthS, isAny, setfD, setAll, noBl, asBl, noEr, xatD, xisD, under, raisable, isErr, LINE, i0, i3, i4, i6, i7, i8, i12, i15, i17, i21, i24, i28, a0_2, a3_2, a4_16, a6_16, a6_17, a7_17, a8_2, a8_19, a12_21, a15_17, a17_17, a21_18, a24_19, a24_20, a28_19, cs, cb]) ?_
  refine seq_go (ρ' := [some (.scr ns), some (.ref 0), some (.int a), some (.int h), some (.int n), some (.str p), some (.tup (bs.map D.int)), some (.lst R), none]) (st' := S4) (by simp [pkB, truthS, isAny, setfD, setAll, noBl, asBl, noEr, xatD, xisD, under, raisable, isErr, LINE, i0, i3, i4, i6, i7, i8, i12, i15, i17, i21, i24, i28, a0_2, a3_2, a4_16, a6_16, a6_17, a7_17, a8_2, a8_19, a12_21, a15_17, a17_17, a21_18, a24_19, a24_20, a28_19, cs, cb]) ?_
  refine seq_go (ρ' := [some (.scr ns), some (.ref 0), some (.int a), some (.int h), some (.int n), some (.str p), some (.tup (bs.map D.int)), some (.lst R), none]) (st' := S4) (by simp [pkB, truthS, isAny, setfD, setAll, noBl, asBl, noEr, xatD, xisD, under, raisable, isErr, LINE, i0, i3, i4, i6, i7, i8, i12, i15, i17, i21, i24, i28, a0_2, a3_2, a4_16, a6_16, a6_17, a7_17, a8_2, a8_19, a12_21, a15_17, a17_17, a21_18, a24_19, a24_20, a28_19, cs, cb]) ?_
  refine seq_go (ρ' := [some (.scr ns), some (.ref 0), some (.int a), some (.int h), some (.int n), some (.str p), some (.tup (bs.map D.int)), some (.lst R), none]) (st' := S4) (by simp [pkB, truthS, isAny, setfD, setAll, noBl, asBl, noEr, xatD, xisD, under, raisable, isErr, LINE, i0, i3, i4, i6, i7, i8, i12, i15, i17, i21, i24, i28, a0_2, a3_2, a4_16, a6_16, a6_17, a7_17, a8_2, a8_19, a12_21, a15_17, a17_17, a21_18, a24_19, a24_20, a28_19, cs, cb]) ?_
  simp [pkB, truthS, isAny, setfD, setAll, noBl, asBl, noEr, xatD, xisD, under, raisable, isErr, LINE, i0, i3, i4, i6, i7, i8, i12, i15, i17, i21, i24, i28, a0_2, a3_2, a4_16, a6_16, a6_17, a7_17, a8_2, a8_19, a12_21, a15_17, a17_17, a21_18, a24_19, a24_20, a28_19, cs, cb]
end
end Ev
set_option Elab.async false
set_option linter.all false
namespace K98
open Ev Lib
instance : HasK98 S.T where
  f0 := rfl
  cls98 := by decide +kernel
  isx98 := by decide +kernel
  isn98 := by decide +kernel
  isi98 := by decide +kernel
  isi1 := by decide
  isv1 := by decide
  f100 := rfl
  f101 := rfl
  f102 := rfl
theorem law_ev (ns : List Int) (_ : ns.length ≤ 63) : ∃ st, call S.T 103 [.scr ns] [] = .ok (.bl true) st := by
  obtain ⟨st, e⟩ := k98_law (T := S.T) ns
  refine ⟨st, ?_⟩
  rw [run_103]
  have e' : exS S.T (tbl S.T 7) B103 [some (.scr ns), none, none, none, none, none, none, none, none] [] = .rt (.bl true) st := e
  rw [e']
  rfl
end K98
open PySem PySem.W PySem.Calls PyProof.Rows in
theorem PySem.Challenge.cw_spreadshrinks_k98_all_errors_apart_holds : PySem.Challenge.rw_spreadshrinks_k98_all_errors_apart.Holds := by
  w_on; o_law
  refine HandSHeadRun.head_any (r := OpenLaw.row PySem.Challenge.rw_spreadshrinks_k98_all_errors_apart) (q := view (OpenLaw.row PySem.Challenge.rw_spreadshrinks_k98_all_errors_apart).prog [38]) (H := K98.hook) (ob := K98.ob) (M := 20000) (loose := K98.loose) (d := HandSHeadRun.topDef (OpenLaw.row PySem.Challenge.rw_spreadshrinks_k98_all_errors_apart).prog 38) (kwd := []) K98.ob_eq
    (by kernel_rfl) (fun s => by kernel_rfl) K98.run (by kernel_rfl) (by kernel_rfl) (by kernel_rfl) (by rfl) (by first | assumption | decide +kernel) (by decide +kernel) ⟨rfl, rfl, rfl, rfl, rfl, by decide +kernel⟩ ?hw ?hc
  case hw => w_witness2
  case hc =>
    exact Snd.law_walk (l := PySem.Challenge.rw_spreadshrinks_k98_all_errors_apart) (S := K98.S) (n := 63) (f := 103) (F := K98.F103) (x := "_law_script") rfl (by decide) (by kernel_rfl) ⟨rfl, by decide, by decide⟩ rfl rfl rfl rfl rfl (by kernel_rfl) rfl rfl K98.good K98.law_ev
