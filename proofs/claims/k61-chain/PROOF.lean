import PyProof.Rows.All
import Wide.All
import OpenK.AllK
import Wide.FinOn
import HandS.TupMul
import HandS.TupAny
import HandS.WideBits
import HandS.ForExc
import HandS.Comp
import HandS.Iter
import HandS.IsInst
import HandS.Property
import HandS.Defaults
import HandS.HeadHook2
import HandS.HeadEnd
import HandS.Head2
import HandS.Gcd
import HandS.Wide
import HandS.ExcSuper
import HandS.ExcInit
import HandS.ExcField
import HandS.FStr
import HandS.Flow
import HandS.Style
import HandS.Dict
import HandS.DictComp
import HandS.HeadWalk
import KE.KExcSuper
import HandS.ExcIs
import HandS.OwnEq
import PyProof.NeKinds
import KE.KOpsOwn
import KE.KCallOwn
import HandS.Head3
import HandS.RaiseMore
import HandS.Conv
import HandS.Zip
import PyProof.EnumMake
import HandS.Codes
import HandS.Text
import HandS.Star
import HandS.More
import HandS.List
import PyProof.TableCode
import PySem.Challenge.RW_spreadshrinks_k61_whole_chain_of_every_s
/-! Ev: a small evaluator for the erased text (plain Lean). -/
namespace Ev

/-- data: a text is its codes; own: a list that nobody else holds; scr: the script; ins: an instance, its fields in the order of its class; obj: self within __init__; ref: an object of the store; exc: a caught error -/
inductive D where
  | non | bl (b : Bool) | int (i : Int) | str (s : List Nat)
  | tup (ds : List D) | lst (ds : List D) | own (ds : List D) | scr (ns : List Int)
  | ins (c : Nat) (ds : List D) | obj (c : Nat) (ds : List D)
  | ref (k : Nat) | exc (c : Nat) (ds : List D) | nim
  deriving Inhabited

/-- an object of the store -/
inductive Ob where
  | lst (ds : List D) | ins (c : Nat) (ds : List D) | dct (kvs : List (D × D))
  deriving Inhabited
abbrev Sto := List Ob
/-- an error: its class, its attributes -/
structure Xn where
  c : Nat
  ds : List D
  deriving Inhabited

inductive R (α : Type) where
  | ok (a : α) (S : Sto) | er (x : Xn) (S : Sto) | no

def R.bind {α β : Type} (r : R α) (k : α → Sto → R β) : R β := match r with
  | .ok a S => k a S
  | .er x S => .er x S
  | .no => .no
@[simp] theorem bind_ok {α β : Type} (a : α) (S : Sto) (k : α → Sto → R β) : (R.ok a S).bind k = k a S := rfl
@[simp] theorem bind_er {α β : Type} (x : Xn) (S : Sto) (k : α → Sto → R β) : (R.er x S : R α).bind k = .er x S := rfl
@[simp] theorem bind_no {α β : Type} (k : α → Sto → R β) : (R.no : R α).bind k = .no := rfl
/-- a value, or stuck -/
def R.of {α : Type} (o : Option α) (S : Sto) : R α := match o with
  | some a => .ok a S
  | none => .no
@[simp] theorem of_some {α : Type} (a : α) (S : Sto) : R.of (some a) S = .ok a S := rfl
@[simp] theorem of_none {α : Type} (S : Sto) : (R.of none S : R α) = .no := rfl

/-! ### the erased text -/
inductive BO where
  | add | sub | mul | fdv | mod | pow | band | shr
  deriving DecidableEq
inductive CO where
  | eq | ne | lt | le | gt | ge | is_ | isn | in_ | nin
  deriving DecidableEq
/-- what isinstance is asked of -/
inductive TY where
  | int | bool | str | tuple | list | dict | verr | cls (c : Nat)
  deriving DecidableEq
/-- built-in functions -/
inductive BI where
  | len | int | str | list | tuple | abs | sum | sorted | gcd | range1 | range2 | min2 | min1 | max1
  deriving DecidableEq
mutual
inductive E where
  | non | bl (b : Bool) | int (i : Int) | str (s : List Nat)
  | var (i : Nat) | con (j : Nat)
  | neg (a : E) | not (a : E)
  | bin (o : BO) (a b : E) | cmp (o : CO) (a b : E) | chain (o p : CO) (a b c : E)
  | and (a b : E) | or (a b : E) | ite (t : Tt) (a b : E)
  | call (f : Nat) (as : Es) | make (c : Nat) (as : Es) | meth (m : Nat) (a : E) (as : Es) | attr (a : E) (m : Nat)
  | bi (b : BI) (as : Es) | isi (a : E) (ts : List TY)
  | tup (as : Es) | lst (as : Es)
  | ix (a i : E) | sl (a lo hi : E) | nop
  | comp (is : List Nat) (e : E) (src : It) (t : Tt)
  | fst (as : Es)
  | sto (a : E)
  | xat (i m : Nat) | xis (i : Nat) (t : TY)
  | stuck | frz (a : E) | inv (a : E) (as : Es) | dnew | pop (a i : E)
  | dcomp (is : List Nat) (k v : E) (src : It) (t : Tt)
  | comp2 (is : List Nat) (src : It) (is2 : List Nat) (src2 : It) (e : E) (t : Tt)
inductive Es where
  | nil | cons (a : E) (as : Es)
/-- a test -/
inductive Tt where
  | e (a : E) | not (a : Tt) | and (a b : Tt) | or (a b : Tt)
inductive It where
  | seq (a : E) | rng (as : Es) | enum (a : E) | zip (a b : E) | rev (a : E)
end
inductive S where
  | stuck | appr (a v : E)
  | skip | seq (s r : S) | expr (a : E)
  | set (i : Nat) (a : E) | own (i : Nat) (a : E) | unp (is : List Nat) (a : E) | frz (i : Nat)
  | setf (m : Nat) (a : E) | seti (a i v : E) | ownseti (x : Nat) (i v : E)
  | aug (x : Nat) (o : BO) (a : E)
  | app (x : Nat) (a : E) | insr (x : Nat) (i a : E)
  | ret (a : E) | retm (i : Nat) | ret0
  | ifs (t : Tt) (a b : S) | for_ (ts : List Nat) (src : It) (b : S) | while_ (t : Tt) (b : S)
  | forS (i : Nat) (a : E) (b : S)
  | brk | cnt | raise (c : Nat) (as : Es)
  | try_ (b hs : S) | hnd (c : Nat) (x : Option Nat) (h r : S)

/-! ### the table -/
/-- a class: its fields, its methods and properties by the attributes' numbers, __init__ -/
structure Cls where
  fields : List Nat
  meths : List (Nat × Nat) := []
  props : List (Nat × Nat) := []
  init : Nat := 0
  /-- how many arguments __init__ takes behind self; the defaults of its last ones -/
  np : Nat := 0
  dfl : List D := []
  /-- an error's class -/
  exc : Bool := false
  /-- its text is made of its first field -/
  cat : Bool := false
  /-- the classes above it -/
  up : List Nat := []
structure Fn where
  np : Nat
  nl : Nat
  body : S
  /-- the class whose __init__ it is -/
  ini : Option Nat := none
  /-- above the levels of all that it calls -/
  lv : Nat
structure Tab where
  cls : Nat → Option Cls
  con : Nat → D
  fn : Nat → Option Fn
  /-- the functions of the operators: of a class, left and right -/
  bop : Nat → BO → Option Nat
  rop : Nat → BO → Option Nat
  cop : Nat → CO → Option Nat
  neg : Nat → Option Nat := fun _ => none
  abs : Nat → Option Nat := fun _ => none
  str : Nat → Option Nat := fun _ => none
  get : Nat → Option Nat := fun _ => none
  len : Nat → Option Nat := fun _ => none
  inv : Nat → Option Nat := fun _ => none
  /-- what isinstance is asked of anywhere -/
  isi : List TY := []

/-! ### values -/
def small (i : Int) : Bool := decide (-(18446744073709551616) < i) && decide (i < 18446744073709551616)
def mulOk (i j : Int) : Bool := small i || small j || decide (i.natAbs.log2 + j.natAbs.log2 < 1000000)
def divOk (j : Int) : Bool := decide (j ≠ 0) && decide (j.natAbs.log2 < 9000)
def LINE : Nat := 1000000
/-- a list as it may be read -/
def asL : D → Option (List D)
  | .lst ds => some ds
  | .own ds => some ds
  | _ => none
/-- kept elsewhere: an own list becomes one that is not changed any more -/
def fz : D → D
  | .own ds => .lst ds
  | d => d
@[simp] theorem fz_own (ds : List D) : fz (.own ds) = .lst ds := rfl
@[simp] theorem fz_lst (ds : List D) : fz (.lst ds) = .lst ds := rfl
@[simp] theorem fz_int (i : Int) : fz (.int i) = .int i := rfl
@[simp] theorem fz_bl (i : Bool) : fz (.bl i) = .bl i := rfl
@[simp] theorem fz_non : fz .non = .non := rfl
@[simp] theorem fz_str (s) : fz (.str s) = .str s := rfl
@[simp] theorem fz_tup (ds) : fz (.tup ds) = .tup ds := rfl
@[simp] theorem fz_ins (c ds) : fz (.ins c ds) = .ins c ds := rfl
@[simp] theorem fz_ref (c) : fz (.ref c) = .ref c := rfl
@[simp] theorem fz_scr (c) : fz (.scr c) = .scr c := rfl

def binD : BO → D → D → Option D
  | .add, .int a, .int b => some (.int (a + b))
  | .sub, .int a, .int b => some (.int (a - b))
  | .mul, .int a, .int b => if mulOk a b then some (.int (a * b)) else none
  | .fdv, .int a, .int b => if divOk b then some (.int (a.fdiv b)) else none
  | .mod, .int a, .int b => if b ≠ 0 then some (.int (a.fmod b)) else none
  | .pow, .int a, .int b => if 0 ≤ b ∧ b ≤ 1000000 ∧ small a then some (.int (a ^ b.toNat)) else none
  | .add, .str s, .str t => if s.length + t.length ≤ LINE then some (.str (s ++ t)) else none
  | .band, .int a, .int b => if 0 ≤ a ∧ b = 1 then some (.int (a.fmod 2)) else none
  | .add, .tup a, .tup b => if a.length + b.length ≤ LINE then some (.tup (a ++ b)) else none
  | .mul, .tup a, .int n => if a.isEmpty = false ∧ -1000 ≤ n ∧ n ≤ 1000 ∧ a.length ≤ 1000 then some (.tup (List.replicate n.toNat a).flatten) else none
  | _, _, _ => none
/-- of whole numbers, in place -/
def augD : BO → D → D → Option D
  | .add, .int a, .int b => some (.int (a + b))
  | .sub, .int a, .int b => some (.int (a - b))
  | _, _, _ => none
/-- what is no object -/
def flat : D → Bool
  | .non => true | .bl _ => true | .int _ => true | .str _ => true
  | _ => false
/-- == of flat data -/
def eqF : D → D → Option Bool
  | .non, .non => some true | .non, .int _ => some false | .int _, .non => some false | .non, .bl _ => some false | .bl _, .non => some false
  | .non, .str _ => some false | .str _, .non => some false
  | .int a, .int b => some (decide (a = b)) | .bl a, .bl b => some (decide (a = b)) | .str a, .str b => some (decide (a = b))
  | .int _, .str _ => some false | .str _, .int _ => some false | .bl _, .str _ => some false | .str _, .bl _ => some false
  | _, _ => none
/-- what a row is: a list, a tuple -/
def rowOf : D → Option (Bool × List D)
  | .lst ds => some (true, ds)
  | .own ds => some (true, ds)
  | .tup ds => some (false, ds)
  | _ => none
/-- == of flat data, truth values as numbers -/
def eqB : D → D → Option Bool
  | .bl a, .int b => some (decide ((if a then 1 else 0) = b))
  | .int a, .bl b => some (decide (a = (if b then 1 else 0)))
  | a, b => eqF a b
/-- in a row of flat data: none of them a truth value, nor the thing -/
def noBl : D → Bool
  | .non => true | .int _ => true | .str _ => true
  | _ => false
def leafEq : D → D → Bool
  | .non, .non => true
  | .int a, .int b => decide (a = b)
  | .str a, .str b => decide (a = b)
  | _, _ => false
def inF (x : D) (ds : List D) : Option Bool := if noBl x && ds.all noBl then some (ds.any fun d => leafEq d x) else none
def seqOf : D → Option (List D)
  | .lst ds => some ds
  | .own ds => some ds
  | .tup ds => some ds
  | _ => none
def isNon : D → Bool
  | .non => true
  | _ => false
def cmpD : CO → D → D → Option Bool
  | .eq, a, b => eqF a b
  | .ne, a, b => (eqF a b).map (!·)
  | .lt, .int a, .int b => some (decide (a < b))
  | .le, .int a, .int b => some (decide (a ≤ b))
  | .gt, .int a, .int b => some (decide (b < a))
  | .ge, .int a, .int b => some (decide (b ≤ a))
  | .is_, .bl a, .bl b => some (decide (a = b))
  | .is_, d, .non => some (isNon d)
  | .isn, d, .non => some (!isNon d)
  | .in_, x, y => (seqOf y).bind (inF x)
  | .nin, x, y => ((seqOf y).bind (inF x)).map (!·)
  | _, _, _ => none
def truth : D → Option Bool
  | .non => some false
  | .bl b => some b
  | .int i => some (i != 0)
  | .tup ds => some (!ds.isEmpty)
  | .lst ds => some (!ds.isEmpty)
  | .own ds => some (!ds.isEmpty)
  | _ => none
/-- the place that an index means -/
def ixN (n : Nat) (i : Int) : Option Nat := if 0 ≤ i then (if i < n then some i.toNat else none) else if -(n : Int) ≤ i then some (i + n).toNat else none
def atI {α : Type} (xs : List α) (i : Int) : Option α := (ixN xs.length i).bind fun j => xs[j]?
def sIx (n d : Nat) : Option Int → Nat
  | none => d
  | some v => if v < 0 then (v + (n : Int)).toNat else min v.toNat n
def cutL {α : Type} (xs : List α) (lo hi : Option Int) : List α := (xs.drop (sIx xs.length 0 lo)).take (sIx xs.length xs.length hi - sIx xs.length 0 lo)
/-- the kinds of data, as isinstance asks -/
inductive Kd where
  | int | bool | str | non | tuple | list | dict | ins (c : Nat) | exc (c : Nat)
  deriving DecidableEq
def kdOf : D → Option Kd
  | .int _ => some .int | .bl _ => some .bool | .str _ => some .str | .non => some .non | .tup _ => some .tuple | .lst _ => some .list | .own _ => some .list
  | .ins c _ => some (.ins c) | .exc c _ => some (.exc c)
  | _ => none
def kdIs (T : Tab) : Kd → TY → Option Bool
  | k, .cls j => (match T.cls j with
    | none => none
    | some _ => (match k with
      | .ins c => (match T.cls c with
        | some C => if C.exc then none else some (decide (c = j))
        | none => none)
      | .exc c => (match T.cls c with
        | some C => if C.exc then some (decide (c = j) || C.up.contains j) else none
        | none => none)
      | _ => some false))
  | .ins c, _ => (match T.cls c with
    | some C => if C.exc then none else some false
    | none => none)
  | .exc c, t => (match T.cls c with
    | some C => if C.exc then some (t == .verr) else none
    | none => none)
  | .int, t => some (t == .int)
  | .bool, t => some (t == .int || t == .bool)
  | .str, t => some (t == .str)
  | .non, _ => some false
  | .tuple, t => some (t == .tuple)
  | .list, t => some (t == .list)
  | .dict, t => some (t == .dict)
def isInst (T : Tab) (k : Kd) (t : TY) : Option Bool := if T.isi.contains t then kdIs T k t else none
def isAny (T : Tab) (d : Kd) : List TY → Option Bool
  | [] => some false
  | t :: ts => match isInst T d t with
    | some true => some true
    | some false => isAny T d ts
    | none => none
/-- the kind of a datum, an object of the store too -/
def kdS (st : Sto) : D → Option Kd
  | .ref r => (match st[r]? with
    | some (.lst _) => some .list
    | some (.dct _) => some .dict
    | _ => none)
  | d => kdOf d
/-- a row that is read -/
def seqS (st : Sto) : D → Option (List D)
  | .ref r => (match st[r]? with
    | some (.lst ds) => some ds
    | _ => none)
  | d => seqOf d
/-- a list that is read -/
def lstS (st : Sto) : D → Option (List D)
  | .ref r => (match st[r]? with
    | some (.lst ds) => some ds
    | _ => none)
  | d => asL d
def truthS (st : Sto) : D → Option Bool
  | .ref r => (match st[r]? with
    | some (.lst ds) => some (!ds.isEmpty)
    | _ => none)
  | d => truth d
/-! dicts of the store: their keys are whole numbers or texts -/
def keyEq : D → D → Bool
  | .int a, .int b => decide (a = b)
  | .str a, .str b => decide (a = b)
  | _, _ => false
def isKey : D → Bool
  | .int _ => true
  | .str _ => true
  | _ => false
def dGet (kvs : List (D × D)) (k : D) : Option D := (kvs.find? fun kv => keyEq kv.1 k).map (·.2)
def dPut (kvs : List (D × D)) (k v : D) : List (D × D) := if (dGet kvs k).isSome then kvs.map fun kv => if keyEq kv.1 k then (kv.1, v) else kv else kvs ++ [(k, v)]
/-! data that are the same -/
mutual
def dBeq : D → D → Bool
  | .non, .non => true
  | .bl a, .bl b => a == b
  | .int a, .int b => decide (a = b)
  | .str a, .str b => decide (a = b)
  | .tup a, .tup b => dsBeq a b
  | .lst a, .lst b => dsBeq a b
  | .own a, .own b => dsBeq a b
  | .scr a, .scr b => decide (a = b)
  | .ins c a, .ins k b => c == k && dsBeq a b
  | .obj c a, .obj k b => c == k && dsBeq a b
  | .ref a, .ref b => a == b
  | .exc c a, .exc k b => c == k && dsBeq a b
  | .nim, .nim => true
  | _, _ => false
def dsBeq : List D → List D → Bool
  | [], [] => true
  | a :: as, b :: bs => dBeq a b && dsBeq as bs
  | _, _ => false
end
def kvBeq : List (D × D) → List (D × D) → Bool
  | [], [] => true
  | a :: as, b :: bs => dBeq a.1 b.1 && dBeq a.2 b.2 && kvBeq as bs
  | _, _ => false
def obBeq : Ob → Ob → Bool
  | .lst a, .lst b => dsBeq a b
  | .ins c a, .ins k b => c == k && dsBeq a b
  | .dct a, .dct b => kvBeq a b
  | _, _ => false
def stEq : Sto → Sto → Bool
  | [], [] => true
  | a :: as, b :: bs => obBeq a b && stEq as bs
  | _, _ => false
mutual
theorem dBeq_refl : ∀ d : D, dBeq d d = true
  | .non => rfl
  | .bl a => by simp [dBeq]
  | .int a => by simp [dBeq]
  | .str a => by simp [dBeq]
  | .tup a => by simp [dBeq, dsBeq_refl a]
  | .lst a => by simp [dBeq, dsBeq_refl a]
  | .own a => by simp [dBeq, dsBeq_refl a]
  | .scr a => by simp [dBeq]
  | .ins c a => by simp [dBeq, dsBeq_refl a]
  | .obj c a => by simp [dBeq, dsBeq_refl a]
  | .ref a => by simp [dBeq]
  | .exc c a => by simp [dBeq, dsBeq_refl a]
  | .nim => rfl
theorem dsBeq_refl : ∀ d : List D, dsBeq d d = true
  | [] => rfl
  | a :: as => by simp [dsBeq, dBeq_refl a, dsBeq_refl as]
end
theorem kvBeq_refl : ∀ l, kvBeq l l = true
  | [] => rfl
  | a :: as => by simp [kvBeq, dBeq_refl, kvBeq_refl as]
@[simp] theorem stEq_refl : ∀ l : Sto, stEq l l = true
  | [] => rfl
  | .lst a :: as => by simp [stEq, obBeq, dsBeq_refl, stEq_refl as]
  | .ins c a :: as => by simp [stEq, obBeq, dsBeq_refl, stEq_refl as]
  | .dct a :: as => by simp [stEq, obBeq, kvBeq_refl, stEq_refl as]
mutual
theorem dBeq_eq : ∀ {a b : D}, dBeq a b = true → a = b
  | .non, b, h => by cases b <;> first | rfl | (simp [dBeq] at h; done)
  | .bl x, b, h => by cases b <;> first | (simp [dBeq] at h; done) | (simp [dBeq] at h; rw [h])
  | .int x, b, h => by cases b <;> first | (simp [dBeq] at h; done) | (simp [dBeq] at h; rw [h])
  | .str x, b, h => by cases b <;> first | (simp [dBeq] at h; done) | (simp [dBeq] at h; rw [h])
  | .tup x, b, h => by cases b <;> first | (simp [dBeq] at h; done) | (simp [dBeq] at h; rw [dsBeq_eq h])
  | .lst x, b, h => by cases b <;> first | (simp [dBeq] at h; done) | (simp [dBeq] at h; rw [dsBeq_eq h])
  | .own x, b, h => by cases b <;> first | (simp [dBeq] at h; done) | (simp [dBeq] at h; rw [dsBeq_eq h])
  | .scr x, b, h => by cases b <;> first | (simp [dBeq] at h; done) | (simp [dBeq] at h; rw [h])
  | .ins c x, b, h => by cases b <;> first | (simp [dBeq] at h; done) | (simp [dBeq] at h; rw [h.1, dsBeq_eq h.2])
  | .obj c x, b, h => by cases b <;> first | (simp [dBeq] at h; done) | (simp [dBeq] at h; rw [h.1, dsBeq_eq h.2])
  | .ref x, b, h => by cases b <;> first | (simp [dBeq] at h; done) | (simp [dBeq] at h; rw [h])
  | .exc c x, b, h => by cases b <;> first | (simp [dBeq] at h; done) | (simp [dBeq] at h; rw [h.1, dsBeq_eq h.2])
  | .nim, b, h => by cases b <;> first | rfl | (simp [dBeq] at h; done)
theorem dsBeq_eq : ∀ {a b : List D}, dsBeq a b = true → a = b
  | [], [], _ => rfl
  | [], _ :: _, h => by simp [dsBeq] at h
  | _ :: _, [], h => by simp [dsBeq] at h
  | a :: as, b :: bs, h => by
    simp [dsBeq] at h
    rw [dBeq_eq h.1, dsBeq_eq h.2]
end
theorem kvBeq_eq : ∀ {a b : List (D × D)}, kvBeq a b = true → a = b
  | [], [], _ => rfl
  | [], _ :: _, h => by simp [kvBeq] at h
  | _ :: _, [], h => by simp [kvBeq] at h
  | (a, c) :: as, (b, d) :: bs, h => by
    simp [kvBeq] at h
    rw [dBeq_eq h.1.1, dBeq_eq h.1.2, kvBeq_eq h.2]
theorem obBeq_eq : ∀ {a b : Ob}, obBeq a b = true → a = b
  | .lst a, b, h => by cases b <;> first | (simp [obBeq] at h; done) | (simp [obBeq] at h; rw [dsBeq_eq h])
  | .ins c a, b, h => by cases b <;> first | (simp [obBeq] at h; done) | (simp [obBeq] at h; rw [h.1, dsBeq_eq h.2])
  | .dct a, b, h => by cases b <;> first | (simp [obBeq] at h; done) | (simp [obBeq] at h; rw [kvBeq_eq h])
theorem stEq_eq : ∀ {a b : Sto}, stEq a b = true → a = b
  | [], [], _ => rfl
  | [], _ :: _, h => by simp [stEq] at h
  | _ :: _, [], h => by simp [stEq] at h
  | a :: as, b :: bs, h => by
    simp [stEq] at h
    rw [obBeq_eq h.1, stEq_eq h.2]
/-! may they be one object? -/
mutual
def simB : D → D → Bool
  | .scr _, _ => true
  | _, .scr _ => true
  | .non, .non => true
  | .bl a, .bl b => a == b
  | .int a, .int b => decide (a = b)
  | .str a, .str b => decide (a = b)
  | .tup a, .tup b => simsB a b
  | .lst a, .lst b => simsB a b
  | .ins c a, .ins k b => simsB a b
  | .ref a, .ref b => a == b
  | _, _ => false
def simsB : List D → List D → Bool
  | [], [] => true
  | a :: as, b :: bs => simB a b && simsB as bs
  | _, _ => false
end
/-- the digits of a number -/
def digitsOf (n : Nat) : List Nat := (Nat.toDigits 10 n).map Char.toNat
def strI (i : Int) : List Nat := if i < 0 then 45 :: digitsOf i.natAbs else digitsOf i.natAbs

def allInt : List D → Option (List Int)
  | [] => some []
  | .int i :: ds => (allInt ds).map (i :: ·)
  | _ => none
/-- sorted by insertion -/
def insI (x : Int) : List Int → List Int
  | [] => [x]
  | y :: r => if x ≤ y then x :: y :: r else y :: insI x r
def sortI : List Int → List Int
  | [] => []
  | x :: r => insI x (sortI r)
def rangeI (lo hi : Int) : List Int := (List.range (hi - lo).toNat).map fun (k : Nat) => lo + (k : Int)
def biD : BI → List D → Option D
  | .len, [.tup ds] => some (.int ds.length)
  | .len, [.lst ds] => some (.int ds.length)
  | .len, [.own ds] => some (.int ds.length)
  | .len, [.scr ns] => some (.int ns.length)
  | .len, [.str s] => if s.length ≤ LINE then some (.int s.length) else none
  | .int, [.int i] => some (.int i)
  | .int, [.bl b] => some (.int (if b then 1 else 0))
  | .str, [.int i] => if i.natAbs.log2 < 1920 then some (.str (strI i)) else none
  | .str, [.str s] => some (.str s)
  | .list, [d] => match seqOf d with
    | some ds => some (.own ds)
    | none => none
  | .tuple, [d] => match seqOf d with
    | some ds => some (.tup ds)
    | none => none
  | .abs, [.int i] => some (.int (if i < 0 then -i else i))
  | .gcd, [.int a, .int b] => some (.int (Int.gcd a b : Nat))
  | .sum, [d] => match (asL d).bind allInt with
    | some ns => some (.int ns.sum)
    | none => none
  | .sorted, [d] => match (asL d).bind allInt with
    | some ns => if ns.length < 64 then some (.own ((sortI ns).map D.int)) else none
    | none => none
  | .range1, [.int n] => if -(LINE : Int) < n ∧ n < LINE then some (.own ((rangeI 0 n).map D.int)) else none
  | .range2, [.int a, .int b] => if (-(LINE : Int) < a ∧ a < LINE) ∧ (-(LINE : Int) < b ∧ b < LINE) ∧ b - a ≤ LINE then some (.own ((rangeI a b).map D.int)) else none
  | .min2, [.int a, .int b] => some (.int (if b < a then b else a))
  | .min1, [d] => match (asL d).bind allInt with
    | some (n :: ns) => some (.int (ns.foldl (fun a b => if b < a then b else a) n))
    | _ => none
  | .max1, [d] => match (asL d).bind allInt with
    | some (n :: ns) => some (.int (ns.foldl (fun a b => if a < b then b else a) n))
    | _ => none
  | _, _ => none

abbrev Rho := List (Option D)
/-- a name's value as it may be kept: no own list, no self -/
def rdV (ρ : Rho) (i : Nat) : Option D := match ρ[i]? with
  | some (some (.own _)) => none
  | some (some (.obj _ _)) => none
  | some (some (.exc _ _)) => none
  | some (some d) => some d
  | _ => none
/-- .. as it may be looked at -/
def rdB (ρ : Rho) (i : Nat) : Option D := match ρ[i]? with
  | some (some d) => some d
  | _ => none
def nameOf {β : Type} (m : Nat) : List (Nat × β) → Option β
  | [] => none
  | (k, b) :: r => if k = m then some b else nameOf m r
def posOf (m : Nat) : List Nat → Option Nat
  | [] => none
  | k :: r => if k = m then some 0 else (posOf m r).map (· + 1)

def Es.len : Es → Nat
  | .nil => 0
  | .cons _ as => as.len + 1
section
variable (T : Tab) (cf : Nat → List D → Sto → R D)
/-- what is a field -/
def fieldD (c m : Nat) (ds : List D) : Option D := match T.cls c with
  | some C => (posOf m C.fields).bind fun j => ds[j]?
  | none => none
def isErr (c : Nat) : Bool := match T.cls c with
  | some C => C.exc
  | none => false
/-- of the error that is handled: a field; isinstance -/
def xatD (ρ : Rho) (i m : Nat) : Option D := match rdB ρ i with
  | some (.exc c ds) => if isErr T c then fieldD T c m ds else none
  | _ => none
def xisD (ρ : Rho) (i : Nat) (t : TY) : Option D := match rdB ρ i with
  | some (.exc c _) => if isErr T c && T.isi.contains t then (kdIs T (.exc c) t).map D.bl else none
  | _ => none
/-- a class of instances -/
def clsI (c : Nat) : Option Cls := match T.cls c with
  | some C => if C.exc then none else some C
  | none => none
def prop (c m : Nat) : Option Nat := (clsI T c).bind fun C => nameOf m C.props
def methOf (c m : Nat) : Option Nat := (clsI T c).bind fun C => nameOf m C.meths
/-- a property raises nothing -/
def noEr : R D → R D
  | .ok d st => .ok d st
  | _ => .no
@[simp] theorem noEr_ok (d : D) (st : Sto) : noEr (.ok d st) = .ok d st := rfl
/-- + and * of lists -/
def rowB (o : BO) (a b : D) (st : Sto) : Option (List D) := match o, lstS st a, b with
  | .add, some xs, b => (lstS st b).bind fun ys => if xs.length + ys.length ≤ LINE then some (xs ++ ys) else none
  | .mul, some xs, .int n => if -1000 ≤ n ∧ n ≤ 1000 ∧ xs.length ≤ 1000 then some (List.replicate n.toNat xs).flatten else none
  | _, _, _ => none
def isIns : D → Bool
  | .ins _ _ => true
  | _ => false
def isLst : D → Bool
  | .lst _ => true | .own _ => true | .ref _ => true
  | _ => false
def binE (o : BO) (a b : D) (st : Sto) : R D := match a, b with
  | .ins c ds, .int j => (match T.bop c o with
    | some f => cf f [.ins c ds, .int j] st
    | none => .no)
  | .ins c ds, .ins k es => if c = k then (match T.bop c o with
    | some f => cf f [.ins c ds, .ins k es] st
    | none => .no) else .no
  | .int i, .ins c ds => (match T.rop c o with
    | some f => cf f [.ins c ds, .int i] st
    | none => .no)
  | a, b => if isLst a then (match rowB o a b st with
    | some ds => .ok (.own ds) st
    | none => .no) else R.of (binD o a b) st
def asBl : R D → R Bool
  | .ok (.bl b) st => .ok b st
  | .er x st => .er x st
  | _ => .no
def isRel : CO → Bool
  | .is_ => false | .isn => false | .in_ => false | .nin => false
  | _ => true
def isEq : CO → Bool
  | .eq => true | .ne => true
  | _ => false
def isRow : D → Bool
  | .lst _ => true | .own _ => true | .tup _ => true
  | _ => false
/-- a comparison that is not of flat data -/
def spec (o : CO) (a b : D) : Bool := (isRel o && (isIns a || isIns b)) || (isEq o && (isRow a || isRow b))
def flipC : CO → CO
  | .lt => .gt | .gt => .lt | .le => .ge | .ge => .le
  | o => o
/-- what may stand on an instance's right, left -/
def mayR : D → Bool
  | .non => true | .bl _ => true | .int _ => true | .str _ => true | .tup _ => true | .lst _ => true
  | .ins c _ => (clsI T c).isSome
  | _ => false
def mayL (o : CO) : D → Bool
  | .int _ => true
  | .non => isEq o | .bl _ => isEq o | .str _ => isEq o
  | _ => false
/-- an instance's own comparison -/
def insC (o : CO) (c : Nat) (ds : List D) (b : D) (st : Sto) : R Bool := match T.cop c (if isEq o then .eq else o) with
  | some f => (asBl (cf f [.ins c ds, b] st)).bind fun k st => .ok (if o = .ne then !k else k) st
  | none => .no
def cmpI (o : CO) (a b : D) (st : Sto) : R Bool := match a, b with
  | .ins c ds, b => if mayR T b then insC T cf o c ds b st else .no
  | a, .ins c ds => if mayL o a then insC T cf (flipC o) c ds a st else .no
  | _, _ => .no
/-- .. within a row: the same object is equal to itself -/
def cmpG (a b : D) (st : Sto) : R Bool := match cmpI T cf .eq a b st with
  | .ok k st' => if stEq st st' && (k || !simB a b) then .ok k st else .no
  | _ => .no
def eqAll (f : D → D → Sto → R Bool) : List D → List D → Sto → R Bool
  | x :: xs, y :: ys, st => (f x y st).bind fun k st => if k then eqAll f xs ys st else .ok false st
  | _, _, st => .ok true st
/-- == of two rows, of the items by f -/
def eqRow (f : D → D → Sto → R Bool) (k : Bool) (xs ys : List D) (st : Sto) : R Bool :=
  if k && xs.length != ys.length then .ok false st else (eqAll f xs ys st).bind fun r st => .ok (r && xs.length == ys.length) st
def eqX : Nat → D → D → Sto → R Bool
  | n, a, b, st => if isIns a || isIns b then cmpG T cf a b st else match rowOf a, rowOf b with
    | some (k, xs), some (l, ys) => if k = l then (match n with
      | 0 => .no
      | n + 1 => eqRow (eqX n) k xs ys st) else .ok false st
    | some _, none => if flat b then .ok false st else .no
    | none, some _ => if flat a then .ok false st else .no
    | none, none => R.of (eqB a b) st
def cmpS (o : CO) (a b : D) (st : Sto) : R Bool := if isIns a || isIns b then cmpI T cf o a b st else (eqX T cf 5 a b st).bind fun k st => .ok (if o = .ne then !k else k) st
/-- in a dict -/
def inD (o : CO) (k : D) (kvs : List (D × D)) : Option Bool := if isKey k then (match o with
  | .in_ => some (dGet kvs k).isSome
  | .nin => some !(dGet kvs k).isSome
  | _ => none) else none
def cmpE (o : CO) (a b : D) (st : Sto) : R Bool := if spec o a b then cmpS T cf o a b st else match b with
  | .ref r => (match st[r]? with
    | some (.dct kvs) => R.of (inD o a kvs) st
    | some (.lst ds) => R.of (cmpD o a (.lst ds)) st
    | _ => .no)
  | b => R.of (cmpD o a b) st
def attrE (a : D) (m : Nat) (st : Sto) : R D := match a with
  | .ins c ds => (match (clsI T c).bind fun _ => fieldD T c m ds with
    | some d => .ok d st
    | none => (match prop T c m with
      | some f => noEr (cf f [.ins c ds] st)
      | none => .no))
  | .obj c ds => R.of ((clsI T c).bind fun _ => fieldD T c m ds) st
  | .exc c ds => R.of (fieldD T c m ds) st
  | _ => .no
def hasM (m : Nat) : D → Bool
  | .ins c _ => (methOf T c m).isSome
  | _ => false
def methE (m : Nat) (a : D) (as : List D) (st : Sto) : R D := match a with
  | .ins c ds => (match methOf T c m with
    | some f => cf f (.ins c ds :: as) st
    | none => .no)
  | _ => .no
def ixE (a i : D) (st : Sto) : R D := match a, i with
  | .tup ds, .int k => R.of (atI ds k) st
  | .lst ds, .int k => R.of (atI ds k) st
  | .own ds, .int k => R.of (atI ds k) st
  | .scr ns, .int k => R.of ((atI ns k).map D.int) st
  | .str s, .int k => if s.length ≤ LINE then R.of ((atI s k).map fun c => D.str [c]) st else .no
  | .ref r, k => (match st[r]? with
    | some (.lst ds) => (match k with
      | .int k => R.of (atI ds k) st
      | _ => .no)
    | some (.dct kvs) => if isKey k then R.of (dGet kvs k) st else .no
    | _ => .no)
  | .ins _ _, .own _ => .no
  | .ins c ds, d => (match T.get c with
    | some f => cf f [.ins c ds, d] st
    | none => .no)
  | _, _ => .no
/-- a bound of a slice -/
def ptE (a : E) (r : R D) : R (Option Int) := match a with
  | .nop => r.bind fun _ st => .ok none st
  | _ => r.bind fun d st => (match d with
    | .int i => .ok (some i) st
    | _ => .no)
def slE (a : D) (l h : Option Int) (st : Sto) : R D := match a with
  | .tup ds => .ok (.tup (cutL ds l h)) st
  | .str s => if s.length ≤ LINE then .ok (.str (cutL s l h)) st else .no
  | a => (match lstS st a with
    | some ds => .ok (.own (cutL ds l h)) st
    | none => .no)
def asTx : R D → R D
  | .ok (.str z) st => .ok (.str z) st
  | .er x st => .er x st
  | _ => .no
def strE (a : D) (st : Sto) : R D := match a with
  | .ins c ds => (match T.str c with
    | some f => asTx (cf f [.ins c ds] st)
    | none => .no)
  | d => R.of (biD .str [d]) st
def biE (b : BI) (as : List D) (st : Sto) : R D := match b, as with
  | .str, [d] => strE T cf d st
  | .abs, [.ins c ds] => (match T.abs c with
    | some f => cf f [.ins c ds] st
    | none => .no)
  | .len, [.ref r] => (match st[r]? with
    | some (.lst ds) => .ok (.int ds.length) st
    | some (.dct kvs) => .ok (.int kvs.length) st
    | _ => .no)
  | .len, [.ins c ds] => (match T.len c with
    | some f => (match cf f [.ins c ds] st with
      | .ok (.int n) st => if 0 ≤ n ∧ n < LINE then .ok (.int n) st else .no
      | .er x st => .er x st
      | _ => .no)
    | none => .no)
  | b, [.ref r] => (match st[r]? with
    | some (.lst ds) => R.of (biD b [.lst ds]) st
    | _ => .no)
  | b, as => R.of (biD b as) st
def negE (a : D) (st : Sto) : R D := match a with
  | .int i => .ok (.int (-i)) st
  | .ins c ds => (match T.neg c with
    | some f => cf f [.ins c ds] st
    | none => .no)
  | _ => .no
/-- an instance is called -/
def invE (a : D) (as : List D) (st : Sto) : R D := match a with
  | .ins c ds => (match T.inv c with
    | some f => cf f (.ins c ds :: as) st
    | none => .no)
  | _ => .no
def isLR (st : Sto) : D → Bool
  | .ref r => (match st[r]? with
    | some (.lst _) => true
    | _ => false)
  | _ => false
/-- r.pop(i) -/
def popE (a i : D) (st : Sto) : R D := match a, i with
  | .ref r, .int k => (match st[r]? with
    | some (.lst ds) => if -(LINE : Int) < k ∧ k < LINE then (match ixN ds.length k with
      | some j => (match ds[j]? with
        | some d => .ok d (st.set r (.lst (ds.eraseIdx j)))
        | none => .no)
      | none => .no) else .no
    | _ => .no)
  | _, _ => .no
/-- a new instance: __init__ is a function too; it answers with the instance -/
def mis (C : Cls) (n : Nat) : List D := C.dfl.drop (C.dfl.length + n - C.np)
def makeE (c : Nat) (as : List D) (st : Sto) : R D := match clsI T c with
  | some C => cf C.init (as ++ mis C as.length) st
  | none => .no
/-- within an f-string -/
def fmtD : D → Option (List Nat)
  | .str s => if s.length ≤ LINE then some s else none
  | .int i => if i.natAbs.log2 < 1920 then some (strI i) else none
  | _ => none
/-- the items that a for takes: each the values of the targets -/
def zipD : List D → List D → List (List D)
  | a :: as, b :: bs => [a, b] :: zipD as bs
  | _, _ => []
def enumD (k : Int) : List D → List (List D)
  | [] => []
  | d :: ds => [.int k, d] :: enumD (k + 1) ds
def setAll (ρ : Rho) : List Nat → List D → Option Rho
  | [], [] => some ρ
  | i :: is, d :: ds => setAll (ρ.set i (some d)) is ds
  | _, _ => none
/-- range(a, b, c), c above 0 -/
def rangeC (a b c : Int) : List Int := (List.range (if a < b then ((b - a - 1).fdiv c + 1).toNat else 0)).map fun (k : Nat) => a + (k : Int) * c
def rngI : List D → Option (List Int)
  | [.int n] => if -(LINE : Int) < n ∧ n < LINE then some (rangeI 0 n) else none
  | [.int a, .int b] => if (-(LINE : Int) < a ∧ a < LINE) ∧ -(LINE : Int) < b ∧ b < LINE then some (rangeI a b) else none
  | [.int a, .int b, .int c] => if (-(LINE : Int) < a ∧ a < LINE) ∧ (-(LINE : Int) < b ∧ b < LINE) ∧ 0 < c ∧ c < LINE then some (rangeC a b c) else none
  | _ => none
/-- what may stand in a block's own slot outside -/
def plainO : Option (Option D) → Bool
  | some (some (.own _)) => false
  | some (some (.obj _ _)) => false
  | some (some (.exc _ _)) => false
  | _ => true
/-- a comprehension's loop: the slot's value ahead of it does not matter -/
def compL (el : Rho → Sto → R D) (te : Rho → Sto → R Bool) (ρ : Rho) (is : List Nat) : List (List D) → List D → Sto → R (List D)
  | [], acc, st => .ok acc st
  | ds :: r, acc, st => match setAll ρ is ds with
    | none => .no
    | some ρ' => (te ρ' st).bind fun t st => if t then (el ρ' st).bind fun d st => if acc.length < LINE then compL el te ρ is r (acc ++ [fz d]) st else .no else compL el te ρ is r acc st
/-- without these -/
def clr : List Nat → Rho → Rho
  | [], ρ => ρ
  | i :: is, ρ => (clr is ρ).set i none
/-- a dict's, a loop in a loop -/
def compD (ek ev : Rho → Sto → R D) (te : Rho → Sto → R Bool) (ρ : Rho) (is : List Nat) : List (List D) → List (D × D) → Sto → R (List (D × D))
  | [], acc, st => .ok acc st
  | ds :: r, acc, st => match setAll ρ is ds with
    | none => .no
    | some ρ' => (te ρ' st).bind fun t st => if t then (ek ρ' st).bind fun k st => (ev ρ' st).bind fun v st => if acc.length < LINE ∧ isKey k then compD ek ev te ρ is r (dPut acc k (fz v)) st else .no else compD ek ev te ρ is r acc st
def compL2 (src : Rho → Sto → R (List (List D))) (el : Rho → Sto → R D) (te : Rho → Sto → R Bool) (ρ : Rho) (is is2 : List Nat) : List (List D) → List D → Sto → R (List D)
  | [], acc, st => .ok acc st
  | ds :: r, acc, st => match setAll ρ is ds with
    | none => .no
    | some ρ' => (src ρ' st).bind fun dss st => (compL el te ρ' is2 dss acc st).bind fun acc st => compL2 src el te ρ is is2 r acc st
/-- looked at, not kept: a name may stand for an own list -/
def bor (a : E) (ρ : Rho) (st : Sto) (r : R D) : R D := match a with
  | .var i => R.of (rdB ρ i) st
  | _ => r
mutual
def evE : E → Rho → Sto → R D
  | .non, _, st => .ok .non st
  | .bl b, _, st => .ok (.bl b) st
  | .int i, _, st => .ok (.int i) st
  | .str s, _, st => .ok (.str s) st
  | .var i, ρ, st => R.of (rdV ρ i) st
  | .con j, _, st => .ok (T.con j) st
  | .neg a, ρ, st => (evE a ρ st).bind fun d st => negE T cf d st
  | .not a, ρ, st => (bor a ρ st (evE a ρ st)).bind fun d st => R.of ((truthS st d).map fun b => .bl (!b)) st
  | .bin o a b, ρ, st => (bor a ρ st (evE a ρ st)).bind fun x st => (bor b ρ st (evE b ρ st)).bind fun y st => binE T cf o x y st
  | .cmp o a b, ρ, st => (bor a ρ st (evE a ρ st)).bind fun x st => (bor b ρ st (evE b ρ st)).bind fun y st => (cmpE T cf o x y st).bind fun b st => .ok (.bl b) st
  | .chain o p a b c, ρ, st => (evE a ρ st).bind fun x st => (evE b ρ st).bind fun y st => (cmpE T cf o x y st).bind fun k st => if k then (evE c ρ st).bind fun z st => (cmpE T cf p y z st).bind fun b st => .ok (.bl b) st else .ok (.bl false) st
  | .and a b, ρ, st => (evE a ρ st).bind fun x st => (match x with
    | .bl true => evE b ρ st
    | .bl false => .ok (.bl false) st
    | _ => .no)
  | .or a b, ρ, st => (evE a ρ st).bind fun x st => (match x with
    | .bl true => .ok (.bl true) st
    | .bl false => evE b ρ st
    | _ => .no)
  | .ite t a b, ρ, st => (evT t ρ st).bind fun k st => if k then evE a ρ st else evE b ρ st
  | .call f as, ρ, st => (evA as ρ st).bind fun ds st => cf f ds st
  | .make c as, ρ, st => (evA as ρ st).bind fun ds st => makeE T cf c ds st
  | .meth m a as, ρ, st => (evE a ρ st).bind fun x st => if hasM T m x then (evA as ρ st).bind fun ds st => methE T cf m x ds st else .no
  | .attr a m, ρ, st => (bor a ρ st (evE a ρ st)).bind fun x st => attrE T cf x m st
  | .bi b as, ρ, st => (evL as ρ st).bind fun ds st => biE T cf b ds st
  | .isi a ts, ρ, st => (bor a ρ st (evE a ρ st)).bind fun x st => R.of (((kdS st x).bind fun k => isAny T k ts).map D.bl) st
  | .tup as, ρ, st => (evA as ρ st).bind fun ds st => if ds.length ≤ LINE then .ok (.tup ds) st else .no
  | .lst as, ρ, st => (evA as ρ st).bind fun ds st => if ds.length ≤ LINE then .ok (.own ds) st else .no
  | .ix a i, ρ, st => (bor a ρ st (evE a ρ st)).bind fun x st => (evE i ρ st).bind fun y st => ixE T cf x y st
  | .sl a lo hi, ρ, st => (bor a ρ st (evE a ρ st)).bind fun x st => (ptE lo (evE lo ρ st)).bind fun l st => (ptE hi (evE hi ρ st)).bind fun h st => slE x l h st
  | .nop, _, st => .ok .non st
  | .comp is e src t, ρ, st => (evI src ρ st).bind fun dss st => if is.all fun i => plainO ρ[i]? then (match compL (evE e) (evT t) ρ is dss [] st with
    | .ok ds st => .ok (.own ds) st
    | _ => .no) else .no
  | .fst as, ρ, st => evF as [] ρ st
  | .sto a, ρ, st => (evE a ρ st).bind fun d st => (match d with
    | .own ds => .ok (.ref st.length) (st ++ [.lst ds])
    | _ => .no)
  | .xat i m, ρ, st => R.of (xatD T ρ i m) st
  | .xis i t, ρ, st => R.of (xisD T ρ i t) st
  | .stuck, _, _ => .no
  | .frz a, ρ, st => (evE a ρ st).bind fun d st => .ok (fz d) st
  | .inv a as, ρ, st => (evE a ρ st).bind fun x st => if isIns x then (evA as ρ st).bind fun ds st => invE T cf x ds st else .no
  | .dcomp is k v src t, ρ, st => (evI src ρ st).bind fun dss st => if is.all fun i => plainO ρ[i]? then (match compD (evE k) (evE v) (evT t) ρ is dss [] st with
    | .ok kvs st => .ok (.ref st.length) (st ++ [.dct kvs])
    | _ => .no) else .no
  | .comp2 is src is2 src2 e t, ρ, st => (evI src ρ st).bind fun dss st => if (is ++ is2).all fun i => plainO ρ[i]? then (match compL2 (evI src2) (evE e) (evT t) (clr is2 ρ) is is2 dss [] st with
    | .ok ds st => .ok (.own ds) st
    | _ => .no) else .no
  | .dnew, _, st => .ok (.ref st.length) (st ++ [.dct []])
  | .pop a i, ρ, st => (evE a ρ st).bind fun x st => if isLR st x then (evE i ρ st).bind fun y st => popE x y st else .no
/-- as a test -/
def evT : Tt → Rho → Sto → R Bool
  | .not a, ρ, st => (evT a ρ st).bind fun b st => .ok (!b) st
  | .and a b, ρ, st => (evT a ρ st).bind fun k st => if k then evT b ρ st else .ok false st
  | .or a b, ρ, st => (evT a ρ st).bind fun k st => if k then .ok true st else evT b ρ st
  | .e a, ρ, st => (bor a ρ st (evE a ρ st)).bind fun d st => R.of (truthS st d) st
def evA : Es → Rho → Sto → R (List D)
  | .nil, _, st => .ok [] st
  | .cons a as, ρ, st => (evE a ρ st).bind fun d st => (evA as ρ st).bind fun ds st => .ok (fz d :: ds) st
def evL : Es → Rho → Sto → R (List D)
  | .nil, _, st => .ok [] st
  | .cons a as, ρ, st => (bor a ρ st (evE a ρ st)).bind fun d st => (evL as ρ st).bind fun ds st => .ok (d :: ds) st
def evF : Es → List Nat → Rho → Sto → R D
  | .nil, acc, _, st => .ok (.str acc) st
  | .cons a as, acc, ρ, st => (evE a ρ st).bind fun d st => (match fmtD d with
    | some s => if acc.length + s.length ≤ LINE then evF as (acc ++ s) ρ st else .no
    | none => .no)
def evI : It → Rho → Sto → R (List (List D))
  | .seq a, ρ, st => (evE a ρ st).bind fun d st => R.of ((seqOf d).map fun ds => ds.map fun x => [x]) st
  | .rng as, ρ, st => (evA as ρ st).bind fun ds st => R.of ((rngI ds).map fun ns => ns.map fun n => [.int n]) st
  | .enum a, ρ, st => (evE a ρ st).bind fun d st => R.of ((seqOf d).map (enumD 0)) st
  | .zip a b, ρ, st => (evE a ρ st).bind fun d st => (evE b ρ st).bind fun e st => R.of ((seqOf d).bind fun ds => (seqOf e).map fun es => zipD ds es) st
  | .rev a, ρ, st => (evE a ρ st).bind fun d st => R.of ((seqOf d).map fun ds => ds.reverse.map fun x => [x]) st
end

/-! ### statements -/
/-- how a statement ends -/
inductive F where
  | nx (ρ : Rho) (st : Sto) | rt (d : D) (st : Sto) | bk (ρ : Rho) (st : Sto) | ct (ρ : Rho) (st : Sto) | er (x : Xn) (ρ : Rho) (st : Sto) | no
/-- an expression within a statement -/
def R.f {α : Type} (r : R α) (ρ : Rho) (k : α → Sto → F) : F := match r with
  | .ok a st => k a st
  | .er x st => .er x ρ st
  | .no => .no
@[simp] theorem f_ok {α : Type} (a : α) (st : Sto) (ρ : Rho) (k : α → Sto → F) : (R.ok a st).f ρ k = k a st := rfl
@[simp] theorem f_er {α : Type} (x : Xn) (st : Sto) (ρ : Rho) (k : α → Sto → F) : (R.er x st : R α).f ρ k = .er x ρ st := rfl
@[simp] theorem f_no {α : Type} (ρ : Rho) (k : α → Sto → F) : (R.no : R α).f ρ k = .no := rfl
def F.then (r : F) (k : Rho → Sto → F) : F := match r with
  | .nx ρ st => k ρ st
  | r => r
@[simp] theorem then_nx (ρ : Rho) (st : Sto) (k : Rho → Sto → F) : (F.nx ρ st).then k = k ρ st := rfl
@[simp] theorem then_rt (d : D) (st : Sto) (k : Rho → Sto → F) : (F.rt d st).then k = .rt d st := rfl
@[simp] theorem then_bk (ρ : Rho) (st : Sto) (k : Rho → Sto → F) : (F.bk ρ st).then k = .bk ρ st := rfl
@[simp] theorem then_ct (ρ : Rho) (st : Sto) (k : Rho → Sto → F) : (F.ct ρ st).then k = .ct ρ st := rfl
@[simp] theorem then_er (x : Xn) (ρ : Rho) (st : Sto) (k : Rho → Sto → F) : (F.er x ρ st).then k = .er x ρ st := rfl
@[simp] theorem then_no (k : Rho → Sto → F) : F.no.then k = .no := rfl
def F.of (o : Option Rho) (st : Sto) : F := match o with
  | some ρ => .nx ρ st
  | none => .no
@[simp] theorem Fof_some (ρ : Rho) (st : Sto) : F.of (some ρ) st = .nx ρ st := rfl
@[simp] theorem Fof_none (st : Sto) : F.of none st = .no := rfl
/-- a loop over items -/
def forL (b : Rho → Sto → F) (ts : List Nat) : List (List D) → Rho → Sto → F
  | [], ρ, st => .nx ρ st
  | ds :: r, ρ, st => match setAll ρ ts ds with
    | none => .no
    | some ρ' => (match b ρ' st with
      | .nx ρ st => forL b ts r ρ st
      | .ct ρ st => forL b ts r ρ st
      | .bk ρ st => .nx ρ st
      | r => r)
def refOf : D → Option Nat
  | .ref r => some r
  | _ => none
/-- a loop over a list of the store, as it stands at each turn -/
def forRef (b : Rho → Sto → F) (i r : Nat) : Nat → Nat → Rho → Sto → F
  | _, 0, _, _ => .no
  | j, n + 1, ρ, st => match st[r]? with
    | some (.lst ds) => (match ds[j]? with
      | none => .nx ρ st
      | some d => (match b (ρ.set i (some d)) st with
        | .nx ρ st => forRef b i r (j + 1) n ρ st
        | .ct ρ st => forRef b i r (j + 1) n ρ st
        | .bk ρ st => .nx ρ st
        | r => r))
    | _ => .no
def whileL (t : Rho → Sto → R Bool) (b : Rho → Sto → F) : Nat → Rho → Sto → F
  | 0, _, _ => .no
  | n + 1, ρ, st => (t ρ st).f ρ fun k st => if k then (match b ρ st with
      | .nx ρ st => whileL t b n ρ st
      | .ct ρ st => whileL t b n ρ st
      | .bk ρ st => .nx ρ st
      | r => r) else .nx ρ st
/-- does the error's class lie under the clause's? -/
def under (c k : Nat) : Bool := c == k || (match T.cls c with
  | some C => C.up.contains k
  | none => false)
def isTxt : List D → Bool
  | .str s :: _ => decide (s.length ≤ LINE)
  | _ => false
/-- may it be made of these? -/
def raisable (C : Cls) (ds : List D) : Bool := C.exc && ds.length == C.fields.length && (!C.cat || isTxt ds)
def setO (ρ : Rho) (o : Option Nat) (d : Option D) : Rho := match o with
  | some i => ρ.set i d
  | none => ρ
def notExc : Option D → Bool
  | some (.exc _ _) => false
  | _ => true
/-- behind an except suite its name is gone -/
def F.unset (r : F) (o : Option Nat) : F := match r with
  | .nx ρ st => if (setO ρ o none).all notExc then .nx (setO ρ o none) st else .no
  | .bk ρ st => if (setO ρ o none).all notExc then .bk (setO ρ o none) st else .no
  | .ct ρ st => if (setO ρ o none).all notExc then .ct (setO ρ o none) st else .no
  | .rt d st => .rt d st
  | _ => .no
def setfD (m : Nat) (ρ : Rho) (d : D) : Option Rho := match (ρ[0]? : Option (Option D)) with
  | some (some (.obj c ds)) => (match clsI T c with
    | some C => if C.fields[ds.length]? = some m then some (ρ.set 0 (some (.obj c (ds ++ [d])))) else none
    | none => none)
  | _ => none
def setiD (r : D) (i v : D) (st : Sto) : Option Sto := match r, i with
  | .ref r, .int k => (match st[r]? with
    | some (.lst ds) => (ixN ds.length k).map fun j => st.set r (.lst (ds.set j v))
    | some (.dct kvs) => if kvs.length < LINE then some (st.set r (.dct (dPut kvs (.int k) v))) else none
    | _ => none)
  | .ref r, .str k => (match st[r]? with
    | some (.dct kvs) => if kvs.length < LINE then some (st.set r (.dct (dPut kvs (.str k) v))) else none
    | _ => none)
  | _, _ => none
def apprD (r v : D) (st : Sto) : Option Sto := match r with
  | .ref r => (match st[r]? with
    | some (.lst ds) => if ds.length < LINE then some (st.set r (.lst (ds ++ [v]))) else none
    | _ => none)
  | _ => none
def ownAt (ρ : Rho) (x : Nat) : Option (List D) := match (ρ[x]? : Option (Option D)) with
  | some (some (.own ds)) => some ds
  | _ => none
def insAt (ds : List D) (j : Nat) (d : D) : List D := ds.take j ++ d :: ds.drop j
def exS : S → Rho → Sto → F
  | .stuck, _, _ => .no
  | .appr a v, ρ, st => (evE T cf a ρ st).f ρ fun x st => if isLR st x then (evE T cf v ρ st).f ρ fun d st => (match apprD x (fz d) st with
    | some st => .nx ρ st
    | none => .no) else .no
  | .skip, ρ, st => .nx ρ st
  | .seq a b, ρ, st => (exS a ρ st).then fun ρ st => exS b ρ st
  | .expr a, ρ, st => (evE T cf a ρ st).f ρ fun _ st => .nx ρ st
  | .set i a, ρ, st => (evE T cf a ρ st).f ρ fun d st => .nx (ρ.set i (some (fz d))) st
  | .own i a, ρ, st => (evE T cf a ρ st).f ρ fun d st => (match d with
    | .own ds => .nx (ρ.set i (some (.own ds))) st
    | _ => .no)
  | .unp is a, ρ, st => (evE T cf a ρ st).f ρ fun d st => (match d with
    | .tup ds => F.of (setAll ρ is ds) st
    | _ => .no)
  | .frz i, ρ, st => (match ownAt ρ i with
    | some ds => .nx (ρ.set i (some (.lst ds))) st
    | none => .no)
  | .setf m a, ρ, st => (evE T cf a ρ st).f ρ fun d st => F.of (setfD T m ρ (fz d)) st
  | .seti a i v, ρ, st => (evE T cf v ρ st).f ρ fun d st => (evE T cf a ρ st).f ρ fun x st => (evE T cf i ρ st).f ρ fun y st => (match setiD x y (fz d) st with
    | some st => .nx ρ st
    | none => .no)
  | .ownseti x i v, ρ, st => (match ownAt ρ x with
    | some ds => (evE T cf v ρ st).f ρ fun d st => (evE T cf i ρ st).f ρ fun y st => (match y with
      | .int k => (match ixN ds.length k with
        | some j => .nx (ρ.set x (some (.own (ds.set j (fz d))))) st
        | none => .no)
      | _ => .no)
    | none => .no)
  | .aug x o a, ρ, st => (match rdV ρ x with
    | some d => (evE T cf a ρ st).f ρ fun e st => (match augD o d e with
      | some r => .nx (ρ.set x (some r)) st
      | none => .no)
    | none => .no)
  | .app x a, ρ, st => (match ownAt ρ x with
    | some ds => if ds.length < LINE then (evE T cf a ρ st).f ρ fun d st => .nx (ρ.set x (some (.own (ds ++ [fz d])))) st else .no
    | none => .no)
  | .insr x i a, ρ, st => (match ownAt ρ x with
    | some ds => if ds.length < LINE then (evE T cf i ρ st).f ρ fun y st => (evE T cf a ρ st).f ρ fun d st => (match y with
      | .int k => if 0 ≤ k ∧ k ≤ ds.length then .nx (ρ.set x (some (.own (insAt ds k.toNat (fz d))))) st else .no
      | _ => .no) else .no
    | none => .no)
  | .ret a, ρ, st => (evE T cf a ρ st).f ρ fun d st => .rt d st
  | .retm i, ρ, st => (match ownAt ρ i with
    | some ds => .rt (.own ds) st
    | none => .no)
  | .ret0, _, st => .rt .non st
  | .ifs t a b, ρ, st => (evT T cf t ρ st).f ρ fun k st => if k then exS a ρ st else exS b ρ st
  | .for_ ts src b, ρ, st => (evI T cf src ρ st).f ρ fun dss st => forL (exS b) ts dss ρ st
  | .while_ t b, ρ, st => whileL (evT T cf t) (exS b) LINE ρ st
  | .forS i a b, ρ, st => (evE T cf a ρ st).f ρ fun d st => (match refOf d with
    | some r => (match st[r]? with
      | some (.lst ds) => forRef (exS b) i r 0 (ds.length + 1) ρ st
      | _ => .no)
    | none => (match seqOf d with
      | some ds => forL (exS b) [i] (ds.map fun x => [x]) ρ st
      | none => .no))
  | .brk, ρ, st => .bk ρ st
  | .cnt, ρ, st => .ct ρ st
  | .raise c as, ρ, st => (evA T cf as ρ st).f ρ fun ds st => (match T.cls c with
    | some C => if raisable C ds then .er ⟨c, ds⟩ ρ st else .no
    | none => .no)
  | .try_ b hs, ρ, st => (match exS b ρ st with
    | .er x ρ st => hdS x hs ρ st
    | r => r)
  | .hnd _ _ _ _, _, _ => .no
where
  /-- the clauses, from the first -/
  hdS (x : Xn) : S → Rho → Sto → F
    | .hnd c o h r, ρ, st => if isErr T x.c then (if under T x.c c then (exS h (setO ρ o (some (.exc x.c x.ds))) st).unset o else hdS x r ρ st) else .no
    | _, ρ, st => .er x ρ st
end

/-! ### calls, level by level -/
section
variable (T : Tab)
def start (n : Nat) (ds : List D) : Rho := ds.map some ++ List.replicate (n - ds.length) none
/-- what a body's end means to the caller -/
def fin (ini : Option Nat) : F → R D
  | .nx ρ st => (match ini with
    | none => .ok .non st
    | some c => (match (ρ[0]? : Option (Option D)), T.cls c with
      | some (some (.obj k ds)), some C => if k = c ∧ ds.length = C.fields.length then .ok (.ins c ds) st else .no
      | _, _ => .no))
  | .rt d st => (match ini with
    | none => .ok d st
    | some _ => .no)
  | .er x _ st => .er x st
  | _ => .no
/-- a function's body over what is called -/
def runB (cf : Nat → List D → Sto → R D) (f : Fn) (ds : List D) (st : Sto) : R D :=
  if ds.length = f.np then fin T f.ini (exS T cf f.body (match f.ini with
    | none => start f.nl ds
    | some c => start f.nl (.obj c [] :: ds)) st) else .no
def tbl : Nat → Nat → List D → Sto → R D
  | 0 => fun _ _ _ => .no
  | l + 1 => fun f ds st => match T.fn f with
    | some fn => if fn.lv = l then runB T (tbl l) fn ds st else tbl l f ds st
    | none => .no
def call (f : Nat) (ds : List D) (st : Sto) : R D := match T.fn f with
  | some fn => runB T (tbl T fn.lv) fn ds st
  | none => .no
theorem tbl_eq {l f : Nat} {fn : Fn} (h : T.fn f = some fn) (hl : fn.lv < l) : tbl T l f = call T f := by
  induction l with
  | zero => omega
  | succ l ih =>
    funext ds st
    show (match T.fn f with
      | some fn => if fn.lv = l then runB T (tbl T l) fn ds st else tbl T l f ds st
      | none => .no) = _
    rw [h]
    by_cases e : fn.lv = l
    · unfold call
      rw [h]
      simp only [e, if_true]
    · simp only [e, if_false]
      rw [ih (by omega)]
end
end Ev
set_option Elab.async false
set_option linter.all false
set_option maxRecDepth 100000
set_option maxHeartbeats 4000000
/-! SndT0: a tuple taken once, or not at all. -/
namespace Snd
open PySem PySem.Spec PyProof.Rows L2
theorem mul_once (l : Addr) (xs : Array Value) (n : Nat) (dd : Option Addr) (sl : Array (Option Value)) (u : Tok) :
    Meets (Builtin.«tuple.__mul__» ⟨[.ref l, .int 1 u], []⟩) (fun _ R s => s.heap.get? l = some { cls := .type "tuple", dict := dd, data := .seq xs n, slots := sl } ∧ R (.ok (.ret (Value.ref l))) s) :=
  .of_wp fun prog w A R s h => by
    obtain ⟨h0, gl, d, tk, os⟩ := s
    obtain ⟨hl, h⟩ := h
    have f1 := AutoSeq1.idx_int
    have c0 : (decide ((1 : Int) < -(2 ^ 63)) || decide ((1 : Int) ≥ 2 ^ 63)) = false := by decide
    have c1 : (xs.isEmpty || (1 : Int) == 1) = true := by rw [beq_self_eq_true, Bool.or_true]
    wp_walk using wpAny_loadPart' hl
    repeat (first
      | (refine wpAny_ite_false (decide_eq_false (by rw [c0]; exact Bool.false_ne_true)) ?_; wp_walk using wpAny_loadPart' hl)
      | (refine wpAny_ite_true (decide_eq_true c1) ?_; wp_walk using wpAny_loadPart' hl))
    exact ⟨_, rfl, h⟩
theorem mul_none (l : Addr) (xs : Array Value) (n : Nat) (dd : Option Addr) (sl : Array (Option Value)) (x : Int) (u : Tok) (c0 : (decide (x < -(2 ^ 63)) || decide (x ≥ 2 ^ 63)) = false) (c1 : (xs.isEmpty || x == 1) = false) (c2 : (decide (x ≤ 0) || xs.isEmpty) = true) :
    Meets (Builtin.«tuple.__mul__» ⟨[.ref l, .int x u], []⟩) (fun _ R s => s.heap.get? l = some { cls := .type "tuple", dict := dd, data := .seq xs n, slots := sl } ∧
      R (.ok (.ret (Value.ref s.heap.objs.size))) { s with heap := s.heap.push { cls := Value.type "tuple", data := Data.seq #[] }, toks := s.toks }) :=
  .of_wp fun prog w A R s h => by
    obtain ⟨h0, gl, d, tk, os⟩ := s
    obtain ⟨hl, h⟩ := h
    have f1 := AutoSeq1.idx_int
    wp_walk using wpAny_loadPart' hl
    repeat (first
      | (refine wpAny_ite_false (decide_eq_false (by rw [c0]; exact Bool.false_ne_true)) ?_; wp_walk using wpAny_loadPart' hl)
      | (refine wpAny_ite_false (decide_eq_false (by rw [c1]; exact Bool.false_ne_true)) ?_; wp_walk using wpAny_loadPart' hl)
      | (refine wpAny_ite_true (decide_eq_true c2) ?_; wp_walk using wpAny_loadPart' hl))
    exact ⟨_, rfl, h⟩
/-- a tuple times a number -/
def rTm (K : PySem.W.Frag) : R2 := fun x y H Q => ∃ l k xs, x = .ref l ∧ y = .int k ∧ SqT K H l xs ∧ xs ≠ [] ∧ -1000 ≤ k ∧ k ≤ 1000 ∧ xs.length ≤ 1000 ∧ (k = 1 → Q (.ref l) H) ∧ (k ≠ 1 → ∀ p, H p = none → Q (.ref p) (upd H p (.tup (List.replicate k.toNat xs).flatten)))
theorem op_tm {X : Cx} : OpR X (binaryOp .Mult) (rTm X.K) := by
  intro pins s σ H x y v u Q I rx ry h
  obtain ⟨l, k, xs, rfl, rfl, hT, hne, h1, h2, hz, q1, q2⟩ := h
  by_cases k2 : 2 ≤ k
  · exact op_repT pins s σ H _ _ v u Q I rx ry ⟨l, k, xs, rfl, rfl, hT, hne, k2, h2, hz, q2 (by omega)⟩
  cases rx
  obtain ⟨t, rfl⟩ := ry
  obtain ⟨its, r, ⟨⟨cls, dd, data, sl⟩, ho, hc, n, hd⟩, hs⟩ := I.tuple hT
  simp only at hc hd
  subst hc hd
  have hle : its.length = xs.length := r.length.symm
  have hi : its.toArray.isEmpty = false := by
    cases its with
    | nil => exact absurd (List.eq_nil_of_length_eq_zero hle.symm) hne
    | cons a b => rfl
  by_cases k1 : k = 1
  · subst k1
    exact wpAny_binaryOp_repeat_ref (T := "tuple") (U := "int") (by decide) ⟨_, ho, rfl⟩ (fun s' => typeIs_int s' 1 t) noFill_tuple_mul F.fills_int_mul F.slot_int_rmul repeat_tuple F.slot_int_index.lookup
      (call_meets F.slot_int_rmul (typeIs_int s 1 t) F.entry_int_rmul (F.args_int_rmul_2 _ _) (int_rmul_tuple 1 t l its.toArray n dd sl)
        ⟨ho, rfl, ⟨_, ho, rfl⟩, call_meets F.slot_tuple_mul ⟨_, ho, rfl⟩ F.entry_tuple_mul (F.args_tuple_mul_2 _ _) (mul_once l its.toArray n dd sl t) ⟨ho, ⟨.ref l, H, I, rfl, q1 rfl⟩⟩⟩)
  · have c0 : (decide (k < -(2 ^ 63)) || decide (k ≥ 2 ^ 63)) = false := by
      rw [decide_eq_false (by omega), decide_eq_false (by omega)] <;> rfl
    have c1 : (its.toArray.isEmpty || k == 1) = false := by
      rw [hi, Bool.false_or]
      exact beq_eq_false_iff_ne.mpr k1
    have c2 : (decide (k ≤ 0) || its.toArray.isEmpty) = true := by
      rw [decide_eq_true (show k ≤ 0 by omega)] <;> rfl
    refine wpAny_binaryOp_repeat_ref (T := "tuple") (U := "int") (by decide) ⟨_, ho, rfl⟩ (fun s' => typeIs_int s' k t) noFill_tuple_mul F.fills_int_mul F.slot_int_rmul repeat_tuple F.slot_int_index.lookup
      (call_meets F.slot_int_rmul (typeIs_int s k t) F.entry_int_rmul (F.args_int_rmul_2 _ _) (int_rmul_tuple k t l its.toArray n dd sl)
        ⟨ho, rfl, ⟨_, ho, rfl⟩, call_meets F.slot_tuple_mul ⟨_, ho, rfl⟩ F.entry_tuple_mul (F.args_tuple_mul_2 _ _) (mul_none l its.toArray n dd sl k t c0 c1 c2) ⟨ho, ?_⟩⟩)
    have e : (List.replicate k.toNat xs).flatten = [] := by
      rw [show k.toNat = 0 by omega]
      rfl
    have q3 := q2 k1 s.heap.objs.size (I.hok.fresh (Nat.le_refl _))
    rw [e] at q3
    exact ⟨.ref s.heap.objs.size, _, I.laid (t' := s.toks) (o := .tup []) (fun b ob q => Heap.get?_push_of_some _ q) (Nat.le_refl _) ⟨Nat.zero_le _, [], .nil, IsTup.new _ _⟩, rfl, q3⟩
/-- n & 1 -/
theorem op_odd1 {X : Cx} : OpR X (binaryOp .BitAnd) (rI (fun i j => 0 ≤ i ∧ j = 1) fun i _ => .int (i.fmod 2)) := by
  intro pins s σ H x y v u Q I rx ry ⟨i, j, ex, ey, ⟨h0, h1⟩, q⟩
  subst ex ey h1
  obtain ⟨n, rfl⟩ := Int.eq_ofNat_of_zero_le h0
  refine op_odd pins s σ H _ _ v u Q I rx ry ⟨n, rfl, rfl, ?_⟩
  have e : (n : Int).fmod 2 = ((n % 2 : Nat) : Int) := by
    rw [Int.fmod_eq_emod_of_nonneg _ (by decide)]
    omega
  have q' : Q (.int ((n : Int).fmod 2)) H := q
  rw [e] at q'
  exact q'
end Snd
set_option Elab.async false
set_option linter.all false
set_option maxRecDepth 100000
/-! Snd: the evaluator's answers are the machine's. -/
namespace Snd
open PySem PySem.Spec PyProof.Rows L2 Ev

/-! ### names, ghosts -/
/-- the names of the text: attributes, classes, functions, constants -/
structure Nm where
  attr : Nat → Str
  cls : Nat → Str
  fn : Nat → (Str × Option Str) × Bool
  con : Nat → Str
  /-- the error that is handled: its address, its class, its own dict -/
  ex : Option (Addr × Value × Option Addr) := none
  /-- the instance that is being made: its address, its dict's -/
  me : Option (Addr × Addr) := none
/-- what is fixed through the law -/
structure Core where
  prog : Program
  w : World
  K : PySem.W.Frag
  mg : Str → Option Value
  base : Heap
abbrev co (X : Cx) : Core := ⟨X.prog, X.w, X.K, X.mg, X.base⟩
def strOf (l : List Nat) : Str := ⟨l.toArray⟩
theorem strOf_len (l : List Nat) : (strOf l).length = l.length := by simp [strOf, Str.length]
theorem strOf_cps (l : List Nat) : (strOf l).cps.toList = l := by simp [strOf]
theorem strOf_inj {a b : List Nat} : strOf a = strOf b ↔ a = b := ⟨fun h => by rw [← strOf_cps a, h, strOf_cps], fun h => by rw [h]⟩
theorem strOf_app (a b : List Nat) : strOf a ++ strOf b = strOf (a ++ b) := by
  show Str.append _ _ = _
  simp [strOf, Str.append]
/-- what is known of an address: an object that stays; one that others hold; a name's own list; an object of the store -/
inductive Tag where
  | imm (o : HO) | held (o : HO) | slot (i : Nat) | sto (k : Nat)
abbrev Gh := Addr → Option Tag
def Le (g g' : Gh) : Prop := ∀ a t, g a = some t → g' a = some t
theorem Le.refl (g : Gh) : Le g g := fun _ _ h => h
theorem Le.trans {g g1 g2 : Gh} (a : Le g g1) (b : Le g1 g2) : Le g g2 := fun x t h => b x t (a x t h)
/-- what data lean on -/
def Lim (g g' : Gh) : Prop := (∀ a o, g a = some (.imm o) → g' a = some (.imm o)) ∧ ∀ a k, g a = some (.sto k) → g' a = some (.sto k)
theorem Le.lim {g g' : Gh} (h : Le g g') : Lim g g' := ⟨fun a o e => h a _ e, fun a k e => h a _ e⟩
theorem Lim.refl (g : Gh) : Lim g g := ⟨fun _ _ h => h, fun _ _ h => h⟩
theorem Lim.trans {g g1 g2 : Gh} (a : Lim g g1) (b : Lim g1 g2) : Lim g g2 := ⟨fun x t h => b.1 x t (a.1 x t h), fun x t h => b.2 x t (a.2 x t h)⟩
def imH (g : Gh) : Hp := fun a => match g a with
  | some (.imm o) => some o
  | _ => none
theorem imH_of {g : Gh} {a : Addr} {o : HO} (h : g a = some (.imm o)) : imH g a = some o := by
  unfold imH
  rw [h]
theorem of_imH {g : Gh} {a : Addr} {o : HO} (h : imH g a = some o) : g a = some (.imm o) := by
  unfold imH at h
  split at h
  · rename_i o' e
    rw [e, Option.some.inj h]
  · cases h
theorem imH_same {g g' : Gh} (h : Lim g g') : Same (imH g) (imH g') := fun b o e => imH_of (h.1 b o (of_imH e))
theorem same_seqT {K : PySem.W.Frag} {H H' : Hp} {a : Addr} {xs : List V} (e : Same H H') (h : SqT K H a xs) : SqT K H' a xs := by
  rcases h with (h | ⟨o, h⟩) | h
  · exact .inl (.inl (e _ _ h))
  · exact .inl (.inr ⟨o, e _ _ h⟩)
  · exact .inr h

section
variable (T : Tab) (nm : Nm) (K : PySem.W.Frag)
def cad (c : Nat) : Addr := He.ga K (nm.cls c)
/-- a property's function -/
def propFn (K : PySem.W.Frag) (p : Addr) : Addr := match PySem.W.recIn K p "property" with
  | some (.ref g :: _) => g
  | _ => 0
def fpA (K : PySem.W.Frag) (q : (Str × Option Str) × Bool) : Addr := if q.2 then propFn K (He.fAd K q.1) else He.fAd K q.1
def fad (f : Nat) : Addr := fpA K (nm.fn f)
/-- the names of a class's fields -/
def fnames (c : Nat) : List Str := match T.cls c with
  | some C => C.fields.map nm.attr
  | none => []
mutual
inductive Rep (g : Gh) : D → V → Prop where
  | non : Rep g .non .non
  | bl (b : Bool) : Rep g (.bl b) (.bl b)
  | int (i : Int) : Rep g (.int i) (.int i)
  | str (s : List Nat) : Rep g (.str s) (.str (strOf s))
  | tup {p : Addr} {ds : List D} {vs : List V} : SqT K (imH g) p vs → Reps g ds vs → Rep g (.tup ds) (.ref p)
  | lst {p : Addr} {ds : List D} {vs : List V} : g p = some (.imm (.lst vs)) → Reps g ds vs → Rep g (.lst ds) (.ref p)
  | scr {p : Addr} {ns : List Int} : SqL K (imH g) p (ns.map V.int) → Rep g (.scr ns) (.ref p)
  | ins {p dx : Addr} {c : Nat} {ds : List D} {vs : List V} : g p = some (.imm (.ins (cad nm K c) dx ((fnames T nm c).zip vs))) → vs.length = (fnames T nm c).length → Reps g ds vs → Rep g (.ins c ds) (.ref p)
  | ref {p : Addr} {k : Nat} : g p = some (.sto k) → Rep g (.ref k) (.ref p)
inductive Reps (g : Gh) : List D → List V → Prop where
  | nil : Reps g [] []
  | cons {d : D} {v : V} {ds : List D} {vs : List V} : Rep g d v → Reps g ds vs → Reps g (d :: ds) (v :: vs)
end
end
section
variable {T : Tab} {nm : Nm} {K : PySem.W.Frag} {g g' : Gh}
mutual
theorem Rep.mono (h : Lim g g') : ∀ {d : D} {v : V}, Rep T nm K g d v → Rep T nm K g' d v
  | _, _, .non => .non
  | _, _, .bl b => .bl b
  | _, _, .int i => .int i
  | _, _, .str s => .str s
  | _, _, .tup s r => .tup (same_seqT (imH_same h) s) (Reps.mono h r)
  | _, _, .lst s r => .lst (h.1 _ _ s) (Reps.mono h r)
  | _, _, .scr s => .scr ((imH_same h).seq s)
  | _, _, .ins e l r => .ins (h.1 _ _ e) l (Reps.mono h r)
  | _, _, .ref e => .ref (h.2 _ _ e)
theorem Reps.mono (h : Lim g g') : ∀ {ds : List D} {vs : List V}, Reps T nm K g ds vs → Reps T nm K g' ds vs
  | _, _, .nil => .nil
  | _, _, .cons a r => .cons (Rep.mono h a) (Reps.mono h r)
end
theorem Reps.len : ∀ {ds : List D} {vs : List V}, Reps T nm K g ds vs → ds.length = vs.length
  | _, _, .nil => rfl
  | _, _, .cons _ r => by simp [Reps.len r]
theorem Reps.at : ∀ {ds : List D} {vs : List V} {i : Nat} {d : D}, Reps T nm K g ds vs → ds[i]? = some d → ∃ v, vs[i]? = some v ∧ Rep T nm K g d v
  | _, _, _, _, .nil, e => by simp at e
  | _, _, 0, _, .cons r _, e => by simp at e; subst e; exact ⟨_, rfl, r⟩
  | _, _, i + 1, _, .cons _ t, e => by
    obtain ⟨v, h1, h2⟩ := Reps.at (i := i) t (by simpa using e)
    exact ⟨v, by simpa using h1, h2⟩
theorem Reps.append : ∀ {ds es : List D} {vs ws : List V}, Reps T nm K g ds vs → Reps T nm K g es ws → Reps T nm K g (ds ++ es) (vs ++ ws)
  | _, _, _, _, .nil, s => s
  | _, _, _, _, .cons r t, s => .cons r (Reps.append t s)
theorem Reps.take : ∀ {ds : List D} {vs : List V} (n : Nat), Reps T nm K g ds vs → Reps T nm K g (ds.take n) (vs.take n)
  | _, _, 0, _ => .nil
  | _, _, _ + 1, .nil => .nil
  | _, _, n + 1, .cons r t => .cons r (Reps.take n t)
theorem Reps.drop : ∀ {ds : List D} {vs : List V} (n : Nat), Reps T nm K g ds vs → Reps T nm K g (ds.drop n) (vs.drop n)
  | _, _, 0, r => r
  | _, _, _ + 1, .nil => .nil
  | _, _, n + 1, .cons _ t => Reps.drop n t
theorem Reps.set {d : D} {v : V} (r : Rep T nm K g d v) : ∀ {ds : List D} {vs : List V} (i : Nat), Reps T nm K g ds vs → Reps T nm K g (ds.set i d) (vs.set i v)
  | _, _, _, .nil => .nil
  | _, _, 0, .cons _ t => .cons r t
  | _, _, i + 1, .cons q t => .cons q (Reps.set r i t)
end

section
variable (T : Tab) (nm : Nm) (K : PySem.W.Frag)
/-- an object of the store at an address -/
def keyOf : D → Option Key
  | .int i => some (.inl i)
  | .str z => some (.inr (strOf z))
  | _ => none
def KvR (g : Gh) : List (D × D) → List (Key × V) → Prop
  | [], [] => True
  | p :: r, q :: t => keyOf p.1 = some q.1 ∧ Rep T nm K g p.2 q.2 ∧ KvR g r t
  | _, _ => False
def ObR (g : Gh) : Ob → HO → Prop
  | .lst ds, o => ∃ vs, o = .lst vs ∧ Reps T nm K g ds vs
  | .ins c ds, o => ∃ dx vs, o = .ins (cad nm K c) dx ((fnames T nm c).zip vs) ∧ vs.length = (fnames T nm c).length ∧ Reps T nm K g ds vs
  | .dct kvs, o => ∃ kws, o = .dK kws ∧ KvR T nm K g kvs kws
/-- the ghost, the store, the heap -/
structure Mt0 (g : Gh) (st : Sto) (H : Hp) : Prop where
  imm : ∀ a o, g a = some (.imm o) → H a = some o
  held : ∀ a o, g a = some (.held o) → H a = some o
  sto : ∀ k ob, st[k]? = some ob → ∃ a o, g a = some (.sto k) ∧ H a = some o ∧ ObR T nm K g ob o
  stl : ∀ a k, g a = some (.sto k) → k < st.length
  uniq : ∀ a b k, g a = some (.sto k) → g b = some (.sto k) → a = b
  trk : ∀ a t, g a = some t → ∃ o, H a = some o
/-- an error -/
def XnR (g : Gh) (x : Xn) (cv : Value) (dd : Option Addr) : Prop := cv = .ref (cad nm K x.c) ∧
  ((x.ds = [] ∧ dd = none) ∨ ∃ d vs, dd = some d ∧ g d = some (.imm (.xd ((fnames T nm x.c).zip vs))) ∧ vs.length = (fnames T nm x.c).length ∧ Reps T nm K g x.ds vs)
/-- a name's value -/
def SlR (g : Gh) (H : Hp) (i : Nat) : D → V → Prop
  | .own ds, v => ∃ p vs, v = .ref p ∧ g p = some (.slot i) ∧ H p = some (.lst vs) ∧ Reps T nm K g ds vs
  | .obj c ds, v => ∃ p dx vs, (nm.me = some (p, dx) ∧ v = .ref p) ∧ g p = some (.slot i) ∧ H p = some (.ins (cad nm K c) dx ((fnames T nm c).zip vs)) ∧ vs.length = ds.length ∧ ds.length ≤ (fnames T nm c).length ∧ Reps T nm K g ds vs
  | .exc c ds, v => ∃ a cv dd, nm.ex = some (a, cv, dd) ∧ v = .ref a ∧ XnR T nm K g ⟨c, ds⟩ cv dd
  | d, v => Rep T nm K g d v
structure Mt (g : Gh) (ρ : Rho) (st : Sto) (σ : L2.St) (H : Hp) : Prop extends Mt0 T nm K g st H where
  len : ρ.length = σ.length
  slots : ∀ i d, ρ[i]? = some (some d) → ∃ v, σ[i]? = some (some v) ∧ SlR T nm K g H i d v
/-- an expression's value; g0: the ghost ahead of it -/
def RepR (g0 g : Gh) : D → V → Prop
  | .own ds, v => ∃ p vs, v = .ref p ∧ g p = some (.held (.lst vs)) ∧ g0 p = none ∧ Reps T nm K g ds vs
  | d, v => Rep T nm K g d v
/-- what is wanted behind a step of an expression: P of the answer, the store, the ghost, the heap -/
def Out {α : Type} (W : WX) (g : Gh) (ρ : Rho) (σ : L2.St) (P : α → Sto → Gh → Hp → Prop) : R α → Prop
  | .ok a st => ∀ g' H', Le g g' → Mt T nm K g' ρ st σ H' → P a st g' H'
  | .er x st => ∀ g' cv dd H', Le g g' → Mt T nm K g' ρ st σ H' → XnR T nm K g' x cv dd → W cv dd σ H'
  | .no => False
/-- a value that is looked at -/
def LkR (g : Gh) (ρ : Rho) (σ : L2.St) (d : D) (v : V) : Prop := (∃ i : Nat, ρ[i]? = some (some d) ∧ σ[i]? = some (some v)) ∨
  match d with
  | .own ds => ∃ p vs, v = .ref p ∧ g p = some (.held (.lst vs)) ∧ Reps T nm K g ds vs
  | d => Rep T nm K g d v
variable (cf : Nat → List D → Sto → R D)
def tE (W : WX) (e : E) : TE := fun σ H Q => ∃ g ρ st, Mt T nm K g ρ st σ H ∧ Out T nm K W g ρ σ (fun d _ g' H' => ∀ v, RepR T nm K g g' d v → Q v H') (evE T cf e ρ st)
def tB (W : WX) (e : E) : TE := fun σ H Q => ∃ g ρ st, Mt T nm K g ρ st σ H ∧ Out T nm K W g ρ σ (fun d _ g' H' => ∀ v, LkR T nm K g' ρ σ d v → Q v H') (bor e ρ st (evE T cf e ρ st))
def tT (W : WX) (e : Tt) : TT := fun σ H Q => ∃ g ρ st, Mt T nm K g ρ st σ H ∧ Out T nm K W g ρ σ (fun b _ _ H' => Q b H') (evT T cf e ρ st)
def tA (W : WX) (es : Es) : TA := fun σ H Q => ∃ g ρ st, Mt T nm K g ρ st σ H ∧ Out T nm K W g ρ σ (fun ds _ g' H' => ∀ vs, Reps T nm K g' ds vs → Q vs H') (evA T cf es ρ st)
def LkRs (g : Gh) (ρ : Rho) (σ : L2.St) : List D → List V → Prop
  | [], [] => True
  | d :: ds, v :: vs => LkR T nm K g ρ σ d v ∧ LkRs g ρ σ ds vs
  | _, _ => False
def tL (W : WX) (es : Es) : TA := fun σ H Q => ∃ g ρ st, Mt T nm K g ρ st σ H ∧ Out T nm K W g ρ σ (fun ds _ g' H' => ∀ vs, LkRs T nm K g' ρ σ ds vs → Q vs H') (evL T cf es ρ st)
end
section
variable {T : Tab} {nm : Nm} {K : PySem.W.Frag} {W : WX} {g g0 g1 : Gh} {ρ : Rho} {σ : L2.St} {H : Hp} {st : Sto}
theorem Out.imp {α : Type} {P P' : α → Sto → Gh → Hp → Prop} {r : R α} (h : Out T nm K W g ρ σ P r) (i : ∀ a st g' H', Le g g' → Mt T nm K g' ρ st σ H' → P a st g' H' → P' a st g' H') : Out T nm K W g ρ σ P' r := by
  cases r with
  | ok a st => exact fun g' H' l m => i a st g' H' l m (h g' H' l m)
  | er x st => exact h
  | no => exact h
theorem Out.le {α : Type} {P : α → Sto → Gh → Hp → Prop} {r : R α} (h : Out T nm K W g ρ σ P r) (l : Le g g1) : Out T nm K W g1 ρ σ P r := by
  cases r with
  | ok a st => exact fun g' H' l' m => h g' H' (l.trans l') m
  | er x st => exact fun g' cv dd H' l' m => h g' cv dd H' (l.trans l') m
  | no => exact h
theorem Out.bind {α β : Type} {P : β → Sto → Gh → Hp → Prop} {r : R α} {k : α → Sto → R β} (h : Out T nm K W g ρ σ P (r.bind k)) :
    Out T nm K W g ρ σ (fun a st g' _ => Out T nm K W g' ρ σ P (k a st)) r := by
  cases r with
  | ok a st => exact fun g' H' l m => Out.le h l
  | er x st => exact h
  | no => exact h
theorem Out.of {α : Type} {P : α → Sto → Gh → Hp → Prop} {o : Option α} (h : Out T nm K W g ρ σ P (R.of o st)) (m : Mt T nm K g ρ st σ H) : ∃ a, o = some a ∧ P a st g H := by
  cases o with
  | none => exact h.elim
  | some a => exact ⟨a, rfl, h g H (Le.refl g) m⟩
theorem Out.ok {α : Type} {P : α → Sto → Gh → Hp → Prop} {a : α} (h : Out T nm K W g ρ σ P (.ok a st)) (m : Mt T nm K g ρ st σ H) : P a st g H := h g H (Le.refl g) m

theorem Out.bind0 {α β : Type} {P : β → Sto → Gh → Hp → Prop} {r : R α} {k : α → Sto → R β} (h : Out T nm K W g ρ σ P (r.bind k)) :
    Out T nm K W g ρ σ (fun a st _ _ => Out T nm K W g ρ σ P (k a st)) r := by
  cases r with
  | ok a st => exact fun g' H' l m => h
  | er x st => exact h
  | no => exact h

/-! ### looking -/
theorem LkR.of_rep {d : D} {v : V} (h : RepR T nm K g0 g d v) : LkR T nm K g ρ σ d v := by
  refine .inr ?_
  cases d with
  | own ds =>
    obtain ⟨p, vs, e, h1, _, h2⟩ := h
    exact ⟨p, vs, e, h1, h2⟩
  | _ => exact h
theorem LkR.le {d : D} {v : V} (h : LkR T nm K g ρ σ d v) (l : Le g g1) : LkR T nm K g1 ρ σ d v := by
  rcases h with h | h
  · exact .inl h
  · refine .inr ?_
    cases d with
    | own ds =>
      obtain ⟨p, vs, e, h1, h2⟩ := h
      exact ⟨p, vs, e, l _ _ h1, h2.mono l.lim⟩
    | _ => exact Rep.mono l.lim h
theorem LkRs.le : ∀ {ds : List D} {vs : List V}, LkRs T nm K g ρ σ ds vs → Le g g1 → LkRs T nm K g1 ρ σ ds vs
  | [], [], h, _ => h
  | _ :: _, _ :: _, ⟨a, r⟩, l => ⟨a.le l, LkRs.le r l⟩
/-- no own list, no self: it may be kept -/
def plain : D → Bool
  | .own _ => false
  | .obj _ _ => false
  | .exc _ _ => false
  | _ => true
theorem LkR.rep {d : D} {v : V} (h : LkR T nm K g ρ σ d v) (m : Mt T nm K g ρ st σ H) (p : plain d = true) : Rep T nm K g d v := by
  rcases h with ⟨i, h1, h2⟩ | h
  · obtain ⟨w, e, r⟩ := m.slots i d h1
    rw [h2] at e
    cases e
    cases d with
    | own ds => cases p
    | obj c ds => cases p
    | exc c ds => cases p
    | _ => exact r
  · cases d with
    | own ds => cases p
    | _ => exact h
/-- an own list, looked at -/
theorem LkR.own {ds : List D} {v : V} (h : LkR T nm K g ρ σ (.own ds) v) (m : Mt T nm K g ρ st σ H) : ∃ p vs, v = .ref p ∧ H p = some (.lst vs) ∧ Reps T nm K g ds vs := by
  rcases h with ⟨i, h1, h2⟩ | ⟨p, vs, e, h1, h2⟩
  · obtain ⟨w, e, p, vs, ew, _, hp, r⟩ := m.slots i _ h1
    rw [h2] at e
    cases e
    exact ⟨p, vs, ew, hp, r⟩
  · exact ⟨p, vs, e, m.held _ _ h1, h2⟩
theorem RepR.plain {d : D} {v : V} (h : Rep T nm K g d v) (p : Snd.plain d = true) : RepR T nm K g0 g d v := by
  cases d with
  | own ds => cases p
  | _ => exact h
theorem RepR.rep {d : D} {v : V} (h : RepR T nm K g0 g d v) (p : Snd.plain d = true) : Rep T nm K g d v := by
  cases d with
  | own ds => cases p
  | _ => exact h

/-! ### ghosts that change -/
def put (g : Gh) (p : Addr) (t : Tag) : Gh := fun a => if a = p then some t else g a
theorem put_same {g : Gh} {p : Addr} {t : Tag} : put g p t p = some t := if_pos rfl
theorem put_ne {g : Gh} {p a : Addr} {t : Tag} (h : a ≠ p) : put g p t a = g a := if_neg h
theorem le_put {g : Gh} {p : Addr} {t : Tag} (h : g p = none) : Le g (put g p t) := fun a u e => by
  rw [put_ne (fun z => by rw [z, h] at e; cases e)]
  exact e
theorem Mt0.fresh (m : Mt0 T nm K g st H) {p : Addr} (h : H p = none) : g p = none := by
  cases e : g p with
  | none => rfl
  | some t =>
    obtain ⟨o, ho⟩ := m.trk p t e
    rw [h] at ho
    cases ho
theorem XnR.mono {x : Xn} {cv : Value} {dd : Option Addr} (h : XnR T nm K g x cv dd) (l : Lim g g1) : XnR T nm K g1 x cv dd := by
  obtain ⟨e, h⟩ := h
  refine ⟨e, ?_⟩
  rcases h with h | ⟨d, vs, e1, e2, e3, r⟩
  · exact .inl h
  · exact .inr ⟨d, vs, e1, l.1 _ _ e2, e3, r.mono l⟩
theorem SlR.mono {i : Nat} {d : D} {v : V} {H' : Hp} (h : SlR T nm K g H i d v) (l : Lim g g1) (hs : ∀ p, g p = some (.slot i) → g1 p = some (.slot i) ∧ H' p = H p) : SlR T nm K g1 H' i d v := by
  cases d with
  | own ds =>
    obtain ⟨p, vs, e, h1, h2, h3⟩ := h
    obtain ⟨a, b⟩ := hs p h1
    exact ⟨p, vs, e, a, b.trans h2, h3.mono l⟩
  | obj c ds =>
    obtain ⟨p, dx, vs, e, h1, h2, h3, h4, h5⟩ := h
    obtain ⟨a, b⟩ := hs p h1
    exact ⟨p, dx, vs, e, a, b.trans h2, h3, h4, h5.mono l⟩
  | exc c ds =>
    obtain ⟨a, cv, dd, h1, h2, h3⟩ := h
    exact ⟨a, cv, dd, h1, h2, h3.mono l⟩
  | _ => exact Rep.mono l h
/-- a new object, known to be o, tagged t (it is no object of the store) -/
theorem KvR.mono : ∀ {kvs : List (D × D)} {kws : List (Key × V)}, KvR T nm K g kvs kws → Lim g g1 → KvR T nm K g1 kvs kws
  | [], [], h, _ => h
  | _ :: _, _ :: _, ⟨a, b, r⟩, l => ⟨a, b.mono l, KvR.mono r l⟩
  | [], _ :: _, h, _ => h.elim
  | _ :: _, [], h, _ => h.elim
theorem Mt0.new (m : Mt0 T nm K g st H) {p : Addr} {o : HO} (h : H p = none) {t : Tag} (ht : (t = .imm o ∨ t = .held o) ∨ ∃ i, t = .slot i) : Mt0 T nm K (put g p t) st (upd H p o) := by
  have gp := m.fresh h
  have l : Le g (put g p t) := le_put gp
  have nh : ∀ a o', H a = some o' → a ≠ p := fun a o' e z => by rw [z, h] at e; cases e
  have old : ∀ a u, a ≠ p → put g p t a = some u → g a = some u := fun a u n e => by rw [put_ne n] at e; exact e
  refine ⟨fun a o' e => ?_, fun a o' e => ?_, fun k ob e => ?_, fun a k e => ?_, fun a b k e1 e2 => ?_, fun a u e => ?_⟩
  · by_cases n : a = p
    · subst n
      rw [put_same] at e
      rw [upd_same]
      rcases ht with (z | z) | ⟨i, z⟩ <;> rw [z] at e <;> cases e
      rfl
    · rw [upd_ne n]
      exact m.imm a o' (old a _ n e)
  · by_cases n : a = p
    · subst n
      rw [put_same] at e
      rw [upd_same]
      rcases ht with (z | z) | ⟨i, z⟩ <;> rw [z] at e <;> cases e
      rfl
    · rw [upd_ne n]
      exact m.held a o' (old a _ n e)
  · obtain ⟨a, o', e1, e2, r⟩ := m.sto k ob e
    refine ⟨a, o', l _ _ e1, by rw [upd_ne (nh a _ e2)]; exact e2, ?_⟩
    cases ob with
    | lst ds =>
      obtain ⟨vs, e3, r⟩ := r
      exact ⟨vs, e3, r.mono l.lim⟩
    | ins c ds =>
      obtain ⟨dx, vs, e3, e4, r⟩ := r
      exact ⟨dx, vs, e3, e4, r.mono l.lim⟩
    | dct kvs =>
      obtain ⟨kws, e3, r⟩ := r
      exact ⟨kws, e3, r.mono l.lim⟩
  · by_cases n : a = p
    · subst n
      rw [put_same] at e
      rcases ht with (z | z) | ⟨i, z⟩ <;> rw [z] at e <;> cases e
    · exact m.stl a k (old a _ n e)
  · have na : a ≠ p := fun z => by
      rw [z, put_same] at e1
      rcases ht with (z | z) | ⟨i, z⟩ <;> rw [z] at e1 <;> cases e1
    have nb : b ≠ p := fun z => by
      rw [z, put_same] at e2
      rcases ht with (z | z) | ⟨i, z⟩ <;> rw [z] at e2 <;> cases e2
    exact m.uniq a b k (old a _ na e1) (old b _ nb e2)
  · by_cases n : a = p
    · subst n
      exact ⟨o, upd_same⟩
    · obtain ⟨o', e'⟩ := m.trk a u (old a _ n e)
      exact ⟨o', by rw [upd_ne n]; exact e'⟩
theorem Mt.new (m : Mt T nm K g ρ st σ H) {p : Addr} {o : HO} (h : H p = none) {t : Tag} (ht : t = .imm o ∨ t = .held o) : Mt T nm K (put g p t) ρ st σ (upd H p o) := by
  have l : Le g (put g p t) := le_put (m.fresh h)
  refine ⟨m.toMt0.new h (.inl ht), m.len, fun i d e => ?_⟩
  obtain ⟨v, e1, r⟩ := m.slots i d e
  refine ⟨v, e1, r.mono l.lim fun q e2 => ⟨l _ _ e2, ?_⟩⟩
  obtain ⟨o', e'⟩ := m.trk q _ e2
  exact upd_ne fun z => by rw [z, h] at e'; cases e'
/-- another word about an address that no name and no object of the store has -/
theorem Mt.retag (m : Mt T nm K g ρ st σ H) {p : Addr} {o : HO} (h : g p = some (.held o)) {t : Tag} (ht : t = .imm o ∨ t = .held o) : Mt T nm K (put g p t) ρ st σ H ∧ Lim g (put g p t) := by
  have lm : Lim g (put g p t) := ⟨fun a o e => by rw [put_ne (fun z => by rw [z, h] at e; cases e)]; exact e, fun a k e => by rw [put_ne (fun z => by rw [z, h] at e; cases e)]; exact e⟩
  have old : ∀ a u, a ≠ p → put g p t a = some u → g a = some u := fun a u n e => by rw [put_ne n] at e; exact e
  refine ⟨⟨⟨fun a o' e => ?_, fun a o' e => ?_, fun k ob e => ?_, fun a k e => ?_, fun a b k e1 e2 => ?_, fun a u e => ?_⟩, m.len, fun i d e => ?_⟩, lm⟩
  · by_cases n : a = p
    · subst n
      rw [put_same] at e
      rcases ht with z | z <;> rw [z] at e <;> cases e
      exact m.held _ _ h
    · exact m.imm a o' (old a _ n e)
  · by_cases n : a = p
    · subst n
      rw [put_same] at e
      rcases ht with z | z <;> rw [z] at e <;> cases e
      exact m.held _ _ h
    · exact m.held a o' (old a _ n e)
  · obtain ⟨a, o', e1, e2, r⟩ := m.sto k ob e
    refine ⟨a, o', lm.2 _ _ e1, e2, ?_⟩
    cases ob with
    | lst ds =>
      obtain ⟨vs, e3, r⟩ := r
      exact ⟨vs, e3, r.mono lm⟩
    | ins c ds =>
      obtain ⟨dx, vs, e3, e4, r⟩ := r
      exact ⟨dx, vs, e3, e4, r.mono lm⟩
    | dct kvs =>
      obtain ⟨kws, e3, r⟩ := r
      exact ⟨kws, e3, r.mono lm⟩
  · by_cases n : a = p
    · subst n
      rw [put_same] at e
      rcases ht with z | z <;> rw [z] at e <;> cases e
    · exact m.stl a k (old a _ n e)
  · have na : a ≠ p := fun z => by
      rw [z, put_same] at e1
      rcases ht with z | z <;> rw [z] at e1 <;> cases e1
    have nb : b ≠ p := fun z => by
      rw [z, put_same] at e2
      rcases ht with z | z <;> rw [z] at e2 <;> cases e2
    exact m.uniq a b k (old a _ na e1) (old b _ nb e2)
  · by_cases n : a = p
    · subst n
      exact ⟨o, m.held _ _ h⟩
    · exact m.trk a u (old a _ n e)
  · obtain ⟨v, e1, r⟩ := m.slots i d e
    refine ⟨v, e1, r.mono lm fun q e2 => ⟨?_, rfl⟩⟩
    rw [put_ne (fun z => by rw [z, h] at e2; cases e2)]
    exact e2
theorem Le.retag {p : Addr} {t : Tag} (l : Le g g1) (n : g p = none) : Le g (put g1 p t) := fun a u e => by
  rw [put_ne (fun z => by rw [z, n] at e; cases e)]
  exact l a u e
/-- a value that is kept: an own list is not changed any more -/
theorem kept {d : D} {v : V} (r : RepR T nm K g g1 d v) (m : Mt T nm K g1 ρ st σ H) (l : Le g g1) : ∃ g2, Le g g2 ∧ Mt T nm K g2 ρ st σ H ∧ Rep T nm K g2 (fz d) v := by
  cases d with
  | own ds =>
    obtain ⟨p, vs, e, h1, h2, h3⟩ := r
    obtain ⟨m2, lm⟩ := m.retag h1 (t := .imm (.lst vs)) (.inl rfl)
    subst e
    exact ⟨_, l.retag h2, m2, .lst put_same (h3.mono lm)⟩
  | _ => exact ⟨g1, l, m, r⟩
end

/-! ### readings that are weaker -/
section
variable {X : Cx}
theorem PE.imp {e : Expr} {t t' : TE} (h : PE X e t) (i : ∀ σ H Q, t' σ H Q → t σ H Q) : PE X e t' := ⟨fun pins s σ H Q I q => h.run pins s σ H Q I (i σ H Q q)⟩
theorem PT.imp {e : Expr} {t t' : TT} (h : PT X e t) (i : ∀ σ H Q, t' σ H Q → t σ H Q) : PT X e t' := ⟨fun pins s σ H Q I q => h.run pins s σ H Q I (i σ H Q q)⟩
theorem PA.imp {e : List Expr} {t t' : TA} (h : PA X e t) (i : ∀ σ H Q, t' σ H Q → t σ H Q) : PA X e t' := ⟨fun pos pins s σ H Q I q => h.run pos pins s σ H Q I (i σ H Q q)⟩
theorem PS.imp {e : Stmt} {t t' : TS} (h : PS X e t) (i : ∀ D σ H, t' D σ H → t D σ H) : PS X e t' := ⟨fun pins s σ H D I q => h.run pins s σ H D I (i D σ H q)⟩
theorem PSs.imp {e : List Stmt} {t t' : TS} (h : PSs X e t) (i : ∀ D σ H, t' D σ H → t D σ H) : PSs X e t' := ⟨fun pins s σ H D I q => h.run pins s σ H D I (i D σ H q)⟩
end

/-! ### expressions -/
section
variable {X : Cx} {T : Tab} {nm : Nm} {W : WX} {cf : Nat → List D → Sto → R D} {pos : Pos}
theorem se_non {j} : PE X (.Constant .none j pos) (tE T nm X.K cf W .non) := PE.imp pe_non fun σ H Q ⟨g, ρ, st, m, o⟩ => Out.ok o m _ .non
theorem se_bl {b j} : PE X (.Constant (.bool b) j pos) (tE T nm X.K cf W (.bl b)) := PE.imp pe_bl fun σ H Q ⟨g, ρ, st, m, o⟩ => Out.ok o m _ (.bl b)
theorem se_int {i j} : PE X (.Constant (.int i) j pos) (tE T nm X.K cf W (.int i)) := PE.imp pe_int fun σ H Q ⟨g, ρ, st, m, o⟩ => Out.ok o m _ (.int i)
theorem se_str {x : Str} {s : List Nat} {j} (h : x = strOf s) : PE X (.Constant (.str x) j pos) (tE T nm X.K cf W (.str s)) := PE.imp pe_str fun σ H Q ⟨g, ρ, st, m, o⟩ => by
  subst h
  exact Out.ok o m _ (.str s)
theorem rdV_some {ρ : Rho} {i : Nat} {d : D} (h : rdV ρ i = some d) : ρ[i]? = some (some d) ∧ plain d = true := by
  unfold rdV at h
  split at h
  · cases h
  · cases h
  · cases h
  · rename_i d' n1 n2 n3 e
    cases h
    refine ⟨e, ?_⟩
    cases d with
    | own ds => exact (n1 ds rfl).elim
    | obj c ds => exact (n2 c ds rfl).elim
    | exc c ds => exact (n3 c ds rfl).elim
    | _ => rfl
  · cases h
theorem rdB_some {ρ : Rho} {i : Nat} {d : D} (h : rdB ρ i = some d) : ρ[i]? = some (some d) := by
  unfold rdB at h
  split at h
  · rename_i e
    cases h
    exact e
  · cases h
theorem se_var {i : Nat} {x : Str} (hN : X.N[i]? = some x) (hv : Vis X.env.scope x) (hd : (x == ("__debug__" : Str)) = false) (hcd : (x == ("__classdict__" : Str)) = false) : PE X (.Name x pos) (tE T nm X.K cf W (.var i)) :=
  PE.imp (pe_var hN hv hd hcd) fun σ H Q ⟨g, ρ, st, m, o⟩ => by
    obtain ⟨d, e, q⟩ := Out.of o m
    obtain ⟨e1, p⟩ := rdV_some e
    obtain ⟨v, e2, r⟩ := m.slots i d e1
    refine ⟨v, e2, q v (RepR.plain ?_ p)⟩
    cases d with
    | own ds => cases p
    | obj c ds => cases p
    | exc c ds => cases p
    | _ => exact r
theorem sb_var {i : Nat} {x : Str} (hN : X.N[i]? = some x) (hv : Vis X.env.scope x) (hd : (x == ("__debug__" : Str)) = false) (hcd : (x == ("__classdict__" : Str)) = false) : PE X (.Name x pos) (tB T nm X.K cf W (.var i)) :=
  PE.imp (pe_var hN hv hd hcd) fun σ H Q ⟨g, ρ, st, m, o⟩ => by
    obtain ⟨d, e, q⟩ := Out.of (o := rdB ρ i) o m
    have e1 := rdB_some e
    obtain ⟨v, e2, r⟩ := m.slots i d e1
    exact ⟨v, e2, q v (.inl ⟨i, e1, e2⟩)⟩
/-- what is evaluated may be looked at -/
theorem sb_of {e : Expr} {a : E} (h : PE X e (tE T nm X.K cf W a)) (n : ∀ i, a ≠ .var i) : PE X e (tB T nm X.K cf W a) :=
  PE.imp h fun σ H Q ⟨g, ρ, st, m, o⟩ => ⟨g, ρ, st, m, by
    have e : bor a ρ st (evE T cf a ρ st) = evE T cf a ρ st := by
      cases a with
      | var i => exact absurd rfl (n i)
      | _ => rfl
    rw [e] at o
    exact Out.imp o fun d st g' H' l m' q v r => q v (LkR.of_rep r)⟩
end

section
variable {X : Cx} {T : Tab} {nm : Nm} {W : WX} {cf : Nat → List D → Sto → R D} {pos : Pos}
/-! ### arguments -/
theorem sa_nil : PA X [] (tA T nm X.K cf W .nil) := PA.imp pa_nil fun σ H Q ⟨g, ρ, st, m, o⟩ => Out.ok o m [] .nil
theorem sa_cons {e : Expr} {es : List Expr} {a : E} {as : Es} (ha : PE X e (tE T nm X.K cf W a)) (hr : PA X es (tA T nm X.K cf W as)) (hs : starEach (e :: es) X.env = (false, eval e X.env) :: starEach es X.env) : PA X (e :: es) (tA T nm X.K cf W (.cons a as)) :=
  PA.imp (pa_cons ha hr hs) fun σ H Q ⟨g, ρ, st, m, o⟩ => ⟨g, ρ, st, m, Out.imp (Out.bind0 o) fun d st1 g1 H1 l1 m1 o1 v r => by
    obtain ⟨g2, l2, m2, r2⟩ := kept r m1 l1
    exact ⟨g2, ρ, st1, m2, Out.imp (Out.bind0 (o1.le l2)) fun ds st2 g3 H3 l3 m3 o3 vs rs => (o3.le l3).ok m3 (v :: vs) (.cons (r2.mono l3.lim) rs)⟩⟩
theorem sl_nil : PA X [] (tL T nm X.K cf W .nil) := PA.imp pa_nil fun σ H Q ⟨g, ρ, st, m, o⟩ => Out.ok o m [] trivial
theorem sl_cons {e : Expr} {es : List Expr} {a : E} {as : Es} (ha : PE X e (tB T nm X.K cf W a)) (hr : PA X es (tL T nm X.K cf W as)) (hs : starEach (e :: es) X.env = (false, eval e X.env) :: starEach es X.env) : PA X (e :: es) (tL T nm X.K cf W (.cons a as)) :=
  PA.imp (pa_cons ha hr hs) fun σ H Q ⟨g, ρ, st, m, o⟩ => ⟨g, ρ, st, m, Out.imp (Out.bind o) fun d st1 g1 H1 l1 m1 o1 v r =>
    ⟨g1, ρ, st1, m1, Out.imp (Out.bind o1) fun ds st2 g2 H2 l2 m2 o2 vs rs => Out.ok o2 m2 (v :: vs) ⟨r.le l2, rs⟩⟩⟩
/-! ### tests -/
theorem st_not {e : Expr} {a : Tt} (ha : PT X e (tT T nm X.K cf W a)) : PT X (.UnaryOp .Not e pos) (tT T nm X.K cf W (.not a)) :=
  PT.imp (pt_not ha) fun σ H Q ⟨g, ρ, st, m, o⟩ => ⟨g, ρ, st, m, Out.imp (Out.bind o) fun b st1 g1 H1 l1 m1 o1 => Out.ok o1 m1⟩
/-- a test whatever its 'whole' is -/
theorem PW.imp {e : Expr} {t t' : TT} (h : PW X e t) (i : ∀ σ H Q, t' σ H Q → t σ H Q) : PW X e t' := ⟨fun wh pins s σ H Q I q => h.run wh pins s σ H Q I (i σ H Q q)⟩
theorem sw_and {a b : Expr} {rest : List Expr} {x y : Tt} (ha : PT X a (tT T nm X.K cf W x)) (hb : PW X (.BoolOp .And (b :: rest) pos) (tT T nm X.K cf W y)) : PW X (.BoolOp .And (a :: b :: rest) pos) (tT T nm X.K cf W (.and x y)) :=
  PW.imp (pw_and ha hb) fun σ H Q ⟨g, ρ, st, m, o⟩ => ⟨g, ρ, st, m, Out.imp (Out.bind o) fun k st1 g1 H1 l1 m1 o1 => by
    cases k with
    | true => exact ⟨g1, ρ, st1, m1, o1⟩
    | false => exact Out.ok o1 m1⟩
theorem sw_or {a b : Expr} {rest : List Expr} {x y : Tt} (ha : PT X a (tT T nm X.K cf W x)) (hb : PW X (.BoolOp .Or (b :: rest) pos) (tT T nm X.K cf W y)) : PW X (.BoolOp .Or (a :: b :: rest) pos) (tT T nm X.K cf W (.or x y)) :=
  PW.imp (pw_or ha hb) fun σ H Q ⟨g, ρ, st, m, o⟩ => ⟨g, ρ, st, m, Out.imp (Out.bind o) fun k st1 g1 H1 l1 m1 o1 => by
    cases k with
    | true => exact Out.ok o1 m1
    | false => exact ⟨g1, ρ, st1, m1, o1⟩⟩
theorem str_ne0 {s : Str} : (s.length == 0) = s.cps.toList.isEmpty := by
  cases s with
  | mk a =>
    cases a with
    | mk l => cases l <;> simp [Str.length]
theorem sto_lst {r : Nat} {ds : List D} {x : V} {g : Gh} {ρ : Rho} {σ : L2.St} {H : Hp} {st : Sto} (h : LkR T nm X.K g ρ σ (.ref r) x) (m : Mt T nm X.K g ρ st σ H) (e : st[r]? = some (.lst ds)) : ∃ p vs, x = .ref p ∧ g p = some (.sto r) ∧ H p = some (.lst vs) ∧ Reps T nm X.K g ds vs := by
  cases h.rep m rfl with
  | @ref p _ gp =>
    obtain ⟨a, o, ga, ha, vs, eo, rr⟩ := m.sto r _ e
    have z := m.uniq _ _ _ ga gp
    subst z
    subst eo
    exact ⟨a, vs, rfl, gp, ha, rr⟩
/-- a list that is read -/
theorem lstS_ok {d : D} {ds : List D} {x : V} {g : Gh} {ρ : Rho} {σ : L2.St} {H : Hp} {st : Sto} (h : LkR T nm X.K g ρ σ d x) (m : Mt T nm X.K g ρ st σ H) (e : lstS st d = some ds) : ∃ p vs, x = .ref p ∧ H p = some (.lst vs) ∧ Reps T nm X.K g ds vs := by
  cases d with
  | lst es =>
    cases e
    cases h.rep m rfl with
    | lst s r => exact ⟨_, _, rfl, m.imm _ _ s, r⟩
  | own es =>
    cases e
    exact h.own m
  | ref r =>
    cases h1 : st[r]? with
    | none => simp only [lstS, h1] at e; cases e
    | some ob =>
      cases ob with
      | lst es =>
        simp only [lstS, h1] at e
        cases e
        obtain ⟨p, vs, a, _, b, c⟩ := sto_lst h m h1
        exact ⟨p, vs, a, b, c⟩
      | _ => simp only [lstS, h1] at e; cases e
  | _ => cases e
/-- how a value looks as a test -/
theorem tru_of {g : Gh} {ρ : Rho} {σ : L2.St} {H : Hp} {st : Sto} {d : D} {v : V} {b : Bool} (m : Mt T nm X.K g ρ st σ H) (l : LkR T nm X.K g ρ σ d v) (h : truth d = some b) : TruV X.K v H b := by
  cases d with
  | non =>
    cases l.rep m rfl
    exact (Option.some.inj h).symm
  | bl k =>
    cases l.rep m rfl
    exact (Option.some.inj h).symm
  | int i =>
    cases l.rep m rfl
    exact (Option.some.inj h).symm
  | tup ds =>
    cases l.rep m rfl with
    | tup s r =>
      refine .inr (.inl ⟨_, same_seqT (fun a o e => m.imm a o (of_imH e)) s, ?_⟩)
      rw [← Option.some.inj h]
      cases r <;> rfl
  | lst ds =>
    cases l.rep m rfl with
    | lst s r =>
      refine .inl ⟨_, .of (m.imm _ _ s), ?_⟩
      rw [← Option.some.inj h]
      cases r <;> rfl
  | own ds =>
    obtain ⟨p, vs, e, hp, r⟩ := l.own m
    subst e
    refine .inl ⟨_, .of hp, ?_⟩
    rw [← Option.some.inj h]
    cases r <;> rfl
  | _ => cases h
theorem tru_ofS {g : Gh} {ρ : Rho} {σ : L2.St} {H : Hp} {st : Sto} {d : D} {v : V} {b : Bool} (m : Mt T nm X.K g ρ st σ H) (l : LkR T nm X.K g ρ σ d v) (h : truthS st d = some b) : TruV X.K v H b := by
  cases d with
  | ref r =>
    cases h1 : st[r]? with
    | none => simp only [truthS, h1] at h; cases h
    | some ob =>
      cases ob with
      | lst es =>
        simp only [truthS, h1] at h
        obtain ⟨p, vs, a, _, hp, r⟩ := sto_lst l m h1
        subst a
        refine .inl ⟨_, .of hp, ?_⟩
        rw [← Option.some.inj h]
        cases r <;> rfl
      | _ => simp only [truthS, h1] at h; cases h
  | _ => exact tru_of m l h
theorem st_e {e : Expr} {a : E} (ha : PE X e (tB T nm X.K cf W a)) (he : ∀ whole, isTrue e X.env whole = (do let v ← whole; standAt e.pos; holding [v] (truthy v))) : PT X e (tT T nm X.K cf W (.e a)) :=
  PT.imp (pt_truth ha he) fun σ H Q ⟨g, ρ, st, m, o⟩ => ⟨g, ρ, st, m, Out.imp (Out.bind o) fun d st1 g1 H1 l1 m1 o1 v r => by
    obtain ⟨b, e, q⟩ := Out.of o1 m1
    exact ⟨b, tru_ofS m1 r e, q⟩⟩
/-! ### and, or, not, if as values -/
theorem RepR.back {g0 g1 g : Gh} {K : PySem.W.Frag} {d : D} {v : V} (h : RepR T nm K g1 g d v) (l : Le g0 g1) : RepR T nm K g0 g d v := by
  cases d with
  | own ds =>
    obtain ⟨p, vs, e, h1, h2, h3⟩ := h
    refine ⟨p, vs, e, h1, ?_, h3⟩
    cases q : g0 p with
    | none => rfl
    | some t =>
      rw [l _ _ q] at h2
      cases h2
  | _ => exact h
/-- go on with another expression -/
theorem tE_go {g0 g : Gh} {ρ : Rho} {σ : L2.St} {H : Hp} {st : Sto} {Q : VK} {a : E} (m : Mt T nm X.K g ρ st σ H) (l : Le g0 g) (o : Out T nm X.K W g0 ρ σ (fun d _ g' H' => ∀ v, RepR T nm X.K g0 g' d v → Q v H') (evE T cf a ρ st)) : tE T nm X.K cf W a σ H Q :=
  ⟨g, ρ, st, m, Out.imp (o.le l) fun _ _ _ _ _ _ q v r => q v (r.back l)⟩
theorem se_not {e : Expr} {a : E} (ha : PE X e (tB T nm X.K cf W a)) : PE X (.UnaryOp .Not e pos) (tE T nm X.K cf W (.not a)) :=
  PE.imp (pe_notT ha) fun σ H Q ⟨g, ρ, st, m, o⟩ => ⟨g, ρ, st, m, Out.imp (Out.bind o) fun d st1 g1 H1 l1 m1 o1 v r => by
    obtain ⟨b, e, q⟩ := Out.of o1 m1
    cases h : truthS st1 d with
    | none =>
      rw [h] at e
      cases e
    | some k =>
      rw [h] at e
      cases e
      exact ⟨k, tru_ofS m1 r h, q _ (.bl _)⟩⟩
theorem se_ite {c x y : Expr} {t : Tt} {a b : E} (hc : PT X c (tT T nm X.K cf W t)) (ha : PE X x (tE T nm X.K cf W a)) (hb : PE X y (tE T nm X.K cf W b)) : PE X (.IfExp c x y pos) (tE T nm X.K cf W (.ite t a b)) :=
  PE.imp (pe_ifExp hc ha hb) fun σ H Q ⟨g, ρ, st, m, o⟩ => ⟨g, ρ, st, m, Out.imp (Out.bind0 o) fun k st1 g1 H1 l1 m1 o1 => by
    cases k with
    | true => exact tE_go m1 l1 o1
    | false => exact tE_go m1 l1 o1⟩
theorem se_and {a b : Expr} {rest : List Expr} {x y : E} (ha : PE X a (tE T nm X.K cf W x)) (hb : PE X (.BoolOp .And (b :: rest) pos) (tE T nm X.K cf W y)) : PE X (.BoolOp .And (a :: b :: rest) pos) (tE T nm X.K cf W (.and x y)) :=
  PE.imp (pe_and ha hb) fun σ H Q ⟨g, ρ, st, m, o⟩ => ⟨g, ρ, st, m, Out.imp (Out.bind0 o) fun d st1 g1 H1 l1 m1 o1 v r => by
    cases d with
    | bl k =>
      cases r
      refine ⟨k, rfl, ?_⟩
      cases k with
      | true => exact tE_go m1 l1 o1
      | false => exact (o1.le l1).ok m1 _ (.bl _)
    | _ => exact o1.elim⟩
theorem se_or {a b : Expr} {rest : List Expr} {x y : E} (ha : PE X a (tE T nm X.K cf W x)) (hb : PE X (.BoolOp .Or (b :: rest) pos) (tE T nm X.K cf W y)) : PE X (.BoolOp .Or (a :: b :: rest) pos) (tE T nm X.K cf W (.or x y)) :=
  PE.imp (pe_or ha hb) fun σ H Q ⟨g, ρ, st, m, o⟩ => ⟨g, ρ, st, m, Out.imp (Out.bind0 o) fun d st1 g1 H1 l1 m1 o1 v r => by
    cases d with
    | bl k =>
      cases r
      refine ⟨k, rfl, ?_⟩
      cases k with
      | true => exact (o1.le l1).ok m1 _ (.bl _)
      | false => exact tE_go m1 l1 o1
    | _ => exact o1.elim⟩

/-! ### displays -/
theorem reps_len {g : Gh} {K : PySem.W.Frag} {ds : List D} {vs : List V} (r : Reps T nm K g ds vs) (h : ds.length ≤ LINE) : vs.length ≤ sizeLine := by
  rw [← r.len]
  exact Nat.le_trans h (by decide)
theorem se_tup {es : List Expr} {as : Es} {k} (h : PA X es (tA T nm X.K cf W as)) : PE X (.Tuple es k pos) (tE T nm X.K cf W (.tup as)) :=
  PE.imp (pe_tup h) fun σ H Q ⟨g, ρ, st, m, o⟩ => ⟨g, ρ, st, m, Out.imp (Out.bind0 o) fun ds st1 g1 H1 l1 m1 o1 vs r => by
    by_cases z : ds.length ≤ LINE
    · rw [if_pos z] at o1
      refine ⟨reps_len r z, fun p hp => ?_⟩
      have l2 : Le g1 (put g1 p (.imm (.tup vs))) := le_put (m1.fresh hp)
      exact o1 _ _ (l1.trans l2) (m1.new hp (.inl rfl)) _ (.tup (.inl (.inl (imH_of put_same))) (r.mono l2.lim))
    · rw [if_neg z] at o1
      exact o1.elim⟩
/-- a new list -/
theorem new_own {g0 g1 : Gh} {ρ : Rho} {σ : L2.St} {H : Hp} {st : Sto} {Q : VK} {ds : List D} {vs : List V} (l1 : Le g0 g1) (m1 : Mt T nm X.K g1 ρ st σ H) (r : Reps T nm X.K g1 ds vs) (o : Out T nm X.K W g0 ρ σ (fun d _ g' H' => ∀ v, RepR T nm X.K g0 g' d v → Q v H') (.ok (.own ds) st)) {p : Addr} (hp : H p = none) : Q (.ref p) (upd H p (.lst vs)) := by
  have l2 : Le g1 (put g1 p (.held (.lst vs))) := le_put (m1.fresh hp)
  refine o _ _ (l1.trans l2) (m1.new hp (.inr rfl)) _ ⟨p, vs, rfl, put_same, ?_, r.mono l2.lim⟩
  cases q : g0 p with
  | none => rfl
  | some t =>
    have z := m1.fresh hp
    rw [l1 _ _ q] at z
    cases z
theorem se_lst {es : List Expr} {as : Es} (h : PA X es (tA T nm X.K cf W as)) : PE X (.List es pos) (tE T nm X.K cf W (.lst as)) :=
  PE.imp (pe_lst h) fun σ H Q ⟨g, ρ, st, m, o⟩ => ⟨g, ρ, st, m, Out.imp (Out.bind0 o) fun ds st1 g1 H1 l1 m1 o1 vs r => by
    by_cases z : ds.length ≤ LINE
    · rw [if_pos z] at o1
      exact ⟨reps_len r z, fun p hp => new_own l1 m1 r o1 hp⟩
    · rw [if_neg z] at o1
      exact o1.elim⟩
end

/-! ### calls -/
/-- the caller's own lists and selves are held by others meanwhile -/
def hold (g : Gh) (H : Hp) : Gh := fun a => match g a with
  | some (.slot _) => (H a).map Tag.held
  | t => t
/-- behind a call they are the caller's again -/
def back (g g' : Gh) : Gh := fun a => match g a with
  | some (.slot i) => some (.slot i)
  | _ => g' a
theorem hold_slot {g : Gh} {H : Hp} {a : Addr} {i : Nat} (h : g a = some (.slot i)) : hold g H a = (H a).map Tag.held := by
  unfold hold
  rw [h]
theorem hold_of {g : Gh} {H : Hp} {a : Addr} (h : ∀ i, g a ≠ some (.slot i)) : hold g H a = g a := by
  unfold hold
  split
  · rename_i i e
    exact absurd e (h i)
  · rfl
theorem back_slot {g g' : Gh} {a : Addr} {i : Nat} (h : g a = some (.slot i)) : back g g' a = some (.slot i) := by
  unfold back
  rw [h]
theorem back_of {g g' : Gh} {a : Addr} (h : ∀ i, g a ≠ some (.slot i)) : back g g' a = g' a := by
  unfold back
  split
  · rename_i i e
    exact absurd e (h i)
  · rfl
def isSlot (g : Gh) (a : Addr) : Prop := ∃ i, g a = some (.slot i)
def NoSlot (g : Gh) : Prop := ∀ a i, g a ≠ some (.slot i)
theorem noSlot_hold {g : Gh} {H : Hp} : NoSlot (hold g H) := fun a i e => by
  unfold hold at e
  split at e
  · cases q : H a with
    | none => rw [q] at e; cases e
    | some o => rw [q] at e; cases e
  · rename_i n
    exact n i e
theorem slot_em (g : Gh) (a : Addr) : (∃ i, g a = some (.slot i)) ∨ ∀ i, g a ≠ some (.slot i) := by
  by_cases h : ∃ i, g a = some (.slot i)
  · exact .inl h
  · exact .inr fun i e => h ⟨i, e⟩
section
variable {T : Tab} {nm : Nm} {K : PySem.W.Frag} {W : WX} {g g0 g1 g' : Gh} {ρ : Rho} {σ : L2.St} {H H' : Hp} {st st' : Sto}
theorem ObR.mono {ob : Ob} {o : HO} (h : ObR T nm K g ob o) (l : Lim g g1) : ObR T nm K g1 ob o := by
  cases ob with
  | lst ds =>
    obtain ⟨vs, e3, r⟩ := h
    exact ⟨vs, e3, r.mono l⟩
  | ins c ds =>
    obtain ⟨dx, vs, e3, e4, r⟩ := h
    exact ⟨dx, vs, e3, e4, r.mono l⟩
  | dct kvs =>
    obtain ⟨kws, e, r⟩ := h
    exact ⟨kws, e, r.mono l⟩
theorem lim_hold : Lim g (hold g H) := ⟨fun a o e => by
    rw [hold_of fun i z => by rw [z] at e; cases e]
    exact e, fun a k e => by
    rw [hold_of fun i z => by rw [z] at e; cases e]
    exact e⟩
theorem mt_hold (m : Mt0 T nm K g st H) : Mt0 T nm K (hold g H) st H := by
  have sl : ∀ a t, hold g H a = some t → (∃ o, t = .held o ∧ H a = some o) ∨ g a = some t := fun a t e => by
    rcases slot_em g a with ⟨i, z⟩ | z
    · rw [hold_slot z] at e
      cases q : H a with
      | none => rw [q] at e; cases e
      | some o => rw [q] at e; exact .inl ⟨o, (Option.some.inj e).symm, rfl⟩
    · rw [hold_of z] at e
      exact .inr e
  refine ⟨fun a o e => ?_, fun a o e => ?_, fun k ob e => ?_, fun a k e => ?_, fun a b k e1 e2 => ?_, fun a t e => ?_⟩
  · rcases sl _ _ e with ⟨o', z, _⟩ | z
    · cases z
    · exact m.imm a o z
  · rcases sl _ _ e with ⟨o', z, q⟩ | z
    · cases z
      exact q
    · exact m.held a o z
  · obtain ⟨a, o, e1, e2, r⟩ := m.sto k ob e
    exact ⟨a, o, lim_hold.2 _ _ e1, e2, r.mono lim_hold⟩
  · rcases sl _ _ e with ⟨o', z, q⟩ | z
    · cases z
    · exact m.stl a k z
  · rcases sl _ _ e1 with ⟨o', z, q⟩ | z1
    · cases z
    · rcases sl _ _ e2 with ⟨o', z, q⟩ | z2
      · cases z
      · exact m.uniq a b k z1 z2
  · rcases sl _ _ e with ⟨o', z, q⟩ | z
    · exact ⟨o', q⟩
    · exact m.trk a t z
theorem le_back (m : Mt0 T nm K g st H) (l : Le (hold g H) g') : Le g (back g g') := fun a t e => by
  rcases slot_em g a with ⟨i, z⟩ | z
  · rw [z] at e
    cases e
    exact back_slot z
  · rw [back_of z]
    exact l a t (by rw [hold_of z]; exact e)
/-- where the caller has a name's own thing, the callee's ghost says held -/
theorem held_there (m : Mt0 T nm K g st H) (l : Le (hold g H) g') {a : Addr} {i : Nat} (z : g a = some (.slot i)) : ∃ o, H a = some o ∧ g' a = some (.held o) := by
  obtain ⟨o, e⟩ := m.trk a _ z
  exact ⟨o, e, l a _ (by rw [hold_slot z, e]; rfl)⟩
theorem lim_back (m : Mt0 T nm K g st H) (l : Le (hold g H) g') : Lim g' (back g g') := ⟨fun a o e => by
    rw [back_of fun i z => by
      obtain ⟨o', _, e'⟩ := held_there m l z
      rw [e'] at e
      cases e]
    exact e, fun a k e => by
    rw [back_of fun i z => by
      obtain ⟨o', _, e'⟩ := held_there m l z
      rw [e'] at e
      cases e]
    exact e⟩
theorem mt_back (m : Mt T nm K g ρ st σ H) (l : Le (Snd.hold g H) g') (m' : Mt0 T nm K g' st' H') : Mt T nm K (back g g') ρ st' σ H' := by
  have lb := lim_back m.toMt0 l
  have sl : ∀ a t, back g g' a = some t → (∃ i, t = .slot i ∧ g a = some (.slot i)) ∨ ((∀ i, g a ≠ some (.slot i)) ∧ g' a = some t) := fun a t e => by
    rcases slot_em g a with ⟨i, z⟩ | z
    · rw [back_slot z] at e
      exact .inl ⟨i, (Option.some.inj e).symm, z⟩
    · rw [back_of z] at e
      exact .inr ⟨z, e⟩
  refine ⟨⟨fun a o e => ?_, fun a o e => ?_, fun k ob e => ?_, fun a k e => ?_, fun a b k e1 e2 => ?_, fun a t e => ?_⟩, m.len, fun i d e => ?_⟩
  · rcases sl _ _ e with ⟨i, z, _⟩ | ⟨_, z⟩
    · cases z
    · exact m'.imm a o z
  · rcases sl _ _ e with ⟨i, z, _⟩ | ⟨_, z⟩
    · cases z
    · exact m'.held a o z
  · obtain ⟨a, o, e1, e2, r⟩ := m'.sto k ob e
    exact ⟨a, o, lb.2 _ _ e1, e2, r.mono lb⟩
  · rcases sl _ _ e with ⟨i, z, _⟩ | ⟨_, z⟩
    · cases z
    · exact m'.stl a k z
  · rcases sl _ _ e1 with ⟨i, z, _⟩ | ⟨_, z1⟩
    · cases z
    · rcases sl _ _ e2 with ⟨i, z, _⟩ | ⟨_, z2⟩
      · cases z
      · exact m'.uniq a b k z1 z2
  · rcases sl _ _ e with ⟨i, z, q⟩ | ⟨_, z⟩
    · obtain ⟨o, _, h⟩ := held_there m.toMt0 l q
      exact m'.trk a _ h
    · exact m'.trk a t z
  · obtain ⟨v, e1, r⟩ := m.slots i d e
    refine ⟨v, e1, r.mono (le_back m.toMt0 l).lim fun p q => ⟨back_slot q, ?_⟩⟩
    obtain ⟨o, h1, h2⟩ := held_there m.toMt0 l q
    rw [h1]
    exact m'.held _ _ h2
theorem repR_back {d : D} {v : V} (m : Mt T nm K g ρ st σ H) (l : Le (Snd.hold g H) g') (r : RepR T nm K (Snd.hold g H) g' d v) (l0 : Le g0 g) : RepR T nm K g0 (Snd.back g g') d v := by
  have lb := lim_back m.toMt0 l
  cases d with
  | own ds =>
    obtain ⟨p, vs, e, h1, h2, h3⟩ := r
    have np : ∀ i, g p ≠ some (.slot i) := fun i z => by
      obtain ⟨o, ho⟩ := m.trk p _ z
      rw [hold_slot z, ho] at h2
      cases h2
    refine ⟨p, vs, e, by rw [Snd.back_of np]; exact h1, ?_, h3.mono lb⟩
    rw [hold_of np] at h2
    cases q : g0 p with
    | none => rfl
    | some t =>
      rw [l0 _ _ q] at h2
      cases h2
  | _ => exact Rep.mono lb r
end
section
variable (T : Tab) (nm : Nm) (K : PySem.W.Frag) (cf : Nat → List D → Sto → R D)
def OutC (g : Gh) (Q : VK) (E : XK) : R D → Prop
  | .ok d st => ∀ g' v H', Le g g' → Mt0 T nm K g' st H' → RepR T nm K g g' d v → Q v H'
  | .er x st => ∀ g' cv dd H', Le g g' → Mt0 T nm K g' st H' → XnR T nm K g' x cv dd → E cv dd H'
  | .no => False
/-- what a function promises: what the evaluator says of it -/
def SP (np f : Nat) : Sp := fun vs H Q E => vs.length = np ∧ ∃ g ds st, NoSlot g ∧ Mt0 T nm K g st H ∧ Reps T nm K g ds vs ∧ OutC T nm K g Q E (cf f ds st)
/-- .. an __init__: the new instance stands at x -/
def SPI (np f c : Nat) : Sp := fun vs H Q E => vs.length = np + 1 ∧ ∃ x dx g ds st ws, vs = .ref x :: ws ∧ H x = some (.ins (cad nm K c) dx []) ∧ g x = none ∧ NoSlot g ∧ Mt0 T nm K g st H ∧ Reps T nm K g ds ws ∧ (match cf f ds st with
  | .ok d st => ∀ es g' H' us, d = .ins c es → Le g g' → Mt0 T nm K g' st H' → g' x = none → H' x = some (.ins (cad nm K c) dx ((fnames T nm c).zip us)) → us.length = (fnames T nm c).length → Reps T nm K g' es us → Q .non H'
  | .er x st => ∀ g' cv dd H', Le g g' → Mt0 T nm K g' st H' → XnR T nm K g' x cv dd → E cv dd H'
  | .no => False)
end
section
variable {T : Tab} {nm : Nm} {K : PySem.W.Frag} {W : WX} {g g0 : Gh} {ρ : Rho} {σ : L2.St} {H : Hp} {st : Sto} {cf : Nat → List D → Sto → R D}
theorem sp_of {f np : Nat} {ds : List D} {vs : List V} {Q : VK} (m : Mt T nm K g ρ st σ H) (r : Reps T nm K g ds vs) (l0 : Le g0 g) (hn : vs.length = np)
    (o : Out T nm K W g0 ρ σ (fun d _ g' H' => ∀ v, RepR T nm K g0 g' d v → Q v H') (cf f ds st)) : SP T nm K cf np f vs H Q (fun cv dd H' => W cv dd σ H') := by
  refine ⟨hn, hold g H, ds, st, noSlot_hold, mt_hold m.toMt0, r.mono lim_hold, ?_⟩
  cases q : cf f ds st with
  | no =>
    rw [q] at o
    exact o.elim
  | er x st' =>
    rw [q] at o
    exact fun g' cv dd H' l m' x' => o (back g g') cv dd H' (l0.trans (le_back m.toMt0 l)) (mt_back m l m') (x'.mono (lim_back m.toMt0 l))
  | ok d st' =>
    rw [q] at o
    exact fun g' v H' l m' r' => o (back g g') H' (l0.trans (le_back m.toMt0 l)) (mt_back m l m') v (repR_back m l r' l0)
end
/-- what is known of a function -/
structure FnI (X : Core) (T : Tab) (nm : Nm) (cf : Nat → List D → Sto → R D) (k f np : Nat) : Prop where
  kp : PySem.W.keepIn X.K (.ref (fad nm X.K f)) = true
  ok : ∃ fd ps, FnOk X.prog X.w X.K X.mg X.base (L2.CX X.prog X.w) k (fad nm X.K f) fd ps (SP T nm X.K cf np f) ∧ Binds X.K fd ps [] ∧ ps.length = np
section
variable {X : Cx} {T : Tab} {nm : Nm} {W : WX} {cf : Nat → List D → Sto → R D} {pos : Pos} {k : Nat}
/-- the function is called -/
theorem run_call {f np : Nat} {pins : List (Addr × Obj)} {σ : L2.St} {H : Hp} {s : Shared} {Q : VK} {g g0 : Gh} {ρ : Rho} {st : Sto} {ds : List D} {vs : List V} {us : List Value} (F : FnI (co X) T nm cf k f np) (hr : Room k X.A) (tk : Takes X W)
    (I : Inv X pins σ H s) (rv : Vals vs us) (hn : vs.length = np) (m : Mt T nm X.K g ρ st σ H) (r : Reps T nm X.K g ds vs) (l0 : Le g0 g)
    (o : Out T nm X.K W g0 ρ σ (fun d _ g' H' => ∀ v, RepR T nm X.K g0 g' d v → Q v H') (cf f ds st)) : wpAny (model X.prog X.w) X.A (call (.ref (fad nm X.K f)) us) (EP X pins σ Q) X.xe s := by
  obtain ⟨fd, ps, F1, b, e⟩ := F.ok
  exact run_fnS (E := WE W) F1 hr b (passAt tk σ) I rv (sp_of m r l0 hn o)
theorem evA_len : ∀ {as : Es} {ρ : Rho} {st st' : Sto} {ds : List D}, evA T cf as ρ st = .ok ds st' → ds.length = as.len
  | .nil, ρ, st, st', ds, h => by
    unfold evA at h
    cases h
    rfl
  | .cons a as, ρ, st, st', ds, h => by
    unfold evA at h
    cases q : evE T cf a ρ st with
    | no => rw [q] at h; cases h
    | er x s => rw [q] at h; cases h
    | ok d s =>
      rw [q] at h
      have h1 : ((evA T cf as ρ s).bind fun ds st => R.ok (fz d :: ds) st) = .ok ds st' := h
      cases q1 : evA T cf as ρ s with
      | no => rw [q1] at h1; cases h1
      | er x s => rw [q1] at h1; cases h1
      | ok ds1 s1 =>
        rw [q1] at h1
        have ih := evA_len q1
        have h2 : R.ok (fz d :: ds1) s1 = .ok ds st' := h1
        cases h2
        show ds1.length + 1 = as.len + 1
        rw [ih]
/-- the arguments of a call, then the call -/
theorem args_go {as : Es} {es : List Expr} {pins : List (Addr × Obj)} {σ : L2.St} {H : Hp} {s : Shared} {g : Gh} {ρ : Rho} {st : Sto} {α : Type} {P : α → Sto → Gh → Hp → Prop} {k : List D → Sto → R α} (ha : PA X es (tA T nm X.K cf W as))
    (I : Inv X pins σ H s) (m : Mt T nm X.K g ρ st σ H) (o : Out T nm X.K W g ρ σ P ((evA T cf as ρ st).bind k)) (pos : Pos) :
    wpAny (model X.prog X.w) X.A (spliced (backTo pos (starEach es X.env))) (fun us s' => ∃ vs H' ds st' g', Inv X pins σ H' s' ∧ Vals vs us ∧ Reps T nm X.K g' ds vs ∧ Le g g' ∧ ds.length = as.len ∧ Mt T nm X.K g' ρ st' σ H' ∧ Out T nm X.K W g ρ σ P (k ds st')) X.xe s := by
  have o2 : Out T nm X.K W g ρ σ (fun ds st1 g1 H1 => ∀ vs, Reps T nm X.K g1 ds vs → ∃ ds' st' g', Reps T nm X.K g' ds' vs ∧ Le g g' ∧ ds'.length = as.len ∧ Mt T nm X.K g' ρ st' σ H1 ∧ Out T nm X.K W g ρ σ P (k ds' st')) (evA T cf as ρ st) := by
    have o' := Out.bind0 o
    cases q : evA T cf as ρ st with
    | ok ds st1 =>
      rw [q] at o'
      exact fun g' H' l m' vs r => ⟨ds, st1, g', r, l, evA_len q, m', o' g' H' l m'⟩
    | er x st1 =>
      rw [q] at o'
      exact o'
    | no =>
      rw [q] at o'
      exact o'
  exact thn (ha.run pos pins s σ H _ I ⟨g, ρ, st, m, o2⟩) fun us s1 ⟨vs, H1, I1, rv, ds, st1, g1, r, l1, hn, m1, q⟩ => ⟨vs, H1, ds, st1, g1, I1, rv, r, l1, hn, m1, q⟩
theorem se_call {f np : Nat} {x : Str} {p : Pos} {e : Expr} {es : List Expr} {as : Es} (F : FnI (co X) T nm cf k f np) (hr : Room k X.A) (tk : Takes X W) (hg : Gl X x) (hm : X.mg x = some (.ref (fad nm X.K f))) (hl : as.len = np)
    (ha : PA X (e :: es) (tA T nm X.K cf W as)) (hdb : (x == ("__debug__" : Str)) = false) (he : starEach (e :: es) X.env = (false, eval e X.env) :: starEach es X.env) (hpl : (backTo pos (starEach es X.env)).any (·.1) = false) :
    PE X (.Call (.Name x p) (e :: es) [] pos) (tE T nm X.K cf W (.call f as)) := by
  refine ⟨fun pins s σ H Q I ⟨g, ρ, st, m, o⟩ => ?_⟩
  refine wpAny_Call_Name_kw (ld_glob I hg hm ?_ hdb)
  refine PySem.W.callWith_K (h₀ := X.base) I.ok.mod.kin F.kp (thn (args_go ha I m o pos) fun us s1 ⟨vs, H1, ds, st1, g1, I1, rv, r, l1, hn, m1, q⟩ => ⟨I1.kIn, ?_⟩) he hpl
  exact run_call F hr tk I1 rv (by rw [← r.len, hn, hl]) m1 r l1 q
/-- no argument -/
theorem se_call0 {f : Nat} {x : Str} {p : Pos} (F : FnI (co X) T nm cf k f 0) (hr : Room k X.A) (tk : Takes X W) (hg : Gl X x) (hm : X.mg x = some (.ref (fad nm X.K f))) (hdb : (x == ("__debug__" : Str)) = false) :
    PE X (.Call (.Name x p) [] [] pos) (tE T nm X.K cf W (.call f .nil)) := by
  refine ⟨fun pins s σ H Q I ⟨g, ρ, st, m, o⟩ => ?_⟩
  refine wpAny_Call_Name_kw (ld_glob I hg hm ?_ hdb)
  exact PySem.W.callWith_K0 I.kIn F.kp (run_call (us := []) F hr tk I .nil rfl m .nil (Le.refl g) o)
/-! ### instances -/
/-- what is known of a class that is made -/
structure MkI (X : Core) (T : Tab) (nm : Nm) (cf : Nat → List D → Sto → R D) (k c : Nat) (C : Ev.Cls) : Prop where
  made : Mk X.K (cad nm X.K c) (fad nm X.K C.init)
  ok : ∃ fd ps, FnOk X.prog X.w X.K X.mg X.base (L2.CX X.prog X.w) k (fad nm X.K C.init) fd ps (SPI T nm X.K cf C.np C.init c) ∧
    ∀ n, n + (mis C n).length = C.np → ∃ dvs ds, Binds X.K fd ps ds ∧ Vals dvs ds ∧ ∀ g, Reps T nm X.K g (mis C n) dvs
/-- the promise of __init__ at a new instance -/
theorem spi_of {c : Nat} {C : Ev.Cls} {σ : L2.St} {H : Hp} {Q : VK} {vs dvs : List V} {g g0 : Gh} {ρ : Rho} {st : Sto} {ds : List D} {x dx : Addr} (hC : clsI T c = some C) (m : Mt T nm X.K g ρ st σ H) (rr : Reps T nm X.K g ds vs) (l0 : Le g0 g) (hn : ds.length + (mis C ds.length).length = C.np)
    (hdr : ∀ g, Reps T nm X.K g (mis C ds.length) dvs) (f1 : H dx = none) (f2 : H x = none) (ne : dx ≠ x)
    (o : Out T nm X.K W g0 ρ σ (fun d _ g' H' => ∀ v, RepR T nm X.K g0 g' d v → Q v H') (makeE T cf c ds st)) :
    SPI T nm X.K cf C.np C.init c (V.ref x :: (vs ++ dvs)) (upd (upd H dx (.own x)) x (.ins (cad nm X.K c) dx [])) (fun v H' => v = .non ∧ Q (.ref x) H') (fun cv d H' => W cv d σ H') := by
  have m0 := mt_hold m.toMt0
  have gx : hold g H x = none := m0.fresh f2
  have gx0 : g x = none := m.toMt0.fresh f2
  have mm : Mt0 T nm X.K (hold g H) st (upd (upd H dx (.own x)) x (.ins (cad nm X.K c) dx [])) := by
    have nn : ∀ a t, hold g H a = some t → upd (upd H dx (.own x)) x (.ins (cad nm X.K c) dx []) a = H a := fun a t e => by
      obtain ⟨ob, ho⟩ := m0.trk a t e
      rw [upd_ne (ne_of_none ho f2), upd_ne (ne_of_none ho f1)]
    exact ⟨fun a ob e => by rw [nn a _ e]; exact m0.imm a ob e, fun a ob e => by rw [nn a _ e]; exact m0.held a ob e, fun j ob e => by
      obtain ⟨a, ho, e1, e2, r⟩ := m0.sto j ob e
      exact ⟨a, ho, e1, by rw [nn a _ e1]; exact e2, r⟩, m0.stl, m0.uniq, fun a t e => by rw [nn a _ e]; exact m0.trk a t e⟩
  refine ⟨?_, x, dx, hold g H, ds ++ mis C ds.length, st, vs ++ dvs, rfl, upd_same, gx, noSlot_hold, mm, (rr.mono lim_hold).append (hdr _), ?_⟩
  · rw [List.length_cons, List.length_append, ← rr.len, ← (hdr g).len, hn]
  · unfold makeE at o
    rw [hC] at o
    have o' : Out T nm X.K W g0 ρ σ (fun d _ g' H' => ∀ v, RepR T nm X.K g0 g' d v → Q v H') (cf C.init (ds ++ mis C ds.length) st) := o
    cases q : cf C.init (ds ++ mis C ds.length) st with
    | no =>
      rw [q] at o'
      exact o'.elim
    | er xn st' =>
      rw [q] at o'
      exact fun g' cv dd H' l m' x' => o' (back g g') cv dd H' (l0.trans (le_back m.toMt0 l)) (mt_back m l m') (x'.mono (lim_back m.toMt0 l))
    | ok d st' =>
      rw [q] at o'
      intro es g' H' us e l m' gn hx hl r
      subst e
      have mb := mt_back m l m'
      have bx : back g g' x = none := by rw [back_of fun i z => by rw [gx0] at z; cases z]; exact gn
      have l3 : Le (back g g') (put (back g g') x (.imm (.ins (cad nm X.K c) dx ((fnames T nm c).zip us)))) := le_put bx
      refine ⟨rfl, o' _ H' ((l0.trans (le_back m.toMt0 l)).trans l3) ?_ _ (.ins put_same hl ((r.mono (lim_back m.toMt0 l)).mono l3.lim))⟩
      have keep : ∀ a u, a ≠ x → put (back g g') x (.imm (.ins (cad nm X.K c) dx ((fnames T nm c).zip us))) a = some u → back g g' a = some u := fun a u n e => by rw [put_ne n] at e; exact e
      refine ⟨⟨fun a o' e => ?_, fun a o' e => ?_, fun k ob e => ?_, fun a k e => ?_, fun a b k e1 e2 => ?_, fun a u e => ?_⟩, mb.len, fun i d e => ?_⟩
      · by_cases n : a = x
        · subst n
          rw [put_same] at e
          cases e
          exact hx
        · exact mb.imm a o' (keep a _ n e)
      · by_cases n : a = x
        · subst n
          rw [put_same] at e
          cases e
        · exact mb.held a o' (keep a _ n e)
      · obtain ⟨a, o', e1, e2, r⟩ := mb.sto k ob e
        exact ⟨a, o', l3 _ _ e1, e2, r.mono l3.lim⟩
      · by_cases n : a = x
        · subst n
          rw [put_same] at e
          cases e
        · exact mb.stl a k (keep a _ n e)
      · have na : a ≠ x := fun z => by rw [z, put_same] at e1; cases e1
        have nb : b ≠ x := fun z => by rw [z, put_same] at e2; cases e2
        exact mb.uniq a b k (keep a _ na e1) (keep b _ nb e2)
      · by_cases n : a = x
        · subst n
          exact ⟨_, hx⟩
        · exact mb.trk a u (keep a _ n e)
      · obtain ⟨v, e1, r⟩ := mb.slots i d e
        exact ⟨v, e1, r.mono l3.lim fun p e2 => ⟨l3 _ _ e2, rfl⟩⟩
theorem run_mk {c : Nat} {C : Ev.Cls} {pins : List (Addr × Obj)} {σ : L2.St} {H : Hp} {s : Shared} {Q : VK} {us : List Value} {vs : List V} {g g0 : Gh} {ρ : Rho} {st : Sto} {ds : List D} (hC : clsI T c = some C) (M : MkI (co X) T nm cf k c C) (hr : Room (k + 1) X.A) (tk : Takes X W)
    (I : Inv X pins σ H s) (r : Vals vs us) (m : Mt T nm X.K g ρ st σ H) (rr : Reps T nm X.K g ds vs) (l0 : Le g0 g) (hn : ds.length + (mis C ds.length).length = C.np)
    (o : Out T nm X.K W g0 ρ σ (fun d _ g' H' => ∀ v, RepR T nm X.K g0 g' d v → Q v H') (makeE T cf c ds st)) :
    wpAny (model X.prog X.w) X.A (call (.ref (cad nm X.K c)) us) (EP X pins σ Q) X.xe s := by
  obtain ⟨fd, ps, F, hb⟩ := M.ok
  obtain ⟨dvs, dd, hb, hd, hdr⟩ := hb ds.length hn
  have I2 := Inv.made (C := cad nm X.K c) I
  have f1 : H s.heap.objs.size = none := I.hok.fresh (Nat.le_refl _)
  have f2 : H (s.heap.objs.size + 1) = none := I.hok.fresh (Nat.le_succ _)
  have hq := spi_of (X := X) hC m rr l0 hn hdr f1 f2 (Nat.ne_of_lt (Nat.lt_succ_self _)) o
  have r2 : Vals (V.ref (s.heap.objs.size + 1) :: (vs ++ dvs)) (Value.ref (s.heap.objs.size + 1) :: (us ++ dd)) := .cons rfl (r.append hd)
  have hl : (Value.ref (s.heap.objs.size + 1) :: us ++ dd).length = ps.length := (r2.length.symm.trans (F.len _ _ _ _ hq))
  refine wpAny_call (make_map (f := fad nm X.K C.init) I.kIn M.made.makes M.made.init (beq_iff_eq.mp M.made.fn) (codeAny_mono (F.run _ X.stack _ _ ⟨Value.ref (s.heap.objs.size + 1) :: us, []⟩ (Value.ref (s.heap.objs.size + 1) :: (us ++ dd)) _ _ _ (hr.make _ us [])
    (I2.env0.make _ us []) (hb _ (Value.ref (s.heap.objs.size + 1) :: us) I2.kIn hl) r2 hq) fun re s' hq' => ?_))
  cases re with
  | error e => exact passAt tk σ pins _ _ e s' I2 hq'
  | ok fl =>
    cases fl with
    | ret u =>
      obtain ⟨v, H', I3, rv, ev, q3⟩ := I2.after hq'
      subst ev
      exact ⟨rv, ⟨V.ref (s.heap.objs.size + 1), H', I3, rfl, q3⟩⟩
    | next => exact hq'.elim
    | brk => exact hq'.elim
    | cont => exact hq'.elim
theorem se_make {c : Nat} {C : Ev.Cls} {x : Str} {p : Pos} {e : Expr} {es : List Expr} {as : Es} (hC : clsI T c = some C) (M : MkI (co X) T nm cf k c C) (hr : Room (k + 1) X.A) (tk : Takes X W) (hg : Gl X x) (hm : X.mg x = some (.ref (cad nm X.K c))) (hl : as.len + (mis C as.len).length = C.np)
    (ha : PA X (e :: es) (tA T nm X.K cf W as)) (hdb : (x == ("__debug__" : Str)) = false) (he : starEach (e :: es) X.env = (false, eval e X.env) :: starEach es X.env) (hpl : (backTo pos (starEach es X.env)).any (·.1) = false) :
    PE X (.Call (.Name x p) (e :: es) [] pos) (tE T nm X.K cf W (.make c as)) := by
  refine ⟨fun pins s σ H Q I ⟨g, ρ, st, m, o⟩ => ?_⟩
  refine wpAny_Call_Name_kw (ld_glob I hg hm ?_ hdb)
  refine PySem.W.callWith_K (h₀ := X.base) I.ok.mod.kin M.made.kp (thn (args_go ha I m o pos) fun us s1 ⟨vs, H1, ds, st1, g1, I1, rv, r, l1, hn, m1, q⟩ => ⟨I1.kIn, ?_⟩) he hpl
  exact run_mk hC M hr tk I1 rv m1 r l1 (by rw [hn]; exact hl) q
/-- what is known of a class: its fields, methods, properties -/
structure ClI (X : Core) (T : Tab) (nm : Nm) (cf : Nat → List D → Sto → R D) (k c : Nat) (C : Ev.Cls) : Prop where
  cl : L2.Cls X.K (cad nm X.K c)
  ta : PySem.W.findIn X.K (.ref (cad nm X.K c)) "__class__" = some (some (.builtin "object.__class__"))
  tn : PySem.W.specialIn X.K (.builtin "object.__class__") "__get__" = some (some (.builtin "getset_descriptor.__get__"))
  tt : PySem.W.takesIn X.K (.builtin "object.__class__") = some true
  tm : PySem.W.mroIn X.K (cad nm X.K c) (.type "object") = some true
  nd : (C.fields.map nm.attr).Nodup
  few : C.fields.length ≤ 100
  noat : ∀ m ∈ C.fields, NoAttr X.K (cad nm X.K c) (nm.attr m)
  mt : ∀ m f, nameOf m C.meths = some f → Meth X.K (cad nm X.K c) (nm.attr m) (fad nm X.K f) ∧ nm.attr m ∉ C.fields.map nm.attr ∧ ∃ np, FnI X T nm cf k f np ∧ ∀ ds st, ds.length ≠ np → cf f ds st = .no
  pr : ∀ m f, nameOf m C.props = some f → (∃ p, PropOf X.K (cad nm X.K c) (nm.attr m) p (fad nm X.K f)) ∧ FnI X T nm cf k f 1
theorem posOf_at {m : Nat} : ∀ {l : List Nat} {j : Nat}, posOf m l = some j → l[j]? = some m
  | [], _, h => by cases h
  | x :: r, j, h => by
    by_cases e : x = m
    · have h' : (if x = m then some 0 else (posOf m r).map (· + 1)) = some j := h
      rw [if_pos e] at h'
      cases h'
      rw [e]
      rfl
    · have h' : (if x = m then some 0 else (posOf m r).map (· + 1)) = some j := h
      rw [if_neg e] at h'
      cases q : posOf m r with
      | none => rw [q] at h'; cases h'
      | some i =>
        rw [q] at h'
        cases h'
        have ih := posOf_at q
        rw [List.getElem?_cons_succ]
        exact ih
theorem lookup_zip : ∀ {ns : List Str} {vs : List V} {j : Nat} {x : Str} {v : V}, ns.Nodup → ns[j]? = some x → vs[j]? = some v → (ns.zip vs).lookup x = some v
  | [], _, _, _, _, _, h, _ => by simp at h
  | _ :: _, [], _, _, _, _, _, h => by simp at h
  | n :: ns, w :: vs, 0, x, v, _, h, h2 => by
    simp at h h2
    subst h h2
    simp [List.zip, List.lookup]
  | n :: ns, w :: vs, j + 1, x, v, nd, h, h2 => by
    have hx : ns[j]? = some x := by simpa using h
    have hne : (x == n) = false := by
      have hm : x ∈ ns := List.mem_of_getElem? hx
      exact beq_eq_false_iff_ne.mpr fun z => (List.nodup_cons.mp nd).1 (z ▸ hm)
    show (match x == n with | true => some w | false => (ns.zip vs).lookup x) = some v
    rw [hne]
    exact lookup_zip (List.nodup_cons.mp nd).2 hx (by simpa using h2)
theorem lookup_zip_none : ∀ {ns : List Str} {vs : List V} {x : Str}, x ∉ ns → (ns.zip vs).lookup x = none
  | [], _, _, _ => rfl
  | _ :: _, [], _, _ => rfl
  | n :: ns, w :: vs, x, h => by
    have hne : (x == n) = false := beq_eq_false_iff_ne.mpr fun z => h (z ▸ List.mem_cons_self)
    show (match x == n with | true => some w | false => (ns.zip vs).lookup x) = none
    rw [hne]
    exact lookup_zip_none fun z => h (List.mem_cons_of_mem _ z)
theorem Reps.getI : ∀ {g : Gh} {ds : List D} {vs : List V} {i : Nat} {d : D}, Reps T nm X.K g ds vs → ds[i]? = some d → ∃ v, vs[i]? = some v ∧ Rep T nm X.K g d v := fun r e => r.at e
/-- a field -/
theorem field_at {c m : Nat} {C : Ev.Cls} {ds : List D} {vs : List V} {d : D} {g : Gh} (hC : T.cls c = some C) (nd : (C.fields.map nm.attr).Nodup) (r : Reps T nm X.K g ds vs) (h : fieldD T c m ds = some d) :
    ∃ v, ((fnames T nm c).zip vs).lookup (nm.attr m) = some v ∧ Rep T nm X.K g d v ∧ m ∈ C.fields := by
  unfold fieldD at h
  rw [hC] at h
  have h1 : (posOf m C.fields).bind (fun j => ds[j]?) = some d := h
  cases q : posOf m C.fields with
  | none => rw [q] at h1; cases h1
  | some j =>
    rw [q] at h1
    have h2 : ds[j]? = some d := h1
    have h3 := posOf_at q
    obtain ⟨v, e, rv⟩ := r.at h2
    refine ⟨v, ?_, rv, List.mem_of_getElem? h3⟩
    unfold fnames
    rw [hC]
    exact lookup_zip nd (by rw [List.getElem?_map, h3]; rfl) e
theorem LkR.obj {c : Nat} {ds : List D} {v : V} {g : Gh} {ρ : Rho} {σ : L2.St} {H : Hp} {st : Sto} (h : LkR T nm X.K g ρ σ (.obj c ds) v) (m : Mt T nm X.K g ρ st σ H) :
    ∃ p dx vs, v = .ref p ∧ H p = some (.ins (cad nm X.K c) dx ((fnames T nm c).zip vs)) ∧ vs.length = ds.length ∧ Reps T nm X.K g ds vs := by
  rcases h with ⟨i, h1, h2⟩ | h
  · obtain ⟨w, e, p, dx, vs, ⟨_, ew⟩, _, hp, hl, _, r⟩ := m.slots i _ h1
    rw [h2] at e
    cases e
    exact ⟨p, dx, vs, ew, hp, hl, r⟩
  · cases h
theorem Rep.plain {d : D} {v : V} {g : Gh} (h : Rep T nm X.K g d v) : Snd.plain d = true := by
  cases h <;> rfl
theorem clsI_some {c : Nat} {C : Ev.Cls} (h : clsI T c = some C) : T.cls c = some C ∧ C.exc = false := by
  unfold clsI at h
  cases q : T.cls c with
  | none => rw [q] at h; cases h
  | some C' =>
    rw [q] at h
    have h1 : (if C'.exc then none else some C') = some C := h
    by_cases e : C'.exc = true
    · rw [if_pos e] at h1
      cases h1
    · rw [if_neg e] at h1
      cases h1
      exact ⟨rfl, by simpa using e⟩
/-- a look, then what is done with it -/
theorem look_go {a : E} {e : Expr} {pins : List (Addr × Obj)} {σ : L2.St} {H : Hp} {s : Shared} {g0 g : Gh} {ρ : Rho} {st : Sto} {α : Type} {P : α → Sto → Gh → Hp → Prop} {kk : D → Sto → R α} (ha : PE X e (tB T nm X.K cf W a)) (I : Inv X pins σ H s) (m : Mt T nm X.K g ρ st σ H) (l0 : Le g0 g)
    (o : Out T nm X.K W g0 ρ σ P ((bor a ρ st (evE T cf a ρ st)).bind kk)) :
    wpAny (model X.prog X.w) X.A (eval e X.env) (fun u s' => ∃ v H' d st' g', Inv X pins σ H' s' ∧ RelV v u ∧ Le g g' ∧ Mt T nm X.K g' ρ st' σ H' ∧ LkR T nm X.K g' ρ σ d v ∧ Out T nm X.K W g0 ρ σ P (kk d st')) X.xe s :=
  thn (ha.run pins s σ H (fun v H1 => ∃ d st1 g1, Le g g1 ∧ Mt T nm X.K g1 ρ st1 σ H1 ∧ LkR T nm X.K g1 ρ σ d v ∧ Out T nm X.K W g0 ρ σ P (kk d st1)) I
    ⟨g, ρ, st, m, Out.imp ((Out.bind0 o).le l0) fun d st1 g1 H1 l1 m1 q v r => ⟨d, st1, g1, l1, m1, r, q⟩⟩) fun u s1 ⟨v, H1, I1, rv, d, st1, g1, l1, m1, lk, q⟩ => ⟨v, H1, d, st1, g1, I1, rv, l1, m1, lk, q⟩
/-- a value, then what is done with it -/
theorem val_go {a : E} {e : Expr} {pins : List (Addr × Obj)} {σ : L2.St} {H : Hp} {s : Shared} {g0 g : Gh} {ρ : Rho} {st : Sto} {α : Type} {P : α → Sto → Gh → Hp → Prop} {kk : D → Sto → R α} (ha : PE X e (tE T nm X.K cf W a)) (I : Inv X pins σ H s) (m : Mt T nm X.K g ρ st σ H) (l0 : Le g0 g)
    (o : Out T nm X.K W g0 ρ σ P ((evE T cf a ρ st).bind kk)) :
    wpAny (model X.prog X.w) X.A (eval e X.env) (fun u s' => ∃ v H' d st' g', Inv X pins σ H' s' ∧ RelV v u ∧ Le g g' ∧ Mt T nm X.K g' ρ st' σ H' ∧ RepR T nm X.K g g' d v ∧ Out T nm X.K W g0 ρ σ P (kk d st')) X.xe s :=
  thn (ha.run pins s σ H (fun v H1 => ∃ d st1 g1, Le g g1 ∧ Mt T nm X.K g1 ρ st1 σ H1 ∧ RepR T nm X.K g g1 d v ∧ Out T nm X.K W g0 ρ σ P (kk d st1)) I
    ⟨g, ρ, st, m, Out.imp ((Out.bind0 o).le l0) fun d st1 g1 H1 l1 m1 q v r => ⟨d, st1, g1, l1, m1, r, q⟩⟩) fun u s1 ⟨v, H1, I1, rv, d, st1, g1, l1, m1, lk, q⟩ => ⟨v, H1, d, st1, g1, I1, rv, l1, m1, lk, q⟩
/-- what may be said of the error that is handled -/
def ExI (X : Cx) (T : Tab) (nm : Nm) : Prop := nm.ex = none
theorem se_attr {e : Expr} {a : E} {m : Nat} {x : Str} (ha : PE X e (tB T nm X.K cf W a)) (hx : x = nm.attr m) (hcl : ∀ c C, T.cls c = some C → C.exc = false → ClI (co X) T nm cf k c C) (hex : ExI X T nm) (hr : Room (k + 1) X.A)
    (hb : attributeBase e x X.env (eval e X.env) = eval e X.env) : PE X (.Attribute e x pos) (tE T nm X.K cf W (.attr a m)) := by
  subst hx
  refine ⟨fun pins s σ H Q I ⟨g, ρ, st, mt, o⟩ => ?_⟩
  refine attr_of hb (thn (look_go ha I mt (Le.refl g) o) fun u s1 ⟨v, H1, d, st1, g1, I1, rv, l1, m1, lk, q⟩ => ?_)
  cases d with
  | ins c ds =>
    have lr := lk.rep m1 rfl
    unfold attrE at q
    cases hI : clsI T c with
    | none =>
      simp only [hI, prop, Option.bind_none] at q
      exact q.elim
    | some C =>
      obtain ⟨hC, ne⟩ := clsI_some hI
      have cI := hcl c C hC ne
      cases lr with
      | @ins p dx _ _ vs e1 e2 r =>
        have hp := m1.imm _ _ e1
        obtain rfl : u = Value.ref p := rv
        cases hf : fieldD T c m ds with
        | some d =>
          simp only [hI, Option.bind_some, hf] at q
          obtain ⟨w, h1, h2, h3⟩ := field_at hC cI.nd r hf
          exact getattr_ok I1 hp cI.cl (cI.noat m h3) h1 fun u' s2 I2 ru => ⟨w, H1, I2, ru, (q.le l1).ok m1 w (RepR.plain h2 h2.plain)⟩
        | none =>
          cases hp2 : prop T c m with
          | none =>
            simp only [hI, Option.bind_some, hf, hp2] at q
            exact q.elim
          | some f =>
            simp only [hI, Option.bind_some, hf, hp2] at q
            have hn : nameOf m C.props = some f := by
              unfold prop at hp2
              rw [hI] at hp2
              exact hp2
            obtain ⟨⟨pp, hpp⟩, F⟩ := cI.pr m f hn
            obtain ⟨fd, ps, F1, b, ep⟩ := F.ok
            have q2 : Out T nm X.K (fun _ _ _ _ => False) g ρ σ (fun d _ g' H' => ∀ v, RepR T nm X.K g g' d v → Q v H') (cf f [.ins c ds] st1) := by
              cases z : cf f [.ins c ds] st1 with
              | ok d st' => rw [z] at q; exact q
              | er x st' => rw [z] at q; exact q.elim
              | no => rw [z] at q; exact q.elim
            exact getprop_ok (dvs := []) (ds := []) I1 hp cI.cl hpp F1 hr b .nil (passL (X := X.nox)) (sp_of (vs := [.ref p]) m1 (.cons (.ins e1 e2 r) .nil) l1 rfl q2)
  | obj c ds =>
    obtain ⟨p, dx, vs, ev, hp, hl, r⟩ := lk.obj m1
    subst ev
    obtain rfl : u = Value.ref p := rv
    unfold attrE at q
    cases hI : clsI T c with
    | none =>
      simp only [hI, Option.bind_none] at q
      exact q.elim
    | some C =>
      obtain ⟨hC, ne⟩ := clsI_some hI
      have cI := hcl c C hC ne
      simp only [hI, Option.bind_some] at q
      obtain ⟨d, hf, q'⟩ := Out.of (q.le l1) m1
      obtain ⟨w, h1, h2, h3⟩ := field_at hC cI.nd r hf
      exact getattr_ok I1 hp cI.cl (cI.noat m h3) h1 fun u' s2 I2 ru => ⟨w, H1, I2, ru, q' w (RepR.plain h2 h2.plain)⟩
  | exc c ds =>
    rcases lk with ⟨i, h1, h2⟩ | h
    · obtain ⟨w, e, a', cv, dd, h3, _⟩ := m1.slots i _ h1
      rw [hex] at h3
      cases h3
    · cases h
  | _ => exact q.elim
/-! ### operators -/
def opOf : BO → Operator
  | .add => .Add | .sub => .Sub | .mul => .Mult | .fdv => .FloorDiv | .mod => .Mod | .pow => .Pow | .band => .BitAnd | .shr => .RShift
def copOf : CO → CmpOp
  | .eq => .Eq | .ne => .NotEq | .lt => .Lt | .le => .LtE | .gt => .Gt | .ge => .GtE | .is_ => .Is | .isn => .IsNot | .in_ => .In | .nin => .NotIn
theorem LkR.int {i : Int} {v : V} {g : Gh} {ρ : Rho} {σ : L2.St} {H : Hp} {st : Sto} (h : LkR T nm X.K g ρ σ (.int i) v) (m : Mt T nm X.K g ρ st σ H) : v = .int i := by
  cases h.rep m rfl
  rfl
theorem LkR.bl {i : Bool} {v : V} {g : Gh} {ρ : Rho} {σ : L2.St} {H : Hp} {st : Sto} (h : LkR T nm X.K g ρ σ (.bl i) v) (m : Mt T nm X.K g ρ st σ H) : v = .bl i := by
  cases h.rep m rfl
  rfl
theorem LkR.non {v : V} {g : Gh} {ρ : Rho} {σ : L2.St} {H : Hp} {st : Sto} (h : LkR T nm X.K g ρ σ .non v) (m : Mt T nm X.K g ρ st σ H) : v = .non := by
  cases h.rep m rfl
  rfl
theorem LkR.str {s : List Nat} {v : V} {g : Gh} {ρ : Rho} {σ : L2.St} {H : Hp} {st : Sto} (h : LkR T nm X.K g ρ σ (.str s) v) (m : Mt T nm X.K g ρ st σ H) : v = .str (strOf s) := by
  cases h.rep m rfl
  rfl
theorem small_ok {i : Int} (h : small i = true) : -(2 ^ 64) < i ∧ i < 2 ^ 64 := by
  unfold small at h
  rw [Bool.and_eq_true, decide_eq_true_iff, decide_eq_true_iff] at h
  have e : (2 : Int) ^ 64 = 18446744073709551616 := by decide
  rw [e]
  exact h
theorem small_nat {i : Int} (h : small i = true) : i.natAbs < 2 ^ 64 := by
  obtain ⟨a, b⟩ := small_ok h
  have e : (2 : Int) ^ 64 = 18446744073709551616 := by decide
  have e2 : (2 : Nat) ^ 64 = 18446744073709551616 := by decide
  rw [e] at a b
  rw [e2]
  omega
/-- * of ints -/
theorem op_mulG : OpR X (binaryOp .Mult) (rI (fun i j => mulOk i j = true) fun i j => .int (i * j)) := fun pins s σ H x y v u Q I rx ry ⟨i, j, ex, ey, h, q⟩ => by
  have h' : (small i || small j || decide (i.natAbs.log2 + j.natAbs.log2 < 1000000)) = true := h
  rw [Bool.or_eq_true, Bool.or_eq_true, decide_eq_true_iff] at h'
  replace h := h'
  rcases h with (h | h) | h
  · exact op_mul pins s σ H x y v u Q I rx ry ⟨i, j, ex, ey, .inl (small_ok h), q⟩
  · exact op_mul pins s σ H x y v u Q I rx ry ⟨i, j, ex, ey, .inr (small_ok h), q⟩
  · exact op_mulW pins s σ H x y v u Q I rx ry ⟨i, j, ex, ey, h, q⟩
theorem op_fdivG : OpR X (binaryOp .FloorDiv) (rI (fun _ j => divOk j = true) fun i j => .int (i.fdiv j)) := opI fun i j _ _ _ _ _ hc q => by
  unfold divOk at hc
  rw [Bool.and_eq_true, decide_eq_true_iff, decide_eq_true_iff] at hc
  exact floordiv_int hc.1 q (.inl (PyProof.noPylong_of_log2 hc.2))
theorem line_le {n : Nat} (h : n ≤ LINE) : n ≤ sizeLine := Nat.le_trans h (by decide)
theorem line_lt {n : Nat} (h : n < LINE) : n < sizeLine := Nat.lt_of_lt_of_le h (by decide)
/-- an answer that is no object -/
theorem flat_out {g0 g : Gh} {ρ : Rho} {σ : L2.St} {H : Hp} {st : Sto} {Q : VK} {d : D} {v : V} (o : Out T nm X.K W g0 ρ σ (fun d _ g' H' => ∀ v, RepR T nm X.K g0 g' d v → Q v H') (.ok d st)) (l : Le g0 g) (m : Mt T nm X.K g ρ st σ H) (r : Rep T nm X.K g d v) : Q v H :=
  (o.le l).ok m v (RepR.plain r r.plain)
/-- what instances do with an operator -/
def InsOps (X : Cx) (T : Tab) (nm : Nm) (W : WX) (cf : Nat → List D → Sto → R D) : Prop :=
  ∀ (op : BO) (pins : List (Addr × Obj)) (s : Shared) (σ : L2.St) (H : Hp) (g0 g : Gh) (ρ : Rho) (st : Sto) (d e : D) (x y : V) (u w : Value) (Q : VK), ((∃ c ds, d = .ins c ds) ∨ ∃ i c ds, d = .int i ∧ e = .ins c ds) →
    Inv X pins σ H s → Mt T nm X.K g ρ st σ H → LkR T nm X.K g ρ σ d x → LkR T nm X.K g ρ σ e y → RelV x u → RelV y w → Le g0 g →
    Out T nm X.K W g0 ρ σ (fun d _ g' H' => ∀ v, RepR T nm X.K g0 g' d v → Q v H') (binE T cf op d e st) → wpAny (model X.prog X.w) X.A (binaryOp (opOf op) u w) (EP X pins σ Q) X.xe s
theorem Reps.flat {g : Gh} {ds : List D} {vs : List V} (r : Reps T nm X.K g ds vs) : ∀ n : Nat, Reps T nm X.K g (List.replicate n ds).flatten (List.replicate n vs).flatten
  | 0 => .nil
  | n + 1 => by
    rw [List.replicate_succ, List.replicate_succ, List.flatten_cons, List.flatten_cons]
    exact r.append (Reps.flat r n)
/-- + and * of tuples -/
theorem tup_bin {op : BO} {pins : List (Addr × Obj)} {s : Shared} {σ : L2.St} {H : Hp} {g0 g : Gh} {ρ : Rho} {st : Sto} {ds : List D} {e : D} {x y : V} {u w : Value} {Q : VK}
    (I : Inv X pins σ H s) (m : Mt T nm X.K g ρ st σ H) (ld : LkR T nm X.K g ρ σ (.tup ds) x) (le : LkR T nm X.K g ρ σ e y) (rx : RelV x u) (ry : RelV y w) (l0 : Le g0 g)
    (o : Out T nm X.K W g0 ρ σ (fun d _ g' H' => ∀ v, RepR T nm X.K g0 g' d v → Q v H') (R.of (binD op (.tup ds) e) st)) : wpAny (model X.prog X.w) X.A (binaryOp (opOf op) u w) (EP X pins σ Q) X.xe s := by
  have sq : ∀ {p : Addr} {vs : List V}, SqT X.K (imH g) p vs → SqT X.K H p vs := fun h => same_seqT (fun a o z => m.imm a o (of_imH z)) h
  cases ld.rep m rfl with
  | @tup p _ vs h1 r1 =>
    have new : ∀ {es : List D} {ws : List V}, Reps T nm X.K g es ws → Out T nm X.K W g0 ρ σ (fun d _ g' H' => ∀ v, RepR T nm X.K g0 g' d v → Q v H') (.ok (.tup es) st) → ∀ q, H q = none → Q (.ref q) (upd H q (.tup ws)) := fun {es ws} rr o' q hq => by
      have lp : Le g (put g q (.imm (.tup ws))) := le_put (m.fresh hq)
      exact o' _ _ (l0.trans lp) (m.new hq (.inl rfl)) (.ref q) (.tup (SqT.of (imH_of put_same)) (rr.mono lp.lim))
    cases e with
    | tup es =>
      cases op with
      | add =>
        cases le.rep m rfl with
        | @tup p2 _ vs2 h2 r2 =>
          have o' : Out T nm X.K W g0 ρ σ (fun d _ g' H' => ∀ v, RepR T nm X.K g0 g' d v → Q v H') (R.of (if ds.length + es.length ≤ LINE then some (.tup (ds ++ es)) else none) st) := o
          by_cases h : ds.length + es.length ≤ LINE
          · rw [if_pos h] at o'
            refine op_catA pins s σ H _ _ u w Q I rx ry ⟨p, p2, vs, vs2, rfl, rfl, sq h1, sq h2, by rw [← r1.len, ← r2.len]; exact line_le h, fun z => ?_, fun _ z => ?_, fun _ _ => new (r1.append r2) o'⟩
            · have z' : ds = [] := List.eq_nil_of_length_eq_zero (by rw [r1.len, z]; rfl)
              rw [z', List.nil_append] at o'
              exact (o'.le l0).ok m _ (.tup h2 r2)
            · have z' : es = [] := List.eq_nil_of_length_eq_zero (by rw [r2.len, z]; rfl)
              rw [z', List.append_nil] at o'
              exact (o'.le l0).ok m _ (.tup h1 r1)
          · rw [if_neg h] at o'
            exact o'.elim
      | _ => exact o.elim
    | int n =>
      cases op with
      | mul =>
        have o' : Out T nm X.K W g0 ρ σ (fun d _ g' H' => ∀ v, RepR T nm X.K g0 g' d v → Q v H') (R.of (if ds.isEmpty = false ∧ -1000 ≤ n ∧ n ≤ 1000 ∧ ds.length ≤ 1000 then some (.tup (List.replicate n.toNat ds).flatten) else none) st) := o
        by_cases h : ds.isEmpty = false ∧ -1000 ≤ n ∧ n ≤ 1000 ∧ ds.length ≤ 1000
        · rw [if_pos h] at o'
          refine op_tm pins s σ H _ _ u w Q I rx ry ⟨p, n, vs, rfl, le.int m, sq h1, fun z => ?_, h.2.1, h.2.2.1, by rw [← r1.len]; exact h.2.2.2, fun z => ?_, fun _ => new (r1.flat _) o'⟩
          · have z' : ds = [] := List.eq_nil_of_length_eq_zero (by rw [r1.len, z]; rfl)
            rw [z'] at h
            cases h.1
          · subst z
            rw [show (1 : Int).toNat = 1 from rfl, show (List.replicate 1 ds).flatten = ds by simp] at o'
            exact (o'.le l0).ok m _ (.tup h1 r1)
        · rw [if_neg h] at o'
          exact o'.elim
      | _ => exact o.elim
    | _ => cases op <;> exact o.elim
theorem flat_bin {op : BO} {pins : List (Addr × Obj)} {s : Shared} {σ : L2.St} {H : Hp} {g0 g : Gh} {ρ : Rho} {st : Sto} {d e : D} {x y : V} {u w : Value} {Q : VK}
    (I : Inv X pins σ H s) (m : Mt T nm X.K g ρ st σ H) (ld : LkR T nm X.K g ρ σ d x) (le : LkR T nm X.K g ρ σ e y) (rx : RelV x u) (ry : RelV y w) (l0 : Le g0 g)
    (o : Out T nm X.K W g0 ρ σ (fun d _ g' H' => ∀ v, RepR T nm X.K g0 g' d v → Q v H') (R.of (binD op d e) st)) : wpAny (model X.prog X.w) X.A (binaryOp (opOf op) u w) (EP X pins σ Q) X.xe s := by
  cases d with
  | int i =>
    have ex := ld.int m
    cases e with
    | int j =>
      have ey := le.int m
      cases op with
      | add => exact op_add pins s σ H x y u w Q I rx ry ⟨i, j, ex, ey, flat_out o l0 m (.int _)⟩
      | sub => exact op_sub pins s σ H x y u w Q I rx ry ⟨i, j, ex, ey, flat_out o l0 m (.int _)⟩
      | mul =>
        have o' : Out T nm X.K W g0 ρ σ (fun d _ g' H' => ∀ v, RepR T nm X.K g0 g' d v → Q v H') (R.of (if mulOk i j then some (.int (i * j)) else none) st) := o
        by_cases h : mulOk i j = true
        · rw [if_pos h] at o'
          exact op_mulG pins s σ H x y u w Q I rx ry ⟨i, j, ex, ey, h, flat_out o' l0 m (.int _)⟩
        · rw [if_neg h] at o'
          exact o'.elim
      | fdv =>
        have o' : Out T nm X.K W g0 ρ σ (fun d _ g' H' => ∀ v, RepR T nm X.K g0 g' d v → Q v H') (R.of (if divOk j then some (.int (i.fdiv j)) else none) st) := o
        by_cases h : divOk j = true
        · rw [if_pos h] at o'
          exact op_fdivG pins s σ H x y u w Q I rx ry ⟨i, j, ex, ey, h, flat_out o' l0 m (.int _)⟩
        · rw [if_neg h] at o'
          exact o'.elim
      | mod =>
        have o' : Out T nm X.K W g0 ρ σ (fun d _ g' H' => ∀ v, RepR T nm X.K g0 g' d v → Q v H') (R.of (if j ≠ 0 then some (.int (i.fmod j)) else none) st) := o
        by_cases h : j ≠ 0
        · rw [if_pos h] at o'
          exact op_modN pins s σ H x y u w Q I rx ry ⟨i, j, ex, ey, h, flat_out o' l0 m (.int _)⟩
        · rw [if_neg h] at o'
          exact o'.elim
      | pow =>
        have o' : Out T nm X.K W g0 ρ σ (fun d _ g' H' => ∀ v, RepR T nm X.K g0 g' d v → Q v H') (R.of (if 0 ≤ j ∧ j ≤ 1000000 ∧ small i then some (.int (i ^ j.toNat)) else none) st) := o
        by_cases h : 0 ≤ j ∧ j ≤ 1000000 ∧ small i = true
        · rw [if_pos h] at o'
          exact op_pow pins s σ H x y u w Q I rx ry ⟨i, j, ex, ey, ⟨h.1, h.2.1, small_nat h.2.2⟩, flat_out o' l0 m (.int _)⟩
        · rw [if_neg h] at o'
          exact o'.elim
      | band =>
        have o' : Out T nm X.K W g0 ρ σ (fun d _ g' H' => ∀ v, RepR T nm X.K g0 g' d v → Q v H') (R.of (if 0 ≤ i ∧ j = 1 then some (.int (i.fmod 2)) else none) st) := o
        by_cases h : 0 ≤ i ∧ j = 1
        · rw [if_pos h] at o'
          exact op_odd1 pins s σ H x y u w Q I rx ry ⟨i, j, ex, ey, h, flat_out o' l0 m (.int _)⟩
        · rw [if_neg h] at o'
          exact o'.elim
      | shr => exact o.elim
    | _ => cases op <;> exact o.elim
  | tup ds => exact tup_bin I m ld le rx ry l0 o
  | str a =>
    have ex := ld.str m
    cases e with
    | str b =>
      have ey := le.str m
      cases op with
      | add =>
        have o' : Out T nm X.K W g0 ρ σ (fun d _ g' H' => ∀ v, RepR T nm X.K g0 g' d v → Q v H') (R.of (if a.length + b.length ≤ LINE then some (.str (a ++ b)) else none) st) := o
        by_cases h : a.length + b.length ≤ LINE
        · rw [if_pos h] at o'
          refine op_add_str pins s σ H x y u w Q I rx ry ⟨_, _, ex, ey, by rw [strOf_len, strOf_len]; exact line_le h, ?_⟩
          rw [strOf_app]
          exact flat_out o' l0 m (.str _)
        · rw [if_neg h] at o'
          exact o'.elim
      | _ => exact o.elim
    | _ => cases op <;> exact o.elim
  | _ => cases op <;> exact o.elim
/-- + and * of lists -/
theorem row_bin {op : BO} {pins : List (Addr × Obj)} {s : Shared} {σ : L2.St} {H : Hp} {g0 g : Gh} {ρ : Rho} {st : Sto} {d e : D} {x y : V} {u w : Value} {Q : VK}
    (I : Inv X pins σ H s) (m : Mt T nm X.K g ρ st σ H) (ld : LkR T nm X.K g ρ σ d x) (le : LkR T nm X.K g ρ σ e y) (rx : RelV x u) (ry : RelV y w) (l0 : Le g0 g)
    (o : Out T nm X.K W g0 ρ σ (fun d _ g' H' => ∀ v, RepR T nm X.K g0 g' d v → Q v H') (match rowB op d e st with
      | some ds => .ok (.own ds) st
      | none => .no)) : wpAny (model X.prog X.w) X.A (binaryOp (opOf op) u w) (EP X pins σ Q) X.xe s := by
  cases h : lstS st d with
  | none =>
    have z : rowB op d e st = none := by
      unfold rowB
      cases op <;> simp [h]
    rw [z] at o
    exact o.elim
  | some xs =>
    obtain ⟨p, vs, ex, hp, r⟩ := lstS_ok ld m h
    cases op with
    | add =>
      cases h2 : lstS st e with
      | none =>
        have z : rowB .add d e st = none := by simp [rowB, h, h2]
        rw [z] at o
        exact o.elim
      | some ys =>
        obtain ⟨p2, vs2, ey, hp2, r2⟩ := lstS_ok le m h2
        by_cases hl : xs.length + ys.length ≤ LINE
        · have z : rowB .add d e st = some (xs ++ ys) := by simp [rowB, h, h2, hl]
          rw [z] at o
          exact op_cat pins s σ H x y u w Q I rx ry ⟨p, p2, vs, vs2, ex, ey, hp, hp2, by rw [← r.len, ← r2.len]; exact line_le hl, fun q hq => new_own l0 m (r.append r2) o hq⟩
        · have z : rowB .add d e st = none := by simp [rowB, h, h2, hl]
          rw [z] at o
          exact o.elim
    | mul =>
      cases e with
      | int n =>
        by_cases hl : -1000 ≤ n ∧ n ≤ 1000 ∧ xs.length ≤ 1000
        · have z : rowB .mul d (.int n) st = some (List.replicate n.toNat xs).flatten := by simp [rowB, h, hl]
          rw [z] at o
          refine op_rep pins s σ H x y u w Q I rx ry ⟨p, n, vs, ex, le.int m, hp, by omega, by omega, ?_, fun q hq => new_own l0 m (r.flat _) o hq⟩
          rw [← r.len]
          have h1 : n.toNat ≤ 1000 := by omega
          have h2 : xs.length * n.toNat ≤ 1000 * 1000 := Nat.mul_le_mul hl.2.2 h1
          exact Nat.le_trans h2 (by decide)
        · have z : rowB .mul d (.int n) st = none := by simp [rowB, h, hl]
          rw [z] at o
          exact o.elim
      | _ =>
        have z : ∀ e, (∀ n, e ≠ .int n) → rowB .mul d e st = none := fun e hn => by
          unfold rowB
          rw [h]
          cases e <;> first | rfl | exact absurd rfl (hn _)
        rw [z _ (by intro n q; cases q)] at o
        exact o.elim
    | _ =>
      exact (show False from by
        have z : ∀ op, op ≠ BO.add → op ≠ BO.mul → rowB op d e st = none := fun op h1 h2 => by
          cases op <;> first | exact absurd rfl h1 | exact absurd rfl h2 | rfl
        rw [z _ (by intro q; cases q) (by intro q; cases q)] at o
        exact o).elim
theorem bin_ok {op : BO} {pins : List (Addr × Obj)} {s : Shared} {σ : L2.St} {H : Hp} {g0 g : Gh} {ρ : Rho} {st : Sto} {d e : D} {x y : V} {u w : Value} {Q : VK} (hi : InsOps X T nm W cf)
    (I : Inv X pins σ H s) (m : Mt T nm X.K g ρ st σ H) (ld : LkR T nm X.K g ρ σ d x) (le : LkR T nm X.K g ρ σ e y) (rx : RelV x u) (ry : RelV y w) (l0 : Le g0 g)
    (o : Out T nm X.K W g0 ρ σ (fun d _ g' H' => ∀ v, RepR T nm X.K g0 g' d v → Q v H') (binE T cf op d e st)) : wpAny (model X.prog X.w) X.A (binaryOp (opOf op) u w) (EP X pins σ Q) X.xe s := by
  cases d with
  | ins c ds => exact hi op pins s σ H g0 g ρ st _ e x y u w Q (.inl ⟨c, ds, rfl⟩) I m ld le rx ry l0 o
  | int i =>
    cases e with
    | ins c ds => exact hi op pins s σ H g0 g ρ st _ _ x y u w Q (.inr ⟨i, c, ds, rfl, rfl⟩) I m ld le rx ry l0 o
    | _ => exact flat_bin I m ld le rx ry l0 o
  | lst ds => exact row_bin I m ld le rx ry l0 o
  | own ds => exact row_bin I m ld le rx ry l0 o
  | ref r => exact row_bin I m ld le rx ry l0 o
  | _ => exact flat_bin I m ld le rx ry l0 o
theorem se_bin {op : BO} {e1 e2 : Expr} {a b : E} (hi : InsOps X T nm W cf) (ha : PE X e1 (tB T nm X.K cf W a)) (hb : PE X e2 (tB T nm X.K cf W b)) : PE X (.BinOp e1 (opOf op) e2 pos) (tE T nm X.K cf W (.bin op a b)) := by
  refine ⟨fun pins s σ H Q I ⟨g, ρ, st, m, o⟩ => ?_⟩
  refine wpAny_BinOp (thn (look_go ha I m (Le.refl g) o) fun u s1 ⟨v, H1, d, st1, g1, I1, rv, l1, m1, lk, q⟩ => ?_)
  refine thn (look_go hb I1 m1 l1 q) fun w s2 ⟨y, H2, e, st2, g2, I2, rw2, l2, m2, lk2, q2⟩ => ?_
  exact bin_ok hi I2 m2 (lk.le l2) lk2 rv rw2 (l1.trans l2) q2
/-! ### comparisons -/
/-- == of flat data -/
theorem eqF_ok {d e : D} {x y : V} {b : Bool} {g : Gh} {K : PySem.W.Frag} (rd : Rep T nm K g d x) (re : Rep T nm K g e y) (h : eqF d e = some b) : scal x y = true ∧ decide (x = y) = b := by
  cases rd <;> cases re <;> first
    | (cases h; done)
    | (cases h; exact ⟨rfl, rfl⟩)
    | (cases h; refine ⟨rfl, ?_⟩; simp [strOf_inj])
theorem eqF_plain {d e : D} {b : Bool} (h : eqF d e = some b) : plain d = true ∧ plain e = true := by
  cases d <;> cases e <;> first | exact ⟨rfl, rfl⟩ | cases h
/-- what instances do with a comparison, and == of rows -/
def InsCmp (X : Cx) (T : Tab) (nm : Nm) (W : WX) (cf : Nat → List D → Sto → R D) : Prop :=
  X.A.units + 1 < cLine ∧ ∀ (op : CO) (pins : List (Addr × Obj)) (s : Shared) (σ : L2.St) (H : Hp) (g0 g : Gh) (ρ : Rho) (st : Sto) (d e : D) (x y : V) (u w : Value) (Q : Bool → Hp → Prop), spec op d e = true →
    Inv X pins σ H s → Mt T nm X.K g ρ st σ H → LkR T nm X.K g ρ σ d x → LkR T nm X.K g ρ σ e y → RelV x u → RelV y w → Le g0 g →
    Out T nm X.K W g0 ρ σ (fun b _ _ H' => Q b H') (cmpS T cf op d e st) → wpAny (model X.prog X.w) X.A (compareOp (copOf op) u w) (EP X pins σ fun v H' => ∃ b, v = .bl b ∧ Q b H') X.xe s
theorem isNon_ok {d : D} {x : V} {g : Gh} {ρ : Rho} {σ : L2.St} {H : Hp} {st : Sto} (h : LkR T nm X.K g ρ σ d x) (m : Mt T nm X.K g ρ st σ H) : decide (x = .non) = isNon d := by
  cases d with
  | own ds =>
    obtain ⟨p, vs, e, _⟩ := h.own m
    rw [e]
    rfl
  | obj c ds =>
    obtain ⟨p, dx, vs, e, _⟩ := h.obj m
    rw [e]
    rfl
  | exc c ds =>
    rcases h with ⟨i, h1, h2⟩ | h
    · obtain ⟨w, e, a', cv, dd, h3, h4, _⟩ := m.slots i _ h1
      rw [h2] at e
      cases e
      rw [h4]
      rfl
    · cases h
  | _ => cases h.rep m rfl <;> rfl
/-- a row, looked at -/
theorem seqOf_ok {d : D} {ds : List D} {x : V} {g : Gh} {ρ : Rho} {σ : L2.St} {H : Hp} {st : Sto} (h : LkR T nm X.K g ρ σ d x) (m : Mt T nm X.K g ρ st σ H) (e : seqOf d = some ds) :
    ∃ p vs, x = .ref p ∧ (SqL X.K H p vs ∨ SqT X.K H p vs) ∧ Reps T nm X.K g ds vs := by
  cases d with
  | own es =>
    cases e
    obtain ⟨p, vs, e, hp, r⟩ := h.own m
    exact ⟨p, vs, e, .inl (.of hp), r⟩
  | lst es =>
    cases e
    cases h.rep m rfl with
    | lst s r => exact ⟨_, _, rfl, .inl (.of (m.imm _ _ s)), r⟩
  | tup es =>
    cases e
    cases h.rep m rfl with
    | tup s r => exact ⟨_, _, rfl, .inr (same_seqT (fun a o e => m.imm a o (of_imH e)) s), r⟩
  | _ => cases e
theorem leaf_V {d e : D} {v w : V} {g : Gh} (rd : Rep T nm X.K g d v) (re : Rep T nm X.K g e w) (p : noBl d = true) (q : noBl e = true) : flatV v = true ∧ eqV v w = leafEq d e := by
  cases rd <;> first | (cases p; done) | (cases re <;> first | (cases q; done) | exact ⟨rfl, rfl⟩ | (refine ⟨rfl, ?_⟩; simp [eqV, leafEq, strOf_inj, Bool.beq_eq_decide_eq]))
theorem leaf_Vs {e : D} {w : V} {g : Gh} (re : Rep T nm X.K g e w) (q : noBl e = true) : ∀ {ds : List D} {vs : List V}, Reps T nm X.K g ds vs → ds.all noBl = true → vs.all flatV = true ∧ (vs.any fun y => eqV y w) = ds.any fun d => leafEq d e
  | _, _, .nil, _ => ⟨rfl, rfl⟩
  | _, _, .cons r t, h => by
    rw [List.all_cons, Bool.and_eq_true] at h
    obtain ⟨h1, h2⟩ := leaf_V r re h.1 q
    obtain ⟨h3, h4⟩ := leaf_Vs re q t h.2
    exact ⟨by rw [List.all_cons, h1, h3]; rfl, by rw [List.any_cons, List.any_cons, h2, h4]⟩
theorem noBl_plain {d : D} (h : noBl d = true) : plain d = true := by
  cases d <;> first | rfl | cases h
theorem inF_ok {d e : D} {x y : V} {b : Bool} {g : Gh} {ρ : Rho} {σ : L2.St} {H : Hp} {st : Sto} (ld : LkR T nm X.K g ρ σ d x) (le : LkR T nm X.K g ρ σ e y) (m : Mt T nm X.K g ρ st σ H) (h : (seqOf e).bind (inF d) = some b) :
    ∃ p vs, y = .ref p ∧ (SqL X.K H p vs ∨ SqT X.K H p vs) ∧ flatV x = true ∧ vs.all flatV = true ∧ inV x vs = b := by
  cases h1 : seqOf e with
  | none => rw [h1] at h; cases h
  | some ds =>
    rw [h1] at h
    have h2 : (if (noBl d && ds.all noBl) = true then some (ds.any fun z => leafEq z d) else none) = some b := h
    by_cases c : (noBl d && ds.all noBl) = true
    · rw [if_pos c] at h2
      cases h2
      rw [Bool.and_eq_true] at c
      obtain ⟨p, vs, ey, hs, r⟩ := seqOf_ok le m h1
      have rd := ld.rep m (noBl_plain c.1)
      obtain ⟨f2, f3⟩ := leaf_Vs rd c.1 r c.2
      exact ⟨p, vs, ey, hs, (leaf_V rd rd c.1 c.1).1, f2, f3⟩
    · rw [if_neg c] at h2
      cases h2
theorem flat_cmp {op : CO} {pins : List (Addr × Obj)} {s : Shared} {σ : L2.St} {H : Hp} {g0 g : Gh} {ρ : Rho} {st : Sto} {d e : D} {x y : V} {u w : Value} {Q : Bool → Hp → Prop}
    (I : Inv X pins σ H s) (m : Mt T nm X.K g ρ st σ H) (ld : LkR T nm X.K g ρ σ d x) (le : LkR T nm X.K g ρ σ e y) (rx : RelV x u) (ry : RelV y w) (l0 : Le g0 g)
    (o : Out T nm X.K W g0 ρ σ (fun b _ _ H' => Q b H') (R.of (cmpD op d e) st)) : wpAny (model X.prog X.w) X.A (compareOp (copOf op) u w) (EP X pins σ fun v H' => ∃ b, v = .bl b ∧ Q b H') X.xe s := by
  obtain ⟨b, e1, q⟩ := Out.of (o.le l0) m
  cases op with
  | eq =>
    have h : eqF d e = some b := e1
    obtain ⟨p1, p2⟩ := eqF_plain h
    obtain ⟨h1, h2⟩ := eqF_ok (ld.rep m p1) (le.rep m p2) h
    exact op_eq pins s σ H x y u w _ I rx ry ⟨h1, _, by rw [h2], q⟩
  | ne =>
    cases h : eqF d e with
    | none =>
      have e2 : (eqF d e).map (!·) = some b := e1
      rw [h] at e2
      cases e2
    | some k =>
      have e2 : (eqF d e).map (!·) = some b := e1
      rw [h] at e2
      cases e2
      obtain ⟨p1, p2⟩ := eqF_plain h
      obtain ⟨h1, h2⟩ := eqF_ok (ld.rep m p1) (le.rep m p2) h
      exact op_ne pins s σ H x y u w _ I rx ry ⟨h1, _, by rw [h2], q⟩
  | lt =>
    cases d <;> cases e <;> first | (cases e1; done) | (cases e1; exact op_lt pins s σ H x y u w _ I rx ry ⟨_, _, ld.int m, le.int m, _, rfl, q⟩)
  | le =>
    cases d <;> cases e <;> first | (cases e1; done) | (cases e1; exact op_le pins s σ H x y u w _ I rx ry ⟨_, _, ld.int m, le.int m, _, rfl, q⟩)
  | gt =>
    cases d <;> cases e <;> first | (cases e1; done) | (cases e1; exact op_gt pins s σ H x y u w _ I rx ry ⟨_, _, ld.int m, le.int m, _, rfl, q⟩)
  | ge =>
    cases d <;> cases e <;> first | (cases e1; done) | (cases e1; exact op_ge pins s σ H x y u w _ I rx ry ⟨_, _, ld.int m, le.int m, _, rfl, q⟩)
  | is_ =>
    cases e with
    | non =>
      have e2 : some (isNon d) = some b := by cases d <;> exact e1
      cases e2
      rw [le.non m] at ry
      exact op_isN pins s σ H x .non u w _ I rx ry ⟨rfl, _, by rw [isNon_ok ld m], q⟩
    | bl k =>
      cases d with
      | bl j =>
        cases e1
        exact op_isBl pins s σ H x y u w _ I rx ry ⟨_, _, ld.bl m, le.bl m, _, rfl, q⟩
      | _ => cases e1
    | _ => cases d <;> cases e1
  | isn =>
    cases e with
    | non =>
      have e2 : some (!isNon d) = some b := by cases d <;> exact e1
      cases e2
      rw [le.non m] at ry
      exact op_notN pins s σ H x .non u w _ I rx ry ⟨rfl, _, by rw [isNon_ok ld m], q⟩
    | _ => cases d <;> cases e1
  | in_ =>
    have e2 : (seqOf e).bind (inF d) = some b := by cases d <;> cases e <;> exact e1
    obtain ⟨p, vs, ey, hs, f1, f2, f3⟩ := inF_ok ld le m e2
    exact op_in_seq pins s σ H x y u w _ I rx ry ⟨p, vs, ey, hs, f1, f2, _, by rw [f3]; rfl, q⟩
  | nin =>
    cases h : (seqOf e).bind (inF d) with
    | none =>
      have e2 : ((seqOf e).bind (inF d)).map (!·) = some b := by cases d <;> cases e <;> exact e1
      rw [h] at e2
      cases e2
    | some k =>
      have e2 : ((seqOf e).bind (inF d)).map (!·) = some b := by cases d <;> cases e <;> exact e1
      rw [h] at e2
      cases e2
      obtain ⟨p, vs, ey, hs, f1, f2, f3⟩ := inF_ok ld le m h
      exact op_notIn_seq pins s σ H x y u w _ I rx ry ⟨p, vs, ey, hs, f1, f2, _, by rw [f3]; rfl, q⟩
/-- a dict of the store -/
theorem sto_dct {r : Nat} {kvs : List (D × D)} {x : V} {g : Gh} {ρ : Rho} {σ : L2.St} {H : Hp} {st : Sto} (h : LkR T nm X.K g ρ σ (.ref r) x) (m : Mt T nm X.K g ρ st σ H) (e : st[r]? = some (.dct kvs)) : ∃ p kws, x = .ref p ∧ g p = some (.sto r) ∧ H p = some (.dK kws) ∧ KvR T nm X.K g kvs kws := by
  cases h.rep m rfl with
  | @ref p _ gp =>
    obtain ⟨a, o, ga, ha, kws, eo, rr⟩ := m.sto r _ e
    have z := m.uniq _ _ _ ga gp
    subst z
    subst eo
    exact ⟨a, kws, rfl, gp, ha, rr⟩
theorem key_is {k : D} (h : isKey k = true) {v : V} {g : Gh} {ρ : Rho} {σ : L2.St} {H : Hp} {st : Sto} (l : LkR T nm X.K g ρ σ k v) (m : Mt T nm X.K g ρ st σ H) : ∃ q, keyOf k = some q ∧ v = kV q := by
  cases k with
  | int i => exact ⟨_, rfl, l.int m⟩
  | str z => exact ⟨_, rfl, l.str m⟩
  | _ => cases h
theorem keyOf_eq {a b : D} {p q : Key} (h1 : keyOf a = some p) (h2 : keyOf b = some q) : keyEq a b = decide (p = q) := by
  cases a <;> first | (cases h1; done) | skip
  all_goals (cases b <;> first | (cases h2; done) | skip)
  all_goals (cases h1; cases h2; simp [keyEq, strOf_inj])
theorem kv_get {g : Gh} {k : D} {q : Key} (hk : keyOf k = some q) : ∀ {kvs : List (D × D)} {kws : List (Key × V)}, KvR T nm X.K g kvs kws → (match dGet kvs k with
    | some d => ∃ v, valV kws q = some v ∧ Rep T nm X.K g d v
    | none => valV kws q = none)
  | [], [], _ => rfl
  | p :: r, t :: ts, ⟨h1, h2, h3⟩ => by
    have ih := kv_get hk h3
    have e := keyOf_eq h1 hk
    by_cases z : t.1 = q
    · have e1 : keyEq p.1 k = true := by rw [e]; simpa using z
      have e2 : dGet (p :: r) k = some p.2 := by simp [dGet, List.find?_cons, e1]
      rw [e2]
      exact ⟨t.2, valV_pos z, h2⟩
    · have e1 : keyEq p.1 k = false := by rw [e]; simpa using z
      have e2 : dGet (p :: r) k = dGet r k := by simp [dGet, List.find?_cons, e1]
      rw [e2, valV_neg z]
      exact ih
  | [], _ :: _, h => h.elim
  | _ :: _, [], h => h.elim
theorem cmp_ok {op : CO} {pins : List (Addr × Obj)} {s : Shared} {σ : L2.St} {H : Hp} {g0 g : Gh} {ρ : Rho} {st : Sto} {d e : D} {x y : V} {u w : Value} {Q : Bool → Hp → Prop} (hi : InsCmp X T nm W cf)
    (I : Inv X pins σ H s) (m : Mt T nm X.K g ρ st σ H) (ld : LkR T nm X.K g ρ σ d x) (le : LkR T nm X.K g ρ σ e y) (rx : RelV x u) (ry : RelV y w) (l0 : Le g0 g)
    (o : Out T nm X.K W g0 ρ σ (fun b _ _ H' => Q b H') (cmpE T cf op d e st)) : wpAny (model X.prog X.w) X.A (compareOp (copOf op) u w) (EP X pins σ fun v H' => ∃ b, v = .bl b ∧ Q b H') X.xe s := by
  unfold cmpE at o
  by_cases hs : spec op d e = true
  · rw [if_pos hs] at o
    exact hi.2 op pins s σ H g0 g ρ st d e x y u w Q hs I m ld le rx ry l0 o
  · rw [if_neg hs] at o
    cases e with
    | ref r =>
      cases h1 : st[r]? with
      | none => simp only [h1] at o; exact o.elim
      | some ob =>
        cases ob with
        | dct kvs =>
          simp only [h1] at o
          obtain ⟨b, e1, q⟩ := Out.of (o.le l0) m
          unfold inD at e1
          by_cases hk : isKey d = true
          · rw [if_pos hk] at e1
            obtain ⟨p, kws, ey, _, hp, rr⟩ := sto_dct le m h1
            obtain ⟨kk, k1, k2⟩ := key_is hk ld m
            subst ey
            have g1 := kv_get k1 rr
            have hd : DGet H p x (valV kws kk) := by rw [k2]; exact DGet.k hp
            have hsome : (valV kws kk).isSome = (dGet kvs d).isSome := by
              cases h3 : dGet kvs d with
              | none => rw [h3] at g1; rw [g1]; rfl
              | some dd => rw [h3] at g1; obtain ⟨v, g2, _⟩ := g1; rw [g2]; rfl
            obtain rfl : w = Value.ref p := ry
            cases op with
            | in_ =>
              cases e1
              exact d_in hi.1 I hd rx fun s' I' => ⟨.bl _, H, I', rfl, _, rfl, by rw [hsome]; exact q⟩
            | nin =>
              cases e1
              exact d_notIn hi.1 I hd rx fun s' I' => ⟨.bl _, H, I', rfl, _, rfl, by rw [hsome]; exact q⟩
            | _ => cases e1
          · rw [if_neg hk] at e1
            cases e1
        | lst ds =>
          simp only [h1] at o
          obtain ⟨p, vs, ey, _, hp, rr⟩ := sto_lst le m h1
          cases op with
          | in_ =>
            obtain ⟨b, e1, q⟩ := Out.of (o.le l0) m
            have e2 : inF d ds = some b := by cases d <;> exact e1
            unfold inF at e2
            by_cases hb : (noBl d && ds.all noBl) = true
            · rw [if_pos hb] at e2
              cases e2
              obtain ⟨b1, b2⟩ := Bool.and_eq_true_iff.mp hb
              have rd := ld.rep m (noBl_plain b1)
              obtain ⟨f1, f2⟩ := leaf_Vs rd b1 rr b2
              exact op_in_seq pins s σ H x y u w _ I rx ry ⟨p, vs, ey, .inl (.of hp), (leaf_V rd rd b1 b1).1, f1, _, by rw [show inV x vs = _ from f2]; rfl, q⟩
            · rw [if_neg hb] at e2
              cases e2
          | nin =>
            obtain ⟨b, e1, q⟩ := Out.of (o.le l0) m
            have e2 : (inF d ds).map (!·) = some b := by cases d <;> exact e1
            unfold inF at e2
            by_cases hb : (noBl d && ds.all noBl) = true
            · rw [if_pos hb] at e2
              cases e2
              obtain ⟨b1, b2⟩ := Bool.and_eq_true_iff.mp hb
              have rd := ld.rep m (noBl_plain b1)
              obtain ⟨f1, f2⟩ := leaf_Vs rd b1 rr b2
              exact op_notIn_seq pins s σ H x y u w _ I rx ry ⟨p, vs, ey, .inl (.of hp), (leaf_V rd rd b1 b1).1, f1, _, by rw [show inV x vs = _ from f2]; rfl, q⟩
            · rw [if_neg hb] at e2
              cases e2
          | _ =>
            obtain ⟨b, e1, q⟩ := Out.of (o.le l0) m
            cases d <;> cases e1
        | ins c es => simp only [h1] at o; exact o.elim
    | _ => exact flat_cmp I m ld le rx ry l0 o
theorem cop_mark (b : Expr) (op : CO) (hb : ∀ es k p, b ≠ .Set es k p) : behindInMarks (copOf op) b = false := by
  cases b <;> first | rfl | exact absurd rfl (hb _ _ _)
theorem se_cmp {op : CO} {e1 e2 : Expr} {a b : E} (hi : InsCmp X T nm W cf) (ha : PE X e1 (tB T nm X.K cf W a)) (hb : PE X e2 (tB T nm X.K cf W b)) (hs : ∀ es k p, e2 ≠ .Set es k p) : PE X (.Compare e1 [copOf op] [e2] pos) (tE T nm X.K cf W (.cmp op a b)) := by
  refine ⟨fun pins s σ H Q I ⟨g, ρ, st, m, o⟩ => ?_⟩
  refine wpAny_Compare1 (thn (look_go ha I m (Le.refl g) o) fun u s1 ⟨v, H1, d, st1, g1, I1, rv, l1, m1, lk, q⟩ => ?_) (cop_mark e2 op hs)
  refine thn (look_go hb I1 m1 l1 q) fun w s2 ⟨y, H2, e, st2, g2, I2, rw2, l2, m2, lk2, q2⟩ => ?_
  refine thn (cmp_ok (g0 := g) (Q := fun b H' => ∀ v, v = V.bl b → Q v H') hi I2 m2 (lk.le l2) lk2 rv rw2 (l1.trans l2) (Out.imp (Out.bind0 q2) fun b st3 g3 H3 l3 m3 q3 v e => by
    subst e
    exact flat_out q3 l3 m3 (.bl b))) fun c s3 ⟨z, H3, I3, r3, k, ez, q3⟩ => ⟨z, H3, I3, r3, q3 z ez⟩
theorem st_cmp {op : CO} {e1 e2 : Expr} {a b : E} (hi : InsCmp X T nm W cf) (ha : PE X e1 (tB T nm X.K cf W a)) (hb : PE X e2 (tB T nm X.K cf W b)) (hs : ∀ es k p, e2 ≠ .Set es k p) : PT X (.Compare e1 [copOf op] [e2] pos) (tT T nm X.K cf W (.e (.cmp op a b))) := by
  refine ⟨fun pins s σ H Q I ⟨g, ρ, st, m, o⟩ => ?_⟩
  have o1 : Out T nm X.K W g ρ σ (fun b _ _ H' => Q b H') ((bor a ρ st (evE T cf a ρ st)).bind fun x st => (bor b ρ st (evE T cf b ρ st)).bind fun y st => cmpE T cf op x y st) := by
    have e : ∀ r : R D, (((r.bind fun x st => (bor b ρ st (evE T cf b ρ st)).bind fun y st => (cmpE T cf op x y st).bind fun k st => R.ok (D.bl k) st)).bind fun d st => R.of (truthS st d) st) = r.bind fun x st => (bor b ρ st (evE T cf b ρ st)).bind fun y st => cmpE T cf op x y st := fun r => by
      cases r with
      | ok x st1 =>
        show (((bor b ρ st1 (evE T cf b ρ st1)).bind fun y st => (cmpE T cf op x y st).bind fun k st => R.ok (D.bl k) st).bind fun d st => R.of (truthS st d) st) = _
        show _ = (bor b ρ st1 (evE T cf b ρ st1)).bind fun y st => cmpE T cf op x y st
        cases bor b ρ st1 (evE T cf b ρ st1) with
        | ok y st2 =>
          show (((cmpE T cf op x y st2).bind fun k st => R.ok (D.bl k) st).bind fun d st => R.of (truthS st d) st) = cmpE T cf op x y st2
          cases cmpE T cf op x y st2 <;> rfl
        | er x st2 => rfl
        | no => rfl
      | er x st1 => rfl
      | no => rfl
    have o' : Out T nm X.K W g ρ σ (fun b _ _ H' => Q b H') (((bor a ρ st (evE T cf a ρ st)).bind fun x st => (bor b ρ st (evE T cf b ρ st)).bind fun y st => (cmpE T cf op x y st).bind fun k st => R.ok (D.bl k) st).bind fun d st => R.of (truthS st d) st) := o
    rw [e] at o'
    exact o'
  refine wpAny_isTrue_Compare1 (thn (look_go ha I m (Le.refl g) o1) fun u s1 ⟨v, H1, d, st1, g1, I1, rv, l1, m1, lk, q⟩ => ?_) (cop_mark e2 op hs)
  refine thn (look_go hb I1 m1 l1 q) fun w s2 ⟨y, H2, e, st2, g2, I2, rw2, l2, m2, lk2, q2⟩ => ?_
  refine thn (cmp_ok hi I2 m2 (lk.le l2) lk2 rv rw2 (l1.trans l2) q2) fun c s3 ⟨z, H3, I3, r3, k, ez, q3⟩ => ?_
  subst ez
  cases r3
  exact wpAny_truthy_bool ⟨H3, I3, q3⟩
theorem rep_lk {d : D} {v : V} {g : Gh} {ρ : Rho} {σ : L2.St} {g0 : Gh} (h : RepR T nm X.K g0 g d v) : LkR T nm X.K g ρ σ d v := LkR.of_rep h
/-- a comparison, then what is done with its answer -/
theorem cmp_go {op : CO} {pins : List (Addr × Obj)} {s : Shared} {σ : L2.St} {H : Hp} {g0 g : Gh} {ρ : Rho} {st : Sto} {d e : D} {x y : V} {u w : Value} {α : Type} {P : α → Sto → Gh → Hp → Prop} {kk : Bool → Sto → R α} (hi : InsCmp X T nm W cf)
    (I : Inv X pins σ H s) (m : Mt T nm X.K g ρ st σ H) (ld : LkR T nm X.K g ρ σ d x) (le : LkR T nm X.K g ρ σ e y) (rx : RelV x u) (ry : RelV y w) (l0 : Le g0 g)
    (o : Out T nm X.K W g0 ρ σ P ((cmpE T cf op d e st).bind kk)) : wpAny (model X.prog X.w) X.A (compareOp (copOf op) u w) (fun c s' => ∃ b H' st' g', Inv X pins σ H' s' ∧ c = .bool b ∧ Le g g' ∧ Mt T nm X.K g' ρ st' σ H' ∧ Out T nm X.K W g0 ρ σ P (kk b st')) X.xe s :=
  thn (cmp_ok (g0 := g) (Q := fun b H' => ∃ st' g', Le g g' ∧ Mt T nm X.K g' ρ st' σ H' ∧ Out T nm X.K W g0 ρ σ P (kk b st')) hi I m ld le rx ry (Le.refl g) (Out.imp ((Out.bind0 o).le l0) fun b st' g' H' l m' q => ⟨st', g', l, m', q⟩)) fun c s' ⟨z, H', I', r, b, ez, st', g', l, m', q⟩ => by
    subst ez
    exact ⟨b, H', st', g', I', r, l, m', q⟩
theorem chain_marks (b c : Expr) (op op' : CO) (hc : ∀ es k p, c ≠ .Set es k p) : lastMarks [copOf op, copOf op'] [b, c] = false := cop_mark c op' hc
theorem se_chain {op op' : CO} {e1 e2 e3 : Expr} {a b c : E} (hi : InsCmp X T nm W cf) (ha : PE X e1 (tE T nm X.K cf W a)) (hb : PE X e2 (tE T nm X.K cf W b)) (hc : PE X e3 (tE T nm X.K cf W c)) (hs : ∀ es k p, e3 ≠ .Set es k p) : PE X (.Compare e1 [copOf op, copOf op'] [e2, e3] pos) (tE T nm X.K cf W (.chain op op' a b c)) := by
  refine ⟨fun pins s σ H Q I ⟨g, ρ, st, m, o⟩ => ?_⟩
  refine Compare_chain (thn (val_go ha I m (Le.refl g) o) fun u s1 ⟨v, H1, d, st1, g1, I1, rv, l1, m1, rr, q⟩ => chain_link ?_) (chain_marks e2 e3 op op' hs)
  refine thn (val_go hb I1 m1 l1 q) fun w s2 ⟨y, H2, e, st2, g2, I2, rw2, l2, m2, rr2, q2⟩ => ?_
  refine thn (cmp_go hi I2 m2 ((rep_lk rr).le l2) (rep_lk rr2) rv rw2 (l1.trans l2) q2) fun cc s3 ⟨k, H3, st3, g3, I3, ek, l3, m3, q3⟩ => ?_
  subst ek
  refine wpAny_truthy_bool ?_
  have l03 := (l1.trans l2).trans l3
  cases k with
  | false => exact ite_ff ⟨.bl false, H3, I3, rfl, flat_out q3 l03 m3 (.bl _)⟩
  | true =>
    refine ite_tt (chain_last (thn (val_go hc I3 m3 l03 q3) fun z s4 ⟨v4, H4, d4, st4, g4, I4, rv4, l4, m4, rr4, q4⟩ => ?_))
    refine thn (cmp_go hi I4 m4 (((rep_lk rr2).le l3).le l4) (rep_lk rr4) rw2 rv4 (l03.trans l4) q4) fun c5 s5 ⟨b5, H5, st5, g5, I5, e5, l5, m5, q5⟩ => ?_
    subst e5
    exact ⟨.bl b5, H5, I5, rfl, flat_out q5 ((l03.trans l4).trans l5) m5 (.bl _)⟩
theorem st_chain {op op' : CO} {e1 e2 e3 : Expr} {a b c : E} (hi : InsCmp X T nm W cf) (ha : PE X e1 (tE T nm X.K cf W a)) (hb : PE X e2 (tE T nm X.K cf W b)) (hc : PE X e3 (tE T nm X.K cf W c)) (hs : ∀ es k p, e3 ≠ .Set es k p) : PT X (.Compare e1 [copOf op, copOf op'] [e2, e3] pos) (tT T nm X.K cf W (.e (.chain op op' a b c))) := by
  refine ⟨fun pins s σ H Q I ⟨g, ρ, st, m, o⟩ => ?_⟩
  have o1 : Out T nm X.K W g ρ σ (fun b _ _ H' => Q b H') ((evE T cf a ρ st).bind fun x st => (evE T cf b ρ st).bind fun y st => (cmpE T cf op x y st).bind fun k st => if k then (evE T cf c ρ st).bind fun z st => cmpE T cf op' y z st else .ok false st) := by
    have e : ∀ r : R D, (((r.bind fun x st => (evE T cf b ρ st).bind fun y st => (cmpE T cf op x y st).bind fun k st => if k then (evE T cf c ρ st).bind fun z st => (cmpE T cf op' y z st).bind fun b st => .ok (.bl b) st else .ok (.bl false) st)).bind fun d st => R.of (truthS st d) st) = r.bind fun x st => (evE T cf b ρ st).bind fun y st => (cmpE T cf op x y st).bind fun k st => if k then (evE T cf c ρ st).bind fun z st => cmpE T cf op' y z st else .ok false st := fun r => by
      cases r with
      | ok x st1 =>
        show (((evE T cf b ρ st1).bind fun y st => (cmpE T cf op x y st).bind fun k st => if k then (evE T cf c ρ st).bind fun z st => (cmpE T cf op' y z st).bind fun b st => R.ok (D.bl b) st else R.ok (D.bl false) st).bind fun d st => R.of (truthS st d) st) = (evE T cf b ρ st1).bind fun y st => (cmpE T cf op x y st).bind fun k st => if k then (evE T cf c ρ st).bind fun z st => cmpE T cf op' y z st else R.ok false st
        cases evE T cf b ρ st1 with
        | ok y st2 =>
          show (((cmpE T cf op x y st2).bind fun k st => if k then (evE T cf c ρ st).bind fun z st => (cmpE T cf op' y z st).bind fun b st => R.ok (D.bl b) st else R.ok (D.bl false) st).bind fun d st => R.of (truthS st d) st) = (cmpE T cf op x y st2).bind fun k st => if k then (evE T cf c ρ st).bind fun z st => cmpE T cf op' y z st else R.ok false st
          cases cmpE T cf op x y st2 with
          | ok k st3 =>
            cases k with
            | false => rfl
            | true =>
              show (((evE T cf c ρ st3).bind fun z st => (cmpE T cf op' y z st).bind fun b st => R.ok (D.bl b) st).bind fun d st => R.of (truthS st d) st) = (evE T cf c ρ st3).bind fun z st => cmpE T cf op' y z st
              cases evE T cf c ρ st3 with
              | ok z st4 =>
                show (((cmpE T cf op' y z st4).bind fun b st => R.ok (D.bl b) st).bind fun d st => R.of (truthS st d) st) = cmpE T cf op' y z st4
                cases cmpE T cf op' y z st4 <;> rfl
              | er x st => rfl
              | no => rfl
          | er x st => rfl
          | no => rfl
        | er x st2 => rfl
        | no => rfl
      | er x st1 => rfl
      | no => rfl
    have o' : Out T nm X.K W g ρ σ (fun b _ _ H' => Q b H') (((evE T cf a ρ st).bind fun x st => (evE T cf b ρ st).bind fun y st => (cmpE T cf op x y st).bind fun k st => if k then (evE T cf c ρ st).bind fun z st => (cmpE T cf op' y z st).bind fun b st => .ok (.bl b) st else .ok (.bl false) st).bind fun d st => R.of (truthS st d) st) := o
    rw [e] at o'
    exact o'
  refine isTrue_chain (thn (val_go ha I m (Le.refl g) o1) fun u s1 ⟨v, H1, d, st1, g1, I1, rv, l1, m1, rr, q⟩ => test_link ?_) (chain_marks e2 e3 op op' hs)
  refine thn (val_go hb I1 m1 l1 q) fun w s2 ⟨y, H2, e, st2, g2, I2, rw2, l2, m2, rr2, q2⟩ => ?_
  refine thn (cmp_go hi I2 m2 ((rep_lk rr).le l2) (rep_lk rr2) rv rw2 (l1.trans l2) q2) fun cc s3 ⟨k, H3, st3, g3, I3, ek, l3, m3, q3⟩ => ?_
  subst ek
  refine wpAny_truthy_bool ?_
  have l03 := (l1.trans l2).trans l3
  cases k with
  | false => exact ite_ff ⟨H3, I3, (Out.le q3 l03).ok m3⟩
  | true =>
    refine ite_tt (test_last (thn (val_go hc I3 m3 l03 q3) fun z s4 ⟨v4, H4, d4, st4, g4, I4, rv4, l4, m4, rr4, q4⟩ => ?_))
    refine thn (cmp_ok hi I4 m4 (((rep_lk rr2).le l3).le l4) (rep_lk rr4) rw2 rv4 (l03.trans l4) q4) fun c5 s5 ⟨z5, H5, I5, r5, b5, e5, q5⟩ => ?_
    subst e5
    cases r5
    exact wpAny_truthy_bool ⟨H5, I5, q5⟩
/-! ### isinstance -/
/-- the type of a kind -/
def kdV (nm : Nm) (K : PySem.W.Frag) : Kd → Value
  | .int => .type "int" | .bool => .type "bool" | .str => .type "str" | .non => .type "NoneType" | .tuple => .type "tuple" | .list => .type "list" | .dict => .type "dict"
  | .ins c => .ref (cad nm K c) | .exc c => .ref (cad nm K c)
def tyV (nm : Nm) (K : PySem.W.Frag) : TY → Value
  | .int => .type "int" | .bool => .type "bool" | .str => .type "str" | .tuple => .type "tuple" | .list => .type "list" | .dict => .type "dict" | .verr => .type "ValueError"
  | .cls c => .ref (cad nm K c)
def tyW (nm : Nm) (K : PySem.W.Frag) : TY → V
  | .int => .ty "int" | .bool => .ty "bool" | .str => .ty "str" | .tuple => .ty "tuple" | .list => .ty "list" | .dict => .ty "dict" | .verr => .ty "ValueError"
  | .cls c => .ref (cad nm K c)
theorem tyW_cls (nm : Nm) (K : PySem.W.Frag) (t : TY) : ClsV (tyW nm K t) (tyV nm K t) := by
  cases t <;> first | exact .ty _ | exact .own _
/-- isinstance's answers are the text's -/
def Kit (X : Core) (T : Tab) (nm : Nm) : Prop := ∀ k t b, T.isi.contains t = true → kdIs T k t = some b → PySem.W.kitOne X.K (kdV nm X.K k) (tyV nm X.K t) = some b
theorem kd_ty {d : D} {kd : Kd} {v : V} {g : Gh} {ρ : Rho} {σ : L2.St} {H : Hp} {st : Sto} (hcl : ∀ c C, T.cls c = some C → C.exc = false → ClI (co X) T nm cf k c C) (h : LkR T nm X.K g ρ σ d v) (m : Mt T nm X.K g ρ st σ H) (e : kdOf d = some kd)
    (hc : ∀ c, kd = .ins c → ∃ C, T.cls c = some C ∧ C.exc = false) (hx : ∀ c, kd ≠ .exc c) : TyX X.K H v (kdV nm X.K kd) := by
  cases d with
  | int i => cases e; rw [h.int m]; exact .base (.int _)
  | bl i => cases e; rw [h.bl m]; exact .base (.bl _)
  | str i => cases e; rw [h.str m]; exact .base (.str _)
  | non => cases e; rw [h.non m]; exact .base .non
  | own ds =>
    cases e
    obtain ⟨p, vs, ev, hp, r⟩ := h.own m
    rw [ev]
    exact .base (.lst hp)
  | lst ds =>
    cases e
    cases h.rep m rfl with
    | lst s r => exact .base (.lst (m.imm _ _ s))
  | tup ds =>
    cases e
    cases h.rep m rfl with
    | tup s r =>
      rcases same_seqT (fun a o e => m.imm a o (of_imH e)) s with (s | ⟨o, s⟩) | ⟨o, its, n, s, s2, _⟩
      · exact .base (.tup s)
      · exact .fTuple s
      · exact .kTuple s s2
  | ins c ds =>
    cases e
    obtain ⟨C, hC, ne⟩ := hc c rfl
    have cI := hcl c C hC ne
    cases h.rep m rfl with
    | ins e1 e2 r => exact .base (.ins (m.imm _ _ e1) cI.cl cI.ta cI.tn cI.tt cI.tm)
  | exc c ds =>
    cases e
    exact absurd rfl (hx c)
  | _ => cases e
theorem kd_tyS {d : D} {kd : Kd} {v : V} {g : Gh} {ρ : Rho} {σ : L2.St} {H : Hp} {st : Sto} (hcl : ∀ c C, T.cls c = some C → C.exc = false → ClI (co X) T nm cf k c C) (h : LkR T nm X.K g ρ σ d v) (m : Mt T nm X.K g ρ st σ H) (e : kdS st d = some kd)
    (hc : ∀ c, kd = .ins c → ∃ C, T.cls c = some C ∧ C.exc = false) (hx : ∀ c, kd ≠ .exc c) : TyX X.K H v (kdV nm X.K kd) := by
  cases d with
  | ref r =>
    cases h1 : st[r]? with
    | none => simp only [kdS, h1] at e; cases e
    | some ob =>
      cases ob with
      | lst ds =>
        simp only [kdS, h1] at e
        cases e
        obtain ⟨p, vs, ex, _, hp, _⟩ := sto_lst h m h1
        rw [ex]
        exact .base (.lst hp)
      | dct kvs =>
        simp only [kdS, h1] at e
        cases e
        obtain ⟨p, kws, ex, _, hp, _⟩ := sto_dct h m h1
        rw [ex]
        exact .base (.dK hp)
      | ins c es => simp only [kdS, h1] at e; cases e
  | _ => exact kd_ty hcl h m e hc hx
theorem isInst_k {kd : Kd} {t : TY} {b : Bool} (h0 : isInst T kd t = some b) : (T.isi.contains t = true ∧ kdIs T kd t = some b) ∧ ∀ c, kd = .ins c → ∃ C, T.cls c = some C ∧ C.exc = false := by
  unfold isInst at h0
  by_cases hin : T.isi.contains t = true
  rotate_left
  · rw [if_neg hin] at h0
    cases h0
  rw [if_pos hin] at h0
  refine ⟨⟨hin, h0⟩, fun c e => ?_⟩
  subst e
  cases hC : T.cls c with
  | none =>
    cases t <;> simp only [kdIs, hC] at h0 <;> first | (cases h0; done) | (split at h0 <;> cases h0)
  | some C =>
    cases hx : C.exc with
    | false => exact ⟨C, rfl, hx⟩
    | true => cases t <;> simp only [kdIs, hC, hx, if_true] at h0 <;> first | (cases h0; done) | (split at h0 <;> cases h0)
theorem kdOf_exc {d : D} {c : Nat} {v : V} {g : Gh} {ρ : Rho} {σ : L2.St} {H : Hp} {st : Sto} (hex : ExI X T nm) (h : LkR T nm X.K g ρ σ d v) (m : Mt T nm X.K g ρ st σ H) : kdS st d ≠ some (.exc c) := fun e => by
  cases d with
  | exc c ds =>
    rcases h with ⟨i, h1, h2⟩ | h
    · obtain ⟨w, e, a', cv, dd, h3, _⟩ := m.slots i _ h1
      rw [hex] at h3
      cases h3
    · cases h
  | ref r =>
    cases h1 : st[r]? with
    | none => simp only [kdS, h1] at e; cases e
    | some ob => cases ob <;> (simp only [kdS, h1] at e; cases e)
  | _ => cases e
/-- isinstance(x, T) -/
theorem se_isi1 {p : Pos} {e1 e2 : Expr} {a : E} {t : TY} (hcl : ∀ c C, T.cls c = some C → C.exc = false → ClI (co X) T nm cf k c C) (hex : ExI X T nm) (hk : Kit (co X) T nm) (hg : Gl X "isinstance") (hm : X.mg "isinstance" = none) (ha : PE X e1 (tB T nm X.K cf W a)) (ht : PE X e2 (tC (tyW nm X.K t)))
    (h1 : starEach [e1, e2] X.env = (false, eval e1 X.env) :: starEach [e2] X.env) (h2 : starEach [e2] X.env = (false, eval e2 X.env) :: starEach [] X.env) : PE X (.Call (.Name "isinstance" p) [e1, e2] [] pos) (tE T nm X.K cf W (.isi a [t])) :=
  PE.imp (pe_callB call_isi hg hm (by decide +kernel) (pa_cons ha (pa_cons ht pa_nil h2) h1) (by decide) (by decide) h1 (by rw [h2]; rfl)) fun σ H Q ⟨g, ρ, st, m, o⟩ => ⟨g, ρ, st, m, Out.imp (Out.bind o) fun d st1 g1 H1 l1 m1 o1 v lk => by
    obtain ⟨r, e, q⟩ := Out.of o1 m1
    cases hkd : kdS st1 d with
    | none => rw [hkd] at e; cases e
    | some kd =>
      rw [hkd] at e
      cases h : isInst T kd t with
      | none => simp [isAny, h] at e
      | some b =>
        have e' : r = .bl b := by
          simp only [Option.bind_some, isAny, h] at e
          cases b <;> simp at e <;> exact e.symm
        subst e'
        obtain ⟨k2, k3⟩ := isInst_k h
        exact ⟨v, _, _, _, b, rfl, tyW_cls nm X.K t, kd_tyS hcl lk m1 hkd k3 (fun c z => kdOf_exc hex lk m1 (z ▸ hkd)), hk kd t b k2.1 k2.2, q _ (.bl b)⟩⟩
/-- isinstance(x, (T1, T2)) -/
theorem se_isi2 {p pt : Pos} {e1 e2 e3 : Expr} {a : E} {t u : TY} {kk} (hcl : ∀ c C, T.cls c = some C → C.exc = false → ClI (co X) T nm cf k c C) (hex : ExI X T nm) (hk : Kit (co X) T nm) (hg : Gl X "isinstance") (hm : X.mg "isinstance" = none) (ha : PE X e1 (tB T nm X.K cf W a)) (ht : PE X e2 (tC (tyW nm X.K t))) (hu : PE X e3 (tC (tyW nm X.K u)))
    (h1 : starEach [e1, .Tuple [e2, e3] kk pt] X.env = (false, eval e1 X.env) :: starEach [.Tuple [e2, e3] kk pt] X.env) (h2 : starEach [e2, e3] X.env = (false, eval e2 X.env) :: starEach [e3] X.env) (h3 : starEach [e3] X.env = (false, eval e3 X.env) :: starEach [] X.env) :
    PE X (.Call (.Name "isinstance" p) [e1, .Tuple [e2, e3] kk pt] [] pos) (tE T nm X.K cf W (.isi a [t, u])) :=
  PE.imp (pe_callB call_isiT hg hm (by decide +kernel) (pa_cons ha (pa_cons (pe_tup (pa_cons ht (pa_cons hu pa_nil h3) h2)) pa_nil rfl) h1) (by decide) (by decide) h1 rfl) fun σ H Q ⟨g, ρ, st, m, o⟩ => ⟨g, ρ, st, m, Out.imp (Out.bind o) fun d st1 g1 H1 l1 m1 o1 v lk => by
    refine ⟨by show 2 ≤ sizeLine; decide, fun tp htp => ?_⟩
    have l2 : Le g1 (put g1 tp (.imm (.tup [tyW nm X.K t, tyW nm X.K u]))) := le_put (m1.fresh htp)
    have m2 := m1.new (o := .tup [tyW nm X.K t, tyW nm X.K u]) htp (.inl rfl)
    obtain ⟨r, e, q⟩ := Out.of (o1.le l2) m2
    cases hkd : kdS st1 d with
    | none => rw [hkd] at e; cases e
    | some kd =>
      rw [hkd] at e
      cases h : isInst T kd t with
      | none => simp [isAny, h] at e
      | some b =>
        obtain ⟨k2, k3⟩ := isInst_k h
        have ty := kd_tyS hcl (lk.le l2) m2 hkd k3 (fun c z => kdOf_exc hex lk m1 (z ▸ hkd))
        have pr : Paired ClsV [tyW nm X.K t, tyW nm X.K u] [tyV nm X.K t, tyV nm X.K u] := .cons (tyW_cls nm X.K t) (.cons (tyW_cls nm X.K u) .nil)
        cases b with
        | true =>
          have e' : r = .bl true := by
            simp only [Option.bind_some, isAny, h] at e
            simpa using e.symm
          subst e'
          exact ⟨v, tp, _, _, _, true, rfl, upd_same, pr, ty, kitAny_cons (hk kd t true k2.1 k2.2) (fun z => nomatch z) (fun _ => rfl), q _ (.bl true)⟩
        | false =>
          cases h' : isInst T kd u with
          | none => simp [isAny, h, h'] at e
          | some b' =>
            obtain ⟨k2', k3'⟩ := isInst_k h'
            have e' : r = .bl b' := by
              simp only [Option.bind_some, isAny, h, h'] at e
              cases b' <;> simp at e <;> exact e.symm
            subst e'
            exact ⟨v, tp, _, _, _, b', rfl, upd_same, pr, ty, kitAny_cons (hk kd t false k2.1 k2.2) (fun _ => kitAny_cons (hk kd u b' k2'.1 k2'.2) (fun z => by rw [z]; exact kitAny_nil) (fun z => by rw [z])) (fun z => nomatch z), q _ (.bl b')⟩⟩
/-! ### items, slices -/
theorem ixN_eq (n : Nat) (i : Int) : Ev.ixN n i = L2.ixN n i := rfl
theorem atI_rep {g : Gh} {ds : List D} {vs : List V} {i : Int} {d : D} (r : Reps T nm X.K g ds vs) (h : Ev.atI ds i = some d) : ∃ v, L2.atI vs i = some v ∧ Rep T nm X.K g d v := by
  unfold Ev.atI at h
  unfold L2.atI
  rw [← r.len]
  cases q : Ev.ixN ds.length i with
  | none => rw [q] at h; cases h
  | some j =>
    rw [q] at h
    obtain ⟨v, e, rv⟩ := r.at (show ds[j]? = some d from h)
    rw [← ixN_eq, q]
    exact ⟨v, e, rv⟩
theorem atI_map {α β : Type} (f : α → β) (xs : List α) (i : Int) : L2.atI (xs.map f) i = (Ev.atI xs i).map f := by
  unfold L2.atI Ev.atI
  rw [List.length_map, ← ixN_eq]
  cases Ev.ixN xs.length i with
  | none => rfl
  | some j =>
    show (xs.map f)[j]? = _
    rw [List.getElem?_map]
    rfl
theorem atI_nats (s : List Nat) (i : Int) : L2.atI s i = Ev.atI s i := rfl
/-- what instances do with [..] -/
def InsIx (X : Cx) (T : Tab) (nm : Nm) (W : WX) (cf : Nat → List D → Sto → R D) : Prop :=
  X.A.units + 1 < cLine ∧ ∀ (value slice : Expr) (pins : List (Addr × Obj)) (s : Shared) (σ : L2.St) (H : Hp) (g0 g : Gh) (ρ : Rho) (st : Sto) (c : Nat) (ds : List D) (e : D) (x y : V) (u w : Value) (Q : VK), (∀ l h p, slice ≠ .Slice l h none p) →
    Inv X pins σ H s → Mt T nm X.K g ρ st σ H → LkR T nm X.K g ρ σ (.ins c ds) x → Rep T nm X.K g e y → RelV x u → RelV y w → Le g0 g →
    Out T nm X.K W g0 ρ σ (fun d _ g' H' => ∀ v, RepR T nm X.K g0 g' d v → Q v H') (ixE T cf (.ins c ds) e st) → wpAny (model X.prog X.w) X.A (subscriptTail value slice u w) (EP X pins σ Q) X.xe s
/-- d[k] -/
theorem ix_dct {value slice : Expr} {pins : List (Addr × Obj)} {s : Shared} {σ : L2.St} {H : Hp} {a : Addr} {y v : V} {w : Value} {Q : VK} (hu : X.A.units + 1 < cLine) (I : Inv X pins σ H s) (hd : DGet H a y (some v)) (ry : RelV y w) (hs : subscripted slice false (.ref a) w = operate [.ref a, w] (getItem (.ref a) w)) (q : Q v H) :
    wpAny (model X.prog X.w) X.A (subscriptTail value slice (.ref a) w) (EP X pins σ Q) X.xe s := by
  have hT := dict_typeIs I hd
  unfold subscriptTail
  refine wpAny_bind ?_
  rw [getitemInPython_of_ne hT.not_modules]
  refine wpAny_bind (wpAny_specialOf hT PySem.F.slot_dict_getitem.lookup ?_)
  have h2 : wpAny (model X.prog X.w) X.A (getItem (.ref a) w) (EP X pins σ Q) X.xe s := d_getItem hu I hd ry fun w' s3 I3 rw' => ⟨v, H, I3, rw', q⟩
  have fin : wpAny (model X.prog X.w) X.A (subscripted slice false (.ref a) w) (fun r s₃ => wpAny (model X.prog X.w) X.A (letTemporaryGo value (.ref a) r >>= fun _ => pure r) (EP X pins σ Q) X.xe s₃) X.xe s := by
    rw [hs]
    exact wpAny_operating (wpAny_mono h2 (fun r s₃ h₃ => wpAny_bind (wpAny_letTemporaryGo (wpAny_pure h₃))) fun _ _ x => x)
  first
    | exact wpAny_pure (wpAny_bind fin)
    | exact wpAny_bind (wpAny_pure (wpAny_bind fin))
    | exact wpAny_bind fin
theorem ix_sto {value slice : Expr} {pins : List (Addr × Obj)} {s : Shared} {σ : L2.St} {H : Hp} {g0 g g1 : Gh} {ρ : Rho} {st : Sto} {r : Nat} {e : D} {x y : V} {u w : Value} {Q : VK} (hu : X.A.units + 1 < cLine)
    (I : Inv X pins σ H s) (m : Mt T nm X.K g ρ st σ H) (ld : LkR T nm X.K g ρ σ (.ref r) x) (le : RepR T nm X.K g1 g e y) (rx : RelV x u) (ry : RelV y w) (l0 : Le g0 g) (hs : subscripted slice false u w = operate [u, w] (getItem u w))
    (o : Out T nm X.K W g0 ρ σ (fun d _ g' H' => ∀ v, RepR T nm X.K g0 g' d v → Q v H') (match st[r]? with
      | some (.lst ds) => (match e with
        | .int k => R.of (Ev.atI ds k) st
        | _ => .no)
      | some (.dct kvs) => if isKey e then R.of (dGet kvs e) st else .no
      | _ => .no)) : wpAny (model X.prog X.w) X.A (subscriptTail value slice u w) (EP X pins σ Q) X.xe s := by
  cases h1 : st[r]? with
  | none => simp only [h1] at o; exact o.elim
  | some ob =>
    cases ob with
    | lst ds =>
      simp only [h1] at o
      cases e with
      | int i =>
        have ey : y = .int i := by cases le; rfl
        obtain ⟨d, h, q⟩ := Out.of (o.le l0) m
        obtain ⟨p, vs, ex, gp, hp, rr⟩ := sto_lst ld m h1
        obtain ⟨v, e2, rv⟩ := atI_rep rr h
        exact ix_list value slice pins s σ H _ y u w Q I rx ry ⟨_, _, i, v, ex, ey, .of hp, e2, q v (RepR.plain rv rv.plain)⟩ hs
      | _ => exact o.elim
    | dct kvs =>
      simp only [h1] at o
      by_cases hk : isKey e = true
      · rw [if_pos hk] at o
        obtain ⟨d, h, q⟩ := Out.of (o.le l0) m
        obtain ⟨p, kws, ex, gp, hp, rr⟩ := sto_dct ld m h1
        have lk : LkR T nm X.K g ρ σ e y := .of_rep le
        obtain ⟨kk, k1, k2⟩ := key_is hk lk m
        have gg := kv_get k1 rr
        rw [h] at gg
        obtain ⟨v, g2, rv⟩ := gg
        subst ex
        obtain rfl : u = Value.ref p := rx
        have hd : DGet H p y (some v) := by rw [k2, ← g2]; exact DGet.k hp
        exact ix_dct hu I hd ry hs (q v (RepR.plain rv rv.plain))
      · rw [if_neg hk] at o
        exact o.elim
    | ins c es => simp only [h1] at o; exact o.elim
theorem ix_ok {value slice : Expr} {pins : List (Addr × Obj)} {s : Shared} {σ : L2.St} {H : Hp} {g0 g g1 : Gh} {ρ : Rho} {st : Sto} {d e : D} {x y : V} {u w : Value} {Q : VK} (hi : InsIx X T nm W cf) (hsl : ∀ l h p, slice ≠ .Slice l h none p)
    (I : Inv X pins σ H s) (m : Mt T nm X.K g ρ st σ H) (ld : LkR T nm X.K g ρ σ d x) (le : RepR T nm X.K g1 g e y) (rx : RelV x u) (ry : RelV y w) (l0 : Le g0 g) (hs : subscripted slice false u w = operate [u, w] (getItem u w))
    (o : Out T nm X.K W g0 ρ σ (fun d _ g' H' => ∀ v, RepR T nm X.K g0 g' d v → Q v H') (ixE T cf d e st)) : wpAny (model X.prog X.w) X.A (subscriptTail value slice u w) (EP X pins σ Q) X.xe s := by
  cases e with
  | int i =>
    have ey : y = .int i := by cases le; rfl
    cases d with
    | tup ds =>
      obtain ⟨d, h, q⟩ := Out.of (o.le l0) m
      cases ld.rep m rfl with
      | tup sq r =>
        obtain ⟨v, e2, rv⟩ := atI_rep r h
        exact ix_tup value slice pins s σ H _ y u w Q I rx ry ⟨_, _, i, v, rfl, ey, same_seqT (fun a o e => m.imm a o (of_imH e)) sq, e2, q v (RepR.plain rv rv.plain)⟩ hs
    | lst ds =>
      obtain ⟨d, h, q⟩ := Out.of (o.le l0) m
      cases ld.rep m rfl with
      | lst sq r =>
        obtain ⟨v, e2, rv⟩ := atI_rep r h
        exact ix_list value slice pins s σ H _ y u w Q I rx ry ⟨_, _, i, v, rfl, ey, .of (m.imm _ _ sq), e2, q v (RepR.plain rv rv.plain)⟩ hs
    | own ds =>
      obtain ⟨d, h, q⟩ := Out.of (o.le l0) m
      obtain ⟨p, vs, ex, hp, r⟩ := ld.own m
      obtain ⟨v, e2, rv⟩ := atI_rep r h
      exact ix_list value slice pins s σ H _ y u w Q I rx ry ⟨_, _, i, v, ex, ey, .of hp, e2, q v (RepR.plain rv rv.plain)⟩ hs
    | scr ns =>
      obtain ⟨d, h, q⟩ := Out.of (o.le l0) m
      cases ld.rep m rfl with
      | scr sq =>
        cases h' : Ev.atI ns i with
        | none => rw [h'] at h; cases h
        | some n =>
          rw [h'] at h
          cases h
          exact ix_list value slice pins s σ H _ y u w Q I rx ry ⟨_, _, i, .int n, rfl, ey, Same.seq (fun a o e => m.imm a o (of_imH e)) sq, by rw [atI_map, h']; rfl, q _ (.int n)⟩ hs
    | str z =>
      have o' : Out T nm X.K W g0 ρ σ (fun d _ g' H' => ∀ v, RepR T nm X.K g0 g' d v → Q v H') (if z.length ≤ LINE then R.of ((Ev.atI z i).map fun c => D.str [c]) st else .no) := o
      by_cases hl : z.length ≤ LINE
      · rw [if_pos hl] at o'
        obtain ⟨d, h, q⟩ := Out.of (o'.le l0) m
        cases h' : Ev.atI z i with
        | none => rw [h'] at h; cases h
        | some c =>
          rw [h'] at h
          cases h
          exact ix_str value slice pins s σ H _ y u w Q I rx ry ⟨_, i, c, ld.str m, ey, by rw [strOf_len]; exact line_le hl, by rw [strOf_cps, atI_nats, h'], q _ (.str [c])⟩ hs
      · rw [if_neg hl] at o'
        exact o'.elim
    | ref r => exact ix_sto hi.1 I m ld le rx ry l0 hs o
    | ins c ds =>
      cases le with
      | int i => exact hi.2 value slice pins s σ H g0 g ρ st c ds _ x _ u w Q hsl I m ld (.int i) rx ry l0 o
    | _ => exact o.elim
  | own es =>
    cases d with
    | ref r => exact ix_sto hi.1 I m ld le rx ry l0 hs o
    | _ => exact o.elim
  | _ =>
    cases d with
    | ins c ds => exact hi.2 value slice pins s σ H g0 g ρ st c ds _ x _ u w Q hsl I m ld le rx ry l0 o
    | ref r => exact ix_sto hi.1 I m ld le rx ry l0 hs o
    | _ => exact o.elim
theorem se_ix {e1 e2 : Expr} {a b : E} (hi : InsIx X T nm W cf) (ha : PE X e1 (tB T nm X.K cf W a)) (hb : PE X e2 (tE T nm X.K cf W b)) (hs : ∀ l h p, e2 ≠ .Slice l h none p) : PE X (.Subscript e1 e2 pos) (tE T nm X.K cf W (.ix a b)) := by
  refine ⟨fun pins s σ H Q I ⟨g, ρ, st, m, o⟩ => ?_⟩
  refine Subscript_ (thn (look_go ha I m (Le.refl g) o) fun u s1 ⟨v, H1, d, st1, g1, I1, rv, l1, m1, lk, q⟩ => ?_)
  refine thn (val_go hb I1 m1 l1 q) fun w s2 ⟨y, H2, e, st2, g2, I2, rw2, l2, m2, rr, q2⟩ => ?_
  exact ix_ok hi hs I2 m2 (lk.le l2) rr rv rw2 (l1.trans l2) (by cases e2 <;> first | rfl | (rename_i l h z p; cases z <;> first | rfl | exact absurd rfl (hs _ _ _))) q2
/-! ### built-in functions -/
theorem bi_no {b : BI} {ds : List D} {st : Sto} (h : ds.length ≠ 1) (hb : b = .len ∨ b = .int ∨ b = .list ∨ b = .tuple ∨ b = .sum ∨ b = .sorted ∨ b = .abs ∨ b = .str ∨ b = .min1 ∨ b = .max1) : biE T cf b ds st = .no := by
  match ds, h with
  | [], _ => rcases hb with rfl | rfl | rfl | rfl | rfl | rfl | rfl | rfl | rfl | rfl <;> rfl
  | [_], h => exact absurd rfl h
  | d :: e :: r, _ => rcases hb with rfl | rfl | rfl | rfl | rfl | rfl | rfl | rfl | rfl | rfl <;> (cases d <;> rfl)
/-- what instances do with len -/
def InsLen (X : Cx) (T : Tab) (nm : Nm) (W : WX) (cf : Nat → List D → Sto → R D) : Prop :=
  ∀ (pins : List (Addr × Obj)) (s : Shared) (σ : L2.St) (H : Hp) (g0 g : Gh) (ρ : Rho) (st : Sto) (c : Nat) (ds : List D) (x : V) (u : Value) (Q : VK),
    Inv X pins σ H s → Mt T nm X.K g ρ st σ H → LkR T nm X.K g ρ σ (.ins c ds) x → RelV x u → Le g0 g →
    Out T nm X.K W g0 ρ σ (fun d _ g' H' => ∀ v, RepR T nm X.K g0 g' d v → Q v H') (biE T cf .len [.ins c ds] st) → wpAny (model X.prog X.w) X.A (call (.builtin "len") [u]) (EP X pins σ Q) X.xe s
theorem bi_len {pins : List (Addr × Obj)} {s : Shared} {σ : L2.St} {H : Hp} {g0 g : Gh} {ρ : Rho} {st : Sto} {ds : List D} {vs : List V} {us : List Value} {Q : VK} (hi : InsLen X T nm W cf) (I : Inv X pins σ H s) (m : Mt T nm X.K g ρ st σ H) (l : LkRs T nm X.K g ρ σ ds vs) (rv : Vals vs us) (l0 : Le g0 g)
    (o : Out T nm X.K W g0 ρ σ (fun d _ g' H' => ∀ v, RepR T nm X.K g0 g' d v → Q v H') (biE T cf .len ds st)) : wpAny (model X.prog X.w) X.A (call (.builtin "len") us) (EP X pins σ Q) X.xe s := by
  match ds, vs, l with
  | [], [], _ => rw [bi_no (by decide) (.inl rfl)] at o; exact o.elim
  | _ :: _ :: _, _ :: _ :: _, _ => rw [bi_no (by simp) (.inl rfl)] at o; exact o.elim
  | [d], [v], ⟨lk, _⟩ =>
    have ru := rv
    match us, ru with
    | [u], .cons ru .nil =>
    cases d with
    | ins c es => exact hi pins s σ H g0 g ρ st c es v u Q I m lk ru l0 o
    | tup ds =>
      refine call_len pins s σ H _ _ Q I rv ⟨v, ?_⟩
      cases lk.rep m rfl with
      | tup sq r => exact ⟨_, rfl, .inr ⟨_, same_seqT (fun a o e => m.imm a o (of_imH e)) sq, rfl⟩, by rw [← r.len]; exact flat_out o l0 m (.int _)⟩
    | lst ds =>
      refine call_len pins s σ H _ _ Q I rv ⟨v, ?_⟩
      cases lk.rep m rfl with
      | lst sq r => exact ⟨_, rfl, .inl ⟨_, .of (m.imm _ _ sq), rfl⟩, by rw [← r.len]; exact flat_out o l0 m (.int _)⟩
    | own ds =>
      refine call_len pins s σ H _ _ Q I rv ⟨v, ?_⟩
      obtain ⟨p, vs, ex, hp, r⟩ := lk.own m
      subst ex
      exact ⟨_, rfl, .inl ⟨_, .of hp, rfl⟩, by rw [← r.len]; exact flat_out o l0 m (.int _)⟩
    | scr ns =>
      refine call_len pins s σ H _ _ Q I rv ⟨v, ?_⟩
      cases lk.rep m rfl with
      | scr sq =>
        refine ⟨_, rfl, .inl ⟨_, Same.seq (fun a o e => m.imm a o (of_imH e)) sq, rfl⟩, ?_⟩
        rw [List.length_map]
        exact flat_out o l0 m (.int _)
    | str z =>
      refine call_len pins s σ H _ _ Q I rv ⟨v, ?_⟩
      have o' : Out T nm X.K W g0 ρ σ (fun d _ g' H' => ∀ v, RepR T nm X.K g0 g' d v → Q v H') (R.of (if z.length ≤ LINE then some (.int z.length) else none) st) := o
      by_cases hl : z.length ≤ LINE
      · rw [if_pos hl] at o'
        refine ⟨_, rfl, ?_, flat_out o' l0 m (.int _)⟩
        rw [lk.str m]
        exact ⟨by rw [strOf_len]; exact line_le hl, by rw [strOf_len]⟩
      · rw [if_neg hl] at o'
        exact o'.elim
    | ref r =>
      cases h1 : st[r]? with
      | none =>
        simp only [biE, h1] at o
        exact o.elim
      | some ob =>
        cases ob with
        | lst ds =>
          simp only [biE, h1] at o
          obtain ⟨p, vs, ex, gp, hp, rr⟩ := sto_lst lk m h1
          subst ex
          refine call_len pins s σ H _ _ Q I rv ⟨.ref p, ?_⟩
          exact ⟨_, rfl, .inl ⟨_, .of hp, rfl⟩, by rw [← rr.len]; exact flat_out o l0 m (.int _)⟩
        | ins c ds =>
          simp only [biE, h1] at o
          exact o.elim
        | dct kvs =>
          simp only [biE, h1] at o
          obtain ⟨p, kws, ex, gp, hp, rr⟩ := sto_dct lk m h1
          subst ex
          cases (show u = Value.ref p from ru)
          have hl : ∀ {kvs : List (D × D)} {kws : List (Key × V)}, KvR T nm X.K g kvs kws → kws.length = kvs.length := fun {kvs kws} rr => by
            induction kvs generalizing kws with
            | nil => cases kws with
              | nil => rfl
              | cons _ _ => exact rr.elim
            | cons q qs ih => cases kws with
              | nil => exact rr.elim
              | cons t ts => simp only [List.length_cons]; rw [ih rr.2.2]
          exact d_len I (.inl hp) fun t s' I' => ⟨.int kws.length, H, I', ⟨t, rfl⟩, by rw [hl rr]; exact flat_out o l0 m (.int _)⟩
    | _ => exact o.elim
theorem bi_int {pins : List (Addr × Obj)} {s : Shared} {σ : L2.St} {H : Hp} {g0 g : Gh} {ρ : Rho} {st : Sto} {ds : List D} {vs : List V} {us : List Value} {Q : VK} (I : Inv X pins σ H s) (m : Mt T nm X.K g ρ st σ H) (l : LkRs T nm X.K g ρ σ ds vs) (rv : Vals vs us) (l0 : Le g0 g)
    (o : Out T nm X.K W g0 ρ σ (fun d _ g' H' => ∀ v, RepR T nm X.K g0 g' d v → Q v H') (biE T cf .int ds st)) : wpAny (model X.prog X.w) X.A (call (.type "int") us) (EP X pins σ Q) X.xe s := by
  match ds, vs, l with
  | [], [], _ => rw [bi_no (by decide) (.inr (.inl rfl))] at o; exact o.elim
  | _ :: _ :: _, _ :: _ :: _, _ => rw [bi_no (by simp) (.inr (.inl rfl))] at o; exact o.elim
  | [d], [v], ⟨lk, _⟩ =>
    refine call_int1 pins s σ H _ us Q I rv ?_
    cases d with
    | int i => exact .inl ⟨i, by rw [lk.int m], flat_out o l0 m (.int _)⟩
    | bl b => exact .inr ⟨b, by rw [lk.bl m], flat_out o l0 m (.int _)⟩
    | ref r =>
      cases h1 : st[r]? with
      | none => simp only [biE, h1] at o; exact o.elim
      | some ob => cases ob <;> (simp only [biE, h1] at o; exact o.elim)
    | _ => exact o.elim
/-- a row that is read -/
theorem seqS_ok {d : D} {ds : List D} {x : V} {g : Gh} {ρ : Rho} {σ : L2.St} {H : Hp} {st : Sto} (h : LkR T nm X.K g ρ σ d x) (m : Mt T nm X.K g ρ st σ H) (e : seqS st d = some ds) :
    ∃ p vs, x = .ref p ∧ (SqL X.K H p vs ∨ SqT X.K H p vs) ∧ Reps T nm X.K g ds vs := by
  cases d with
  | ref r =>
    obtain ⟨p, vs, a, b, c⟩ := lstS_ok h m (show lstS st (.ref r) = some ds from e)
    exact ⟨p, vs, a, .inl (.of b), c⟩
  | _ => exact seqOf_ok h m e
theorem biE_seq {b : BI} {d : D} {st : Sto} {f : List D → Option D} (hb : ∀ d, biD b [d] = (match seqOf d with
    | some ds => f ds
    | none => none)) (hn : b ≠ .len ∧ b ≠ .str ∧ b ≠ .abs) : biE T cf b [d] st = R.of (match seqS st d with
    | some ds => f ds
    | none => none) st := by
  have z : ∀ d, (∀ r, d ≠ .ref r) → biE T cf b [d] st = R.of (biD b [d]) st := fun d hd => by
    cases b <;> first | exact absurd rfl hn.1 | exact absurd rfl hn.2.1 | exact absurd rfl hn.2.2 | (cases d <;> first | rfl | exact absurd rfl (hd _))
  cases d with
  | ref r =>
    have e : biE T cf b [.ref r] st = (match st[r]? with
      | some (.lst ds) => R.of (biD b [.lst ds]) st
      | _ => .no) := by cases b <;> first | exact absurd rfl hn.1 | exact absurd rfl hn.2.1 | exact absurd rfl hn.2.2 | rfl
    rw [e]
    cases h1 : st[r]? with
    | none => simp only [seqS, h1]; rfl
    | some ob =>
      cases ob with
      | lst ds => simp only [seqS, h1]; rw [hb]; rfl
      | _ => simp only [seqS, h1]; rfl
  | _ => rw [z _ (by intro r q; cases q), hb]; rfl
theorem bi_list {pins : List (Addr × Obj)} {s : Shared} {σ : L2.St} {H : Hp} {g0 g : Gh} {ρ : Rho} {st : Sto} {ds : List D} {vs : List V} {us : List Value} {Q : VK} (I : Inv X pins σ H s) (m : Mt T nm X.K g ρ st σ H) (l : LkRs T nm X.K g ρ σ ds vs) (rv : Vals vs us) (l0 : Le g0 g)
    (o : Out T nm X.K W g0 ρ σ (fun d _ g' H' => ∀ v, RepR T nm X.K g0 g' d v → Q v H') (biE T cf .list ds st)) : wpAny (model X.prog X.w) X.A (call (.type "list") us) (EP X pins σ Q) X.xe s := by
  match ds, vs, l with
  | [], [], _ => rw [bi_no (by decide) (.inr (.inr (.inl rfl)))] at o; exact o.elim
  | _ :: _ :: _, _ :: _ :: _, _ => rw [bi_no (by simp) (.inr (.inr (.inl rfl)))] at o; exact o.elim
  | [d], [v], ⟨lk, _⟩ =>
    rw [biE_seq (f := fun ds => some (.own ds)) (fun d => by cases d <;> rfl) (by decide)] at o
    cases h : seqS st d with
    | none =>
      rw [h] at o
      exact o.elim
    | some es =>
      rw [h] at o
      obtain ⟨p, ws, ex, hs, r⟩ := seqS_ok lk m h
      subst ex
      exact call_list_of pins s σ H _ us Q I rv ⟨p, ws, rfl, hs, fun q hq => new_own l0 m r o hq⟩
theorem bi_tuple {pins : List (Addr × Obj)} {s : Shared} {σ : L2.St} {H : Hp} {g0 g : Gh} {ρ : Rho} {st : Sto} {ds : List D} {vs : List V} {us : List Value} {Q : VK} (I : Inv X pins σ H s) (m : Mt T nm X.K g ρ st σ H) (l : LkRs T nm X.K g ρ σ ds vs) (rv : Vals vs us) (l0 : Le g0 g)
    (o : Out T nm X.K W g0 ρ σ (fun d _ g' H' => ∀ v, RepR T nm X.K g0 g' d v → Q v H') (biE T cf .tuple ds st)) : wpAny (model X.prog X.w) X.A (call (.type "tuple") us) (EP X pins σ Q) X.xe s := by
  match ds, vs, l with
  | [], [], _ => rw [bi_no (by decide) (.inr (.inr (.inr (.inl rfl))))] at o; exact o.elim
  | _ :: _ :: _, _ :: _ :: _, _ => rw [bi_no (by simp) (.inr (.inr (.inr (.inl rfl))))] at o; exact o.elim
  | [d], [v], ⟨lk, _⟩ =>
    rw [biE_seq (f := fun ds => some (.tup ds)) (fun d => by cases d <;> rfl) (by decide)] at o
    have make : ∀ {es : List D} {ws : List V}, Reps T nm X.K g es ws → Out T nm X.K W g0 ρ σ (fun d _ g' H' => ∀ v, RepR T nm X.K g0 g' d v → Q v H') (.ok (.tup es) st) → ∀ p, H p = none → Q (.ref p) (upd H p (.tup ws)) := fun {es ws} r o p hp => by
      have l2 : Le g (put g p (.imm (.tup ws))) := le_put (m.fresh hp)
      exact o _ _ (l0.trans l2) (m.new hp (.inl rfl)) _ (.tup (.inl (.inl (imH_of put_same))) (r.mono l2.lim))
    have seql : ∀ d : D, (∀ es, d ≠ .tup es) → seqS st d = lstS st d := fun d h => by cases d <;> first | rfl | exact absurd rfl (h _)
    by_cases ht : ∃ es, d = .tup es
    · obtain ⟨es, rfl⟩ := ht
      cases lk.rep m rfl with
      | tup sq r => exact call_tuple_of pins s σ H _ us Q I rv ⟨_, _, rfl, .inr ⟨same_seqT (fun a o e => m.imm a o (of_imH e)) sq, flat_out o l0 m (.tup sq r)⟩⟩
    · rw [seql d fun es z => ht ⟨es, z⟩] at o
      cases h : lstS st d with
      | none =>
        rw [h] at o
        exact o.elim
      | some es =>
        rw [h] at o
        obtain ⟨p, ws, ex, hp, r⟩ := lstS_ok lk m h
        subst ex
        exact call_tuple_of pins s σ H _ us Q I rv ⟨_, _, rfl, .inl ⟨.of hp, make r o⟩⟩
/-- looked-at arguments, then what is done with them -/
theorem looks_go {as : Es} {es : List Expr} {pins : List (Addr × Obj)} {σ : L2.St} {H : Hp} {s : Shared} {g : Gh} {ρ : Rho} {st : Sto} {α : Type} {P : α → Sto → Gh → Hp → Prop} {kk : List D → Sto → R α} (ha : PA X es (tL T nm X.K cf W as))
    (I : Inv X pins σ H s) (m : Mt T nm X.K g ρ st σ H) (o : Out T nm X.K W g ρ σ P ((evL T cf as ρ st).bind kk)) (pos : Pos) :
    wpAny (model X.prog X.w) X.A (spliced (backTo pos (starEach es X.env))) (fun us s' => ∃ vs H' ds st' g', Inv X pins σ H' s' ∧ Vals vs us ∧ LkRs T nm X.K g' ρ σ ds vs ∧ Le g g' ∧ Mt T nm X.K g' ρ st' σ H' ∧ Out T nm X.K W g ρ σ P (kk ds st')) X.xe s :=
  thn (ha.run pos pins s σ H (fun vs H1 => ∃ ds st1 g1, LkRs T nm X.K g1 ρ σ ds vs ∧ Le g g1 ∧ Mt T nm X.K g1 ρ st1 σ H1 ∧ Out T nm X.K W g ρ σ P (kk ds st1)) I
    ⟨g, ρ, st, m, Out.imp (Out.bind0 o) fun ds st1 g1 H1 l1 m1 q vs r => ⟨ds, st1, g1, r, l1, m1, q⟩⟩) fun us s1 ⟨vs, H1, I1, rv, ds, st1, g1, r, l1, m1, q⟩ => ⟨vs, H1, ds, st1, g1, I1, rv, r, l1, m1, q⟩
/-- a built-in function called -/
theorem se_biB {b : BI} {id : String} {x : Str} {p : Pos} {e : Expr} {es : List Expr} {as : Es} (hx : bootBuiltins x = some (.builtin id)) (hg : Gl X x) (hm : X.mg x = none) (ha : PA X (e :: es) (tL T nm X.K cf W as)) (hn : x ≠ "__name__") (hdb : (x == ("__debug__" : Str)) = false)
    (he : starEach (e :: es) X.env = (false, eval e X.env) :: starEach es X.env) (hpl : (backTo pos (starEach es X.env)).any (·.1) = false)
    (hr : ∀ {pins : List (Addr × Obj)} {s : Shared} {σ : L2.St} {H : Hp} {g0 g : Gh} {ρ : Rho} {st : Sto} {ds : List D} {vs : List V} {us : List Value} {Q : VK}, Inv X pins σ H s → Mt T nm X.K g ρ st σ H → LkRs T nm X.K g ρ σ ds vs → Vals vs us → Le g0 g →
      Out T nm X.K W g0 ρ σ (fun d _ g' H' => ∀ v, RepR T nm X.K g0 g' d v → Q v H') (biE T cf b ds st) → wpAny (model X.prog X.w) X.A (call (.builtin id) us) (EP X pins σ Q) X.xe s) :
    PE X (.Call (.Name x p) (e :: es) [] pos) (tE T nm X.K cf W (.bi b as)) := by
  refine ⟨fun pins s σ H Q I ⟨g, ρ, st, m, o⟩ => ?_⟩
  refine wpAny_Call_Name_kw (ld_blt I hg hm hx ?_ hn hdb)
  exact PyProof.Rows.callWith_builtin1 (thn (looks_go ha I m o pos) fun us s1 ⟨vs, H1, ds, st1, g1, I1, rv, r, l1, m1, q⟩ => hr I1 m1 r rv l1 q) he hpl
theorem se_biT {b : BI} {id : String} {x : Str} {p : Pos} {e : Expr} {es : List Expr} {as : Es} (hx : bootBuiltins x = some (.type id)) (hg : Gl X x) (hm : X.mg x = none) (ha : PA X (e :: es) (tL T nm X.K cf W as)) (hn : x ≠ "__name__") (hdb : (x == ("__debug__" : Str)) = false)
    (he : starEach (e :: es) X.env = (false, eval e X.env) :: starEach es X.env) (hpl : (backTo pos (starEach es X.env)).any (·.1) = false)
    (hr : ∀ {pins : List (Addr × Obj)} {s : Shared} {σ : L2.St} {H : Hp} {g0 g : Gh} {ρ : Rho} {st : Sto} {ds : List D} {vs : List V} {us : List Value} {Q : VK}, Inv X pins σ H s → Mt T nm X.K g ρ st σ H → LkRs T nm X.K g ρ σ ds vs → Vals vs us → Le g0 g →
      Out T nm X.K W g0 ρ σ (fun d _ g' H' => ∀ v, RepR T nm X.K g0 g' d v → Q v H') (biE T cf b ds st) → wpAny (model X.prog X.w) X.A (call (.type id) us) (EP X pins σ Q) X.xe s) :
    PE X (.Call (.Name x p) (e :: es) [] pos) (tE T nm X.K cf W (.bi b as)) := by
  refine ⟨fun pins s σ H Q I ⟨g, ρ, st, m, o⟩ => ?_⟩
  refine wpAny_Call_Name_kw (ld_blt I hg hm hx ?_ hn hdb)
  exact PyProof.Rows.callWith_type1 (thn (looks_go ha I m o pos) fun us s1 ⟨vs, H1, ds, st1, g1, I1, rv, r, l1, m1, q⟩ => hr I1 m1 r rv l1 q) he hpl
end

/-! ### statements -/
section
variable (T : Tab) (nm : Nm) (K : PySem.W.Frag)
/-- what is wanted behind a statement; gb: the ghost at the frame's entry -/
def OutS (W : WX) (gb : Gh) (D : Ends) : F → Prop
  | .nx ρ st => ∀ g' σ' H', Le gb g' → Mt T nm K g' ρ st σ' H' → D.nx σ' H'
  | .rt d st => ∀ g' v H', Le gb g' → Mt0 T nm K g' st H' → RepR T nm K gb g' d v → D.rt v H'
  | .bk ρ st => ∀ g' σ' H', Le gb g' → Mt T nm K g' ρ st σ' H' → D.bk σ' H'
  | .ct ρ st => ∀ g' σ' H', Le gb g' → Mt T nm K g' ρ st σ' H' → D.ct σ' H'
  | .er x ρ st => ∀ g' cv dd σ' H', Le gb g' → Mt T nm K g' ρ st σ' H' → XnR T nm K g' x cv dd → W cv dd σ' H'
  | .no => False
variable (cf : Nat → List D → Sto → R D)
def tS (W : WX) (s : S) : TS := fun D σ H => ∃ gb g ρ st, Mt T nm K g ρ st σ H ∧ Le gb g ∧ NoSlot gb ∧ OutS T nm K W gb D (exS T cf s ρ st)
end
section
variable {T : Tab} {nm : Nm} {K : PySem.W.Frag} {W : WX} {g g0 g1 gb : Gh} {ρ : Rho} {σ : L2.St} {H : Hp} {st : Sto} {D : Ends}
/-- an expression within a statement -/
theorem OutS.go {α : Type} {r : R α} {k : α → Sto → F} (o : OutS T nm K W gb D (r.f ρ k)) (l : Le gb g) : Out T nm K W g ρ σ (fun a st _ _ => OutS T nm K W gb D (k a st)) r := by
  cases r with
  | ok a st => exact fun _ _ _ _ => o
  | er x st => exact fun g' cv dd H' l' m x' => o g' cv dd σ H' (l.trans l') m x'
  | no => exact o
theorem getElem_set {α : Type} {xs : List α} {i j : Nat} {a b : α} (h : (xs.set i a)[j]? = some b) : (i = j ∧ i < xs.length ∧ a = b) ∨ (i ≠ j ∧ xs[j]? = some b) := by
  by_cases e : i = j
  · subst e
    by_cases hl : i < xs.length
    · rw [List.getElem?_set_self hl] at h
      exact .inl ⟨rfl, hl, Option.some.inj h⟩
    · rw [List.getElem?_eq_none (by rw [List.length_set]; omega)] at h
      cases h
  · rw [List.getElem?_set_ne e] at h
    exact .inr ⟨e, h⟩
theorem SlR.rep {i : Nat} {d : Ev.D} {v : V} (h : Rep T nm K g d v) : SlR T nm K g H i d v := by
  cases h <;> first
    | exact .non
    | exact .bl _
    | exact .int _
    | exact .str _
    | (rename_i a b; exact .tup a b)
    | (rename_i a b; exact .lst a b)
    | (rename_i a; exact .scr a)
    | (rename_i a b c; exact .ins a b c)
    | (rename_i a; exact .ref a)
/-- a name's new value -/
theorem Mt.set (m : Mt T nm K g ρ st σ H) {i : Nat} {d : Ev.D} {v : V} (r : SlR T nm K g H i d v) : Mt T nm K g (ρ.set i (some d)) st (σ.set i (some v)) H := by
  refine ⟨m.toMt0, by rw [List.length_set, List.length_set]; exact m.len, fun j e h => ?_⟩
  rcases getElem_set h with ⟨e1, e2, e3⟩ | ⟨e1, e2⟩
  · subst e1
    cases e3
    exact ⟨v, by rw [List.getElem?_set_self (by rw [← m.len]; exact e2)], r⟩
  · obtain ⟨w, h1, h2⟩ := m.slots j e e2
    exact ⟨w, by rw [List.getElem?_set_ne e1]; exact h1, h2⟩
/-- a name whose value is forgotten -/
theorem Mt.drop (m : Mt T nm K g ρ st σ H) {i : Nat} {x : Option V} : Mt T nm K g (ρ.set i none) st (σ.set i x) H := by
  refine ⟨m.toMt0, by rw [List.length_set, List.length_set]; exact m.len, fun j e h => ?_⟩
  rcases getElem_set h with ⟨e1, e2, e3⟩ | ⟨e1, e2⟩
  · cases e3
  · obtain ⟨w, h1, h2⟩ := m.slots j e e2
    exact ⟨w, by rw [List.getElem?_set_ne e1]; exact h1, h2⟩
/-- an address's word changes where neither data nor other names lean on it -/
theorem Mt0.word (m : Mt0 T nm K g st H) {p : Addr} {o : HO} {t : Tag} (hp : H p = some o) (h : (∃ i, g p = some (.slot i)) ∨ ∃ u, g p = some (.held u)) (ht : (t = .imm o ∨ t = .held o) ∨ ∃ i, t = .slot i) : Mt0 T nm K (put g p t) st H ∧ Lim g (put g p t) := by
  have nl : (∀ u, g p ≠ some (.imm u)) ∧ ∀ k, g p ≠ some (.sto k) := by
    rcases h with ⟨i, h⟩ | ⟨u, h⟩ <;> rw [h] <;> exact ⟨(fun _ z => nomatch z), (fun _ z => nomatch z)⟩
  have lm : Lim g (put g p t) := ⟨fun a o e => by rw [put_ne (fun z => by rw [z] at e; exact nl.1 _ e)]; exact e, fun a k e => by rw [put_ne (fun z => by rw [z] at e; exact nl.2 _ e)]; exact e⟩
  have old : ∀ a u, a ≠ p → put g p t a = some u → g a = some u := fun a u n e => by rw [put_ne n] at e; exact e
  have ns : ∀ k, t ≠ .sto k := fun k z => by rcases ht with (y | y) | ⟨i, y⟩ <;> rw [y] at z <;> cases z
  refine ⟨⟨fun a o' e => ?_, fun a o' e => ?_, fun k ob e => ?_, fun a k e => ?_, fun a b k e1 e2 => ?_, fun a u e => ?_⟩, lm⟩
  · by_cases n : a = p
    · subst n
      rw [put_same] at e
      rcases ht with (z | z) | ⟨i, z⟩ <;> rw [z] at e <;> cases e
      exact hp
    · exact m.imm a o' (old a _ n e)
  · by_cases n : a = p
    · subst n
      rw [put_same] at e
      rcases ht with (z | z) | ⟨i, z⟩ <;> rw [z] at e <;> cases e
      exact hp
    · exact m.held a o' (old a _ n e)
  · obtain ⟨a, o', e1, e2, r⟩ := m.sto k ob e
    exact ⟨a, o', lm.2 _ _ e1, e2, r.mono lm⟩
  · by_cases n : a = p
    · subst n
      rw [put_same] at e
      exact absurd (Option.some.inj e) (ns k)
    · exact m.stl a k (old a _ n e)
  · have na : a ≠ p := fun z => by
      rw [z, put_same] at e1
      exact absurd (Option.some.inj e1) (ns k)
    have nb : b ≠ p := fun z => by
      rw [z, put_same] at e2
      exact absurd (Option.some.inj e2) (ns k)
    exact m.uniq a b k (old a _ na e1) (old b _ nb e2)
  · by_cases n : a = p
    · subst n
      exact ⟨o, hp⟩
    · exact m.trk a u (old a _ n e)
theorem Le.word {p : Addr} {t : Tag} (l : Le gb g) (n : gb p = none) : Le gb (put g p t) := fun a u e => by
  rw [put_ne (fun z => by rw [z, n] at e; cases e)]
  exact l a u e
/-- nothing of the frame's own stood at its entry -/
theorem gb_none (l : Le gb g) (n : NoSlot gb) {p : Addr} {i : Nat} (h : g p = some (.slot i)) : gb p = none := by
  cases q : gb p with
  | none => rfl
  | some t =>
    have e := l _ _ q
    rw [h] at e
    cases e
    exact absurd q (n p i)
/-- a fresh list becomes a name's own -/
theorem Mt.take (m : Mt T nm K g ρ st σ H) {p : Addr} {vs : List V} {ds : List Ev.D} {i : Nat} (h : g p = some (.held (.lst vs))) (r : Reps T nm K g ds vs) : Mt T nm K (put g p (.slot i)) (ρ.set i (some (.own ds))) st (σ.set i (some (.ref p))) H := by
  have hp := m.held _ _ h
  obtain ⟨m0, lm⟩ := m.toMt0.word hp (.inr ⟨_, h⟩) (t := .slot i) (.inr ⟨i, rfl⟩)
  have m1 : Mt T nm K (put g p (.slot i)) ρ st σ H := ⟨m0, m.len, fun j e z => by
    obtain ⟨w, h1, h2⟩ := m.slots j e z
    exact ⟨w, h1, h2.mono lm fun q e2 => ⟨by rw [put_ne (fun z => by rw [z, h] at e2; cases e2)]; exact e2, rfl⟩⟩⟩
  exact m1.set ⟨p, vs, rfl, put_same, hp, r.mono lm⟩
/-- a name's own list is not changed any more: it stays (imm), or is handed on (held) -/
theorem Mt.give (m : Mt T nm K g ρ st σ H) {i : Nat} {ds : List Ev.D} (e : ρ[i]? = some (some (.own ds))) : ∃ p vs, σ[i]? = some (some (.ref p)) ∧ g p = some (.slot i) ∧ H p = some (.lst vs) ∧ Reps T nm K g ds vs ∧
    ∀ t, (t = .imm (.lst vs) ∨ t = .held (.lst vs)) → Mt T nm K (put g p t) (ρ.set i none) st σ H ∧ Lim g (put g p t) := by
  obtain ⟨v, e1, p, vs, ev, h1, h2, r⟩ := m.slots i _ e
  subst ev
  refine ⟨p, vs, e1, h1, h2, r, fun t ht => ?_⟩
  obtain ⟨m0, lm⟩ := m.toMt0.word h2 (.inl ⟨i, h1⟩) (t := t) (.inl ht)
  refine ⟨⟨m0, by rw [List.length_set]; exact m.len, fun j d z => ?_⟩, lm⟩
  rcases getElem_set z with ⟨_, _, z3⟩ | ⟨z1, z2⟩
  · cases z3
  · obtain ⟨w, h3, h4⟩ := m.slots j d z2
    exact ⟨w, h3, h4.mono lm fun q e2 => ⟨by rw [put_ne (fun y => by rw [y, h1] at e2; cases e2; exact z1 rfl)]; exact e2, rfl⟩⟩
/-- a name's own list is changed -/
theorem Mt.own_upd (m : Mt T nm K g ρ st σ H) {i : Nat} {es : List Ev.D} {p : Addr} {ws : List V} (e2 : σ[i]? = some (some (.ref p))) (h1 : g p = some (.slot i)) (r : Reps T nm K g es ws) : Mt T nm K g (ρ.set i (some (.own es))) st σ (upd H p (.lst ws)) := by
  have nn : ∀ a t, g a = some t → (∀ j, t ≠ .slot j) → upd H p (.lst ws) a = H a := fun a t e n => upd_ne fun z => by
    rw [z, h1] at e
    cases e
    exact n i rfl
  refine ⟨⟨fun a o e => by rw [nn a _ e (fun _ z => nomatch z)]; exact m.imm a o e, fun a o e => by rw [nn a _ e (fun _ z => nomatch z)]; exact m.held a o e, fun k ob e => ?_, m.stl, m.uniq, fun a t e => ?_⟩, by rw [List.length_set]; exact m.len, fun j d z => ?_⟩
  · obtain ⟨a, o, e1, e2, rr⟩ := m.sto k ob e
    exact ⟨a, o, e1, by rw [nn a _ e1 (fun _ z => nomatch z)]; exact e2, rr⟩
  · by_cases n : a = p
    · rw [n, upd_same]
      exact ⟨_, rfl⟩
    · rw [upd_ne n]
      exact m.trk a t e
  · rcases getElem_set z with ⟨z1, z2, z3⟩ | ⟨z1, z2⟩
    · subst z1
      cases z3
      exact ⟨.ref p, e2, p, ws, rfl, h1, upd_same, r⟩
    · obtain ⟨w, h3, h4⟩ := m.slots j d z2
      exact ⟨w, h3, h4.mono (Lim.refl g) fun q e3 => ⟨e3, upd_ne fun y => by rw [y, h1] at e3; cases e3; exact z1 rfl⟩⟩
/-- a list of the store is changed -/
theorem Mt.sto_upO (m : Mt T nm K g ρ st σ H) {k : Nat} {p : Addr} {ob : Ob} {o : HO} (h1 : g p = some (.sto k)) (r : ObR T nm K g ob o) : Mt T nm K g ρ (st.set k ob) σ (upd H p o) := by
  have nn : ∀ a t, g a = some t → t ≠ .sto k → upd H p o a = H a := fun a t e n => upd_ne fun z => by
    rw [z, h1] at e
    cases e
    exact n rfl
  refine ⟨⟨fun a o e => by rw [nn a _ e (fun z => nomatch z)]; exact m.imm a o e, fun a o e => by rw [nn a _ e (fun z => nomatch z)]; exact m.held a o e, fun j ob e => ?_, fun a j e => by rw [List.length_set]; exact m.stl a j e, m.uniq, fun a t e => ?_⟩, m.len, fun j d z => ?_⟩
  · rcases getElem_set e with ⟨z1, z2, z3⟩ | ⟨z1, z2⟩
    · subst z1
      subst z3
      exact ⟨p, _, h1, upd_same, r⟩
    · obtain ⟨a, o, e1, e2, rr⟩ := m.sto j ob z2
      refine ⟨a, o, e1, by rw [nn a _ e1 (fun z => z1 (by cases z; rfl))]; exact e2, rr⟩
  · by_cases n : a = p
    · rw [n, upd_same]
      exact ⟨_, rfl⟩
    · rw [upd_ne n]
      exact m.trk a t e
  · obtain ⟨w, h3, h4⟩ := m.slots j d z
    exact ⟨w, h3, h4.mono (Lim.refl g) fun q e3 => ⟨e3, nn q _ e3 (fun z => nomatch z)⟩⟩
theorem Mt.sto_upd (m : Mt T nm K g ρ st σ H) {k : Nat} {p : Addr} {es : List Ev.D} {ws : List V} (h1 : g p = some (.sto k)) (r : Reps T nm K g es ws) : Mt T nm K g ρ (st.set k (.lst es)) σ (upd H p (.lst ws)) := m.sto_upO h1 ⟨ws, rfl, r⟩
theorem Mt.sto_updD (m : Mt T nm K g ρ st σ H) {k : Nat} {p : Addr} {kvs : List (Ev.D × Ev.D)} {kws : List (Key × V)} (h1 : g p = some (.sto k)) (r : KvR T nm K g kvs kws) : Mt T nm K g ρ (st.set k (.dct kvs)) σ (upd H p (.dK kws)) := m.sto_upO h1 ⟨kws, rfl, r⟩
end

section
variable {X : Cx} {T : Tab} {nm : Nm} {W : WX} {cf : Nat → List D → Sto → R D} {pos : Pos} {k : Nat}
theorem ss_skip : PSs X [] (tS T nm X.K cf W .skip) := PSs.imp pss_nil fun D σ H ⟨gb, g, ρ, st, m, l, n, o⟩ => o g σ H l m
theorem ss_pass : PS X (.Pass pos) (tS T nm X.K cf W .skip) := PS.imp ps_pass fun D σ H ⟨gb, g, ρ, st, m, l, n, o⟩ => o g σ H l m
theorem out_then {gb : Gh} {D : Ends} {r : F} {s2 : S} (n : NoSlot gb) (o : OutS T nm X.K W gb D (r.then fun ρ st => exS T cf s2 ρ st)) : OutS T nm X.K W gb { D with nx := tS T nm X.K cf W s2 D } r := by
  cases r with
  | nx ρ st => exact fun g' σ' H' l m => ⟨gb, g', ρ, st, m, l, n, o⟩
  | rt d st => exact o
  | bk ρ st => exact o
  | ct ρ st => exact o
  | er x ρ st => exact o
  | no => exact o
theorem ss_cons {st : Stmt} {rest : List Stmt} {a b : S} (h1 : PS X st (tS T nm X.K cf W a)) (h2 : PSs X rest (tS T nm X.K cf W b)) : PSs X (st :: rest) (tS T nm X.K cf W (.seq a b)) :=
  PSs.imp (pss_cons h1 h2) fun D σ H ⟨gb, g, ρ, st, m, l, n, o⟩ => ⟨gb, g, ρ, st, m, l, n, out_then n o⟩
theorem ss_expr {e : Expr} {a : E} (h : PE X e (tE T nm X.K cf W a)) (hs : swapsWith e none pos.line X.env = pure false) : PS X (.Expr e pos) (tS T nm X.K cf W (.expr a)) :=
  PS.imp (ps_expr h hs) fun D σ H ⟨gb, g, ρ, st, m, l, n, o⟩ => ⟨g, ρ, st, m, Out.imp (OutS.go o l) fun d st1 g1 H1 l1 m1 q v r => q g1 σ H1 (l.trans l1) m1⟩
theorem ss_set {e : Expr} {a : E} {i : Nat} {x : Str} {p : Pos} (hN : X.N.Nodup) (hi : X.N[i]? = some x) (hx : Loc X.env.scope x) (h : PE X e (tE T nm X.K cf W a)) (hs : swapsWith e (some (.Name x p)) pos.line X.env = pure false) (hf : X.fn x = true ∨ X.env.scope.names.lookup x = some .local) :
    PS X (.Assign [.Name x p] e pos) (tS T nm X.K cf W (.set i a)) :=
  PS.imp (ps_set hN hi hx h hs hf) fun D σ H ⟨gb, g, ρ, st, m, l, n, o⟩ => ⟨g, ρ, st, m, Out.imp (OutS.go o l) fun d st1 g1 H1 l1 m1 q v r => by
    obtain ⟨g2, l2, m2, r2⟩ := kept r m1 l1
    exact q g2 _ H1 (l.trans l2) (m2.set (SlR.rep r2))⟩
theorem ss_own {e : Expr} {a : E} {i : Nat} {x : Str} {p : Pos} (hN : X.N.Nodup) (hi : X.N[i]? = some x) (hx : Loc X.env.scope x) (h : PE X e (tE T nm X.K cf W a)) (hs : swapsWith e (some (.Name x p)) pos.line X.env = pure false) (hf : X.fn x = true ∨ X.env.scope.names.lookup x = some .local) :
    PS X (.Assign [.Name x p] e pos) (tS T nm X.K cf W (.own i a)) :=
  PS.imp (ps_set hN hi hx h hs hf) fun D σ H ⟨gb, g, ρ, st, m, l, n, o⟩ => ⟨g, ρ, st, m, Out.imp (OutS.go o l) fun d st1 g1 H1 l1 m1 q v r => by
    cases d with
    | own ds =>
      obtain ⟨p, vs, ev, h1, h2, h3⟩ := r
      subst ev
      have gn : gb p = none := by
        cases z : gb p with
        | none => rfl
        | some t =>
          rw [l _ _ z] at h2
          cases h2
      exact q _ _ H1 (Le.word (l.trans l1) gn) (m1.take h1 h3)
    | _ => exact q.elim⟩
theorem ownAt_some {ρ : Rho} {x : Nat} {ds : List D} (h : ownAt ρ x = some ds) : ρ[x]? = some (some (.own ds)) := by
  unfold ownAt at h
  split at h
  · rename_i e
    cases h
    exact e
  · cases h
theorem set_none_set {α : Type} (ρ : List (Option α)) (i : Nat) (d : Option α) : (ρ.set i none).set i d = ρ.set i d := by
  rw [List.set_set]
/-- a name's list is not changed any more; nothing is run -/
theorem ss_frz {rest : List Stmt} {i : Nat} {b : S} (h2 : PSs X rest (tS T nm X.K cf W b)) : PSs X rest (tS T nm X.K cf W (.seq (.frz i) b)) :=
  PSs.imp h2 fun D σ H ⟨gb, g, ρ, st, m, l, n, o⟩ => by
    have o' : OutS T nm X.K W gb D ((match ownAt ρ i with
      | some ds => F.nx (ρ.set i (some (.lst ds))) st
      | none => .no).then fun ρ st => exS T cf b ρ st) := o
    cases q : ownAt ρ i with
    | none =>
      rw [q] at o'
      exact o'.elim
    | some ds =>
      rw [q] at o'
      have e := ownAt_some q
      obtain ⟨p, vs, e1, h1, h2', r, hg⟩ := m.give e
      obtain ⟨m1, lm⟩ := hg (.imm (.lst vs)) (.inl rfl)
      have m2 := m1.set (i := i) (d := .lst ds) (v := .ref p) (.lst put_same (r.mono lm))
      rw [set_none_set] at m2
      have es : σ.set i (some (V.ref p)) = σ := by
        refine List.ext_getElem? fun j => ?_
        by_cases ej : i = j
        · subst ej
          rw [e1, List.getElem?_set_self (List.getElem?_eq_some_iff.mp e1).1]
        · rw [List.getElem?_set_ne ej]
      rw [es] at m2
      exact ⟨gb, _, _, st, m2, Le.word l (gb_none l n h1), n, o'⟩
theorem ss_ret {e : Expr} {a : E} (h : PE X e (tE T nm X.K cf W a)) : PS X (.Return (some e) pos) (tS T nm X.K cf W (.ret a)) :=
  PS.imp (ps_ret h) fun D σ H ⟨gb, g, ρ, st, m, l, n, o⟩ => ⟨g, ρ, st, m, Out.imp (OutS.go o l) fun d st1 g1 H1 l1 m1 q v r => q g1 v H1 (l.trans l1) m1.toMt0 (r.back l)⟩
theorem ss_ret0 : PS X (.Return none pos) (tS T nm X.K cf W .ret0) := PS.imp ps_retN fun D σ H ⟨gb, g, ρ, st, m, l, n, o⟩ => o g .non H l m.toMt0 .non
theorem ss_retm {i : Nat} {x : Str} {p : Pos} (hN : X.N[i]? = some x) (hv : Vis X.env.scope x) (hd : (x == ("__debug__" : Str)) = false) (hcd : (x == ("__classdict__" : Str)) = false) : PS X (.Return (some (.Name x p)) pos) (tS T nm X.K cf W (.retm i)) :=
  PS.imp (ps_ret (pe_var hN hv hd hcd)) fun D σ H ⟨gb, g, ρ, st, m, l, n, o⟩ => by
    have o' : OutS T nm X.K W gb D (match ownAt ρ i with
      | some ds => F.rt (.own ds) st
      | none => .no) := o
    cases q : ownAt ρ i with
    | none =>
      rw [q] at o'
      exact o'.elim
    | some ds =>
      rw [q] at o'
      obtain ⟨p, vs, e1, h1, h2, r, hg⟩ := m.give (ownAt_some q)
      obtain ⟨m1, lm⟩ := hg (.held (.lst vs)) (.inr rfl)
      have gn := gb_none l n h1
      exact ⟨.ref p, e1, o' _ _ H (Le.word l gn) m1.toMt0 ⟨p, vs, rfl, put_same, gn, r.mono lm⟩⟩
theorem ss_if {c : Expr} {a b : List Stmt} {t : Tt} {s1 s2 : S} (hc : PT X c (tT T nm X.K cf W t)) (ha : PSs X a (tS T nm X.K cf W s1)) (hb : PSs X b (tS T nm X.K cf W s2)) : PS X (.If c a b pos) (tS T nm X.K cf W (.ifs t s1 s2)) :=
  PS.imp (ps_if hc ha hb) fun D σ H ⟨gb, g, ρ, st, m, l, n, o⟩ => ⟨g, ρ, st, m, Out.imp (OutS.go o l) fun b st1 g1 H1 l1 m1 q => by
    cases b with
    | true => exact ⟨gb, g1, ρ, st1, m1, l.trans l1, n, q⟩
    | false => exact ⟨gb, g1, ρ, st1, m1, l.trans l1, n, q⟩⟩
theorem ss_brk : PS X (.Break pos) (tS T nm X.K cf W .brk) := PS.imp ps_break fun D σ H ⟨gb, g, ρ, st, m, l, n, o⟩ => o g σ H l m
theorem ss_cnt : PS X (.Continue pos) (tS T nm X.K cf W .cnt) := PS.imp ps_continue fun D σ H ⟨gb, g, ρ, st, m, l, n, o⟩ => o g σ H l m
/-- x.append(e) -/
theorem ss_app {e : Expr} {a : E} {i : Nat} {x : Str} {p p2 p3 : Pos} (hN : X.N[i]? = some x) (hv : Vis X.env.scope x) (hd : (x == ("__debug__" : Str)) = false) (hcd : (x == ("__classdict__" : Str)) = false) (h : PE X e (tE T nm X.K cf W a)) (hst : starEach [e] X.env = (false, eval e X.env) :: starEach [] X.env)
    (hm : PE X (.Call (.Attribute (.Name x p) "append" p2) [e] [] p3) (tBM X.K "list" rAppend (tVar i) (tCons (tE T nm X.K cf W a) tNil))) : PS X (.Expr (.Call (.Attribute (.Name x p) "append" p2) [e] [] p3) pos) (tS T nm X.K cf W (.app i a)) :=
  PS.imp (ps_expr hm rfl) fun D σ H ⟨gb, g, ρ, st, m, l, n, o⟩ => by
    have o' : OutS T nm X.K W gb D (match ownAt ρ i with
      | some ds => if ds.length < LINE then (evE T cf a ρ st).f ρ fun d st => .nx (ρ.set i (some (.own (ds ++ [fz d])))) st else .no
      | none => .no) := o
    cases q : ownAt ρ i with
    | none =>
      rw [q] at o'
      exact o'.elim
    | some ds =>
      rw [q] at o'
      have o2 : OutS T nm X.K W gb D (if ds.length < LINE then (evE T cf a ρ st).f ρ fun d st => .nx (ρ.set i (some (.own (ds ++ [fz d])))) st else .no) := o'
      by_cases hl : ds.length < LINE
      · rw [if_pos hl] at o2
        have e := ownAt_some q
        obtain ⟨v, e1, p, vs, ev, h1, h2, r⟩ := m.slots i _ e
        subst ev
        refine ⟨.ref p, e1, .inl ⟨rfl, vs, .of h2⟩, g, ρ, st, m, Out.imp (OutS.go o2 l) fun d st1 g1 H1 l1 m1 q1 w rw1 => ?_⟩
        obtain ⟨g2, l2, m2, r2⟩ := kept rw1 m1 l1
        obtain ⟨v', e1', p', vs', ev', h1', h2', r'⟩ := m2.slots i _ e
        subst ev'
        rw [e1] at e1'
        cases e1'
        refine ⟨p, vs', w, rfl, rfl, h2', by rw [← r'.len]; exact line_lt hl, ?_⟩
        exact q1 g2 σ _ (l.trans l2) (m2.own_upd e1 h1' (r'.append (.cons r2 .nil)))
      · rw [if_neg hl] at o2
        exact o2.elim
/-- r[i] = v, of a list, of a dict -/
def rSetA : V → V → V → Hp → (Hp → Prop) → Prop := fun o i v H Q => rSetL o i v H Q ∨ ∃ p H4, o = .ref p ∧ DPut H p i v H4 ∧ Q H4
theorem set_any (hu : X.A.units + 1 < cLine) : PSet X rSetA := by
  intro pins s σ H o i v ov iv u Q I ro ri rv h
  rcases h with h | ⟨p, H4, rfl, hd, q⟩
  · exact set_list pins s σ H o i v ov iv u Q I ro ri rv h
  · cases ro
    exact d_setItem hu I hd ri rv fun s' I' => ⟨H4, I', q⟩
theorem kv_put {g : Gh} {k d : D} {q : Key} {v : V} (hk : keyOf k = some q) (hv : Rep T nm X.K g d v) {kvs : List (D × D)} {kws : List (Key × V)} (h : KvR T nm X.K g kvs kws) : KvR T nm X.K g (dPut kvs k d) (putK kws q v) := by
  have g1 := kv_get hk h
  have app : ∀ {kvs : List (D × D)} {kws : List (Key × V)}, KvR T nm X.K g kvs kws → KvR T nm X.K g (kvs ++ [(k, d)]) (kws ++ [(q, v)]) := fun {kvs kws} h => by
    induction kvs generalizing kws with
    | nil => cases kws with
      | nil => exact ⟨hk, hv, trivial⟩
      | cons _ _ => exact h.elim
    | cons p r ih => cases kws with
      | nil => exact h.elim
      | cons t ts => exact ⟨h.1, h.2.1, ih h.2.2⟩
  have mp : ∀ {kvs : List (D × D)} {kws : List (Key × V)}, KvR T nm X.K g kvs kws → KvR T nm X.K g (kvs.map fun kv => if keyEq kv.1 k then (kv.1, d) else kv) (kws.map fun kv => if kv.1 = q then (kv.1, v) else kv) := fun {kvs kws} h => by
    induction kvs generalizing kws with
    | nil => cases kws with
      | nil => trivial
      | cons _ _ => exact h.elim
    | cons p r ih => cases kws with
      | nil => exact h.elim
      | cons t ts =>
        have e := keyOf_eq h.1 hk
        by_cases z : t.1 = q
        · have e1 : keyEq p.1 k = true := by rw [e]; simpa using z
          simp only [List.map_cons, if_pos z, e1, if_true]
          exact ⟨h.1, hv, ih h.2.2⟩
        · have e1 : keyEq p.1 k = false := by rw [e]; simpa using z
          simp only [List.map_cons, if_neg z, e1, Bool.false_eq_true, if_false]
          exact ⟨h.1, h.2.1, ih h.2.2⟩
  unfold dPut
  cases z : dGet kvs k with
  | none =>
    rw [z] at g1
    rw [putK_new v g1]
    exact app h
  | some d' =>
    rw [z] at g1
    obtain ⟨w, g2, _⟩ := g1
    have e : putK kws q v = kws.map fun kv => if kv.1 = q then (kv.1, v) else kv := by
      unfold putK
      rw [if_pos (by rw [valV_any, g2]; rfl)]
    rw [e]
    exact mp h
theorem kv_len {g : Gh} : ∀ {kvs : List (D × D)} {kws : List (Key × V)}, KvR T nm X.K g kvs kws → kws.length = kvs.length
  | [], [], _ => rfl
  | _ :: _, _ :: _, h => by simp only [List.length_cons]; rw [kv_len h.2.2]
  | [], _ :: _, h => h.elim
  | _ :: _, [], h => h.elim
/-- a[i] = e, of the store -/
theorem ss_seti {e1 e2 e3 : Expr} {a b c : E} {p : Pos} (hu : X.A.units + 1 < cLine) (ha : PE X e1 (tE T nm X.K cf W a)) (hb : PE X e2 (tE T nm X.K cf W b)) (hc : PE X e3 (tE T nm X.K cf W c)) (hns : ∀ l h s q, e2 ≠ .Slice l h s q) (hsw : swapsWithSole [.Subscript e1 e2 p] e3 pos.line X.env = pure false) (hst : swappedStores [.Subscript e1 e2 p] e3 X.env = pure none) :
    PS X (.Assign [.Subscript e1 e2 p] e3 pos) (tS T nm X.K cf W (.seti a b c)) :=
  PS.imp (ps_asg hc (pg_sub ha hb (set_any hu) (by cases e2 <;> first | (intro v; rfl) | exact absurd rfl (hns _ _ _ _))) hsw hst) fun D σ H ⟨gb, g, ρ, st, m, l, n, o⟩ => ⟨g, ρ, st, m, Out.imp (OutS.go o l) fun d st1 g1 H1 l1 m1 q v r => by
    obtain ⟨g2, l2, m2, r2⟩ := kept r m1 l1
    refine ⟨g2, ρ, st1, m2, Out.imp (OutS.go q (l.trans l2)) fun x st3 g3 H3 l3 m3 q3 w rx => ?_⟩
    refine ⟨g3, ρ, st3, m3, Out.imp (OutS.go q3 ((l.trans l2).trans l3)) fun y st4 g4 H4 l4 m4 q4 z ry => ?_⟩
    have q5 : OutS T nm X.K W gb D (match setiD x y (fz d) st4 with
      | some st => F.nx ρ st
      | none => .no) := q4
    have lk4 := LkR.le (LkR.of_rep (ρ := ρ) (σ := σ) rx) l4
    have rv4 : Rep T nm X.K g4 (fz d) v := (r2.mono l3.lim).mono l4.lim
    have dput : ∀ {k : Nat} {kvs : List (Ev.D × Ev.D)} {key : Ev.D}, x = .ref k → st4[k]? = some (.dct kvs) → isKey key = true → LkR T nm X.K g4 ρ σ key z → OutS T nm X.K W gb D (match (if kvs.length < LINE then some (st4.set k (.dct (dPut kvs key (fz d)))) else none : Option Sto) with
        | some st => F.nx ρ st
        | none => .no) → rSetA w z v H4 fun H' => D.nx σ H' := fun {k kvs key} ex h1 hk lz q5 => by
      by_cases hl : kvs.length < LINE
      · rw [if_pos hl] at q5
        rw [ex] at lk4
        obtain ⟨pp, kws, ew, gp, hp, rr⟩ := sto_dct lk4 m4 h1
        obtain ⟨kk, k1, k2⟩ := key_is hk lz m4
        subst ew
        refine .inr ⟨pp, _, rfl, ?_, q5 g4 σ _ (((l.trans l2).trans l3).trans l4) (m4.sto_updD gp (kv_put k1 rv4 rr))⟩
        rw [k2]
        exact DPut.k hp (by rw [kv_len rr]; exact line_lt hl)
      · rw [if_neg hl] at q5
        exact q5.elim
    unfold setiD at q5
    cases x with
    | ref k =>
      cases y with
      | int j =>
        have lz : LkR T nm X.K g4 ρ σ (.int j) z := .of_rep ry
        cases h1 : st4[k]? with
        | none =>
          simp only [h1] at q5
          exact q5.elim
        | some ob =>
          cases ob with
          | lst ds =>
            simp only [h1] at q5
            cases h2 : Ev.ixN ds.length j with
            | none =>
              rw [h2] at q5
              exact q5.elim
            | some jj =>
              rw [h2] at q5
              obtain ⟨pp, vs, ex, gp, hp, rr⟩ := sto_lst lk4 m4 h1
              subst ex
              have ez : z = .int j := by cases ry; rfl
              subst ez
              refine .inl ⟨pp, vs, j, jj, rfl, rfl, hp, by rw [← rr.len, ← ixN_eq]; exact h2, ?_⟩
              exact q5 g4 σ _ (((l.trans l2).trans l3).trans l4) (m4.sto_upd gp (Reps.set rv4 jj rr))
          | ins c ds =>
            simp only [h1] at q5
            exact q5.elim
          | dct kvs =>
            simp only [h1] at q5
            exact dput rfl h1 rfl lz q5
      | str j =>
        have lz : LkR T nm X.K g4 ρ σ (.str j) z := .of_rep ry
        cases h1 : st4[k]? with
        | none =>
          simp only [h1] at q5
          exact q5.elim
        | some ob =>
          cases ob with
          | dct kvs =>
            simp only [h1] at q5
            exact dput rfl h1 rfl lz q5
          | _ =>
            simp only [h1] at q5
            exact q5.elim
      | _ => exact q5.elim
    | _ => cases y <;> exact q5.elim⟩
/-- a.append(e), of the store -/
theorem isLR_of {st : Sto} {d : D} (h : isLR st d = true) : ∃ r ds, d = .ref r ∧ st[r]? = some (.lst ds) := by
  cases d with
  | ref r =>
    cases h1 : st[r]? with
    | none => simp [isLR, h1] at h
    | some ob =>
      cases ob with
      | lst ds => exact ⟨r, ds, rfl, h1⟩
      | _ => simp [isLR, h1] at h
  | _ => cases h
theorem ss_appr {e1 e : Expr} {a b : E} {p2 p3 : Pos} (hm : PE X (.Call (.Attribute e1 "append" p2) [e] [] p3) (tBM X.K "list" rAppend (tE T nm X.K cf W a) (tCons (tE T nm X.K cf W b) tNil))) :
    PS X (.Expr (.Call (.Attribute e1 "append" p2) [e] [] p3) pos) (tS T nm X.K cf W (.appr a b)) :=
  PS.imp (ps_expr hm rfl) fun D σ H ⟨gb, g, ρ, st, m, l, n, o⟩ => by
    refine ⟨g, ρ, st, m, Out.imp (OutS.go o l) fun x st1 g1 H1 l1 m1 q v rx => ?_⟩
    by_cases hr : isLR st1 x = true
    rotate_left
    · rw [if_neg hr] at q
      exact q.elim
    rw [if_pos hr] at q
    obtain ⟨r, ds, ex, h1⟩ := isLR_of hr
    subst ex
    obtain ⟨p, vs, ev, gp, hp, rr⟩ := sto_lst (ρ := ρ) (σ := σ) (.of_rep rx) m1 h1
    subst ev
    refine ⟨.inl ⟨rfl, vs, .of hp⟩, g1, ρ, st1, m1, Out.imp (OutS.go q (l.trans l1)) fun d st2 g2 H2 l2 m2 q2 w rw1 => ?_⟩
    obtain ⟨g3, l3, m3, r3⟩ := kept rw1 m2 l2
    have q3 : OutS T nm X.K W gb D (match apprD (.ref r) (fz d) st2 with
      | some st => F.nx ρ st
      | none => .no) := q2
    cases h2 : st2[r]? with
    | none => simp only [apprD, h2] at q3; exact q3.elim
    | some ob =>
      cases ob with
      | lst es =>
        by_cases hl : es.length < LINE
        · simp only [apprD, h2, if_pos hl] at q3
          obtain ⟨p', vs', ev', gp', hp', rr'⟩ := sto_lst (ρ := ρ) (σ := σ) ((LkR.of_rep rx).le l3) m3 h2
          cases ev'
          refine ⟨p, vs', w, rfl, rfl, hp', by rw [← rr'.len]; exact line_lt hl, ?_⟩
          exact q3 g3 σ _ ((l.trans l1).trans l3) (m3.sto_upd gp' (rr'.append (.cons r3 .nil)))
        · simp only [apprD, h2, if_neg hl] at q3
          exact q3.elim
      | _ => simp only [apprD, h2] at q3; exact q3.elim
end
end Snd
set_option Elab.async false
set_option linter.all false
set_option maxRecDepth 100000
/-! SndA: own errors whose __init__ says super().__init__(text), then sets its fields. -/
namespace PySem
namespace OwnX
open PySem.W PySem.Calls PyProof.Rows PySem.HandSPX
/-- the text that super().__init__ is given -/
inductive TextE : Bool → List Str → Expr → Prop where
  | con (x : Str) (k : Nat) (p : Pos) (fs : List Str) (h : x.length ≤ 1000) : TextE false fs (.Constant (.str x) k p)
  | cat (x : Str) (k : Nat) (p p2 p3 : Pos) (f : Str) (fs : List Str) (h : x.length ≤ 1000) : TextE true (f :: fs) (.BinOp (.Constant (.str x) k p) .Add (.Name f p2) p3)
/-- self.f = f, one behind another -/
inductive Asg : List Str → List Stmt → Prop where
  | nil : Asg [] []
  | cons (f : Str) (p1 p2 p3 p4 : Pos) {fs : List Str} {b : List Stmt} (h : Asg fs b) : Asg (f :: fs) (.Assign [.Attribute (.Name "self" p1) f p2] (.Name f p3) p4 :: b)
theorem TextE.star {c : Bool} {fs : List Str} {e : Expr} (h : TextE c fs e) (env : Env) : starEach [e] env = [(false, eval e env)] := by
  cases h <;> rfl
theorem super_call {p0 p1 p2 p3 : Pos} {e : Expr} {env : Env} (hl : (p2.endLine == p3.line) = true) (hs : ∀ env, starEach [e] env = [(false, eval e env)]) : eval (.Call (.Attribute (.Call (.Name "super" p0) [] [] p1) "__init__" p2) [e] [] p3) env = (do
    let ov ← attributeBase (.Call (.Name "super" p0) [] [] p1) "__init__" env (eval (.Call (.Name "super" p0) [] [] p1) env)
    standAt p2.atName
    let (f, first) ← holding [ov] (getMethod ov "__init__" (L2.plainOf (.Call (.Name "super" p0) [] [] p1) env))
    callWith p3 f first (backTo p3 (starEach [e] env)) []) := by
  rw [arm_eval_Call]
  have hf : methodCallForm [e].length (backTo p3 (starEach [e] env)) (backToKw p3 (keywordEach [] env)) = true := by
    rw [hs]
    rfl
  refine congrArg _ (funext fun ov => ?_)
  refine congrArg _ (funext fun _ => ?_)
  exact L2.mcall_line hf hl
structure Scp (fs : List Str) (scope : Scope) : Prop where
  kind : scope.kind = .function
  self : scope.names.lookup ("self" : Str) = some .local
  fld : ∀ f ∈ fs, scope.names.lookup f = some .local
  sup : scope.names.lookup ("super" : Str) = some .globalImplicit
  cls : scope.names.lookup ("__class__" : Str) = some .free
  nocell : ∀ x ∈ scope.names, x.2 ≠ .cell
  co : scope.isCoroutine = false
  gen : scope.isGenerator = false
structure OwnX (prog : Program) (K : Frag) (C fI : Addr) (cat : Bool) (fs : List Str) : Prop where
  cls : ∃ nm q N bs bm sn sub ab col dd k0 k1 k2 k3 k5, K.lookup C = some (excClassObj nm q C N bs bm true sn sub ab col dd k0 k1 k2 k3 k5 "ValueError.__new__") ∧ refsVE bm = true ∧ alongIn K "__init__" bm = some (some (.builtin "ValueError.__init__"))
  sa : findIn K (.ref C) "__setattr__" = some (some (.builtin "object.__setattr__"))
  iC : findIn K (.ref C) "__init__" = some (some (.ref fI))
  tC : typeIn K (.ref fI) = some (.type "function")
  kC : keepIn K (.ref C) = true
  exC : subIn K (.ref C) (.type "BaseException") = some true
  veC : subIn K (.ref C) (.type "ValueError") = some true
  meC : mroIn K C (.ref C) = some true
  tyC : typeIn K (.ref C) = some (.type "type")
  noN : ∀ f ∈ fs, findIn K (.ref C) f = some none
  nd : fs.Nodup
  few : fs.length ≤ 20
  nsf : ("self" : Str) ∉ fs
  dbg : ∀ f ∈ fs, (f == ("__debug__" : Str)) = false
  any : nsIn K cStatics "thirdparty.any" = some none
  sup : nsIn K mainGlobals "super" = some none
  top : (prog.main.scope.names.lookup ("super" : Str)).isSome = false
  fn : ∃ (oc : Value) (od : Option Addr) (osl : Array (Option Value)) (qual : Str) (params : Arguments) (te : Expr) (b : List Stmt) (scope : Scope) (dV kV doc pm : Value) (an : Option Addr) (cda : Addr) (ct : Value) (cc : Addr) (p0 p1 p2 p3 p4 : Pos)
    (ccl : Value) (cdd : Option Addr) (cvs : Array Value) (ccs : Array (Option Value)) (file : Str) (tf : Tok) (cl : Value) (cld : Option Addr) (csl : Array (Option Value)) (cdD : ClassData) (ar : Arg),
    K.lookup fI = some ⟨oc, od, .func (ksFn "__init__" qual params (.Expr (.Call (.Attribute (.Call (.Name "super" p0) [] [] p1) "__init__" p2) [te] [] p3) p4 :: b) scope dV kV doc pm an (.ref cda) ct cc), osl⟩ ∧
    codeIn K (.ref cda) qual = true ∧ TextE cat fs te ∧ Asg fs b ∧ Scp fs scope ∧ K.lookup cda = some ⟨ccl, cdd, .fields cvs, ccs⟩ ∧ cvs[2]? = some (.str file tf) ∧ ((prog.main.file : Str) == file) = true ∧
    K.lookup cc = some ⟨cl, cld, .cell (some (.ref C)), csl⟩ ∧ clsIn K C = some cdD ∧ (params.posonlyargs ++ params.args).head? = some ar ∧ ar.arg = ("self" : Str) ∧ (p2.endLine == p3.line) = true ∧
    (∀ us : List Value, us.length = fs.length + 1 → bindArgs (ksFn "__init__" qual params (.Expr (.Call (.Attribute (.Call (.Name "super" p0) [] [] p1) "__init__" p2) [te] [] p3) p4 :: b) scope dV kV doc pm an (.ref cda) ct cc) ⟨us, []⟩ = pure ((("self" : Str) :: fs).zip us))
/-- what __init__ leaves of a fresh exception at x -/
structure InitEnd (h h' : Heap) (x C dx t1 : Addr) (m : Str → Option Value) : Prop where
  keep : ∀ b o, b ≠ x → h.get? b = some o → h'.get? b = some o
  obj : h'.get? x = some { cls := .ref C, dict := some dx, data := .fields #[.ref t1, .none, .none, .none, .bool false, .none] }
  dbig : h.objs.size ≤ dx
  dne : dx ≠ x
  ns : h'.Ns1 dx m
section
variable {prog : Program} {w : World} {A : Around} {E : Value → Shared → Prop} {h : Heap} {g : Array GenState} {d : Drawn} {t : Nat} {os : OsState}
variable {nm q : Str} {C N : Addr} {bs bm : List Value} {hdct : Bool} {sn : List Str} {sub : List Value} {ab : Bool} {col : Option Bool} {dd : Option Addr} {k0 k1 k2 k3 k5 : Option Value}
theorem call_mw {u e t0 : Addr} {rest : List Value} {Q : Value → Shared → Prop}
    (hC : h.get? C = some (excClassObj nm q C N bs bm hdct sn sub ab col dd k0 k1 k2 k3 k5 "ValueError.__new__")) (he : h.get? e = some (excO C t0)) (hu : KxsAt "ValueError.__init__" u e h) (hrest : rest.length ≤ sizeLine)
    (hq : ∀ h' t1, (∀ b o, b ≠ e → h.get? b = some o → h'.get? b = some o) → h'.get? e = some (excO C t1) → Q .none ⟨h', g, d, t, os⟩) :
    wpAny (model prog w) A (call (.ref u) rest) Q E ⟨h, g, d, t, os⟩ := by
  unfold KxsAt at hu
  refine wpAny_call (codeAny_of_tree ?_)
  show wpAny _ A.in1 (callAny (.ref u) ⟨rest, []⟩) _ _ _
  simp only [callAny]
  refine wpAny_bind (wpAny_load hu ?_)
  simp only [kxs_mw, show (Value.type "method-wrapper" == Value.type "method" || Value.type "method-wrapper" == Value.type "builtin_function_or_method" || Value.type "method-wrapper" == Value.type "method-wrapper") = true by decide, if_true]
  refine W.KFB.if_so (by decide) ?_
  refine wpAny_bind (ESX.check_bound F.excBase_ValueError hC he rfl ?_)
  refine wpAny_bind (wpAny_pure (wpAny_pure ?_))
  refine ⟨Code.quiet_builtin _ (by decide +kernel), codeAny_builtin F.excBase_ValueError.initEntry ?_⟩
  rw [Around.under_plainId F.excBase_ValueError.init.plain _]
  wp_walk
  refine hq _ h.objs.size (fun b o hb ho => ?_) ?_
  · rw [Heap.get?_update_other _ _ (Ne.symm hb)]
    exact Heap.get?_push_of_some _ ho
  · rw [Heap.get?_update_self _ (Heap.get?_push_of_some _ he) rfl]
    rfl
end
section
variable {prog : Program} {w : World} {A : Around} {R : Result → Shared → Prop} {s : Shared} {K : Frag} {C fI : Addr} {cat : Bool} {fs : List Str}
theorem ns1_ns {h : Heap} {a : Addr} {m : Str → Option Value} (n : h.Ns1 a m) : h.Ns a m := n.ns
/-- one field behind another, the dict stands -/
theorem asgs_old {env : Env} {E : Value → Shared → Prop} {x dx t1 : Addr} {L : Addr} {mL : Str → Option Value} {bm : List Value} {nm q : Str} {N : Addr} {bs : List Value} {sn : List Str} {sub : List Value} {ab : Bool} {col : Option Bool} {dd : Option Addr} {k0 k1 k2 k3 k5 : Option Value} {Q : Flow → Shared → Prop}
    (hC : K.lookup C = some (excClassObj nm q C N bs bm true sn sub ab col dd k0 k1 k2 k3 k5 "ValueError.__new__")) (hbm : refsVE bm = true) (sa : findIn K (.ref C) "__setattr__" = some (some (.builtin "object.__setattr__")))
    (hk : env.scope.kind = .function) (hself : env.kindOf ("self" : Str) = some .local) (eL : env.locals = L) (hms : mL "self" = some (.ref x)) (hnx : K.lookup x = none) (hLx : L ≠ x) :
    ∀ (fs : List Str) (b : List Stmt) (us : List Value) (s : Shared) (m : Str → Option Value) (nl : List Str), Asg fs b → (∀ f ∈ fs, env.kindOf f = some .local) → (∀ f ∈ fs, (f == ("__debug__" : Str)) = false) → (∀ f ∈ fs, findIn K (.ref C) f = some none) → fs.length = us.length → (∀ p ∈ fs.zip us, mL p.1 = some p.2) → fs.Nodup → nl.length + fs.length ≤ 1000 →
      K.In s.heap → s.heap.Ns L mL → s.heap.get? x = some { cls := .ref C, dict := some dx, data := .fields #[.ref t1, .none, .none, .none, .bool false, .none] } → s.heap.Ns1 dx m → Within m nl → dx ≠ x → dx ≠ L → K.lookup dx = none →
      (∀ h' tk, (∀ b o, b ≠ dx → s.heap.get? b = some o → h'.get? b = some o) → h'.get? x = some { cls := .ref C, dict := some dx, data := .fields #[.ref t1, .none, .none, .none, .bool false, .none] } → h'.Ns1 dx (fun y => match (fs.zip us).reverse.lookup y with | some v => some v | none => m y) → Q .next { s with heap := h', toks := tk }) →
      wpAny (model prog w) A (execs b env) Q E s
  | [], _, us, s, m, nl, .nil, _, _, _, _, _, _, _, X, hn, hx, hd, _, _, _, _, hq => by
    refine wpAny_execs_nil ?_
    obtain ⟨hp, g, d, t, os⟩ := s
    exact hq hp t (fun _ _ _ e => e) hx hd
  | f :: fs, _, [], s, m, nl, .cons _ p1 p2 p3 p4 hb, _, _, _, hl, _, _, _, X, hn, hx, hd, _, _, _, _, hq => by cases hl
  | f :: fs, _, u :: us, s, m, nl, .cons _ p1 p2 p3 p4 (b := b) hb, hloc, hdb, hno, hl, hm, nd, hz, X, hn, hx, hd, hw, ne, neL, hnd, hq => by
    refine wpAny_execs_cons (plainObj_wpAny_Assign_Attribute ?_)
    refine wpAny_Name (wpAny_loadName_local hk (hloc f List.mem_cons_self) (by rw [eL]; exact hn) (hm (f, u) List.mem_cons_self) ?_) (hdb f List.mem_cons_self)
    refine wpAny_Name (wpAny_loadName_local hk hself (by rw [eL]; exact hn) hms ?_)
    have hcl : clsIn K C = some { name := nm, bases := bs, mro := .ref C :: bm, ns := N, qualname := q, hasDict := true, slotNames := sn, subclasses := sub, abstract := ab, collection := col, hasDel := false } := by unfold clsIn; rw [hC] <;> rfl
    obtain ⟨oD, _, _, hoD, _, _⟩ := hd.count hw
    obtain ⟨hp, g, d, t, os⟩ := s
    refine set_plain X (ox := { cls := .ref C, dict := some dx, data := .fields #[.ref t1, .none, .none, .none, .bool false, .none] }) (od := some oD) ⟨hx, rfl, rfl, hoD⟩ sa ?_
    refine PySem.OEX.osa_old X hx hd hw (by simp at hz; omega) hcl (show refsVE (.ref C :: bm) = true from hbm) rfl (hno f List.mem_cons_self) fun h' tk' k hn' => ?_
    have keepN : ∀ {a : Addr} {o : Obj}, a ≠ dx → hp.get? a = some o → h'.get? a = some o := fun n e => k _ _ n e
    refine asgs_old hC hbm sa hk hself eL hms hnx hLx fs b us ⟨h', g, d, tk', os⟩ (fun y => if y = f then some u else m y) (f :: nl) hb (fun f hf => hloc f (List.mem_cons_of_mem _ hf)) (fun f hf => hdb f (List.mem_cons_of_mem _ hf)) (fun f hf => hno f (List.mem_cons_of_mem _ hf)) (by simpa using hl) (fun p hp => hm p (List.mem_cons_of_mem _ hp)) (List.nodup_cons.mp nd).2 (by simp at hz ⊢; omega)
      (fun a o e => k _ _ (fun z => by rw [z, hnd] at e; cases e) (X a o e)) (hn.at fun o e => k _ _ (Ne.symm neL) e) (k _ _ (Ne.symm ne) hx) hn' (Within.cons f u hw) ne neL hnd fun h2 tk2 k2 hx2 hd2 => ?_
    refine hq h2 tk2 (fun b o n e => k2 b o n (k b o n e)) hx2 ?_
    have e : (fun y => match ((f :: fs).zip (u :: us)).reverse.lookup y with | some v => some v | none => m y) = fun y => match (fs.zip us).reverse.lookup y with | some v => some v | none => if y = f then some u else m y := by
      funext y
      show (match List.lookup y ((f, u) :: fs.zip us).reverse with | some v => some v | none => m y) = _
      rw [List.reverse_cons, List.lookup_append]
      cases List.lookup y (fs.zip us).reverse with
      | some v => rfl
      | none =>
        by_cases z : y = f
        · subst z
          simp [List.lookup]
        · have z2 : (y == f) = false := by simpa using z
          simp [List.lookup, z2, z]
    rw [e]
    exact hd2
theorem zip_mem_look : ∀ {fs : List Str} {us : List Value} {p : Str × Value}, fs.Nodup → p ∈ fs.zip us → (fs.zip us).reverse.lookup p.1 = some p.2
  | [], _, _, _, h => by simp at h
  | _ :: _, [], _, _, h => by simp at h
  | f :: fs, u :: us, p, nd, h => by
    show List.lookup p.1 ((f, u) :: fs.zip us).reverse = some p.2
    rw [List.reverse_cons, List.lookup_append]
    rcases List.mem_cons.mp (show p ∈ (f, u) :: fs.zip us from h) with e | h
    · subst e
      have z : List.lookup f (fs.zip us).reverse = none := by
        rw [List.lookup_eq_none_iff]
        intro q hq
        have h2 := List.of_mem_zip (List.mem_reverse.mp hq)
        exact bne_iff_ne.mpr (fun e : f = q.1 => (List.nodup_cons.mp nd).1 (e ▸ h2.1))
      rw [show List.lookup (f, u).1 (fs.zip us).reverse = none from z]
      simp [List.lookup]
    · have z2 := zip_mem_look (List.nodup_cons.mp nd).2 h
      simp only [z2, Option.some_or]
theorem interactive_fn {env : Env} (h : env.scope.kind = .function) : interactive env = false := by
  unfold interactive
  rw [h]
  rfl
theorem own_init (T : OwnX prog K C fI cat fs) {mg mb : Str → Option Value} {x t0 : Addr} {us : List Value} (X : K.In s.heap) (hlim : s.heap.NoLimit) (G : s.heap.Ns mainGlobals mg) (hb : s.heap.Ns builtinsNs mb) (hbs : ∀ x : Str, x ≠ "__name__" → mb x = bootBuiltins x)
    (hx : s.heap.get? x = some (excO C t0)) (hnx : K.lookup x = none) (hroom : A.depth < recursionLimit) (hl : us.length = fs.length) (hne : fs ≠ []) (hcat : cat = true → ∃ z tk r, us = .str z tk :: r ∧ z.length ≤ 10000000)
    (hq : ∀ h' tk dx t1, InitEnd s.heap h' x C dx t1 (fun y => (fs.zip us).reverse.lookup y) → R (.ok (.ret .none)) { s with heap := h', toks := tk }) :
    codeAny (model prog w) A (.call (.ref fI) ⟨.ref x :: us, []⟩) R s := by
  obtain ⟨oc, od, osl, qual, params, te, b, scope, dV, kV, doc, pm, an, cda, ct, cc, p0, p1, p2, p3, p4, ccl, cdd, cvs, ccs, file, tf, cl, cld, csl, cdD, ar, ho, hcd, hte, hasg, hsc, hcda, hfile, hfe, hcell, hclsD, har, hare, hln, hbind⟩ := T.fn
  obtain ⟨nm, q, N, bs, bm, sn, sub, ab, col, dd, k0, k1, k2, k3, k5, hC, hbm, hal⟩ := T.cls
  have hcl : clsIn K C = some { name := nm, bases := bs, mro := .ref C :: bm, ns := N, qualname := q, hasDict := true, slotNames := sn, subclasses := sub, abstract := ab, collection := col, hasDel := false } := by unfold clsIn; rw [hC] <;> rfl
  refine ks_codeAny_call_defAt (binds := (("self" : Str), Value.ref x) :: fs.zip us) hroom (X _ _ ho) rfl hlim (codeRec_of X hcd) rfl (BindsTo.of_eq (by
    have z := hbind (.ref x :: us) (by simp [hl])
    exact z)) hsc.nocell (fun y hy => ?_) (fun h₁ hns k => ?_) hsc.co hsc.gen hsc.kind
  · rcases List.mem_cons.mp hy with e | hy
    · rw [e]
      exact hsc.self
    · exact hsc.fld _ (List.of_mem_zip hy).1
  have X1 : K.In h₁ := X.keeps k
  have hx1 := k _ _ hx
  have nd1 : ((("self" : Str)) :: fs).Nodup := List.nodup_cons.mpr ⟨T.nsf, T.nd⟩
  have look : ∀ p ∈ (("self" : Str) :: fs).zip (.ref x :: us), ((("self" : Str), Value.ref x) :: fs.zip us).reverse.lookup p.1 = some p.2 := fun p hp => zip_mem_look (us := .ref x :: us) nd1 hp
  have lself : ((("self" : Str), Value.ref x) :: fs.zip us).reverse.lookup ("self" : Str) = some (.ref x) := look (("self" : Str), .ref x) List.mem_cons_self
  have hxL : s.heap.objs.size ≠ x := Nat.ne_of_gt (Heap.lt_size hx)
  -- super().__init__(text)
  refine ks_wpAt_execs_cons (ks_wpAt_Expr_any (ks_wpAt_MethodCall ?_ (super_call hln hte.star)) (interactive_fn hsc.kind) rfl)
  obtain ⟨oD, hD1, hD2⟩ : ∃ oD, h₁.get? C = some oD ∧ oD.data = .cls { name := nm, bases := bs, mro := .ref C :: bm, ns := N, qualname := q, hasDict := true, slotNames := sn, subclasses := sub, abstract := ab, collection := col, hasDel := false } := ⟨_, X1 _ _ hC, rfl⟩
  refine ks_wpAt_super_base hsc.sup hsc.cls (by decide) rfl (X1 _ _ ho) rfl har rfl (X1 _ _ hcda) rfl hfile hfe T.top ?_
  refine ks_loadName_global hsc.kind hsc.sup (loadGlobal_builtin (G.keeps k) (mg_none_of X1 (G.keeps k) T.sup) (hb.keeps k) ((hbs _ (by decide)).trans PyProof.Rows.Boot.«super») ⟨rfl, ?_⟩)
  refine wpAny_loadName_free hsc.kind hsc.cls rfl ⟨_, X1 _ _ hcell, rfl⟩ ?_
  rw [hare]
  refine wpAny_loadName_local hsc.kind hsc.self hns lself ?_
  refine ks_wpAny_isType_cls hD1 hD2 ⟨rfl, ?_⟩
  have I1 : PySem.W.InstAt h₁ x (excO C t0) C none := ⟨hx1, rfl, rfl, trivial⟩
  refine ks_wpAny_call_super hD1 hD2 hx1 rfl (fun c e => by cases e) (looks_mroIn X1 T.meC) fun h2 hso k2 => ?_
  have X2 : K.In h2 := X1.keeps k2
  have hx2 := k2 _ _ hx1
  have I2 : PySem.W.InstAt h2 x (excO C t0) C none := ⟨hx2, rfl, rfl, trivial⟩
  have hmr : Looks (model prog w) h2 (mroOf (.ref C)) (.ref C :: bm) := (looks_clsIn X2 hcl).andThen .now
  refine kxs_getMethod kxs_ValueError hso (looks_opaque X2 T.any) hmr (ESX.drop_own C bm) X2 hal (I2.type.andThen (looks_subIn X2 T.veC)) (fun z => by rw [z] at hx1; rw [X1 _ _ hC] at hx1; cases hx1) (by decide) ?_
  have ns2 : Heap.Ns (h2.push (kxs_mw "ValueError.__init__" x)) s.heap.objs.size _ := (hns.keeps k2).keeps fun b o e => Heap.get?_push_of_some _ e
  have k3 : ∀ b o, h2.get? b = some o → (h2.push (kxs_mw "ValueError.__init__" x)).get? b = some o := fun b o e => Heap.get?_push_of_some _ e
  have hu : (h2.push (kxs_mw "ValueError.__init__" x)).get? h2.objs.size = some (kxs_mw "ValueError.__init__" x) := Heap.get?_push_at rfl rfl
  have hx3 := k3 _ _ hx2
  -- the rest, behind it
  have rest : ∀ (h4 : Heap) (t1 : Addr) (tk : Tok), (∀ b o, b ≠ x → (h2.push (kxs_mw "ValueError.__init__" x)).get? b = some o → h4.get? b = some o) → h4.get? x = some (excO C t1) → wpAny (model prog w) (A.deeper (callEnv (ksFn "__init__" qual params (.Expr (.Call (.Attribute (.Call (.Name "super" p0) [] [] p1) "__init__" p2) [te] [] p3) p4 :: b) scope dV kV doc pm an (.ref cda) ct cc) s.heap.objs.size fI))
      (execs b (callEnv (ksFn "__init__" qual params (.Expr (.Call (.Attribute (.Call (.Name "super" p0) [] [] p1) "__init__" p2) [te] [] p3) p4 :: b) scope dV kV doc pm an (.ref cda) ct cc) s.heap.objs.size fI)) (fun f s' => R (.ok (.ret (match f with | .ret v => v | _ => .none))) s')
      (fun e s' => wpAny (model prog w) (A.deeper (callEnv (ksFn "__init__" qual params (.Expr (.Call (.Attribute (.Call (.Name "super" p0) [] [] p1) "__init__" p2) [te] [] p3) p4 :: b) scope dV kV doc pm an (.ref cda) ct cc) s.heap.objs.size fI)) (leaving (callEnv (ksFn "__init__" qual params (.Expr (.Call (.Attribute (.Call (.Name "super" p0) [] [] p1) "__init__" p2) [te] [] p3) p4 :: b) scope dV kV doc pm an (.ref cda) ct cc) s.heap.objs.size fI) e) (fun _ s'' => R (.error e) s'') (fun e' s'' => R (.error e') s'') s') ⟨h4, s.gens, s.drawn, tk, s.os⟩ := fun h4 t1 tk k4 hx4 => by
    have X4 : K.In h4 := fun a o e => k4 a o (fun z => by rw [z, hnx] at e; cases e) (k3 _ _ (X2 a o e))
    have ns4 : Heap.Ns h4 s.heap.objs.size _ := ns2.at fun o e => k4 _ _ hxL e
    cases hasg with
    | nil => exact absurd rfl hne
    | @cons f q1 q2 q3 q4 fs' b' hb' =>
      cases us with
      | nil => simp at hl
      | cons u us' =>
        refine wpAny_execs_cons (plainObj_wpAny_Assign_Attribute ?_)
        refine wpAny_Name (wpAny_loadName_local hsc.kind (hsc.fld f List.mem_cons_self) ns4 (look (f, u) (List.mem_cons_of_mem _ List.mem_cons_self)) ?_) (T.dbg f List.mem_cons_self)
        refine wpAny_Name (wpAny_loadName_local hsc.kind hsc.self ns4 lself ?_)
        refine set_plain X4 (ox := excO C t1) (od := none) ⟨hx4, rfl, rfl, trivial⟩ T.sa ?_
        refine exc_osa X4 hx4 hcl (show refsVE (.ref C :: bm) = true from hbm) rfl (T.noN f List.mem_cons_self) fun h5 tk5 dx k5 dn dne hx5 hn5 => ?_
        have hs4 : s.heap.objs.size < h4.objs.size := ns4.lt
        have X5 : K.In h5 := fun a o e => k5 a o (fun z => by rw [z, hnx] at e; cases e) (X4 a o e)
        have ndx : K.lookup dx = none := by
          cases e : K.lookup dx with
          | none => rfl
          | some o => exact absurd (Heap.lt_size (X4 _ _ e)) (Nat.not_lt.mpr dn)
        refine asgs_old (K := K) (t1 := t1) hC hbm T.sa (by exact hsc.kind) (by exact hsc.self) rfl lself hnx hxL fs' b' us' ⟨h5, s.gens, s.drawn, tk5, s.os⟩ (fun y => if y = f then some u else none) [f] hb' (fun g hg => hsc.fld g (List.mem_cons_of_mem _ hg)) (fun g hg => T.dbg g (List.mem_cons_of_mem _ hg)) (fun g hg => T.noN g (List.mem_cons_of_mem _ hg)) (by simpa using hl.symm) (fun p hp => look p (List.mem_cons_of_mem _ (List.mem_cons_of_mem _ hp))) (List.nodup_cons.mp T.nd).2 (by have := T.few; simp at this ⊢; omega)
          X5 (ns4.at fun o e => k5 _ _ hxL e) hx5 hn5 (Within.cons f u Within.nil) dne (Nat.ne_of_gt (Nat.lt_of_lt_of_le hs4 dn)) ndx fun h6 tk6 k6 hx6 hn6 => ?_
        refine hq h6 tk6 dx t1 ⟨fun b o hb e => ?_, hx6, Nat.le_of_lt (Nat.lt_of_lt_of_le hs4 dn), dne, ?_⟩
        · have h4b := k4 b o hb (k3 _ _ (k2 _ _ (k _ _ e)))
          exact k6 b o (Nat.ne_of_lt (Nat.lt_of_lt_of_le (Heap.lt_size h4b) dn)) (k5 b o hb h4b)
        · have e : (fun y => match (fs'.zip us').reverse.lookup y with | some v => some v | none => if y = f then some u else none) = fun y => ((f :: fs').zip (u :: us')).reverse.lookup y := by
            funext y
            show _ = List.lookup y ((f, u) :: fs'.zip us').reverse
            rw [List.reverse_cons, List.lookup_append]
            cases List.lookup y (fs'.zip us').reverse with
            | some v => rfl
            | none =>
              by_cases z : y = f
              · subst z
                simp [List.lookup]
              · have z2 : (y == f) = false := by simpa using z
                simp [List.lookup, z2, z]
          rw [← e]
          exact hn6
  -- the text, the call
  have after : ∀ (v : Value) (tk : Tok), wpAny (model prog w) (A.deeper (callEnv (ksFn "__init__" qual params (.Expr (.Call (.Attribute (.Call (.Name "super" p0) [] [] p1) "__init__" p2) [te] [] p3) p4 :: b) scope dV kV doc pm an (.ref cda) ct cc) s.heap.objs.size fI)) (call (.ref h2.objs.size) [v])
      (fun _ s' => PySem.wpAt (model prog w) (A.deeper (callEnv (ksFn "__init__" qual params (.Expr (.Call (.Attribute (.Call (.Name "super" p0) [] [] p1) "__init__" p2) [te] [] p3) p4 :: b) scope dV kV doc pm an (.ref cda) ct cc) s.heap.objs.size fI)) (.func (.Expr (.Call (.Attribute (.Call (.Name "super" p0) [] [] p1) "__init__" p2) [te] [] p3) p4 :: b) (callEnv (ksFn "__init__" qual params (.Expr (.Call (.Attribute (.Call (.Name "super" p0) [] [] p1) "__init__" p2) [te] [] p3) p4 :: b) scope dV kV doc pm an (.ref cda) ct cc) s.heap.objs.size fI)) (execs b (callEnv (ksFn "__init__" qual params (.Expr (.Call (.Attribute (.Call (.Name "super" p0) [] [] p1) "__init__" p2) [te] [] p3) p4 :: b) scope dV kV doc pm an (.ref cda) ct cc) s.heap.objs.size fI)) (fun f s' => R (.ok (.ret (match f with | .ret v => v | _ => .none))) s')
        (fun e s' => wpAny (model prog w) (A.deeper (callEnv (ksFn "__init__" qual params (.Expr (.Call (.Attribute (.Call (.Name "super" p0) [] [] p1) "__init__" p2) [te] [] p3) p4 :: b) scope dV kV doc pm an (.ref cda) ct cc) s.heap.objs.size fI)) (leaving (callEnv (ksFn "__init__" qual params (.Expr (.Call (.Attribute (.Call (.Name "super" p0) [] [] p1) "__init__" p2) [te] [] p3) p4 :: b) scope dV kV doc pm an (.ref cda) ct cc) s.heap.objs.size fI) e) (fun _ s'' => R (.error e) s'') (fun e' s'' => R (.error e') s'') s') s')
      (fun e s' => wpAny (model prog w) (A.deeper (callEnv (ksFn "__init__" qual params (.Expr (.Call (.Attribute (.Call (.Name "super" p0) [] [] p1) "__init__" p2) [te] [] p3) p4 :: b) scope dV kV doc pm an (.ref cda) ct cc) s.heap.objs.size fI)) (leaving (callEnv (ksFn "__init__" qual params (.Expr (.Call (.Attribute (.Call (.Name "super" p0) [] [] p1) "__init__" p2) [te] [] p3) p4 :: b) scope dV kV doc pm an (.ref cda) ct cc) s.heap.objs.size fI) e) (fun _ s'' => R (.error e) s'') (fun e' s'' => R (.error e') s'') s')
      ⟨h2.push (kxs_mw "ValueError.__init__" x), s.gens, s.drawn, tk, s.os⟩ := fun v tk =>
    call_mw ((X2.keeps k3) _ _ hC) hx3 hu (by rw [sizeLine_eq]; exact (by decide : 1 ≤ 16777216)) fun h4 t1 k4 hx4 => wpAt_of_wpAny (rest h4 t1 tk k4 hx4)
  refine kxs_callWith (i := "ValueError.__init__") (x := x) (by cases hte <;> rfl) ?_
  cases hte with
  | con z kk pp _ hz => exact evalArgs_plain (spliced_cons (Constant_str (k := kk) (pos := pp) (spliced_nil ⟨hu, after _ _⟩)))
  | @cat z kk pp pp2 pp3 f fs' hz =>
    obtain ⟨y, ty, r, eu, hy⟩ := hcat rfl
    subst eu
    refine evalArgs_plain (spliced_cons (wpAny_BinOp (pos := pp3) (Constant_str (k := kk) (pos := pp) (wpAny_Name (pos := pp2) (wpAny_loadName_local hsc.kind (hsc.fld f List.mem_cons_self) ns2 (look (f, .str y ty) (List.mem_cons_of_mem _ List.mem_cons_self)) ?_) (T.dbg f List.mem_cons_self)))))
    exact add_str (fun t' tk => spliced_nil ⟨hu, after _ _⟩) (by rw [sizeLine_eq]; omega)
end
end OwnX
end PySem

namespace PySem
namespace OwnX
open PySem.W PySem.Calls PyProof.Rows PySem.HandSPX
/-- a made error -/
structure OwnMade (h h' : Heap) (e C d : Addr) (m : Str → Option Value) : Prop where
  keep : ∀ b o, h.get? b = some o → h'.get? b = some o
  new : h.objs.size ≤ e
  obj : ∃ oe vs, h'.get? e = some oe ∧ oe.cls = .ref C ∧ oe.dict = some d ∧ oe.data = .fields vs ∧ vs[1]? = some .none
  dbig : h.objs.size ≤ d
  dne : d ≠ e
  ns : h'.Ns1 d m
section
variable {prog : Program} {w : World} {A : Around} {R : Result → Shared → Prop} {s : Shared} {K : Frag} {C fI : Addr} {cat : Bool} {fs : List Str}
theorem own_made (T : OwnX prog K C fI cat fs) {mg mb : Str → Option Value} {us : List Value} (X : K.In s.heap) (hlim : s.heap.NoLimit) (G : s.heap.Ns mainGlobals mg) (hb : s.heap.Ns builtinsNs mb) (hbs : ∀ x : Str, x ≠ "__name__" → mb x = bootBuiltins x)
    (hroom : A.depth + 1 < recursionLimit) (hl : us.length = fs.length) (hne : fs ≠ []) (hcat : cat = true → ∃ z tk r, us = .str z tk :: r ∧ z.length ≤ 10000000)
    (hq : ∀ h' tk e d, OwnMade s.heap h' e C d (fun y => (fs.zip us).reverse.lookup y) → R (.ok (.ret (.ref e))) { s with heap := h', toks := tk }) :
    codeAny (model prog w) A (.call (.ref C) ⟨us, []⟩) R s := by
  obtain ⟨nm, q, N, bs, bm, sn, sub, ab, col, dd, k0, k1, k2, k3, k5, hC, hbm, _⟩ := T.cls
  obtain ⟨hp, g, dr, tk, os⟩ := s
  have k : ∀ b o, hp.get? b = some o → ((hp.push (kdv_tup us)).push (excO C hp.objs.size)).get? b = some o := fun b o e => Heap.get?_push_of_some _ (Heap.get?_push_of_some _ e)
  have hget : ((hp.push (kdv_tup us)).push (excO C hp.objs.size)).get? (hp.objs.size + 1) = some (excO C hp.objs.size) := by heap_get
  have hnx : K.lookup (hp.objs.size + 1) = none := by
    cases e : K.lookup (hp.objs.size + 1) with
    | none => rfl
    | some o =>
      have z : hp.get? (hp.objs.size + 1) = some o := X _ _ e
      exact absurd (Nat.lt_of_succ_lt (Heap.lt_size z)) (Nat.lt_irrefl _)
  refine call_own F.excBase_ValueError (fun X => refsVE_contains X bm hbm) (X _ _ hC) (looks_findIn X T.iC) (fun self => bind_fn X self T.tC) (by have := T.few; rw [sizeLine_eq]; omega) ?_
  refine own_init (s := ⟨(hp.push (kdv_tup us)).push (excO C hp.objs.size), g, dr, tk, os⟩) T (X.keeps k) (hlim.keeps k) (G.keeps k) (hb.keeps k) hbs hget hnx ?_ hl hne hcat fun h' tk' dx t1 ⟨k', hx, dn, dne, hns⟩ => ?_
  · show A.depth + 1 < recursionLimit
    exact hroom
  · have old : ∀ b o, hp.get? b = some o → h'.get? b = some o := fun b o e => k' b o (Nat.ne_of_lt (Nat.lt_succ_of_lt (Heap.lt_size e))) (k b o e)
    have z : hp.objs.size + 1 + 1 ≤ dx := by
      first
        | (simpa only [Heap.size_push] using dn)
        | exact dn
        | (have q := dn; rw [Heap.size_push, Heap.size_push] at q; exact q)
    exact ⟨rfl, hq h' tk' (hp.objs.size + 1) dx ⟨old, Nat.le_succ _, ⟨_, _, hx, rfl, rfl, rfl, rfl⟩, Nat.le_trans (Nat.le_trans (Nat.le_succ _) (Nat.le_succ _)) z, dne, hns⟩⟩
end
end OwnX
end PySem
namespace Snd
open PySem PySem.Spec PyProof.Rows L2 Ev
theorem look_rev {β : Type} : ∀ {fs : List Str} {us : List β} (y : Str), fs.Nodup → (fs.zip us).reverse.lookup y = (fs.zip us).lookup y
  | [], _, _, _ => rfl
  | _ :: _, [], _, _ => rfl
  | f :: fs, u :: us, y, nd => by
    show List.lookup y ((f, u) :: fs.zip us).reverse = List.lookup y ((f, u) :: fs.zip us)
    rw [List.reverse_cons, List.lookup_append, look_rev y (List.nodup_cons.mp nd).2]
    by_cases e : y = f
    · subst e
      have z : List.lookup y (fs.zip us) = none := by
        rw [List.lookup_eq_none_iff]
        intro q hq
        exact bne_iff_ne.mpr (fun e : y = q.1 => (List.nodup_cons.mp nd).1 (e ▸ (List.of_mem_zip hq).1))
      rw [z]
      simp [List.lookup]
    · have z2 : (y == f) = false := by simpa using e
      show _ = (match y == f with | true => some u | false => List.lookup y (fs.zip us))
      rw [z2]
      cases List.lookup y (fs.zip us) <;> simp [List.lookup, z2]
theorem relO_zip : ∀ {fs : List Str} {vs : List V} {us : List Value}, Vals vs us → ∀ y, RelO ((fs.zip vs).lookup y) ((fs.zip us).lookup y)
  | [], _, _, _, _ => trivial
  | _ :: _, [], [], .nil, _ => trivial
  | f :: fs, v :: vs, u :: us, .cons r t, y => by
    show RelO (match y == f with | true => some v | false => List.lookup y (fs.zip vs)) (match y == f with | true => some u | false => List.lookup y (fs.zip us))
    cases y == f with
    | true => exact r
    | false => exact relO_zip t y
/-- the classes of the errors -/
structure ErC (X : Core) (T : Tab) (nm : Nm) (c : Nat) (C : Ev.Cls) : Prop where
  keep : PySem.W.keepIn X.K (.ref (cad nm X.K c)) = true
  r1 : PySem.W.subIn X.K (.ref (cad nm X.K c)) (.type "BaseException") = some true
  r2 : PySem.W.typeIn X.K (.ref (cad nm X.K c)) = some (.type "type")
  made : (C.fields = [] ∧ PySem.W.excIn X.K (cad nm X.K c) He.veBase "ValueError.__new__" = true) ∨
    (C.fields ≠ [] ∧ ∃ fI, PySem.OwnX.OwnX X.prog X.K (cad nm X.K c) fI C.cat (fnames T nm c))
section
variable {X : Cx} {T : Tab} {nm : Nm} {W : WX} {cf : Nat → List D → Sto → R D} {pos : Pos} {k : Nat}
theorem ErC.r {c : Nat} {C : Ev.Cls} (E : ErC (co X) T nm c C) : Raises X (.ref (cad nm X.K c)) := raises_own E.r1 E.r2
def tMk (W : WX) (c : Nat) (C : Ev.Cls) (as : Es) : L2.St → Hp → XK → Prop := fun σ H Q => ∃ g ρ st, Mt T nm X.K g ρ st σ H ∧ Out T nm X.K W g ρ σ (fun ds st' g' _ => raisable C ds = true ∧ ∀ cv dd g'' H'', Le g' g'' → Mt T nm X.K g'' ρ st' σ H'' → XnR T nm X.K g'' ⟨c, ds⟩ cv dd → Q cv dd H'') (evA T cf as ρ st)
theorem fnames_len {c : Nat} {C : Ev.Cls} (hC : T.cls c = some C) : (fnames T nm c).length = C.fields.length := by
  unfold fnames
  rw [hC]
  exact List.length_map ..
/-- an own error with fields is made -/
theorem mk_own {c : Nat} {C : Ev.Cls} {x : Str} {p : Pos} {e : Expr} {es : List Expr} {as : Es} (hC : T.cls c = some C) (E : ErC (co X) T nm c C) (hf : C.fields ≠ []) (hr : Room k X.A) (hg : Gl X x) (hm : X.mg x = some (.ref (cad nm X.K c)))
    (ha : PA X (e :: es) (tA T nm X.K cf W as)) (hdb : (x == ("__debug__" : Str)) = false) (he : starEach (e :: es) X.env = (false, eval e X.env) :: starEach es X.env) (hpl : (backTo pos (starEach es X.env)).any (·.1) = false) :
    PMk X (.Call (.Name x p) (e :: es) [] pos) (tMk (X := X) (T := T) (nm := nm) (cf := cf) W c C as) := by
  intro pins s σ H Q I ⟨g, ρ, st, m, o⟩
  rcases E.made with ⟨z, _⟩ | ⟨_, fI, OX⟩
  · exact absurd z hf
  refine wpAny_Call_Name_kw (ld_glob I hg hm ?_ hdb)
  refine PySem.W.callWith_K (h₀ := X.base) I.ok.mod.kin E.keep (thn (ha.run pos pins s σ H (fun vs H1 => ∃ ds st1 g1, Reps T nm X.K g1 ds vs ∧ Mt T nm X.K g1 ρ st1 σ H1 ∧ raisable C ds = true ∧ ∀ cv dd g'' H'', Le g1 g'' → Mt T nm X.K g'' ρ st1 σ H'' → XnR T nm X.K g'' ⟨c, ds⟩ cv dd → Q cv dd H'') I
    ⟨g, ρ, st, m, Out.imp o fun ds st1 g1 H1 l1 m1 q vs r => ⟨ds, st1, g1, r, m1, q.1, q.2⟩⟩) fun us s1 ⟨vs, H1, I1, rv, ds, st1, g1, r, m1, ok, q⟩ => ⟨I1.kIn, ?_⟩) he hpl
  show wpAny _ _ (call (.ref (cad nm X.K c)) us) _ _ _
  have hlim := I1.nolimit
  obtain ⟨mb, hb1, hb2⟩ := I1.mod.blt
  obtain ⟨hp, gg, dr, tk, os⟩ := s1
  have hn : ds.length = (fnames T nm c).length := by
    have z : ds.length == C.fields.length := by
      unfold raisable at ok
      simp only [Bool.and_eq_true] at ok
      exact ok.1.2
    rw [fnames_len hC]
    exact beq_iff_eq.mp z
  have hus : us.length = (fnames T nm c).length := by rw [← rv.length, ← r.len, hn]
  refine wpAny_call (PySem.OwnX.own_made OX I1.kIn hlim (I1.mod.glob.keeps I1.bk) (hb1.keeps I1.bk) hb2 (by have := hr.dp; omega) hus ?_ ?_ fun h' tk' e d M => ?_)
  · intro z
    exact hf (List.eq_nil_of_length_eq_zero (by rw [← fnames_len (nm := nm) hC, z]; rfl))
  · intro hcat
    unfold raisable at ok
    simp only [Bool.and_eq_true, hcat, Bool.not_true, Bool.false_or] at ok
    cases ds with
    | nil => exact (by cases ok.2)
    | cons d0 ds' =>
      cases d0 with
      | str z =>
        have hz : z.length ≤ LINE := by simpa [isTxt] using ok.2
        cases r with
        | cons r0 rr =>
          cases r0
          cases rv with
          | cons u0 ur =>
            obtain ⟨t, rfl⟩ := u0
            exact ⟨_, _, _, rfl, by rw [strOf_len]; exact Nat.le_trans hz (by decide)⟩
      | _ => cases ok.2
  show MkP X pins σ Q (.ref e) ⟨h', gg, dr, tk', os⟩
  obtain ⟨oe, fv, hoe, hc, hd, hdat, h1⟩ := M.obj
  have hns := M.ns
  obtain ⟨G', g1', g2'⟩ := restrict h' fun b => decide (b ≠ e)
  have gk : ∀ b, b ≠ e → G'.get? b = h'.get? b := fun b hb => g1' b (decide_eq_true hb)
  have ge : G'.get? e = none := g2' e (by simp)
  have old : ∀ b o, hp.get? b = some o → G'.get? b = some o := fun b o q => (gk b (Nat.ne_of_lt (Nat.lt_of_lt_of_le (Heap.lt_size q) M.new))).trans (M.keep b o q)
  have ob : ObjOk X.prog X.w (upd H1 d (.xd ((fnames T nm c).zip vs))) G' d (.xd ((fnames T nm c).zip vs)) :=
    ⟨_, hns.at (fun o q => (gk d M.dne).trans q), fun f => by
      rw [look_rev f OX.nd]
      exact relO_zip rv f⟩
  have J : Inv X pins σ (upd H1 d (.xd ((fnames T nm c).zip vs))) ⟨G', gg, dr, tk', os⟩ := I1.laid (t' := tk') old M.dbig ob
  have hdn : H1 d = none := I1.hok.fresh M.dbig
  have l2 : Le g1 (put g1 d (.imm (.xd ((fnames T nm c).zip vs)))) := le_put (m1.fresh hdn)
  refine ⟨e, oe, fv, ⟨G', gg, dr, tk', os⟩, _, .ref (cad nm X.K c), some d, rfl, J, fun b o q => ?_, ge, hoe, ⟨hc, hd⟩, hdat, h1, ?_, rfl, I1.bare, E.r, ?_⟩
  · by_cases hb : b = e
    · have q' : G'.get? b = some o := q
      rw [hb, ge] at q'; cases q'
    · exact (gk b hb).symm.trans q
  · rw [upd_ne (Ne.symm M.dne)]
    exact I1.hok.fresh M.new
  · exact q _ _ _ _ l2 (m1.new hdn (.inl rfl)) ⟨rfl, .inr ⟨d, vs, rfl, put_same, by rw [← r.len, hn], r.mono l2.lim⟩⟩
/-- an error without fields -/
theorem mk_pass0 {c : Nat} {C : Ev.Cls} {x : Str} {p : Pos} (E : ErC (co X) T nm c C) (hf : C.fields = []) (hcat : C.cat = false) (hex : C.exc = true) (hg : Gl X x) (hm : X.mg x = some (.ref (cad nm X.K c))) (hdb : (x == ("__debug__" : Str)) = false) :
    PMk X (.Call (.Name x p) [] [] pos) (tMk (X := X) (T := T) (nm := nm) (cf := cf) W c C .nil) := by
  intro pins s σ H Q I ⟨g, ρ, st, m, o⟩
  rcases E.made with ⟨_, ex⟩ | ⟨z, _⟩
  · refine wpAny_Call_Name_kw (ld_glob I hg hm ?_ hdb)
    refine PySem.W.callWith_K0 I.kIn E.keep ?_
    obtain ⟨bm, N, nm', qn, bs, hdct, sn, sub, ab, col, dd, k0, k1, k2, k3, k5, mN, hC, hN, hni, TT⟩ := exc_obj I.kIn ex
    have q := Out.ok o m
    refine wpAny_call_exc_subT F.excBase_ValueError TT hC hN hni (fun h' e hm' => ?_) (by rw [sizeLine_eq]; exact (by decide : 0 ≤ 16777216))
    exact mk_of I hm' E.r (q.2 _ none g H (Le.refl g) m ⟨rfl, .inl ⟨rfl, rfl⟩⟩) (I.hok.gone hm'.new)
  · exact absurd hf z
theorem mk_pass1 {c : Nat} {C : Ev.Cls} {x y : Str} {j : Nat} {p p2 : Pos} (E : ErC (co X) T nm c C) (hf : C.fields = []) (hg : Gl X x) (hm : X.mg x = some (.ref (cad nm X.K c))) (hdb : (x == ("__debug__" : Str)) = false) :
    PMk X (.Call (.Name x p) [.Constant (.str y) j p2] [] pos) (tMk (X := X) (T := T) (nm := nm) (cf := cf) W c C .nil) := by
  rcases E.made with ⟨_, ex⟩ | ⟨z, _⟩
  · exact fun pins s σ H Q I ⟨g, ρ, st, m, o⟩ => pmk_own F.excBase_ValueError ex hm E.keep E.r hg hdb pins s σ H Q I ((Out.ok o m).2 _ none g H (Le.refl g) m ⟨rfl, .inl ⟨rfl, rfl⟩⟩)
  · exact absurd hf z
theorem ss_raise {c : Nat} {C : Ev.Cls} {e : Expr} {as : Es} (hC : T.cls c = some C) (hc : X.calm = true) (tk : Takes X W) (he : PMk X e (tMk (X := X) (T := T) (nm := nm) (cf := cf) W c C as)) : PS X (.Raise (some e) none pos) (tS T nm X.K cf W (.raise c as)) :=
  PS.imp (ps_raise hc tk he) fun D σ H ⟨gb, g, ρ, st, m, l, n, o⟩ => ⟨g, ρ, st, m, Out.imp (OutS.go o l) fun ds st1 g1 H1 l1 m1 q => by
    have q' : OutS T nm X.K W gb D (match T.cls c with
      | some C => if raisable C ds then .er ⟨c, ds⟩ ρ st1 else .no
      | none => .no) := q
    rw [hC] at q'
    by_cases z : raisable C ds = true
    · have q2 : OutS T nm X.K W gb D (if raisable C ds then .er ⟨c, ds⟩ ρ st1 else .no) := q'
      rw [if_pos z] at q2
      exact ⟨z, fun cv dd g2 H2 l2 m2 x2 => q2 g2 cv dd σ H2 ((l.trans l1).trans l2) m2 x2⟩
    · have q2 : OutS T nm X.K W gb D (if raisable C ds then .er ⟨c, ds⟩ ρ st1 else .no) := q'
      rw [if_neg z] at q2
      exact q2.elim⟩
end
end Snd
set_option Elab.async false
set_option linter.all false
set_option maxRecDepth 100000
/-! SndB: try, except; the error that a suite holds. -/
namespace PySem.W
open PySem PySem.Spec PySem.Calls PyProof.Rows
section
variable {prog : Program} {w : World} {A : Around} {E : Value → Shared → Prop} {s : Shared} {K : Frag} {x D : Addr} {ox : Obj} {od : Option Obj}
theorem findObj_dataX {C : Addr} {name : Str} {a g : Value} (hc : (clsIn K C).isSome = true) (ha : findIn K (.ref C) name = some (some a)) (hg : specialIn K a "__get__" = some (some g)) (ht : takesIn K a = some true) : findObj K C od name = some (.bind g a) := by
  obtain ⟨cd, hc⟩ := Option.isSome_iff_exists.mp hc
  unfold findObj
  rw [hc, Option.bind_some, ha, Option.bind_some]
  simp [hg, ht]
theorem kin_classX {Q : Option Value → Shared → Prop} (C : L2.ExcC K D) (X : K.In s.heap) (I : InstAt s.heap x ox D od) (h : Q (some (.ref D)) { s with toks := s.toks + 1 }) : wpAny (model prog w) A (getAttr? (.ref x) "__class__") Q E s := by
  have hf : findObj K D od "__class__" = some (.bind (.builtin "getset_descriptor.__get__") (.builtin "object.__class__")) := findObj_dataX (by obtain ⟨cd, hc, _⟩ := any_some C.hd; rw [hc]; rfl) C.ha C.hn C.ht
  obtain ⟨hp, g, d, t, os⟩ := s
  have L0 := I.type (M := model prog w)
  have L1 := looks_findIn (M := model prog w) X C.hg
  have L2 := looks_findIn (M := model prog w) X C.hk
  have L3 := looks_find (M := model prog w) X I hf
  have sub : Looks (model prog w) hp (isInstance (.ref x) (.type "BaseException")) true := L0.andThen (looks_subIn X C.hs)
  have hx0 : (false && onTheHeap (Value.builtin "BaseException.__getattribute__")) = false := rfl
  have hx2 : (Value.builtin "BaseException.__getattribute__" == Value.builtin "object.__getattribute__") = false := by decide +kernel
  have hx1 : (onTheHeap (Value.ref D) && Value.builtin "BaseException.__getattribute__" == Value.builtin "object.__getattribute__") = false := by rw [hx2]; rfl
  unfold getAttr? getAttrBy? getAttrBy
  refine wpAny_bind (wpAny_mkText (wpAny_bind (wpAny_attempt (wpAny_holding (wpAny_bind (L0.at (wpAny_bind (L1.at ?_))))))))
  show wpAny _ _ (if (onTheHeap (Value.ref D) && Value.builtin "BaseException.__getattribute__" == Value.builtin "object.__getattribute__") = true then _ else _) _ _ _
  rw [hx1, if_neg Bool.false_ne_true]
  unfold getAttrByItsOwn hookBefore
  refine wpAny_bind ?_
  rw [if_pos (show onTheHeap (Value.ref D) = true from rfl)]
  refine L2.at ?_
  refine wpAny_bind (wpAny_attempt (wpAny_holding ?_))
  unfold callGetattribute
  rw [hx0, if_neg Bool.false_ne_true]
  unfold boundAndCalled
  rw [PySem.F.excAttr_ValueError.ga.bind (.ref x)]
  refine wpAny_bind (wpAny_pure ?_)
  show wpAny _ _ (call (.builtin "BaseException.__getattribute__") [.ref x, .str "__class__" t]) _ _ _
  refine wpAny_call (codeAny_call_builtin PySem.F.excAttr_ValueError.ga.plain PySem.F.entry_bexc_ga ?_)
  refine @check_slot (model prog w) _ _ ⟨hp, g, d, t + 1, os⟩ "BaseException.__getattribute__" "BaseException" "__getattribute__" (.ref x) [.str "__class__" t] [] _ (by decide +kernel) (by decide +kernel) sub (PySem.F.args_bexc_ga (.ref x) (.str "__class__" t)) ?_
  unfold Builtin.«object.__getattribute__»
  refine wpAny_bind (wpAny_of_eq (a := ((Value.ref x : Value), [Value.str "__class__" t])) (by first | rfl | (simp only [slotArgs]; rfl)) ?_)
  refine wpAny_bind (wpAny_pure (wpAny_bind (L0.at (wpAny_bind (L3.at ?_)))))
  show wpAny _ _ (holding [Value.builtin "object.__class__"] (call (.builtin "getset_descriptor.__get__") [.builtin "object.__class__", .ref x, .ref D]) >>= ret) _ _ _
  refine wpAny_bind (wpAny_holding (wpAny_call (class_get (s := ⟨hp, g, d, t + 1, os⟩) (ox := ox) (od := od) X I C.hm ?_)))
  refine wpAny_pure ?_
  show wpAny _ _ (handedOut (.ref D)) _ _ _
  rw [handedOut_of (v := .ref D) rfl]
  first
    | exact wpAny_pure (wpAny_pure h)
    | exact wpAny_pure h
    | exact wpAny_pure (wpAny_bind (wpAny_pure (wpAny_pure h)))
theorem kitx_excX (C : L2.ExcC K D) : KitX K (.ref x) (.ref D) (fun h => InstAt h x ox D od) where
  ty := fun _ _ _ I => I.type
  it := fun _ _ X _ => by
    obtain ⟨cdD, hcD, _⟩ := any_some C.hd
    unfold clsIn at hcD
    split at hcD
    · rename_i c' d' cd' sl' ho
      intro A' Q' E' s' k q
      unfold isType loadHead
      exact wpAny_bind (wpAny_loadPart (k _ _ (X _ _ ho)) (wpAny_pure q))
    · cases hcD
  ne := fun h tp dd its n sl X htp => by
    obtain ⟨cdD, hcD, _⟩ := any_some C.hd
    refine Bool.eq_false_iff.mpr fun q => ?_
    have e : D = tp := Value.ref.inj (beq_iff_eq.mp q)
    subst e
    unfold clsIn at hcD
    split at hcD
    · rename_i c' d' cd' sl' ho
      have z := (X _ _ ho).symm.trans htp
      cases z
    · cases hcD
  ca := fun X I k => kin_classX C X I k
end
end PySem.W
namespace Snd
open PySem PySem.Spec PyProof.Rows L2 Ev
section
variable {T : Tab} {nm nm' : Nm} {K : PySem.W.Frag} {W : WX} {g g0 g1 gb : Gh} {ρ : Rho} {σ : L2.St} {H : Hp} {st : Sto} {D : Ends}
/-- the same names, another handled error -/
structure SameN (nm nm' : Nm) : Prop where
  cls : nm'.cls = nm.cls
  attr : nm'.attr = nm.attr
theorem SameN.symm (h : SameN nm nm') : SameN nm' nm := ⟨h.cls.symm, h.attr.symm⟩
theorem SameN.cad (h : SameN nm nm') (c : Nat) : Snd.cad nm' K c = Snd.cad nm K c := by
  unfold Snd.cad
  rw [h.cls]
theorem SameN.fn (h : SameN nm nm') (c : Nat) : fnames T nm' c = fnames T nm c := by
  unfold fnames
  rw [h.attr]
mutual
theorem Rep.cast (h : SameN nm nm') : ∀ {d : Ev.D} {v : V}, Rep T nm K g d v → Rep T nm' K g d v
  | _, _, .non => .non
  | _, _, .bl b => .bl b
  | _, _, .int i => .int i
  | _, _, .str s => .str s
  | _, _, .tup s r => .tup s (Reps.cast h r)
  | _, _, .lst s r => .lst s (Reps.cast h r)
  | _, _, .scr s => .scr s
  | _, _, .ins e l r => .ins (by rw [h.cad, h.fn]; exact e) (by rw [h.fn]; exact l) (Reps.cast h r)
  | _, _, .ref e => .ref e
theorem Reps.cast (h : SameN nm nm') : ∀ {ds : List Ev.D} {vs : List V}, Reps T nm K g ds vs → Reps T nm' K g ds vs
  | _, _, .nil => .nil
  | _, _, .cons a r => .cons (Rep.cast h a) (Reps.cast h r)
end
theorem RepR.cast {d : Ev.D} {v : V} (h : SameN nm nm') (r : RepR T nm K g0 g d v) : RepR T nm' K g0 g d v := by
  cases d with
  | own ds =>
    obtain ⟨p, vs, e, h1, h2, h3⟩ := r
    exact ⟨p, vs, e, h1, h2, h3.cast h⟩
  | _ => exact Rep.cast h r
theorem KvR.cast (h : SameN nm nm') : ∀ {kvs : List (Ev.D × Ev.D)} {kws : List (Key × V)}, KvR T nm K g kvs kws → KvR T nm' K g kvs kws
  | [], [], r => r
  | _ :: _, _ :: _, ⟨a, b, r⟩ => ⟨a, b.cast h, KvR.cast h r⟩
  | [], _ :: _, r => r.elim
  | _ :: _, [], r => r.elim
theorem ObR.cast {ob : Ob} {o : HO} (h : SameN nm nm') (r : ObR T nm K g ob o) : ObR T nm' K g ob o := by
  cases ob with
  | lst ds =>
    obtain ⟨vs, e, r⟩ := r
    exact ⟨vs, e, r.cast h⟩
  | ins c ds =>
    obtain ⟨dx, vs, e, l, r⟩ := r
    exact ⟨dx, vs, by rw [h.cad, h.fn]; exact e, by rw [h.fn]; exact l, r.cast h⟩
  | dct kvs =>
    obtain ⟨kws, e, r⟩ := r
    exact ⟨kws, e, r.cast h⟩
theorem Mt0.cast (h : SameN nm nm') (m : Mt0 T nm K g st H) : Mt0 T nm' K g st H :=
  ⟨m.imm, m.held, fun k ob e => by
    obtain ⟨a, o, e1, e2, r⟩ := m.sto k ob e
    exact ⟨a, o, e1, e2, r.cast h⟩, m.stl, m.uniq, m.trk⟩
theorem XnR.cast {x : Xn} {cv : Value} {dd : Option Addr} (h : SameN nm nm') (r : XnR T nm K g x cv dd) : XnR T nm' K g x cv dd := by
  obtain ⟨e, r⟩ := r
  refine ⟨by rw [h.cad]; exact e, ?_⟩
  rcases r with r | ⟨d, vs, e1, e2, e3, r⟩
  · exact .inl r
  · exact .inr ⟨d, vs, e1, by rw [h.fn]; exact e2, by rw [h.fn]; exact e3, r.cast h⟩
theorem SlR.cast {i : Nat} {d : Ev.D} {v : V} (h : SameN nm nm') (hme : nm'.me = nm.me) (n : notExc (some d) = true) (r : SlR T nm K g H i d v) : SlR T nm' K g H i d v := by
  cases d with
  | own ds =>
    obtain ⟨p, vs, e, h1, h2, h3⟩ := r
    exact ⟨p, vs, e, h1, h2, h3.cast h⟩
  | obj c ds =>
    obtain ⟨p, dx, vs, e, h1, h2, h3, h4, h5⟩ := r
    exact ⟨p, dx, vs, by rw [hme]; exact e, h1, by rw [h.cad, h.fn]; exact h2, h3, by rw [h.fn]; exact h4, h5.cast h⟩
  | exc c ds => cases n
  | _ => exact Rep.cast h r
theorem Mt.cast (h : SameN nm nm') (hme : nm'.me = nm.me) (n : ρ.all notExc = true) (m : Mt T nm K g ρ st σ H) : Mt T nm' K g ρ st σ H :=
  ⟨m.toMt0.cast h, m.len, fun i d e => by
    obtain ⟨v, e1, r⟩ := m.slots i d e
    exact ⟨v, e1, r.cast h hme (List.all_eq_true.mp n _ (List.mem_of_getElem? e))⟩⟩
/-- where no error is handled no name stands for one -/
theorem Mt.noExc (hn : nm.ex = none) (m : Mt T nm K g ρ st σ H) : ρ.all notExc = true := by
  refine List.all_eq_true.mpr fun o ho => ?_
  obtain ⟨i, hi, e⟩ := List.mem_iff_getElem.mp ho
  cases o with
  | none => rfl
  | some d =>
    cases d with
    | exc c ds =>
      obtain ⟨v, _, r⟩ := m.slots i _ (by rw [List.getElem?_eq_getElem hi, e])
      obtain ⟨a, cv, dd, h1, _⟩ := r
      rw [hn] at h1
      cases h1
    | _ => rfl
end
/-- the names within a suite -/
def nmX (nm : Nm) (a : Addr) (cls : Value) (d : Option Addr) : Nm := { nm with ex := some (a, cls, d) }
theorem sameX (nm : Nm) (a : Addr) (cls : Value) (d : Option Addr) : SameN nm (nmX nm a cls d) := ⟨rfl, rfl⟩
def WF : WX := fun _ _ _ _ => False
section
variable {X : Cx} {T : Tab} {nm : Nm} {W : WX} {cf : Nat → List D → Sto → R D} {pos : Pos} {k : Nat}
/-- what except clauses ask -/
def ErI (X : Core) (T : Tab) (nm : Nm) (c : Nat) : Prop := ∀ j, isErr T j = true → PySem.W.exmOne X.K (.ref (cad nm X.K j)) (.ref (cad nm X.K c)) = some (under T j c)
theorem takes_suite {a : Addr} {pn : List (Addr × Obj)} : Takes (X.suite a pn) WF := fun u s' ⟨_, _, _, _, _, _, _, _, _, _, _, _, _, _, _, _, z⟩ => z.elim
theorem setO_some {ρ : Rho} {i : Nat} {d : Option D} : setO ρ (some i) d = ρ.set i d := rfl
/-- an except suite's end -/
theorem out_suite {nm' : Nm} (hs : SameN nm nm') (hme : nm'.me = nm.me) {gb : Gh} {D : Ends} {i : Nat} {r : F} (o : OutS T nm X.K W gb D (r.unset (some i))) :
    OutS T nm' X.K WF gb { nx := fun σ' H' => D.nx (σ'.set i none) H', rt := D.rt, bk := fun σ' H' => D.bk (σ'.set i none) H', ct := fun σ' H' => D.ct (σ'.set i none) H' } r := by
  have key : ∀ {ρ : Rho} {st : Sto} {g' : Gh} {σ' : L2.St} {H' : Hp}, (ρ.set i none).all notExc = true → Mt T nm' X.K g' ρ st σ' H' → Mt T nm X.K g' (ρ.set i none) st (σ'.set i none) H' := fun n m => (m.drop (x := none)).cast hs.symm hme.symm n
  cases r with
  | nx ρ st =>
    by_cases n : (ρ.set i none).all notExc = true
    · have o' : OutS T nm X.K W gb D (if (ρ.set i none).all notExc then .nx (ρ.set i none) st else .no) := o
      rw [if_pos n] at o'
      exact fun g' σ' H' l m => o' g' _ H' l (key n m)
    · have o' : OutS T nm X.K W gb D (if (ρ.set i none).all notExc then .nx (ρ.set i none) st else .no) := o
      rw [if_neg n] at o'
      exact o'.elim
  | bk ρ st =>
    by_cases n : (ρ.set i none).all notExc = true
    · have o' : OutS T nm X.K W gb D (if (ρ.set i none).all notExc then .bk (ρ.set i none) st else .no) := o
      rw [if_pos n] at o'
      exact fun g' σ' H' l m => o' g' _ H' l (key n m)
    · have o' : OutS T nm X.K W gb D (if (ρ.set i none).all notExc then .bk (ρ.set i none) st else .no) := o
      rw [if_neg n] at o'
      exact o'.elim
  | ct ρ st =>
    by_cases n : (ρ.set i none).all notExc = true
    · have o' : OutS T nm X.K W gb D (if (ρ.set i none).all notExc then .ct (ρ.set i none) st else .no) := o
      rw [if_pos n] at o'
      exact fun g' σ' H' l m => o' g' _ H' l (key n m)
    · have o' : OutS T nm X.K W gb D (if (ρ.set i none).all notExc then .ct (ρ.set i none) st else .no) := o
      rw [if_neg n] at o'
      exact o'.elim
  | rt d st => exact fun g' v H' l m r => o g' v H' l (m.cast hs.symm) (r.cast hs.symm)
  | er x ρ st => exact o.elim
  | no => exact o
theorem out_suite0 {nm' : Nm} (hs : SameN nm nm') (hme : nm'.me = nm.me) {gb : Gh} {D : Ends} {r : F} (o : OutS T nm X.K W gb D (r.unset none)) : OutS T nm' X.K WF gb D r := by
  cases r with
  | nx ρ st =>
    have o' : OutS T nm X.K W gb D (if ρ.all notExc then .nx ρ st else .no) := o
    by_cases n : ρ.all notExc = true
    · rw [if_pos n] at o'
      exact fun g' σ' H' l m => o' g' _ H' l (m.cast hs.symm hme.symm n)
    · rw [if_neg n] at o'
      exact o'.elim
  | bk ρ st =>
    have o' : OutS T nm X.K W gb D (if ρ.all notExc then .bk ρ st else .no) := o
    by_cases n : ρ.all notExc = true
    · rw [if_pos n] at o'
      exact fun g' σ' H' l m => o' g' _ H' l (m.cast hs.symm hme.symm n)
    · rw [if_neg n] at o'
      exact o'.elim
  | ct ρ st =>
    have o' : OutS T nm X.K W gb D (if ρ.all notExc then .ct ρ st else .no) := o
    by_cases n : ρ.all notExc = true
    · rw [if_pos n] at o'
      exact fun g' σ' H' l m => o' g' _ H' l (m.cast hs.symm hme.symm n)
    · rw [if_neg n] at o'
      exact o'.elim
  | rt d st => exact fun g' v H' l m r => o g' v H' l (m.cast hs.symm) (r.cast hs.symm)
  | er x ρ st => exact o.elim
  | no => exact o
theorem ss_tryAs {c i : Nat} {x n : Str} {np pos' : Pos} {body suite : List Stmt} {b₀ : Stmt} {b h : S} (hs : X.stack = X.env :: X.outer) (hf : X.env.frame = some X.env.locals) (hN : X.N.Nodup) (hi : X.N[i]? = some n) (hln : X.env.kindOf n = some .local) (tk : Takes X W) (hex : nm.ex = none)
    (hg : Gl X x) (hdb : (x == ("__debug__" : Str)) = false) (hm : X.mg x = some (.ref (cad nm X.K c))) (hE : ErI (co X) T nm c)
    (hb : ∀ (W : WX) (pn : List (Addr × Obj)) (xe : Value → Shared → Prop), Takes (X.tr pn xe) W → PassesOwn (model X.prog X.w) X.A X.env xe → PSs (X.tr pn xe) body (tS T nm X.K cf W b))
    (hsu : ∀ (a : Addr) (oe : Obj) (cls : Value) (d : Option Addr) (pn : List (Addr × Obj)), Zc cls d oe → (∃ vs, oe.data = .fields vs) → PSs (X.suite a ((a, oe) :: pn)) (b₀ :: suite) (tS T (nmX nm a cls d) X.K cf WF h)) :
    PS X (.Try body [.ExceptHandler (some (.Name x np)) (some n) (b₀ :: suite) pos'] [] [] pos) (tS T nm X.K cf W (.try_ b (.hnd c (some i) h .skip))) := by
  refine PS.imp (ps_try_as hs hf hN hi hln (c := .ref (cad nm X.K c)) ⟨hg, hdb, .inl hm⟩ tk (tb := fun W => tS T nm X.K cf W b) (ts := fun a cls d => tS T (nmX nm a cls d) X.K cf WF h) (fun W pn xe t po => hb W pn xe t po) hsu) fun D σ H ⟨gb, g, ρ, st, m, l, n, o⟩ => ⟨gb, g, ρ, st, m, l, n, ?_⟩
  have o' : OutS T nm X.K W gb D (match exS T cf b ρ st with
    | .er x ρ st => exS.hdS T cf x (.hnd c (some i) h .skip) ρ st
    | r => r) := o
  cases q : exS T cf b ρ st with
  | er xx ρ1 st1 =>
    rw [q] at o'
    intro g1 cv dd σ1 H1 l1 m1 xr
    have o2 : OutS T nm X.K W gb D (if isErr T xx.c then (if under T xx.c c then (exS T cf h (ρ1.set i (some (.exc xx.c xx.ds))) st1).unset (some i) else .er xx ρ1 st1) else .no) := o'
    cases e1 : isErr T xx.c with
    | false =>
      rw [e1] at o2
      exact o2.elim
    | true =>
      rw [e1] at o2
      have o3 : OutS T nm X.K W gb D (if under T xx.c c then (exS T cf h (ρ1.set i (some (.exc xx.c xx.ds))) st1).unset (some i) else .er xx ρ1 st1) := o2
      refine ⟨under T xx.c c, by rw [xr.1]; exact hE xx.c e1, fun e2 a na => ?_, fun e2 => ?_⟩
      · rw [e2] at o3
        have o4 : OutS T nm X.K W gb D ((exS T cf h (ρ1.set i (some (.exc xx.c xx.ds))) st1).unset (some i)) := o3
        have sx := sameX nm a cv dd
        have m2 : Mt T (nmX nm a cv dd) X.K g1 ρ1 st1 σ1 H1 := m1.cast sx rfl (m1.noExc hex)
        have m3 : Mt T (nmX nm a cv dd) X.K g1 (ρ1.set i (some (.exc xx.c xx.ds))) st1 (σ1.set i (some (.ref a))) H1 := m2.set (d := .exc xx.c xx.ds) ⟨a, cv, dd, rfl, rfl, xr.cast sx⟩
        exact ⟨gb, g1, _, st1, m3, l1, n, out_suite sx rfl o4⟩
      · rw [e2] at o3
        exact o3 g1 cv dd σ1 H1 l1 m1 xr
  | nx ρ1 st1 => rw [q] at o'; exact o'
  | rt d st1 => rw [q] at o'; exact o'
  | bk ρ1 st1 => rw [q] at o'; exact o'
  | ct ρ1 st1 => rw [q] at o'; exact o'
  | no => rw [q] at o'; exact o'
theorem ss_tryOnly {c : Nat} {x : Str} {np pos' : Pos} {body suite : List Stmt} {b₀ : Stmt} {b h : S} (hs : X.stack = X.env :: X.outer) (hf : X.env.frame = some X.env.locals) (tk : Takes X W) (hex : nm.ex = none)
    (hg : Gl X x) (hdb : (x == ("__debug__" : Str)) = false) (hm : X.mg x = some (.ref (cad nm X.K c))) (hE : ErI (co X) T nm c)
    (hb : ∀ (W : WX) (pn : List (Addr × Obj)) (xe : Value → Shared → Prop), Takes (X.tr pn xe) W → PassesOwn (model X.prog X.w) X.A X.env xe → PSs (X.tr pn xe) body (tS T nm X.K cf W b))
    (hsu : ∀ (a : Addr) (oe : Obj) (cls : Value) (d : Option Addr) (pn : List (Addr × Obj)), Zc cls d oe → (∃ vs, oe.data = .fields vs) → PSs (X.suite a ((a, oe) :: pn)) (b₀ :: suite) (tS T (nmX nm a cls d) X.K cf WF h)) :
    PS X (.Try body [.ExceptHandler (some (.Name x np)) none (b₀ :: suite) pos'] [] [] pos) (tS T nm X.K cf W (.try_ b (.hnd c none h .skip))) := by
  refine PS.imp (ps_try_only hs hf (c := .ref (cad nm X.K c)) ⟨hg, hdb, .inl hm⟩ tk (tb := fun W => tS T nm X.K cf W b) (ts := fun a cls d => tS T (nmX nm a cls d) X.K cf WF h) (fun W pn xe t po => hb W pn xe t po) hsu) fun D σ H ⟨gb, g, ρ, st, m, l, n, o⟩ => ⟨gb, g, ρ, st, m, l, n, ?_⟩
  have o' : OutS T nm X.K W gb D (match exS T cf b ρ st with
    | .er x ρ st => exS.hdS T cf x (.hnd c none h .skip) ρ st
    | r => r) := o
  cases q : exS T cf b ρ st with
  | er xx ρ1 st1 =>
    rw [q] at o'
    intro g1 cv dd σ1 H1 l1 m1 xr
    have o2 : OutS T nm X.K W gb D (if isErr T xx.c then (if under T xx.c c then (exS T cf h ρ1 st1).unset none else .er xx ρ1 st1) else .no) := o'
    cases e1 : isErr T xx.c with
    | false =>
      rw [e1] at o2
      exact o2.elim
    | true =>
      rw [e1] at o2
      have o3 : OutS T nm X.K W gb D (if under T xx.c c then (exS T cf h ρ1 st1).unset none else .er xx ρ1 st1) := o2
      refine ⟨under T xx.c c, by rw [xr.1]; exact hE xx.c e1, fun e2 a na => ?_, fun e2 => ?_⟩
      · rw [e2] at o3
        have o4 : OutS T nm X.K W gb D ((exS T cf h ρ1 st1).unset none) := o3
        have sx := sameX nm a cv dd
        exact ⟨gb, g1, _, st1, m1.cast sx rfl (m1.noExc hex), l1, n, out_suite0 sx rfl o4⟩
      · rw [e2] at o3
        exact o3 g1 cv dd σ1 H1 l1 m1 xr
  | nx ρ1 st1 => rw [q] at o'; exact o'
  | rt d st1 => rw [q] at o'; exact o'
  | bk ρ1 st1 => rw [q] at o'; exact o'
  | ct ρ1 st1 => rw [q] at o'; exact o'
  | no => rw [q] at o'; exact o'
/-- the classes of the errors, as suites read them -/
structure XcI (X : Core) (T : Tab) (nm : Nm) (c : Nat) (C : Ev.Cls) : Prop where
  x : ExcC X.K (cad nm X.K c)
  nd : (C.fields.map nm.attr).Nodup
  noat : ∀ m ∈ C.fields, PySem.W.findIn X.K (.ref (cad nm X.K c)) (nm.attr m) = some none
theorem XcI.xf {c : Nat} {C : Ev.Cls} (h : XcI (co X) T nm c C) : XfC X.K (cad nm X.K c) := ⟨h.x.hg, h.x.hk, h.x.hs, h.x.hd⟩
theorem isErr_some {c : Nat} (h : isErr T c = true) : ∃ C, T.cls c = some C ∧ C.exc = true := by
  unfold isErr at h
  cases q : T.cls c with
  | none => rw [q] at h; cases h
  | some C => rw [q] at h; exact ⟨C, rfl, h⟩
/-- e.f in a suite -/
theorem se_xat {a : Addr} {oe : Obj} {cls : Value} {d : Option Addr} {pn : List (Addr × Obj)} {i m : Nat} {x n : Str} {p : Pos} (hz : Zc cls d oe) (hf : ∃ vs, oe.data = .fields vs) (hN : X.N[i]? = some n) (hv : Vis X.env.scope n) (hd : (n == ("__debug__" : Str)) = false) (hcd : (n == ("__classdict__" : Str)) = false)
    (hx : x = nm.attr m) (hX : ∀ c C, T.cls c = some C → C.exc = true → XcI (co X) T nm c C) (hb : attributeBase (.Name n p) x X.env (eval (.Name n p) X.env) = eval (.Name n p) X.env) :
    PE (X.suite a ((a, oe) :: pn)) (.Attribute (.Name n p) x pos) (tE T (nmX nm a cls d) X.K cf W (.xat i m)) := by
  refine ⟨fun pins s σ H Q I ⟨g, ρ, st, mt, o⟩ => ?_⟩
  obtain ⟨dv, e, q⟩ := Out.of (o := xatD T ρ i m) o mt
  unfold xatD at e
  cases e1 : rdB ρ i with
  | none => rw [e1] at e; cases e
  | some dx =>
    rw [e1] at e
    cases dx with
    | exc c ds =>
      have e2 : (if isErr T c = true then fieldD T c m ds else none) = some dv := e
      by_cases ec : isErr T c = true
      · rw [if_pos ec] at e2
        obtain ⟨C, hC, hce⟩ := isErr_some ec
        have xi := hX c C hC hce
        obtain ⟨v, s1, a', cv, dd, h1, h2, xr⟩ := mt.slots i _ (rdB_some e1)
        have h3 : (some (a, cls, d) : Option (Addr × Value × Option Addr)) = some (a', cv, dd) := h1
        cases h3
        obtain ⟨ec', xr⟩ := xr
        have hfm := e2
        rcases xr with ⟨z, _⟩ | ⟨d0, vs, z1, z2, z3, z4⟩
        · have z' : ds = [] := z
          subst z'
          unfold fieldD at e2
          rw [hC] at e2
          cases q : posOf m C.fields with
          | none => simp [q] at e2
          | some j => simp [q] at e2
        · obtain ⟨vv, l1, rv, hm⟩ := field_at (X := X) (g := g) (vs := vs) hC xi.nd (z4.cast (sameX nm a cls d).symm) hfm
          subst hx
          subst h2
          exact (pe_xf xi.xf (xi.noat m hm) hz hf (pe_var hN hv hd hcd) hb).run pins s σ H Q I ⟨_, s1, rfl, ec', d0, _, vv, z1, mt.imm _ _ z2, l1, q _ (RepR.plain (rv.cast (sameX nm a cls d)) rv.plain)⟩
      · rw [if_neg ec] at e2
        cases e2
    | _ => cases e
/-- isinstance(e, c), e the exception that the suite holds -/
def rIsX (K : PySem.W.Frag) (D a : Addr) (d : Option Addr) : List V → Hp → VK → Prop := fun xs H Q => ∃ (c : V) (cv : Value) (b : Bool), xs = [.ref a, c] ∧ (∀ u, RelV c u → u = cv) ∧ (d = none ∨ ∃ dd fs, d = some dd ∧ H dd = some (.xd fs)) ∧ PySem.W.kitOne K (.ref D) cv = some b ∧ Q (.bl b) H
theorem call_isX {a D : Addr} {oe : Obj} {d : Option Addr} {pn : List (Addr × Obj)} (C : ExcC X.K D) (hz : Zc (.ref D) d oe) (hf : ∃ vs, oe.data = .fields vs) : CallR (X.suite a ((a, oe) :: pn)) (.builtin "isinstance") (rIsX X.K D a d) := by
  intro pins s σ H xs us Q I r h
  obtain ⟨c, cv, b, rfl, hcv, hdd, e, q⟩ := h
  cases r with
  | cons rx rr =>
    cases rr with
    | cons rt rr =>
      cases rr
      cases rx
      have ec := hcv _ rt
      subst ec
      obtain ⟨hget, _⟩ := I.pin (a, oe) (List.mem_append.mpr (.inl List.mem_cons_self))
      obtain ⟨vs, hv⟩ := hf
      have J : ∃ od, PySem.W.InstAt s.heap a oe D od := by
        obtain ⟨oc, od, oda, osl⟩ := oe
        obtain ⟨h1, h2⟩ := hz
        dsimp only at h1 h2 hv
        subst h1 h2 hv
        rcases hdd with z | ⟨dd, fs, z, ez⟩
        · subst z
          exact ⟨none, hget, rfl, rfl, trivial⟩
        · subst z
          have hx : ObjOk X.prog X.w H s.heap dd (.xd fs) := I.hok dd _ ez
          obtain ⟨mA, hns, hr⟩ := hx
          obtain ⟨od, ho, hl⟩ := lookIn_ns hns
          exact ⟨some od, hget, rfl, rfl, ho⟩
      obtain ⟨od, J⟩ := J
      exact PySem.W.kia_one (PySem.W.kitx_excX C) I.kIn J e (fun z => nomatch z) fun tk => ⟨.bl b, H, I.kept (t' := tk) fun _ _ z => z, rfl, q⟩
theorem tyW_only (nm : Nm) (K : PySem.W.Frag) (t : TY) (u : Value) (r : RelV (tyW nm K t) u) : u = tyV nm K t := by
  cases t <;> exact r
theorem se_xis {a : Addr} {oe : Obj} {cls : Value} {d : Option Addr} {pn : List (Addr × Obj)} {i : Nat} {t : TY} {n : Str} {p p2 : Pos} {e2 : Expr} (hz : Zc cls d oe) (hf : ∃ vs, oe.data = .fields vs) (hN : X.N[i]? = some n) (hv : Vis X.env.scope n) (hd : (n == ("__debug__" : Str)) = false) (hcd : (n == ("__classdict__" : Str)) = false)
    (hX : ∀ c C, T.cls c = some C → C.exc = true → XcI (co X) T nm c C) (hk : Kit (co X) T nm) (hg : Gl X "isinstance") (hm : X.mg "isinstance" = none) (ht : PE (X.suite a ((a, oe) :: pn)) e2 (tC (tyW nm X.K t)))
    (h1 : starEach [.Name n p, e2] X.env = (false, eval (.Name n p) X.env) :: starEach [e2] X.env) (h2 : starEach [e2] X.env = (false, eval e2 X.env) :: starEach [] X.env) :
    PE (X.suite a ((a, oe) :: pn)) (.Call (.Name "isinstance" p2) [.Name n p, e2] [] pos) (tE T (nmX nm a cls d) X.K cf W (.xis i t)) := by
  refine ⟨fun pins s σ H Q I ⟨g, ρ, st, mt, o⟩ => ?_⟩
  obtain ⟨dv, e, q⟩ := Out.of (o := xisD T ρ i t) o mt
  unfold xisD at e
  cases e1 : rdB ρ i with
  | none => rw [e1] at e; cases e
  | some dx =>
    rw [e1] at e
    cases dx with
    | exc c ds =>
      have e3 : (if (isErr T c && T.isi.contains t) = true then (kdIs T (.exc c) t).map D.bl else none) = some dv := e
      by_cases ec0 : (isErr T c && T.isi.contains t) = true
      · rw [if_pos ec0] at e3
        obtain ⟨ec, hin⟩ := Bool.and_eq_true_iff.mp ec0
        obtain ⟨C, hC, hce⟩ := isErr_some ec
        have xi := hX c C hC hce
        obtain ⟨v, s1, a', cv, dd, h1', h2', xr⟩ := mt.slots i _ (rdB_some e1)
        have h3 : (some (a, cls, d) : Option (Addr × Value × Option Addr)) = some (a', cv, dd) := h1'
        cases h3
        obtain ⟨ec', xr⟩ := xr
        have ec2 : cls = .ref (cad nm X.K c) := ec'
        subst ec2
        subst h2'
        cases hb : kdIs T (.exc c) t with
        | none => rw [hb] at e3; cases e3
        | some b =>
          rw [hb] at e3
          cases e3
          have hdd : d = none ∨ ∃ dd fs, d = some dd ∧ H dd = some (.xd fs) := by
            rcases xr with ⟨_, z⟩ | ⟨d0, vs, z1, z2, _, _⟩
            · exact .inl z
            · exact .inr ⟨d0, _, z1, mt.imm _ _ z2⟩
          exact (pe_callB (X := X.suite a ((a, oe) :: pn)) (call_isX xi.x hz hf) hg hm (by decide +kernel) (pa_cons (pe_var hN hv hd hcd) (pa_cons ht pa_nil h2) h1) (by decide) (by decide) h1 (by rw [show starEach [e2] (X.suite a ((a, oe) :: pn)).env = (false, eval e2 X.env) :: starEach [] X.env from h2]; rfl)).run pins s σ H Q I
            ⟨_, s1, _, _, b, rfl, tyW_only nm X.K t, hdd, hk _ _ b hin hb, q _ (.bl b)⟩
      · rw [if_neg ec0] at e3
        cases e3
    | _ => cases e
end
end Snd
set_option Elab.async false
set_option linter.all false
set_option maxRecDepth 100000
/-! SndC: constants, lists of the store, fields set, the theorem of a function. -/
namespace Snd
open PySem PySem.Spec PyProof.Rows L2 Ev
section
variable {T : Tab} {nm : Nm} {K : PySem.W.Frag} {W : WX} {g g0 g1 gb : Gh} {ρ : Rho} {σ : L2.St} {H : Hp} {st : Sto}
/-- a name's own list (or self) is changed -/
theorem Mt.slot_upd (m : Mt T nm K g ρ st σ H) {i : Nat} {d : Ev.D} {p : Addr} {o : HO} (e2 : σ[i]? = some (some (.ref p))) (h1 : g p = some (.slot i)) (r : SlR T nm K g (upd H p o) i d (.ref p)) : Mt T nm K g (ρ.set i (some d)) st σ (upd H p o) := by
  have nn : ∀ a t, g a = some t → (∀ j, t ≠ .slot j) → upd H p o a = H a := fun a t e n => upd_ne fun z => by
    rw [z, h1] at e
    cases e
    exact n i rfl
  refine ⟨⟨fun a o e => by rw [nn a _ e (fun _ z => nomatch z)]; exact m.imm a o e, fun a o e => by rw [nn a _ e (fun _ z => nomatch z)]; exact m.held a o e, fun k ob e => ?_, m.stl, m.uniq, fun a t e => ?_⟩, by rw [List.length_set]; exact m.len, fun j d z => ?_⟩
  · obtain ⟨a, o, e1, e2, rr⟩ := m.sto k ob e
    exact ⟨a, o, e1, by rw [nn a _ e1 (fun _ z => nomatch z)]; exact e2, rr⟩
  · by_cases n : a = p
    · rw [n, upd_same]
      exact ⟨_, rfl⟩
    · rw [upd_ne n]
      exact m.trk a t e
  · rcases getElem_set z with ⟨z1, z2, z3⟩ | ⟨z1, z2⟩
    · subst z1
      cases z3
      exact ⟨.ref p, e2, r⟩
    · obtain ⟨w, h3, h4⟩ := m.slots j d z2
      exact ⟨w, h3, h4.mono (Lim.refl g) fun q e3 => ⟨e3, upd_ne fun y => by rw [y, h1] at e3; cases e3; exact z1 rfl⟩⟩
/-- a new object of the store -/
theorem Mt.stored (m : Mt T nm K g ρ st σ H) {p : Addr} {vs : List V} {ds : List Ev.D} (h : g p = some (.held (.lst vs))) (r : Reps T nm K g ds vs) : Mt T nm K (put g p (.sto st.length)) ρ (st ++ [.lst ds]) σ H ∧ Lim g (put g p (.sto st.length)) := by
  have hp := m.held _ _ h
  have lm : Lim g (put g p (.sto st.length)) := ⟨fun a o e => by rw [put_ne (fun z => by rw [z, h] at e; cases e)]; exact e, fun a k e => by rw [put_ne (fun z => by rw [z, h] at e; cases e)]; exact e⟩
  have old : ∀ a u, a ≠ p → put g p (.sto st.length) a = some u → g a = some u := fun a u n e => by rw [put_ne n] at e; exact e
  refine ⟨⟨⟨fun a o' e => ?_, fun a o' e => ?_, fun k ob e => ?_, fun a k e => ?_, fun a b k e1 e2 => ?_, fun a u e => ?_⟩, m.len, fun i d e => ?_⟩, lm⟩
  · by_cases n : a = p
    · subst n
      rw [put_same] at e
      cases e
    · exact m.imm a o' (old a _ n e)
  · by_cases n : a = p
    · subst n
      rw [put_same] at e
      cases e
    · exact m.held a o' (old a _ n e)
  · by_cases n : k < st.length
    · rw [List.getElem?_append_left n] at e
      obtain ⟨a, o', e1, e2, r⟩ := m.sto k ob e
      exact ⟨a, o', lm.2 _ _ e1, e2, r.mono lm⟩
    · rw [List.getElem?_append_right (by omega)] at e
      have hk : k = st.length := by
        cases q : k - st.length with
        | zero => omega
        | succ j => rw [q] at e; simp at e
      subst hk
      simp at e
      subst e
      exact ⟨p, _, put_same, hp, vs, rfl, r.mono lm⟩
  · rw [List.length_append]
    by_cases n : a = p
    · subst n
      rw [put_same] at e
      cases e
      exact Nat.lt_succ_self _
    · exact Nat.lt_succ_of_lt (m.stl a k (old a _ n e))
  · by_cases na : a = p
    · by_cases nb : b = p
      · rw [na, nb]
      · subst na
        rw [put_same] at e1
        cases e1
        have z := m.stl b _ (old b _ nb e2)
        exact absurd z (Nat.lt_irrefl _)
    · by_cases nb : b = p
      · subst nb
        rw [put_same] at e2
        cases e2
        have z := m.stl a _ (old a _ na e1)
        exact absurd z (Nat.lt_irrefl _)
      · exact m.uniq a b k (old a _ na e1) (old b _ nb e2)
  · by_cases n : a = p
    · subst n
      exact ⟨_, hp⟩
    · exact m.trk a u (old a _ n e)
  · obtain ⟨v, e1, r⟩ := m.slots i d e
    refine ⟨v, e1, r.mono lm fun q e2 => ⟨?_, rfl⟩⟩
    rw [put_ne (fun z => by rw [z, h] at e2; cases e2)]
    exact e2
end
section
variable {X : Cx} {T : Tab} {nm : Nm} {W : WX} {cf : Nat → List D → Sto → R D} {pos : Pos} {k : Nat}
/-- a constant of the module -/
def ConI (X : Core) (T : Tab) (nm : Nm) (j : Nat) : Prop := ∃ u v, X.mg (nm.con j) = some u ∧ RelV v u ∧ ∀ g, Rep T nm X.K g (T.con j) v
theorem se_con {j : Nat} {x : Str} (C : ConI (co X) T nm j) (hx : x = nm.con j) (hg : Gl X x) (hd : (x == ("__debug__" : Str)) = false) : PE X (.Name x pos) (tE T nm X.K cf W (.con j)) := by
  obtain ⟨u, v, hm, r, h⟩ := C
  subst hx
  exact PE.imp (pe_glob hg hm r hd) fun σ H Q ⟨g, ρ, st, m, o⟩ => Out.ok o m v (RepR.plain (h g) (h g).plain)
theorem se_negc {i : Int} {j : Nat} {p : Pos} : PE X (.UnaryOp .USub (.Constant (.int i) j p) pos) (tE T nm X.K cf W (.int (-i))) :=
  PE.imp (pe_un un_neg pe_int) fun σ H Q ⟨g, ρ, st, m, o⟩ => ⟨i, rfl, Out.ok o m _ (.int (-i))⟩
theorem se_sto {es : List Expr} {as : Es} (h : PA X es (tA T nm X.K cf W as)) : PE X (.List es pos) (tE T nm X.K cf W (.sto (.lst as))) :=
  PE.imp (se_lst h) fun σ H Q ⟨g, ρ, st, m, o⟩ => ⟨g, ρ, st, m, by
    have o1 := Out.bind0 (r := evE T cf (.lst as) ρ st) o
    refine Out.imp o1 fun d st1 g1 H1 l1 m1 q v r => ?_
    cases d with
    | own ds =>
      obtain ⟨p, vs, ev, h1, h2, h3⟩ := r
      subst ev
      obtain ⟨m2, lm⟩ := m1.stored h1 h3
      have l2 : Le g (put g1 p (.sto st1.length)) := fun a t e => by
        rw [put_ne (fun z => by rw [z, h2] at e; cases e)]
        exact l1 a t e
      exact q _ H1 l2 m2 _ (.ref put_same)
    | _ => exact q.elim⟩
theorem putF_zip : ∀ {ns : List Str} {vs : List V} {x : Str} {v : V}, ns[vs.length]? = some x → ns.Nodup → putF x v (ns.zip vs) = ns.zip (vs ++ [v])
  | [], vs, x, v, h, _ => by simp at h
  | n :: ns, [], x, v, h, _ => by
    simp at h
    subst h
    cases ns <;> rfl
  | n :: ns, w :: vs, x, v, h, nd => by
    have h2 : ns[vs.length]? = some x := by simpa using h
    have ne : n ≠ x := fun z => (List.nodup_cons.mp nd).1 (z ▸ List.mem_of_getElem? h2)
    show (if n = x then (n, v) :: ns.zip vs else (n, w) :: putF x v (ns.zip vs)) = (n, w) :: ns.zip (vs ++ [v])
    rw [if_neg ne, putF_zip h2 (List.nodup_cons.mp nd).2]
/-- self.f = e, in __init__ -/
theorem ss_setf {e : Expr} {a : E} {m : Nat} {x f : Str} {p p' : Pos} (hN : X.N[0]? = some x) (hv : Vis X.env.scope x) (hd : (x == ("__debug__" : Str)) = false) (hcd : (x == ("__classdict__" : Str)) = false) (hf : f = nm.attr m) (hcl : ∀ c C, T.cls c = some C → C.exc = false → ClI (co X) T nm cf k c C)
    (h : PE X e (tE T nm X.K cf W a)) (hs : swapsWith e (some (.Attribute (.Name x p) f p')) pos.line X.env = pure false) : PS X (.Assign [.Attribute (.Name x p) f p'] e pos) (tS T nm X.K cf W (.setf m a)) := by
  subst hf
  refine PS.imp (ps_fld (pe_var hN hv hd hcd) h hs) fun D σ H ⟨gb, g, ρ, st, mt, l, n, o⟩ => ⟨g, ρ, st, mt, Out.imp (OutS.go o l) fun d st1 g1 H1 l1 m1 q v r => ?_⟩
  obtain ⟨g2, l2, m2, r2⟩ := kept r m1 l1
  have q' : OutS T nm X.K W gb D (F.of (setfD T m ρ (fz d)) st1) := q
  unfold setfD at q'
  cases e0 : ρ[0]? with
  | none => rw [e0] at q'; exact q'.elim
  | some o0 =>
    rw [e0] at q'
    cases o0 with
    | none => exact q'.elim
    | some d0 =>
      cases d0 with
      | obj c ds =>
        obtain ⟨w, e1, pp, dx, vs, ⟨hme, ev⟩, gp, hp, hl, hlf, rr⟩ := m2.slots 0 _ e0
        subst ev
        cases hI : clsI T c with
        | none =>
          simp only [hI] at q'
          exact q'.elim
        | some C =>
          simp only [hI] at q'
          obtain ⟨hC, hex⟩ := clsI_some hI
          have cI := hcl c C hC hex
          by_cases z : C.fields[ds.length]? = some m
          · rw [if_pos z] at q'
            have q2 : OutS T nm X.K W gb D (.nx (ρ.set 0 (some (.obj c (ds ++ [fz d])))) st1) := q'
            have hfn : fnames T nm c = C.fields.map nm.attr := by unfold fnames; rw [hC]
            have hat : (fnames T nm c)[vs.length]? = some (nm.attr m) := by rw [hl, hfn, List.getElem?_map, z]; rfl
            have hz : ((fnames T nm c).zip vs).length < 1000 := by
              rw [List.length_zip, hfn, List.length_map]
              have := cI.few
              omega
            refine ⟨_, e1, pp, _, dx, _, rfl, hp, cI.cl, cI.noat m (List.mem_of_getElem? z), hz, ?_⟩
            rw [putF_zip hat (by rw [hfn]; exact cI.nd)]
            refine q2 g2 σ _ (l.trans l2) (m2.slot_upd e1 gp ⟨pp, dx, vs ++ [v], ⟨hme, rfl⟩, gp, upd_same, ?_, ?_, rr.append (.cons r2 .nil)⟩)
            · rw [List.length_append, List.length_append, hl]
              rfl
            · rw [List.length_append]
              have := (List.getElem?_eq_some_iff.mp z).1
              rw [hfn, List.length_map]
              exact this
          · rw [if_neg z] at q'
            exact q'.elim
      | _ => exact q'.elim
end
/-! ### the theorem of a function -/
section
variable {T : Tab} {nm : Nm} {K : PySem.W.Frag} {g gb : Gh} {st : Sto} {H : Hp}
/-- a def's context -/
abbrev cxF (Y : Core) (N : List Str) (qual : Str) (scope : Scope) (f : Addr) (cd : Value) (A : Around) (outer : List Env) (s : Shared) (H : Hp) (E : XK) : Cx := cxOf (L2.CX Y.prog Y.w) Y.prog Y.w Y.K Y.mg Y.base N qual scope f cd A outer s H E
/-- a def's wish -/
abbrev wF (E : XK) : WX := fun cls d _ H => E cls d H
theorem start_at {n i : Nat} {ds : List Ev.D} {d : Ev.D} (h : (Ev.start n ds)[i]? = some (some d)) : ds[i]? = some d := by
  unfold Ev.start at h
  by_cases hi : i < ds.length
  · rw [List.getElem?_append_left (by simpa using hi), List.getElem?_map] at h
    cases e : ds[i]? with
    | none => rw [e] at h; cases h
    | some a => rw [e] at h; cases h; rfl
  · rw [List.getElem?_append_right (by simpa using hi), List.getElem?_replicate] at h
    split at h <;> cases h
theorem mt_start {N : List Str} {n : Nat} {ds : List Ev.D} {vs : List V} (m : Mt0 T nm K g st H) (r : Reps T nm K g ds vs) (hn : N.length = n) (hl : ds.length ≤ n) : Mt T nm K g (Ev.start n ds) st (L2.start N vs) H := by
  refine ⟨m, ?_, fun i d e => ?_⟩
  · unfold Ev.start L2.start
    simp only [List.length_append, List.length_map, List.length_replicate]
    rw [← r.len, hn]
  · obtain ⟨v, e1, rv⟩ := r.at (start_at e)
    refine ⟨v, ?_, SlR.rep rv⟩
    unfold L2.start
    rw [List.getElem?_append_left (by rw [List.length_map]; exact (List.getElem?_eq_some_iff.mp e1).1), List.getElem?_map, e1]
    rfl
/-- a function of the text -/
theorem fn_sp {Y : Core} {k f : Nat} {fn : Fn} {x qual : Str} {params : Arguments} {body : List Stmt} {scope : Scope} {dvs : List V} {kws : List (Str × V)} {fa : Addr} {fd : FuncData} {N ps : List Str} {cf cf' : Nat → List Ev.D → Sto → R Ev.D} (F : FunD Y.K x qual params body scope dvs kws fa fd) (S : FnScope N ps scope)
    (hcf : cf f = runB T cf' fn) (hi : fn.ini = none) (hps : ps.length = fn.np) (hN : N.length = fn.nl) (hle : fn.np ≤ fn.nl)
    (hb : ∀ (cdv : Value) (A : Around) (outer : List Env) (s : Shared) (H : Hp) (E : XK), Room k (A.deeper (envOfC qual scope s.heap.objs.size fa cdv)) → PSs (cxF Y N qual scope fa cdv A outer s H E) body (tS T nm Y.K cf' (wF E) fn.body)) :
    FnOk Y.prog Y.w Y.K Y.mg Y.base (L2.CX Y.prog Y.w) (k + 1) fa fd ps (SP T nm Y.K cf fn.np f) := by
  refine F.ok S (fun vs H Q E h => h.1.trans hps.symm) fun cdv A outer s H vs Q E hr h => ⟨_, hb cdv A outer s H E hr, ?_⟩
  obtain ⟨hl, g, ds, st, ns, m, r, o⟩ := h
  have hdl : ds.length = fn.np := r.len.trans hl
  refine ⟨g, g, Ev.start fn.nl ds, st, mt_start m r hN (by rw [hdl]; exact hle), Le.refl g, ns, ?_⟩
  rw [hcf] at o
  unfold runB at o
  rw [if_pos hdl, hi] at o
  have o' : OutC T nm Y.K g Q E (fin T none (exS T cf' fn.body (Ev.start fn.nl ds) st)) := o
  cases q : exS T cf' fn.body (Ev.start fn.nl ds) st with
  | nx ρ st1 =>
    rw [q] at o'
    exact fun g' σ' H' l m => o' g' .non H' l m.toMt0 .non
  | rt d st1 =>
    rw [q] at o'
    exact fun g' v H' l m r => o' g' v H' l m r
  | er xx ρ st1 =>
    rw [q] at o'
    exact fun g' cv dd σ' H' l m x => o' g' cv dd H' l m.toMt0 x
  | bk ρ st1 => rw [q] at o'; exact o'.elim
  | ct ρ st1 => rw [q] at o'; exact o'.elim
  | no => rw [q] at o'; exact o'.elim
/-- the names within an __init__ -/
def nmM (nm : Nm) (x dx : Addr) : Nm := { nm with me := some (x, dx) }
theorem sameM (nm : Nm) (x dx : Addr) : SameN nm (nmM nm x dx) := ⟨rfl, rfl⟩
def without (g : Gh) (x : Addr) : Gh := fun a => if a = x then none else g a
theorem without_ne {x a : Addr} (h : a ≠ x) : without g x a = g a := if_neg h
theorem without_same {x : Addr} : without g x x = none := if_pos rfl
theorem lim_without {x : Addr} {i : Nat} (h : g x = some (.slot i)) : Lim g (without g x) := ⟨fun a o e => by rw [without_ne (fun z => by rw [z, h] at e; cases e)]; exact e, fun a k e => by rw [without_ne (fun z => by rw [z, h] at e; cases e)]; exact e⟩
theorem Mt0.without (m : Mt0 T nm K g st H) {x : Addr} {i : Nat} (h : g x = some (.slot i)) : Mt0 T nm K (without g x) st H := by
  have old : ∀ a t, Snd.without g x a = some t → g a = some t := fun a t e => by
    by_cases n : a = x
    · rw [n, without_same] at e
      cases e
    · rw [without_ne n] at e
      exact e
  exact ⟨fun a o e => m.imm a o (old _ _ e), fun a o e => m.held a o (old _ _ e), fun k ob e => by
    obtain ⟨a, o, e1, e2, r⟩ := m.sto k ob e
    exact ⟨a, o, (lim_without h).2 _ _ e1, e2, r.mono (lim_without h)⟩, fun a k e => m.stl a k (old _ _ e), fun a b k e1 e2 => m.uniq a b k (old _ _ e1) (old _ _ e2), fun a t e => m.trk a t (old _ _ e)⟩
/-- an __init__ of the text -/
theorem fn_spi {Y : Core} {k f c : Nat} {fn : Fn} {x qual : Str} {params : Arguments} {body : List Stmt} {scope : Scope} {dvs : List V} {kws : List (Str × V)} {fa : Addr} {fd : FuncData} {N ps : List Str} {cf cf' : Nat → List Ev.D → Sto → R Ev.D} {C : Ev.Cls} (F : FunD Y.K x qual params body scope dvs kws fa fd) (S : FnScope N ps scope)
    (hcf : cf f = runB T cf' fn) (hi : fn.ini = some c) (hC : T.cls c = some C) (hps : ps.length = fn.np + 1) (hN : N.length = fn.nl)
    (hb : ∀ (p dx : Addr) (cdv : Value) (A : Around) (outer : List Env) (s : Shared) (H : Hp) (E : XK), Room k (A.deeper (envOfC qual scope s.heap.objs.size fa cdv)) → PSs (cxF Y N qual scope fa cdv A outer s H E) body (tS T (nmM nm p dx) Y.K cf' (wF E) fn.body)) :
    FnOk Y.prog Y.w Y.K Y.mg Y.base (L2.CX Y.prog Y.w) (k + 1) fa fd ps (SPI T nm Y.K cf fn.np f c) := by
  refine F.ok S (fun vs H Q E h => h.1.trans hps.symm) fun cdv A outer s H vs Q E hr h => ?_
  obtain ⟨hl, p, dx, g, ds, st, ws, ev, hx, gx, ns, m, r, o⟩ := h
  subst ev
  refine ⟨_, hb p dx cdv A outer s H E hr, ?_⟩
  have hwl : ws.length = fn.np := by simpa using hl
  have hdl : ds.length = fn.np := r.len.trans hwl
  have l0 : Le g (put g p (.slot 0)) := le_put gx
  have m0 : Mt0 T (nmM nm p dx) Y.K (put g p (.slot 0)) st H := by
    have z := m.cast (sameM nm p dx)
    have old : ∀ a u, a ≠ p → put g p (.slot 0) a = some u → g a = some u := fun a u n e => by rw [put_ne n] at e; exact e
    refine ⟨fun a o e => ?_, fun a o e => ?_, fun j ob e => ?_, fun a j e => ?_, fun a b j e1 e2 => ?_, fun a u e => ?_⟩
    · by_cases n : a = p
      · rw [n, put_same] at e; cases e
      · exact z.imm a o (old a _ n e)
    · by_cases n : a = p
      · rw [n, put_same] at e; cases e
      · exact z.held a o (old a _ n e)
    · obtain ⟨a, o, e1, e2, rr⟩ := z.sto j ob e
      exact ⟨a, o, l0 _ _ e1, e2, rr.mono l0.lim⟩
    · by_cases n : a = p
      · rw [n, put_same] at e; cases e
      · exact z.stl a j (old a _ n e)
    · have na : a ≠ p := fun y => by rw [y, put_same] at e1; cases e1
      have nb : b ≠ p := fun y => by rw [y, put_same] at e2; cases e2
      exact z.uniq a b j (old a _ na e1) (old b _ nb e2)
    · by_cases n : a = p
      · rw [n]
        exact ⟨_, hx⟩
      · exact z.trk a u (old a _ n e)
  have r0 : Reps T (nmM nm p dx) Y.K (put g p (.slot 0)) ds ws := (r.cast (sameM nm p dx)).mono l0.lim
  have mt : Mt T (nmM nm p dx) Y.K (put g p (.slot 0)) (Ev.start fn.nl (.obj c [] :: ds)) st (L2.start N (.ref p :: ws)) H := by
    refine ⟨m0, ?_, fun i d e => ?_⟩
    · unfold Ev.start L2.start
      simp only [List.length_append, List.length_map, List.length_replicate, List.length_cons]
      rw [r.len, hN]
    · have e1 := start_at e
      cases i with
      | zero =>
        simp at e1
        subst e1
        refine ⟨.ref p, rfl, p, dx, [], ⟨rfl, rfl⟩, put_same, ?_, rfl, Nat.zero_le _, .nil⟩
        rw [hx, List.zip_nil_right]
        rfl
      | succ j =>
        obtain ⟨v, e2, rv⟩ := r0.at (show ds[j]? = some d by simpa using e1)
        refine ⟨v, ?_, SlR.rep rv⟩
        unfold L2.start
        rw [List.getElem?_append_left (by rw [List.length_map, List.length_cons]; exact Nat.succ_lt_succ (List.getElem?_eq_some_iff.mp e2).1), List.getElem?_map, List.getElem?_cons_succ, e2]
        rfl
  refine ⟨g, _, _, st, mt, l0, ns, ?_⟩
  rw [hcf] at o
  have o' : (match fin T fn.ini (exS T cf' fn.body (Ev.start fn.nl (.obj c [] :: ds)) st) with
    | .ok d st => ∀ es g' H' us, d = .ins c es → Le g g' → Mt0 T nm Y.K g' st H' → g' p = none → H' p = some (.ins (cad nm Y.K c) dx ((fnames T nm c).zip us)) → us.length = (fnames T nm c).length → Reps T nm Y.K g' es us → Q .non H'
    | .er xx st => ∀ g' cv dd H', Le g g' → Mt0 T nm Y.K g' st H' → XnR T nm Y.K g' xx cv dd → E cv dd H'
    | .no => False) := by
    unfold runB at o
    rw [if_pos hdl] at o
    rw [hi] at o ⊢
    exact o
  rw [hi] at o'
  have sm := sameM nm p dx
  cases q : exS T cf' fn.body (Ev.start fn.nl (.obj c [] :: ds)) st with
  | nx ρ st1 =>
    rw [q] at o'
    intro g1 σ1 H1 l1 m1
    cases e0 : ρ[0]? with
    | none => simp only [fin, e0] at o'
    | some o0 =>
      cases o0 with
      | none => simp only [fin, e0] at o'
      | some d0 =>
        cases d0 with
        | obj c1 ds1 =>
          simp only [fin, e0, hC] at o'
          by_cases z : c1 = c ∧ ds1.length = C.fields.length
          · rw [if_pos z] at o'
            obtain ⟨z1, z2⟩ := z
            subst z1
            obtain ⟨w, e1, pp, dx1, us, ⟨hme, ev⟩, gp, hp, hl1, hlf, rr⟩ := m1.slots 0 _ e0
            cases hme
            have hu : us.length = (fnames T nm c1).length := by
              rw [hl1, z2]
              unfold fnames
              rw [hC, List.length_map]
            have lx : Le g (without g1 p) := fun a t e => by
              rw [without_ne (fun y => by rw [y, gx] at e; cases e)]
              exact l1 a t e
            exact o' ds1 (without g1 p) H1 us rfl lx ((m1.toMt0.without gp).cast sm.symm) without_same hp hu ((rr.mono (lim_without gp)).cast sm.symm)
          · rw [if_neg z] at o'
            exact o'.elim
        | _ => simp only [fin, e0] at o'
  | rt d st1 => rw [q] at o'; exact o'.elim
  | er xx ρ st1 =>
    rw [q] at o'
    exact fun g' cv dd σ' H' l m xr => o' g' cv dd H' l (m.toMt0.cast sm.symm) (xr.cast sm.symm)
  | bk ρ st1 => rw [q] at o'; exact o'.elim
  | ct ρ st1 => rw [q] at o'; exact o'.elim
  | no => rw [q] at o'; exact o'.elim
end
end Snd
set_option Elab.async false
set_option linter.all false
set_option maxRecDepth 100000
set_option maxHeartbeats 0
namespace GQ2
open PySem PySem.SeqAt
open AutoSeq1 (wpAny_loadPart')
open MeetsSeq MeetsSeq2 MeetsSeq3 SeqRoads2 GQ
section
variable {prog : Program} {w : World} {A : Around} {R : Result → Shared → Prop}
/-- at each turn the two lists are read anew: N items each; J: the i-th two differ -/
def ListJ (prog : Program) (w : World) (A : Around) (E : Value → Shared → Prop) (l b : Addr) (N : Nat) (I : Nat → Shared → Prop) (J : Shared → Prop) : Prop :=
  (∀ i s, I i s → ∃ (items items2 : Array Value) (n n2 : Nat), s.heap.get? l = some { cls := .type "list", data := .seq items n } ∧ s.heap.get? b = some { cls := .type "list", data := .seq items2 n2 } ∧ items.size = N ∧ items2.size = N ∧
    ∀ (h1 : i < items.size) (h2 : i < items2.size), wpAny (model prog w) A.in1 (eqBool items[i] items2[i]) (fun r s' => if r then I (i + 1) s' else J s') E s) ∧
  ∀ s, J s → ∃ (items items2 : Array Value) (n n2 : Nat), s.heap.get? l = some { cls := .type "list", data := .seq items n } ∧ s.heap.get? b = some { cls := .type "list", data := .seq items2 n2 } ∧ items.size = N ∧ items2.size = N
theorem eq_loopJ (l b : Addr) (N : Nat) (I : Nat → Shared → Prop) (J : Shared → Prop) (ne : Bool) (hl : ListJ prog w A (fun e s' => R (.error e) s') l b N I J)
    (fin : ∀ s, I N s → R (.ok (.ret (.bool !ne))) s) (fin2 : ∀ s, J s → R (.ok (.ret (.bool ne))) s) (k : Nat) :
    ∀ i : Nat, N - i = k → i ≤ N → ∀ s, I i s →
      wpAny (model prog w) A.in1 (Builtin.«list.__eq__.loop» ⟨[.ref l, .ref b, rawInt i, rawInt (if ne then 3 else 2)], []⟩) (FinOf prog w A R) (fun e s' => R (.error e) s') s := by
  induction k with
  | zero =>
    intro i hk hi s h
    obtain ⟨items, items2, n, n2, hl1, hb1, hs1, hs2, _⟩ := hl.1 _ _ h
    have hi' : i = N := by omega
    have hR := fin s (hi' ▸ h)
    obtain ⟨hp, g, d, tk, os⟩ := s
    cases ne with
    | false =>
      wp_walk using wpAny_loadPart' hl1, wpAny_loadPart' hb1
      have hi1 : items[((i : Nat) : Int).toNat]? = none := by simp; omega
      have hi2 : items2[((i : Nat) : Int).toNat]? = none := by simp; omega
      rw [hi1, hi2]
      wp_walk using wpAny_loadPart' hl1, wpAny_loadPart' hb1
      show R (.ok (.ret (.bool (items.size == items2.size)))) _
      rw [hs1, hs2]
      simpa using hR
    | true =>
      wp_walk using wpAny_loadPart' hl1, wpAny_loadPart' hb1
      have hi1 : items[((i : Nat) : Int).toNat]? = none := by simp; omega
      have hi2 : items2[((i : Nat) : Int).toNat]? = none := by simp; omega
      rw [hi1, hi2]
      wp_walk using wpAny_loadPart' hl1, wpAny_loadPart' hb1
      show R (.ok (.ret (.bool (items.size != items2.size)))) _
      rw [hs1, hs2]
      simpa using hR
  | succ k ih =>
    intro i hk hi s h
    obtain ⟨items, items2, n, n2, hl1, hb1, hs1, hs2, turn⟩ := hl.1 _ _ h
    have hlt : i < items.size := by omega
    have hlt2 : i < items2.size := by omega
    have ht := turn hlt hlt2
    obtain ⟨hp, g, d, tk, os⟩ := s
    cases ne with
    | false =>
      wp_walk using wpAny_loadPart' hl1, wpAny_loadPart' hb1
      have hi1 : items[((i : Nat) : Int).toNat]? = some items[i] := by simp [hlt]
      have hi2 : items2[((i : Nat) : Int).toNat]? = some items2[i] := by simp [hlt2]
      have hc : ((i : Int) + 1) = ((i + 1 : Nat) : Int) := by omega
      rw [hi1, hi2]
      refine wpAny_bind (wpAny_mono ht (fun r s2 h2 => ?_) fun _ _ x => x)
      cases r with
      | true =>
        have hrec := ih (i + 1) (by omega) (by omega) s2 h2
        obtain ⟨hp2, g2, d2, tk2, os2⟩ := s2
        wp_walk
        rw [hc]
        exact ⟨plainId_quiet plain_eq_loop _, codeAny_builtin entry_eq_loop (by
          rw [Around.under_plainId plain_eq_loop _]
          exact hrec)⟩
      | false =>
        have hJ : J s2 := h2
        obtain ⟨items, items2, n, n2, hl1, hb1, hs1, hs2⟩ := hl.2 _ hJ
        have hR := fin2 s2 hJ
        obtain ⟨hp2, g2, d2, tk2, os2⟩ := s2
        have hi1 : items[((i : Nat) : Int).toNat]? = some items[i] := by simp [hs1]
        have hi2 : items2[((i : Nat) : Int).toNat]? = some items2[i] := by simp [hs2]
        wp_walk using wpAny_loadPart' hl1, wpAny_loadPart' hb1
        rw [hi1, hi2]
        wp_walk
        exact hR
    | true =>
      wp_walk using wpAny_loadPart' hl1, wpAny_loadPart' hb1
      have hi1 : items[((i : Nat) : Int).toNat]? = some items[i] := by simp [hlt]
      have hi2 : items2[((i : Nat) : Int).toNat]? = some items2[i] := by simp [hlt2]
      have hc : ((i : Int) + 1) = ((i + 1 : Nat) : Int) := by omega
      rw [hi1, hi2]
      refine wpAny_bind (wpAny_mono ht (fun r s2 h2 => ?_) fun _ _ x => x)
      cases r with
      | true =>
        have hrec := ih (i + 1) (by omega) (by omega) s2 h2
        obtain ⟨hp2, g2, d2, tk2, os2⟩ := s2
        wp_walk
        rw [hc]
        exact ⟨plainId_quiet plain_eq_loop _, codeAny_builtin entry_eq_loop (by
          rw [Around.under_plainId plain_eq_loop _]
          exact hrec)⟩
      | false =>
        have hJ : J s2 := h2
        obtain ⟨items, items2, n, n2, hl1, hb1, hs1, hs2⟩ := hl.2 _ hJ
        have hR := fin2 s2 hJ
        obtain ⟨hp2, g2, d2, tk2, os2⟩ := s2
        have hi1 : items[((i : Nat) : Int).toNat]? = some items[i] := by simp [hs1]
        have hi2 : items2[((i : Nat) : Int).toNat]? = some items2[i] := by simp [hs2]
        wp_walk using wpAny_loadPart' hl1, wpAny_loadPart' hb1
        rw [hi1, hi2]
        wp_walk
        exact hR
theorem list_eqJ (l b : Addr) (N : Nat) (I : Nat → Shared → Prop) (J : Shared → Prop) (hl : ListJ prog w A (fun e s' => R (.error e) s') l b N I J)
    (fin : ∀ s, I N s → R (.ok (.ret (.bool true))) s) (fin2 : ∀ s, J s → R (.ok (.ret (.bool false))) s) {s : Shared} (h : I 0 s) :
    wpAny (model prog w) A.in1 (Builtin.«list.__eq__» ⟨[.ref l, .ref b], []⟩) (FinOf prog w A R) (fun e s' => R (.error e) s') s := by
  obtain ⟨items, items2, n, n2, hl1, hb1, hs1, hs2, _⟩ := hl.1 _ _ h
  have hrec := eq_loopJ (A := A) (R := R) l b N I J false hl fin fin2 _ 0 rfl (Nat.zero_le _) s h
  obtain ⟨hp, g, d, tk, os⟩ := s
  have f3 := AutoSeq1.sub_list_list
  have hne : ¬ (items.size != items2.size) = true := by simp [hs1, hs2]
  wp_walk using wpAny_loadPart' hl1, wpAny_loadPart' hb1
  exact ⟨plainId_quiet plain_eq_loop _, codeAny_builtin entry_eq_loop (by
    rw [Around.under_plainId plain_eq_loop _]
    exact hrec)⟩
theorem list_neJ (l b : Addr) (N : Nat) (I : Nat → Shared → Prop) (J : Shared → Prop) (hl : ListJ prog w A (fun e s' => R (.error e) s') l b N I J)
    (fin : ∀ s, I N s → R (.ok (.ret (.bool false))) s) (fin2 : ∀ s, J s → R (.ok (.ret (.bool true))) s) {s : Shared} (h : I 0 s) :
    wpAny (model prog w) A.in1 (Builtin.«list.__ne__» ⟨[.ref l, .ref b], []⟩) (FinOf prog w A R) (fun e s' => R (.error e) s') s := by
  obtain ⟨items, items2, n, n2, hl1, hb1, hs1, hs2, _⟩ := hl.1 _ _ h
  have hrec := eq_loopJ (A := A) (R := R) l b N I J true hl fin fin2 _ 0 rfl (Nat.zero_le _) s h
  obtain ⟨hp, g, d, tk, os⟩ := s
  have f3 := AutoSeq1.sub_list_list
  have hne : ¬ (items.size != items2.size) = true := by simp [hs1, hs2]
  wp_walk using wpAny_loadPart' hl1, wpAny_loadPart' hb1
  exact ⟨plainId_quiet plain_eq_loop _, codeAny_builtin entry_eq_loop (by
    rw [Around.under_plainId plain_eq_loop _]
    exact hrec)⟩
theorem tuple_eqJ (l b : Addr) (items items2 : Array Value) (n n2 : Nat) (dd dd2 : Option Addr) (sl sl2 : Array (Option Value)) (I : Nat → Shared → Prop) (J : Shared → Prop)
    (turn : ∀ i (h1 : i < items.size) (h2 : i < items2.size) s, I i s → wpAny (model prog w) A.in1 (eqBool items[i] items2[i]) (fun r s' => if r then I (i + 1) s' else J s') (fun e s' => R (.error e) s') s)
    (fin : ∀ s, I (min items.size items2.size) s → R (.ok (.ret (.bool (items.size == items2.size)))) s) (fin2 : ∀ s, J s → R (.ok (.ret (.bool false))) s) {s : Shared} (hl1 : s.heap.get? l = some { cls := .type "tuple", dict := dd, data := .seq items n, slots := sl }) (hb1 : s.heap.get? b = some { cls := .type "tuple", dict := dd2, data := .seq items2 n2, slots := sl2 }) (h : I 0 s) :
    wpAny (model prog w) A.in1 (Builtin.«tuple.__eq__» ⟨[.ref l, .ref b], []⟩) (FinOf prog w A R) (fun e s' => R (.error e) s') s := by
  have f2 := AutoSeq1.sub_tuple_tuple
  have hZ : (items.toList.zip items2.toList).length = min items.size items2.size := by simp
  have h0 := h
  obtain ⟨hp, g, d, tk, os⟩ := s
  wp_walk using wpAny_loadPart' hl1, wpAny_loadPart' hb1, wpAny_forIn_list _ (fun rest b s' => b.1 = none ∧ ∃ i, rest = (items.toList.zip items2.toList).drop i ∧ i ≤ min items.size items2.size ∧ I i s') _
  case turn =>
    rintro ⟨y, x⟩ rest b s' ⟨hb', i, hz, hi, hI⟩
    have hlt : i < (items.toList.zip items2.toList).length := by
      rcases Nat.lt_or_ge i (items.toList.zip items2.toList).length with h' | h'
      · exact h'
      · rw [List.drop_of_length_le h'] at hz; cases hz
    have h1 : i < items.size := by rw [hZ] at hlt; omega
    have h2 : i < items2.size := by rw [hZ] at hlt; omega
    rw [List.drop_eq_getElem_cons hlt] at hz
    injection hz with hyx hrest
    have hy : y = items[i] := by have := congrArg Prod.fst hyx; simpa using this
    have hx : x = items2[i] := by have := congrArg Prod.snd hyx; simpa using this
    subst hy hx
    refine wpAny_bind (wpAny_mono (turn i h1 h2 s' hI) (fun r s2 q2 => ?_) fun _ _ x => x)
    cases r with
    | true =>
      wp_walk
      exact ⟨rfl, i + 1, hrest, by omega, q2⟩
    | false =>
      have hR := fin2 s2 q2
      wp_walk
      first | exact hR | exact ⟨_, rfl, hR⟩
  case fin =>
    rintro ⟨b1, b2⟩ s' ⟨hb', i, hz, hi, hI⟩
    simp only at hb'
    subst hb'
    have hge : min items.size items2.size ≤ i := by
      rcases Nat.lt_or_ge i (items.toList.zip items2.toList).length with h' | h'
      · rw [List.drop_eq_getElem_cons h'] at hz; cases hz
      · exact hZ ▸ h'
    have hi' : i = min items.size items2.size := by omega
    have hR := fin s' (hi' ▸ hI)
    wp_walk
    first | exact hR | exact ⟨_, rfl, by simpa [Builtin.Tuple.tupleCompareSizes] using hR⟩ | simpa [Builtin.Tuple.tupleCompareSizes] using hR
  case h =>
    exact ⟨rfl, 0, rfl, Nat.zero_le _, h0⟩
theorem tuple_neJ (l b : Addr) (items items2 : Array Value) (n n2 : Nat) (dd dd2 : Option Addr) (sl sl2 : Array (Option Value)) (I : Nat → Shared → Prop) (J : Shared → Prop)
    (turn : ∀ i (h1 : i < items.size) (h2 : i < items2.size) s, I i s → wpAny (model prog w) A.in1 (eqBool items[i] items2[i]) (fun r s' => if r then I (i + 1) s' else J s') (fun e s' => R (.error e) s') s)
    (fin : ∀ s, I (min items.size items2.size) s → R (.ok (.ret (.bool (items.size != items2.size)))) s) (fin2 : ∀ s, J s → R (.ok (.ret (.bool true))) s) {s : Shared} (hl1 : s.heap.get? l = some { cls := .type "tuple", dict := dd, data := .seq items n, slots := sl }) (hb1 : s.heap.get? b = some { cls := .type "tuple", dict := dd2, data := .seq items2 n2, slots := sl2 }) (h : I 0 s) :
    wpAny (model prog w) A.in1 (Builtin.«tuple.__ne__» ⟨[.ref l, .ref b], []⟩) (FinOf prog w A R) (fun e s' => R (.error e) s') s := by
  have f2 := AutoSeq1.sub_tuple_tuple
  have hZ : (items.toList.zip items2.toList).length = min items.size items2.size := by simp
  have h0 := h
  obtain ⟨hp, g, d, tk, os⟩ := s
  wp_walk using wpAny_loadPart' hl1, wpAny_loadPart' hb1, wpAny_forIn_list _ (fun rest b s' => b.1 = none ∧ ∃ i, rest = (items.toList.zip items2.toList).drop i ∧ i ≤ min items.size items2.size ∧ I i s') _
  case turn =>
    rintro ⟨y, x⟩ rest b s' ⟨hb', i, hz, hi, hI⟩
    have hlt : i < (items.toList.zip items2.toList).length := by
      rcases Nat.lt_or_ge i (items.toList.zip items2.toList).length with h' | h'
      · exact h'
      · rw [List.drop_of_length_le h'] at hz; cases hz
    have h1 : i < items.size := by rw [hZ] at hlt; omega
    have h2 : i < items2.size := by rw [hZ] at hlt; omega
    rw [List.drop_eq_getElem_cons hlt] at hz
    injection hz with hyx hrest
    have hy : y = items[i] := by have := congrArg Prod.fst hyx; simpa using this
    have hx : x = items2[i] := by have := congrArg Prod.snd hyx; simpa using this
    subst hy hx
    refine wpAny_bind (wpAny_mono (turn i h1 h2 s' hI) (fun r s2 q2 => ?_) fun _ _ x => x)
    cases r with
    | true =>
      wp_walk
      exact ⟨rfl, i + 1, hrest, by omega, q2⟩
    | false =>
      have hR := fin2 s2 q2
      wp_walk
      first | exact hR | exact ⟨_, rfl, hR⟩
  case fin =>
    rintro ⟨b1, b2⟩ s' ⟨hb', i, hz, hi, hI⟩
    simp only at hb'
    subst hb'
    have hge : min items.size items2.size ≤ i := by
      rcases Nat.lt_or_ge i (items.toList.zip items2.toList).length with h' | h'
      · rw [List.drop_eq_getElem_cons h'] at hz; cases hz
      · exact hZ ▸ h'
    have hi' : i = min items.size items2.size := by omega
    have hR := fin s' (hi' ▸ hI)
    wp_walk
    first | exact hR | exact ⟨_, rfl, by simpa [Builtin.Tuple.tupleCompareSizes] using hR⟩ | simpa [Builtin.Tuple.tupleCompareSizes] using hR
  case h =>
    exact ⟨rfl, 0, rfl, Nat.zero_le _, h0⟩
end
section
variable {prog : Program} {w : World} {A : Around} {E : Value → Shared → Prop} {s : Shared}
theorem rc_listJ {l b : Addr} {N : Nat} {Q : Value → Shared → Prop} (hu : A.units < cLine) (I : Nat → Shared → Prop) (J : Shared → Prop) (hl : ListJ prog w A E l b N I J)
    (fin : ∀ s, I N s → Q (.bool true) s) (fin2 : ∀ s, J s → Q (.bool false) s) (h : I 0 s) : wpAny (model prog w) A (richCompare .Eq (.ref l) (.ref b)) Q E s := by
  obtain ⟨items, items2, n, n2, hl1, hb1, _, _, _⟩ := hl.1 _ _ h
  refine wpAny_richCompare_same_room (op := .Eq) ⟨_, hl1, rfl⟩ ⟨_, hb1, rfl⟩ F.slot_list_eq (call_here F.slot_list_eq ⟨_, hl1, rfl⟩ F.entry_list_eq (F.args_list_eq_2 _ _) ?_) hu
  exact list_eqJ (R := wants (fun v s' => v ≠ .notImplemented ∧ Q v s') E) l b N I J hl (fun s' q => ⟨(fun x => nomatch x), fin s' q⟩) (fun s' q => ⟨(fun x => nomatch x), fin2 s' q⟩) h
theorem rcn_listJ {l b : Addr} {N : Nat} {Q : Value → Shared → Prop} (hu : A.units < cLine) (I : Nat → Shared → Prop) (J : Shared → Prop) (hl : ListJ prog w A E l b N I J)
    (fin : ∀ s, I N s → Q (.bool false) s) (fin2 : ∀ s, J s → Q (.bool true) s) (h : I 0 s) : wpAny (model prog w) A (richCompare .NotEq (.ref l) (.ref b)) Q E s := by
  obtain ⟨items, items2, n, n2, hl1, hb1, _, _, _⟩ := hl.1 _ _ h
  refine wpAny_richCompare_same_room (op := .NotEq) ⟨_, hl1, rfl⟩ ⟨_, hb1, rfl⟩ F.slot_list_ne (call_here F.slot_list_ne ⟨_, hl1, rfl⟩ F.entry_list_ne (F.args_list_ne_2 _ _) ?_) hu
  exact list_neJ (R := wants (fun v s' => v ≠ .notImplemented ∧ Q v s') E) l b N I J hl (fun s' q => ⟨(fun x => nomatch x), fin s' q⟩) (fun s' q => ⟨(fun x => nomatch x), fin2 s' q⟩) h
theorem rc_tupJ {l b : Addr} {items items2 : Array Value} {Q : Value → Shared → Prop} (hu : A.units < cLine) (I : Nat → Shared → Prop) (J : Shared → Prop)
    (hl : s.heap.IsTuple l items) (hb : s.heap.IsTuple b items2)
    (turn : ∀ i (h1 : i < items.size) (h2 : i < items2.size) s, I i s → wpAny (model prog w) A.in1 (eqBool items[i] items2[i]) (fun r s' => if r then I (i + 1) s' else J s') E s)
    (fin : ∀ s, I (min items.size items2.size) s → Q (.bool (items.size == items2.size)) s) (fin2 : ∀ s, J s → Q (.bool false) s) (h : I 0 s) : wpAny (model prog w) A (richCompare .Eq (.ref l) (.ref b)) Q E s := by
  obtain ⟨⟨cls, dd, data, sl⟩, ho, hc, n, hd⟩ := id hl
  obtain ⟨⟨cls2, dd2, data2, sl2⟩, ho2, hc2, n2, hd2⟩ := id hb
  simp only at hc hd hc2 hd2
  subst hc hd hc2 hd2
  refine wpAny_richCompare_same_room (op := .Eq) ⟨_, ho, rfl⟩ ⟨_, ho2, rfl⟩ F.slot_tuple_eq (call_here F.slot_tuple_eq ⟨_, ho, rfl⟩ F.entry_tuple_eq (F.args_tuple_eq_2 _ _) ?_) hu
  exact tuple_eqJ (R := wants (fun v s' => v ≠ .notImplemented ∧ Q v s') E) l b items items2 n n2 dd dd2 sl sl2 I J turn (fun s' q => ⟨(fun x => nomatch x), fin s' q⟩) (fun s' q => ⟨(fun x => nomatch x), fin2 s' q⟩) ho ho2 h
theorem rcn_tupJ {l b : Addr} {items items2 : Array Value} {Q : Value → Shared → Prop} (hu : A.units < cLine) (I : Nat → Shared → Prop) (J : Shared → Prop)
    (hl : s.heap.IsTuple l items) (hb : s.heap.IsTuple b items2)
    (turn : ∀ i (h1 : i < items.size) (h2 : i < items2.size) s, I i s → wpAny (model prog w) A.in1 (eqBool items[i] items2[i]) (fun r s' => if r then I (i + 1) s' else J s') E s)
    (fin : ∀ s, I (min items.size items2.size) s → Q (.bool (items.size != items2.size)) s) (fin2 : ∀ s, J s → Q (.bool true) s) (h : I 0 s) : wpAny (model prog w) A (richCompare .NotEq (.ref l) (.ref b)) Q E s := by
  obtain ⟨⟨cls, dd, data, sl⟩, ho, hc, n, hd⟩ := id hl
  obtain ⟨⟨cls2, dd2, data2, sl2⟩, ho2, hc2, n2, hd2⟩ := id hb
  simp only at hc hd hc2 hd2
  subst hc hd hc2 hd2
  refine wpAny_richCompare_same_room (op := .NotEq) ⟨_, ho, rfl⟩ ⟨_, ho2, rfl⟩ F.slot_tuple_ne (call_here F.slot_tuple_ne ⟨_, ho, rfl⟩ F.entry_tuple_ne (F.args_tuple_ne_2 _ _) ?_) hu
  exact tuple_neJ (R := wants (fun v s' => v ≠ .notImplemented ∧ Q v s') E) l b items items2 n n2 dd dd2 sl sl2 I J turn (fun s' q => ⟨(fun x => nomatch x), fin s' q⟩) (fun s' q => ⟨(fun x => nomatch x), fin2 s' q⟩) ho ho2 h
/-- == within a builtin, of two different objects, one at least a reference -/
theorem eqBool_J {u v : Value} {Q : Bool → Shared → Prop} (hne : (u == v) = false) (hf : ∀ a t b t', u = .float a t → v = .float b t' → False) (h : wpAny (model prog w) A (richCompare .Eq u v) (fun v s' => ∃ r, v = .bool r ∧ Q r s') E s) : wpAny (model prog w) A (eqBool u v) Q E s := by
  unfold eqBool
  refine wpAny_holding ?_
  refine wpAny_ite_split (fun hab => absurd hab (by rw [hne]; exact Bool.false_ne_true)) (fun _ => ?_)
  have key : wpAny (model prog w) A (do truthOfDropped (← richCompare .Eq u v)) Q E s := by
    refine wpAny_bind (wpAny_mono h (fun v s' hv => ?_) fun _ _ x => x)
    obtain ⟨r, rfl, q⟩ := hv
    exact wpAny_truthy_bool q
  cases u <;> cases v <;> first | exact key | exact (hf _ _ _ _ rfl rfl).elim
end
end GQ2
set_option Elab.async false
set_option linter.all false
set_option maxRecDepth 100000
set_option maxHeartbeats 0
/-! SndO1: an instance's operators, low. (The declining parts printed by a program.) -/
namespace GQ3
open PySem PySem.SeqAt
open AutoSeq1 (wpAny_loadPart')
open MeetsSeq MeetsSeq2 MeetsSeq3
theorem int_add_ref (b : Int) (u : Tok) (l C dx : Addr) : Meets (Builtin.«int.__add__» ⟨[.int b u, .ref l], []⟩) (fun _ R s => s.heap.get? l = some (PySem.W.instObj C dx) ∧ R (.ok (.ret .notImplemented)) s) :=
  .of_wp fun prog w A R s h => by obtain ⟨hp, g, d, tk, os⟩ := s; obtain ⟨hl, h⟩ := h; wp_walk using wpAny_loadPart' hl, wpAny_load hl; exact ⟨_, rfl, h⟩
theorem int_sub_ref (b : Int) (u : Tok) (l C dx : Addr) : Meets (Builtin.«int.__sub__» ⟨[.int b u, .ref l], []⟩) (fun _ R s => s.heap.get? l = some (PySem.W.instObj C dx) ∧ R (.ok (.ret .notImplemented)) s) :=
  .of_wp fun prog w A R s h => by obtain ⟨hp, g, d, tk, os⟩ := s; obtain ⟨hl, h⟩ := h; wp_walk using wpAny_loadPart' hl, wpAny_load hl; exact ⟨_, rfl, h⟩
theorem int_mul_ref (b : Int) (u : Tok) (l C dx : Addr) : Meets (Builtin.«int.__mul__» ⟨[.int b u, .ref l], []⟩) (fun _ R s => s.heap.get? l = some (PySem.W.instObj C dx) ∧ R (.ok (.ret .notImplemented)) s) :=
  .of_wp fun prog w A R s h => by obtain ⟨hp, g, d, tk, os⟩ := s; obtain ⟨hl, h⟩ := h; wp_walk using wpAny_loadPart' hl, wpAny_load hl; exact ⟨_, rfl, h⟩
theorem int_floordiv_ref (b : Int) (u : Tok) (l C dx : Addr) : Meets (Builtin.«int.__floordiv__» ⟨[.int b u, .ref l], []⟩) (fun _ R s => s.heap.get? l = some (PySem.W.instObj C dx) ∧ R (.ok (.ret .notImplemented)) s) :=
  .of_wp fun prog w A R s h => by obtain ⟨hp, g, d, tk, os⟩ := s; obtain ⟨hl, h⟩ := h; wp_walk using wpAny_loadPart' hl, wpAny_load hl; exact ⟨_, rfl, h⟩
theorem int_mod_ref (b : Int) (u : Tok) (l C dx : Addr) : Meets (Builtin.«int.__mod__» ⟨[.int b u, .ref l], []⟩) (fun _ R s => s.heap.get? l = some (PySem.W.instObj C dx) ∧ R (.ok (.ret .notImplemented)) s) :=
  .of_wp fun prog w A R s h => by obtain ⟨hp, g, d, tk, os⟩ := s; obtain ⟨hl, h⟩ := h; wp_walk using wpAny_loadPart' hl, wpAny_load hl; exact ⟨_, rfl, h⟩
theorem int_lt_ref (b : Int) (u : Tok) (l C dx : Addr) : Meets (Builtin.«int.__lt__» ⟨[.int b u, .ref l], []⟩) (fun _ R s => s.heap.get? l = some (PySem.W.instObj C dx) ∧ R (.ok (.ret .notImplemented)) s) :=
  .of_wp fun prog w A R s h => by obtain ⟨hp, g, d, tk, os⟩ := s; obtain ⟨hl, h⟩ := h; wp_walk using wpAny_loadPart' hl, wpAny_load hl; exact ⟨_, rfl, h⟩
theorem int_le_ref (b : Int) (u : Tok) (l C dx : Addr) : Meets (Builtin.«int.__le__» ⟨[.int b u, .ref l], []⟩) (fun _ R s => s.heap.get? l = some (PySem.W.instObj C dx) ∧ R (.ok (.ret .notImplemented)) s) :=
  .of_wp fun prog w A R s h => by obtain ⟨hp, g, d, tk, os⟩ := s; obtain ⟨hl, h⟩ := h; wp_walk using wpAny_loadPart' hl, wpAny_load hl; exact ⟨_, rfl, h⟩
theorem int_gt_ref (b : Int) (u : Tok) (l C dx : Addr) : Meets (Builtin.«int.__gt__» ⟨[.int b u, .ref l], []⟩) (fun _ R s => s.heap.get? l = some (PySem.W.instObj C dx) ∧ R (.ok (.ret .notImplemented)) s) :=
  .of_wp fun prog w A R s h => by obtain ⟨hp, g, d, tk, os⟩ := s; obtain ⟨hl, h⟩ := h; wp_walk using wpAny_loadPart' hl, wpAny_load hl; exact ⟨_, rfl, h⟩
theorem int_ge_ref (b : Int) (u : Tok) (l C dx : Addr) : Meets (Builtin.«int.__ge__» ⟨[.int b u, .ref l], []⟩) (fun _ R s => s.heap.get? l = some (PySem.W.instObj C dx) ∧ R (.ok (.ret .notImplemented)) s) :=
  .of_wp fun prog w A R s h => by obtain ⟨hp, g, d, tk, os⟩ := s; obtain ⟨hl, h⟩ := h; wp_walk using wpAny_loadPart' hl, wpAny_load hl; exact ⟨_, rfl, h⟩
theorem int_eq_ref (b : Int) (u : Tok) (l C dx : Addr) : Meets (Builtin.«int.__eq__» ⟨[.int b u, .ref l], []⟩) (fun _ R s => s.heap.get? l = some (PySem.W.instObj C dx) ∧ R (.ok (.ret .notImplemented)) s) :=
  .of_wp fun prog w A R s h => by obtain ⟨hp, g, d, tk, os⟩ := s; obtain ⟨hl, h⟩ := h; wp_walk using wpAny_loadPart' hl, wpAny_load hl; exact ⟨_, rfl, h⟩
theorem int_ne_ref (b : Int) (u : Tok) (l C dx : Addr) : Meets (Builtin.«int.__ne__» ⟨[.int b u, .ref l], []⟩) (fun _ R s => s.heap.get? l = some (PySem.W.instObj C dx) ∧ R (.ok (.ret .notImplemented)) s) :=
  .of_wp fun prog w A R s h => by obtain ⟨hp, g, d, tk, os⟩ := s; obtain ⟨hl, h⟩ := h; wp_walk using wpAny_loadPart' hl, wpAny_load hl; exact ⟨_, rfl, h⟩
theorem str_eq_ref (b : Str) (u : Tok) (l C dx : Addr) : Meets (Builtin.«str.__eq__» ⟨[.str b u, .ref l], []⟩) (fun _ R s => s.heap.get? l = some (PySem.W.instObj C dx) ∧ R (.ok (.ret .notImplemented)) s) :=
  .of_wp fun prog w A R s h => by obtain ⟨hp, g, d, tk, os⟩ := s; obtain ⟨hl, h⟩ := h; wp_walk using wpAny_loadPart' hl, wpAny_load hl; exact ⟨_, rfl, h⟩
theorem none_eq_ref (l C dx : Addr) : Meets (Builtin.«NoneType.__eq__» ⟨[.none, .ref l], []⟩) (fun _ R s => s.heap.get? l = some (PySem.W.instObj C dx) ∧ R (.ok (.ret .notImplemented)) s) :=
  .of_wp fun prog w A R s h => by obtain ⟨hp, g, d, tk, os⟩ := s; obtain ⟨hl, h⟩ := h; wp_walk using wpAny_loadPart' hl, wpAny_load hl; exact ⟨_, rfl, h⟩
theorem bool_eq_ref (b : Bool) (l C dx : Addr) : Meets (Builtin.«int.__eq__» ⟨[.bool b, .ref l], []⟩) (fun _ R s => s.heap.get? l = some (PySem.W.instObj C dx) ∧ R (.ok (.ret .notImplemented)) s) :=
  .of_wp fun prog w A R s h => by obtain ⟨hp, g, d, tk, os⟩ := s; obtain ⟨hl, h⟩ := h; wp_walk using wpAny_loadPart' hl, wpAny_load hl; exact ⟨_, rfl, h⟩
theorem str_ne_ref (b : Str) (u : Tok) (l C dx : Addr) : Meets (Builtin.«str.__ne__» ⟨[.str b u, .ref l], []⟩) (fun _ R s => s.heap.get? l = some (PySem.W.instObj C dx) ∧ R (.ok (.ret .notImplemented)) s) :=
  .of_wp fun prog w A R s h => by obtain ⟨hp, g, d, tk, os⟩ := s; obtain ⟨hl, h⟩ := h; wp_walk using wpAny_loadPart' hl, wpAny_load hl; exact ⟨_, rfl, h⟩
theorem none_ne_ref (l C dx : Addr) : Meets (Builtin.«NoneType.__ne__» ⟨[.none, .ref l], []⟩) (fun _ R s => s.heap.get? l = some (PySem.W.instObj C dx) ∧ R (.ok (.ret .notImplemented)) s) :=
  .of_wp fun prog w A R s h => by obtain ⟨hp, g, d, tk, os⟩ := s; obtain ⟨hl, h⟩ := h; wp_walk using wpAny_loadPart' hl, wpAny_load hl; exact ⟨_, rfl, h⟩
theorem bool_ne_ref (b : Bool) (l C dx : Addr) : Meets (Builtin.«int.__ne__» ⟨[.bool b, .ref l], []⟩) (fun _ R s => s.heap.get? l = some (PySem.W.instObj C dx) ∧ R (.ok (.ret .notImplemented)) s) :=
  .of_wp fun prog w A R s h => by obtain ⟨hp, g, d, tk, os⟩ := s; obtain ⟨hl, h⟩ := h; wp_walk using wpAny_loadPart' hl, wpAny_load hl; exact ⟨_, rfl, h⟩
end GQ3
namespace PySem.W
open PySem PySem.Calls PyProof.Rows Builtin
section
variable {prog : Program} {w : World} {M : Model} {A : Around} {E : Value → Shared → Prop} {s : Shared} {K : Frag} {x C dx f : Addr} {ox : Obj} {od : Option Obj} {nm : String}
/-- what a left operand of a built-in type does with an instance: it declines -/
def Decl (a : Value) (T : String) (name : Str) (C dx x : Addr) : Prop := ∃ id, Slot T name id ∧ ∀ (prog : Program) (w : World) (A : Around) (E : Value → Shared → Prop) (s : Shared) (Q : Value → Shared → Prop), s.heap.get? x = some (instObj C dx) → Q .notImplemented s → wpAny (model prog w) A (call (.builtin id) [a, .ref x]) Q E s
theorem decl_try {a : Value} {T : String} {name : Str} {Q : Option Value → Shared → Prop} (hT : s.TypeIs a T) (D : Decl a T name C dx x) (hx : s.heap.get? x = some (instObj C dx)) (q : Q none s) : wpAny (model prog w) A (tryMethod a name (.ref x)) Q E s := by
  obtain ⟨id, S, h⟩ := D
  exact wpAny_tryMethod_declines hT S (h prog w A E s _ hx ⟨rfl, q⟩)
theorem decl_cmp {a : Value} {T : String} {name : Str} {Q : Option Value → Shared → Prop} (hT : s.TypeIs a T) (D : Decl a T name C dx x) (hx : s.heap.get? x = some (instObj C dx)) (q : Q none s) : wpAny (model prog w) A (tryCompare a name (.ref x)) Q E s := by
  obtain ⟨id, S, h⟩ := D
  exact wpAny_tryCompare_declines hT S (h prog w A E s _ hx ⟨rfl, q⟩)
theorem bin_right {op : Operator} {a : Value} {T : String} {Q : Value → Shared → Prop} {fl : Addr} (X : K.In s.heap) (I : InstAt s.heap x (instObj C dx) C od) (hT : typeOf a = pure (.type T)) (hTi : s.TypeIs a T) (hc : selfFirst K C = true) (hfl : fillsNumberSlot (.type T) op.info.2 = pure true)
    (hs : findIn K (.ref C) (PySem.dunder op.info.2) = some (some (.ref fl))) (hr : findIn K (.ref C) (dunderR op.info.2) = some (some (.ref f))) (hf : isFn K (.ref f) = true) (hsub : subIn K (.ref C) (.type T) = some false)
    (D : Decl a T (PySem.dunder op.info.2) C dx x) (h : wpAny (model prog w) A (call (.ref f) [.ref x, a]) (CmpBack Q) E s) : wpAny (model prog w) A (binaryOp op a (.ref x)) Q E s := by
  obtain ⟨cd, rest, hcd, hm⟩ := ksp_first hc
  have one := ksp_try X I hr hf h
  have hx := I.at_
  rcases hi : op.info with ⟨sym, nm'⟩
  rw [hi] at hs hr hfl D one
  dsimp only at hs hr hfl D one
  obtain ⟨hh, g, d, tt, os⟩ := s
  have L1 : Looks (model prog w) hh (typeOf (.ref x)) (.ref C) := I.type
  have L2 : Looks (model prog w) hh (typeOf a) (.type T) := Looks.of_pure hT
  have L3 : Looks (model prog w) hh (fillsNumberSlot (.ref C) nm') true := fills_K X hcd hm hs
  have L4 : Looks (model prog w) hh (fillsNumberSlot (.type T) nm') true := Looks.of_pure hfl
  have L5 : Looks (model prog w) hh (isSubtype (.ref C) (.type T)) false := looks_subIn X hsub
  have L7 : Looks (model prog w) hh (numberSlotInPython (.type T) nm') false := Looks.of_pure rfl
  have hne : (Value.type T == Value.ref C) = false := Bool.eq_false_iff.mpr fun q => by cases beq_iff_eq.mp q
  simp only [binaryOp, hi]
  refine wpAny_holding (wpAny_bind ?_)
  unfold binaryOp1
  refine wpAny_bind (L2.at (wpAny_bind (L1.at (wpAny_bind (L4.at ?_)))))
  simp only [hne, Bool.false_eq_true, if_false]
  refine wpAny_bind (L3.at ?_)
  simp only [Bool.and_self, if_true]
  refine wpAny_bind (L5.at ?_)
  simp only [Bool.false_eq_true, if_false, pure_bind, Bool.not_false, Bool.and_self, if_true]
  refine wpAny_bind (L7.at ?_)
  simp only [Bool.false_eq_true, if_false, pure_bind]
  refine wpAny_bind (decl_try hTi D hx ?_)
  refine wpAny_bind (wpAny_mono one (fun r s' hr' => ?_) fun _ _ e => e)
  obtain ⟨v, rfl, hq⟩ := hr'
  exact wpAny_bind (wpAny_rule (wpAny_pure (wpAny_pure hq)))
/-- an instance's own comparison, tried -/
theorem cmp_try {name : Str} {b : Value} {Q : Option Value → Shared → Prop} (X : K.In s.heap) (I : InstAt s.heap x ox C od) (hs : findIn K (.ref C) name = some (some (.ref f))) (hf : isFn K (.ref f) = true)
    (h : wpAny M A (call (.ref f) [.ref x, b]) (CmpBack fun v => Q (some v)) E s) : wpAny M A (tryCompare (.ref x) name b) Q E s := by
  unfold tryCompare
  refine wpAny_bind (ifBound_K X I hs hf (wpAny_mono h (fun v s' hv => ?_) fun _ _ e => e))
  cases v <;> first | exact hv.elim | exact wpAny_pure hv
theorem cmp_right {op : CmpOp} {a : Value} {T : String} {Q : Value → Shared → Prop} (hu : A.units < cLine) (ho : oneThing? op a (.ref x) = none) (X : K.In s.heap) (I : InstAt s.heap x (instObj C dx) C od) (hT : typeOf a = pure (.type T)) (hTi : s.TypeIs a T) (hsub : subIn K (.ref C) (.type T) = some false)
    (D : Decl a T (cmpInfo op).2.1 C dx x) (h : ∀ Q' : Option Value → Shared → Prop, (∀ v s', v ≠ .notImplemented → Q v s' → Q' (some v) s') → wpAny (model prog w) A (tryCompare (.ref x) (cmpInfo op).2.2 a) Q' E s) :
    wpAny (model prog w) A (richCompare op a (.ref x)) Q E s := by
  have hx := I.at_
  unfold richCompare
  simp only [ho]
  refine wpAny_holding (wpAny_bind (wpAny_cRoomFor hu ?_))
  refine wpAny_bind ((Looks.of_pure hT).here (wpAny_bind (I.type.here ?_)))
  rw [if_pos (by simp)]
  refine wpAny_bind ((looks_subIn X hsub).here ?_)
  simp only [Bool.false_eq_true, if_false, Bool.not_false, if_true]
  refine wpAny_bind (decl_cmp hTi D hx ?_)
  refine wpAny_bind (h _ fun v s' _ q => ?_)
  exact wpAny_pure q
/-- the check ahead of a built-in slot, at an instance -/
theorem check_K {id owner n : String} {rest : List Value} {Q : Unit → Shared → Prop} (hk : builtinKind id = some .slot) (hs : splitId id = some (owner, n))
    (ha : argsOk id ⟨.ref x :: rest, []⟩) (X : K.In s.heap) (I : InstAt s.heap x ox C od) (hsub : subIn K (.ref C) (.type owner) = some true) (hq : Q () s) :
    wpAny M A (checkBuiltinCall id ⟨.ref x :: rest, []⟩) Q E s := by
  simp only [checkBuiltinCall, hk, hs]
  refine wpAny_bind ?_
  · unfold isInstance
    obtain ⟨hh, g, d, tt, os⟩ := s
    have L1 : Looks M hh (typeOf (.ref x)) (.ref C) := I.type
    have L5 : Looks M hh (isSubtype (.ref C) (.type owner)) true := looks_subIn X hsub
    repeat (first | lk | wp_step)
    cases hsig : Manifest.signature? id with
    | none => exact wpAny_pure hq
    | some sig =>
      simp only [argsOk, hsig] at ha
      have h2 : Bind.checkArgs id sig ⟨.ref x :: rest, []⟩ = pure () := ha
      show wpAny M A (Bind.checkArgs id sig ⟨.ref x :: rest, []⟩) Q E _
      rw [h2]; exact wpAny_pure hq
/-- != by an own ==: object's -/
theorem ne_try {b : Value} {Q : Option Value → Shared → Prop} (hu : A.units + 1 < cLine) (X : K.In s.heap) (I : InstAt s.heap x ox C od) (hn : findIn K (.ref C) "__ne__" = some (some (.builtin "object.__ne__"))) (hsub : subIn K (.ref C) (.type "object") = some true)
    (hs : findIn K (.ref C) "__eq__" = some (some (.ref f))) (hf : isFn K (.ref f) = true)
    (h : wpAny (model prog w) A.in1 (call (.ref f) [.ref x, b]) (fun v s' => ∃ k, v = .bool k ∧ Q (some (.bool !k)) s') E s) : wpAny (model prog w) A (tryCompare (.ref x) "__ne__" b) Q E s := by
  have inner : wpAny (model prog w) A (call (.builtin "object.__ne__") [.ref x, b]) (fun v s' => v ≠ .notImplemented ∧ Q (some v) s') E s := by
    refine wpAny_call (codeAny_call_builtin F.cmp_object.ne.plain F.cmpEntry_ne (check_K F.cmpKind_ne F.cmpSplit_ne (F.cmpArgs_ne _ _) X I hsub ?_))
    have eqt : ∀ Q' : Option Value → Shared → Prop, (∀ k s', Q (some (.bool !k)) s' → Q' (some (.bool k)) s') → wpAny (model prog w) A.in1 (callSpecialIfBound? (.ref x) (Str.ofString "__eq__") [b]) Q' E s := fun Q' hq' =>
      ifBound_K X I hs hf (wpAny_mono h (fun v s' hv => by
        obtain ⟨k, rfl, q⟩ := hv
        exact hq' k s' q) fun _ _ e => e)
    unfold Builtin.«object.__ne__»
    refine wpAny_bind (m := slotArgs "__ne__" 1 _) (wpAny_pure ?_)
    refine wpAny_bind (wpAny_cRoomFor (A := A.in1) hu ?_)
    refine wpAny_bind (eqt _ fun k s' q => ?_)
    refine wpAny_bind (wpAny_truthy_bool ?_)
    exact wpAny_pure ⟨(fun z => nomatch z), q⟩
  have fin : wpAny (model prog w) A (call (.builtin "object.__ne__") ([.ref x] ++ [b]) >>= fun v => pure (some v)) (fun r s' => ∃ v, r = some v ∧ v ≠ .notImplemented ∧ Q (some v) s') E s :=
    wpAny_bind (wpAny_mono inner (fun v s' h' => wpAny_pure ⟨v, rfl, h'.1, h'.2⟩) fun _ _ h' => h')
  simp only [tryCompare, callSpecialIfBound?, bindSpecialIfBound?]
  refine wpAny_bind (wpAny_holding (wpAny_bind (wpAny_bind (wpAny_bind (I.type.here ((looks_findIn X hn).here ?_))))))
  simp only [F.cmp_object.ne.bind]
  have fin2 : wpAny (model prog w) A (call (.builtin "object.__ne__") ([.ref x] ++ [b]) >>= fun v => pure (some v)) (fun r s' => wpAny (model prog w) A (match r with
      | some Value.notImplemented => pure none
      | none => pure none
      | some v => pure (some v)) Q E s') E s := wpAny_mono fin (fun r s' h' => by
    obtain ⟨v, rfl, hv, hq⟩ := h'
    cases v <;> first | exact absurd rfl hv | exact wpAny_pure hq) fun _ _ e => e
  refine wpAny_bind (wpAny_askSetting (wpAny_ite ?_))
  split
  · exact wpAny_bind (wpAny_pure (wpAny_pure fin2))
  · exact wpAny_tryCatch (wpAny_bind (wpAny_pure (wpAny_pure fin2)))
end
end PySem.W
set_option Elab.async false
set_option linter.all false
set_option maxRecDepth 100000
/-! SndH: what the head tells, the theorem of all functions. -/
namespace Snd
open PySem PySem.Spec PyProof.Rows L2 Ev
/-! ### the head's Hook -/
abbrev FnM : Type := Option (Str × Str × Arguments × FuncBody × Scope × Addr × List Str × Addr)
def fnM (K : PySem.W.Frag) (a : Addr) : FnM := match K.lookup a with
  | some ⟨_, _, .func fd, _⟩ => some (fd.name, fd.qualname, fd.params, fd.body, fd.scope, fd.globals, fd.closure.map (·.1), fd.builtins)
  | _ => none
abbrev AlM : Type := Bool × List FnM
def obsK (ck : PySem.W.Frag → Bool) (fas : PySem.W.Frag → List Addr) (K : PySem.W.Frag) : AlM := (ck K, (fas K).map (fnM K))
def obsM (n : List Addr) (ck : PySem.W.Frag → Bool) (fas : PySem.W.Frag → List Addr) (g : Addr → Option Obj) : AlM := obsK ck fas (He.frG g n)
def hookM (n : List Addr) (ck : PySem.W.Frag → Bool) (fas : PySem.W.Frag → List Addr) (val : List FnM) : PySem.W.Hook where
  α := AlM
  obs := fun s => obsM n ck fas s.heap.get?
  val := fun _ => (true, val)
  says := fun _ h => ∃ K : PySem.W.Frag, K.In h ∧ ck K = true ∧ (fas K).map (fnM K) = val
  of := fun _ _ e => ⟨_, He.frG_in, congrArg (fun z : AlM => z.1) e, congrArg (fun z : AlM => z.2) e⟩
  keeps := fun _ _ _ ⟨K, hK, c⟩ k => ⟨K, PySem.W.Frag.In.keeps hK k, c⟩
theorem obsM_eq {n : List Addr} {ck : PySem.W.Frag → Bool} {fas : PySem.W.Frag → List Addr} {val : List FnM} {g : Addr → Option Obj} {s : Shared} (h : ∀ a, g a = s.heap.get? a) : obsM n ck fas g = (hookM n ck fas val).obs s := by
  have e : g = s.heap.get? := funext h
  rw [e] <;> rfl
/-! ### functions -/
def defM (d : He.DefD) (cl : List Str) : FnM := some (d.name, d.qual, d.params, .stmts d.body, d.scope, mainGlobals, cl, builtinsNs)
def defOk (K : PySem.W.Frag) (a : Addr) (d : He.DefD) : Bool := PySem.W.keepIn K (.ref a) && (match K.lookup a with
  | some ⟨_, _, .func fd, _⟩ => PySem.W.codeIn K fd.code d.qual && (He.dflB K fd.defaults (d.dvs K) && He.kwdB K fd.kwdefaults (d.kws K))
  | _ => false)
theorem funD_of {K : PySem.W.Frag} {a : Addr} {d : He.DefD} (e : fnM K a = defM d []) (c : defOk K a d = true) : ∃ fd, FunD K d.name d.qual d.params d.body d.scope (d.dvs K) (d.kws K) a fd := by
  obtain ⟨kp, c2⟩ := He.ba c
  unfold fnM at e
  cases q : K.lookup a with
  | none =>
    rw [q] at c2
    cases c2
  | some o =>
    obtain ⟨oc, od, dt, osl⟩ := o
    rw [q] at c2 e
    cases dt with
    | func fd =>
      obtain ⟨n1, n2, n3, n4, n5, n6, n7, n8, n9, n10, n11, n12, n13, n14, n15⟩ := fd
      have e2 : (some (n1, n2, n3, n4, n5, n6, n7.map (·.1), n15) : FnM) = some (d.name, d.qual, d.params, .stmts d.body, d.scope, mainGlobals, [], builtinsNs) := e
      simp only [Option.some.injEq, Prod.mk.injEq, List.map_eq_nil_iff] at e2
      obtain ⟨h1, h2, h3, h4, h5, h6, h7, h8⟩ := e2
      subst h1 h2 h3 h4 h5 h6 h7 h8
      have c3 : (PySem.W.codeIn K n13 d.qual && (He.dflB K n8 (d.dvs K) && He.kwdB K n9 (d.kws K))) = true := c2
      obtain ⟨k1, k2⟩ := He.ba c3
      obtain ⟨k3, k4⟩ := He.ba k2
      exact ⟨_, ⟨oc, od, n8, n9, n10, n11, n12, n13, n14, osl, rfl, q, k1, He.dflB_ok k3, He.kwdB_ok k4⟩, kp⟩
    | _ => cases c2
/-! ### the text of a law -/
structure FnS where
  fn : Ev.Fn
  prop : Bool := false
  /-- an error's __init__ (it closes over __class__) -/
  err : Bool := false
  d : He.DefD
  N : List Str
  ps : List Str
structure Src where
  prog : Program
  /-- by their numbers -/
  fns : List (Nat × FnS)
  cls : List (Nat × Ev.Cls)
  cn : List Str
  at_ : List Str
  con : List (Nat × Str × D) := []
  free : List Str := []
  isi : List TY := []
  caught : List Nat := []
  bop : List (Nat × BO × Nat) := []
  rop : List (Nat × BO × Nat) := []
  cop : List (Nat × CO × Nat) := []
  neg : List (Nat × Nat) := []
  abs : List (Nat × Nat) := []
  str : List (Nat × Nat) := []
  get : List (Nat × Nat) := []
  len : List (Nat × Nat) := []
  inv : List (Nat × Nat) := []
  /-- names of other modules' functions -/
  imp : List (Str × String) := []
def Src.fnAt (S : Src) (f : Nat) : Option FnS := nameOf f S.fns
def Src.clAt (S : Src) (c : Nat) : Option Ev.Cls := nameOf c S.cls
def Src.coAt (S : Src) (j : Nat) : Option (Str × D) := nameOf j S.con
/-- the error's __init__, by its class -/
def look2 {α : Type} [DecidableEq α] (c : Nat) (o : α) : List (Nat × α × Nat) → Option Nat
  | [] => none
  | (k, p, f) :: r => if k = c ∧ p = o then some f else look2 c o r
def Src.T (S : Src) : Ev.Tab where
  cls := fun c => S.clAt c
  con := fun j => match S.coAt j with
    | some q => q.2
    | none => .non
  fn := fun f => match S.fnAt f with
    | some F => if F.err then none else some F.fn
    | none => none
  bop := fun c o => look2 c o S.bop
  rop := fun c o => look2 c o S.rop
  cop := fun c o => look2 c o S.cop
  neg := fun c => nameOf c S.neg
  abs := fun c => nameOf c S.abs
  str := fun c => nameOf c S.str
  get := fun c => nameOf c S.get
  len := fun c => nameOf c S.len
  inv := fun c => nameOf c S.inv
  isi := S.isi
def Src.nm (S : Src) : Nm where
  attr := fun m => S.at_.getD m "?"
  cls := fun c => S.cn.getD c "?"
  fn := fun f => match S.fnAt f with
    | some F => (F.d.at_, F.prop)
    | none => (("?", none), false)
  con := fun j => match S.coAt j with
    | some q => q.1
    | none => "?"
def Src.val (S : Src) : List FnM := S.fns.map fun q => let F := q.2; defM F.d (if F.err then ["__class__"] else [])
def Src.fas (S : Src) (K : PySem.W.Frag) : List Addr := S.fns.map fun q => fpA K (q.2.d.at_, q.2.prop)
/-! ### checks -/
def dvOf : D → He.Dv
  | .bl b => .bl b
  | .int i => .int i
  | .str s => .str (strOf s)
  | _ => .non
def conB (K : PySem.W.Frag) (x : Str) (d : D) : Bool := match d with
  | .tup ds => ds.all flat && (He.tupB K x (ds.map dvOf) && (He.Fa.glo x).ok K)
  | d => flat d && (match PySem.W.nsIn K mainGlobals x with
    | some (some u) => He.relB ((dvOf d).v K) u
    | _ => false)
/-- a class of instances -/
def clsB (S : Src) (K : PySem.W.Frag) (c : Nat) (C : Ev.Cls) : Bool :=
  (He.Fa.glo (S.nm.cls c)).ok K && ((He.Fa.cls (S.nm.cls c)).ok K && (He.eqO (PySem.W.findIn K (.ref (cad S.nm K c)) "__class__") (some (some (.builtin "object.__class__"))) && (decide (PySem.W.mroIn K (cad S.nm K c) (.type "object") = some true) &&
    (decide (C.fields.map S.nm.attr).Nodup && (decide (C.fields.length ≤ 100) && (C.fields.all (fun m => He.eqO (PySem.W.findIn K (.ref (cad S.nm K c)) (S.nm.attr m)) (some none)) &&
      (C.meths.all (fun q => He.eqO (PySem.W.findIn K (.ref (cad S.nm K c)) (S.nm.attr q.1)) (some (some (.ref (fad S.nm K q.2)))) && (PySem.W.isFn K (.ref (fad S.nm K q.2)) && (PySem.W.keepIn K (.ref (fad S.nm K q.2)) && decide (S.nm.attr q.1 ∉ C.fields.map S.nm.attr)))) &&
        (C.props.all (fun q => (match PySem.W.findIn K (.ref (cad S.nm K c)) (S.nm.attr q.1) with
          | some (some (.ref p)) => He.eqO (PySem.W.specialIn K (.ref p) "__get__") (some (some (.builtin "property.__get__"))) && (decide (PySem.W.takesIn K (.ref p) = some true) && (match PySem.W.recIn K p "property" with
            | some (.ref g :: _) => decide (g = fad S.nm K q.2)
            | _ => false))
          | _ => false)) &&
          ((He.Fa.mkr (S.nm.cls c)).ok K && decide (fad S.nm K C.init = He.ma K (He.ga K (S.nm.cls c)) "__init__"))))))))))
/-- an error's class -/
def erB (S : Src) (K : PySem.W.Frag) (c : Nat) (C : Ev.Cls) : Bool :=
  (He.Fa.glo (S.nm.cls c)).ok K && (PySem.W.keepIn K (.ref (cad S.nm K c)) && (decide (PySem.W.subIn K (.ref (cad S.nm K c)) (.type "BaseException") = some true) && (decide (PySem.W.typeIn K (.ref (cad S.nm K c)) = some (.type "type")) &&
    (He.eqO (PySem.W.findIn K (.ref (cad S.nm K c)) "__getattribute__") (some (some (.builtin "BaseException.__getattribute__"))) && (He.eqO (PySem.W.findIn K (.ref (cad S.nm K c)) "__getattr__") (some none) && (PySem.W.hasDictIn K (cad S.nm K c) &&
      (He.eqO (PySem.W.findIn K (.ref (cad S.nm K c)) "__class__") (some (some (.builtin "object.__class__"))) && (decide (PySem.W.mroIn K (cad S.nm K c) (.type "object") = some true) &&
        (decide (C.fields.map S.nm.attr).Nodup && C.fields.all (fun m => He.eqO (PySem.W.findIn K (.ref (cad S.nm K c)) (S.nm.attr m)) (some none)))))))))))
/-- one of its own: with fields, without -/
def noneV : Value → Bool
  | .none => true
  | _ => false
def erM (S : Src) (K : PySem.W.Frag) (c : Nat) (C : Ev.Cls) : Bool := match C.fields with
  | [] => PySem.W.excIn K (cad S.nm K c) He.veBase "ValueError.__new__"
  | _ => (match K.lookup (cad S.nm K c) with
    | some ⟨.type "type", _, .cls cd, sl⟩ => (match cd.mro, sl.toList with
      | .ref C' :: bm, [_, _, _, _, some (.builtin n), _] => C' == cad S.nm K c && (n == "ValueError.__new__" && (!cd.hasDel && (cd.hasDict && (PySem.HandSPX.refsVE bm && He.eqO (PySem.W.alongIn K "__init__" bm) (some (some (.builtin "ValueError.__init__")))))))
      | _, _ => false)
    | _ => false) && (He.eqO (PySem.W.findIn K (.ref (cad S.nm K c)) "__setattr__") (some (some (.builtin "object.__setattr__"))) && (He.eqO (PySem.W.findIn K (.ref (cad S.nm K c)) "__init__") (some (some (.ref (fad S.nm K C.init)))) &&
      (decide (PySem.W.typeIn K (.ref (fad S.nm K C.init)) = some (.type "function")) && (decide (PySem.W.subIn K (.ref (cad S.nm K c)) (.type "ValueError") = some true) && (decide (PySem.W.mroIn K (cad S.nm K c) (.ref (cad S.nm K c)) = some true) &&
        (decide (C.fields.length ≤ 20) && (!(C.fields.map S.nm.attr).contains "self" && ((C.fields.map S.nm.attr).all (fun f => !(f == ("__debug__" : Str))) && (match K.lookup (fad S.nm K C.init) with
          | some ⟨_, _, .func fd, _⟩ => (match fd.closure, fd.code with
            | [(y, cc)], .ref cda => (y == ("__class__" : Str)) && (noneV fd.defaults && ((match K.lookup cc with
              | some ⟨_, _, .cell (some (.ref D)), _⟩ => D == cad S.nm K c
              | _ => false) && (PySem.W.codeIn K (.ref cda) fd.qualname && (match K.lookup cda with
                | some ⟨_, _, .fields cvs, _⟩ => (match (cvs[2]? : Option Value) with
                  | some (.str file _) => (S.prog.main.file : Str) == file
                  | _ => false)
                | _ => false))))
            | _, _ => false)
          | _ => false)))))))))
def kinds (S : Src) : List Kd := [.int, .bool, .str, .non, .tuple, .list, .dict] ++ (S.cls.map (fun q => Kd.ins q.1) ++ S.cls.map fun q => Kd.exc q.1)
def kitB (S : Src) (K : PySem.W.Frag) : Bool := S.isi.all fun t => (kinds S).all fun k => (match kdIs S.T k t with
  | some b => decide (PySem.W.kitOne K (kdV S.nm K k) (tyV S.nm K t) = some b)
  | none => true)
def eriB (S : Src) (K : PySem.W.Frag) : Bool := S.caught.all fun c => S.cls.all fun q => !isErr S.T q.1 || decide (PySem.W.exmOne K (.ref (cad S.nm K q.1)) (.ref (cad S.nm K c)) = some (under S.T q.1 c))
theorem nameOf_mem {β : Type} {m : Nat} {b : β} : ∀ {l : List (Nat × β)}, nameOf m l = some b → (m, b) ∈ l
  | [], h => by cases h
  | (k, c) :: r, h => by
    have h' : (if k = m then some c else nameOf m r) = some b := h
    by_cases e : k = m
    · rw [if_pos e] at h'
      cases h'
      rw [e]
      exact List.mem_cons_self
    · rw [if_neg e] at h'
      exact List.mem_cons_of_mem _ (nameOf_mem h')
theorem all_at {β : Type} {p : Nat → β → Bool} {l : List (Nat × β)} {m : Nat} {b : β} (h : l.all (fun q => p q.1 q.2) = true) (e : nameOf m l = some b) : p m b = true := List.all_eq_true.mp h _ (nameOf_mem e)
/-! ### an instance's operators -/
def opOf' : BO → Operator := opOf
/-- a function of n arguments -/
def fnB (S : Src) (f n : Nat) : Bool := match S.fnAt f with
  | some F => !F.err && (F.fn.ini.isNone && decide (F.fn.np = n))
  | none => false
/-- the class's own function of the name -/
def ownB (S : Src) (K : PySem.W.Frag) (c f : Nat) (name : Str) : Bool := He.eqO (PySem.W.findIn K (.ref (cad S.nm K c)) name) (some (some (.ref (fad S.nm K f)))) && PySem.W.isFn K (.ref (fad S.nm K f))
def noneOrRef : Option (Option Value) → Bool
  | some none => true
  | some (some (.ref _)) => true
  | _ => false
def notT (K : PySem.W.Frag) (C : Addr) (T : String) : Bool := decide (PySem.W.subIn K (.ref C) (.type T) = some false)
def impB (S : Src) (K : PySem.W.Frag) : Bool := S.imp.all fun q => He.eqO (PySem.W.nsIn K mainGlobals q.1) (some (some (.builtin q.2)))
def opsB (S : Src) (K : PySem.W.Frag) : Bool :=
  S.bop.all (fun q => (S.clAt q.1).any (fun C => !C.exc) && (fnB S q.2.2 2 && (ownB S K q.1 q.2.2 (PySem.dunder (opOf q.2.1).info.2) && (PySem.W.selfFirst K (cad S.nm K q.1) && (noneOrRef (PySem.W.findIn K (.ref (cad S.nm K q.1)) (dunderR (opOf q.2.1).info.2)) &&
    ((PySem.W.findIn K (.type "int") (PySem.dunder (opOf q.2.1).info.2)).isSome && ((PySem.W.findIn K (.type "int") (dunderR (opOf q.2.1).info.2)).isSome && decide (PySem.W.subIn K (.type "int") (.ref (cad S.nm K q.1)) = some false)))))))) &&
  (S.rop.all (fun q => (S.clAt q.1).any (fun C => !C.exc) && (fnB S q.2.2 2 && (ownB S K q.1 q.2.2 (dunderR (opOf q.2.1).info.2) && (PySem.W.selfFirst K (cad S.nm K q.1) && ((match PySem.W.findIn K (.ref (cad S.nm K q.1)) (PySem.dunder (opOf q.2.1).info.2) with
      | some (some (.ref _)) => true
      | _ => false) && (notT K (cad S.nm K q.1) "int" && (q.2.1 == .add || (q.2.1 == .sub || (q.2.1 == .mul || (q.2.1 == .fdv || q.2.1 == .mod)))))))))) &&
  (S.cop.all (fun q => (S.clAt q.1).any (fun C => !C.exc) && (fnB S q.2.2 2 && (ownB S K q.1 q.2.2 (cmpInfo (copOf q.2.1)).2.1 && ((q.2.1 == .eq || (q.2.1 == .lt || (q.2.1 == .le || (q.2.1 == .gt || q.2.1 == .ge)))) &&
      (["int", "NoneType", "str", "bool", "tuple", "list"].all (fun T => PySem.W.notFirst K (cad S.nm K q.1) (.type T)) && (S.cls.all (fun r => r.2.exc || PySem.W.notFirst K (cad S.nm K q.1) (.ref (cad S.nm K r.1))) &&
        (["int", "NoneType", "str", "bool"].all (fun T => notT K (cad S.nm K q.1) T) && (He.eqO (PySem.W.findIn K (.ref (cad S.nm K q.1)) "__ne__") (some (some (.builtin "object.__ne__"))) && decide (PySem.W.subIn K (.ref (cad S.nm K q.1)) (.type "object") = some true)))))))) ) &&
  (S.neg.all (fun q => (S.clAt q.1).any (fun C => !C.exc) && (fnB S q.2 1 && ownB S K q.1 q.2 "__neg__")) && (S.abs.all (fun q => (S.clAt q.1).any (fun C => !C.exc) && (fnB S q.2 1 && ownB S K q.1 q.2 "__abs__")) && (S.str.all (fun q => (S.clAt q.1).any (fun C => !C.exc) && (fnB S q.2 1 && ownB S K q.1 q.2 "__str__")) &&
    (S.get.all (fun q => (S.clAt q.1).any (fun C => !C.exc) && (fnB S q.2 2 && (ownB S K q.1 q.2 "__getitem__" && PySem.W.fnIn K (fad S.nm K q.2)))) && (S.len.all (fun q => (S.clAt q.1).any (fun C => !C.exc) && (fnB S q.2 1 && ownB S K q.1 q.2 "__len__")) &&
      S.inv.all (fun q => (S.clAt q.1).any (fun C => !C.exc) && (fnB S q.2 2 && (ownB S K q.1 q.2 "__call__" && PySem.W.fnIn K (fad S.nm K q.2))))))))))) 
def Src.ck (S : Src) (K : PySem.W.Frag) : Bool :=
  S.fns.all (fun q => let F := q.2; if F.err then true else defOk K (fpA K (F.d.at_, F.prop)) F.d && (match F.d.at_ with
    | (x, none) => (He.Fa.glo x).ok K
    | _ => true)) &&
  (S.cls.all (fun q => if q.2.exc then erB S K q.1 q.2 && erM S K q.1 q.2 else clsB S K q.1 q.2) && (S.con.all (fun q => conB K q.2.1 q.2.2) && (S.free.all (fun x => (He.Fa.free x).ok K) && (kitB S K && (eriB S K &&
    (He.eqO (PySem.W.specialIn K (.builtin "object.__class__") "__get__") (some (some (.builtin "getset_descriptor.__get__"))) && (decide (PySem.W.takesIn K (.builtin "object.__class__") = some true) &&
      (He.eqO (PySem.W.nsIn K cStatics "thirdparty.any") (some none) && (He.eqO (PySem.W.nsIn K mainGlobals "super") (some none) && (impB S K && opsB S K))))))))))

/-! ### what the checks say -/
def nmE (S : Src) (me : Option (Addr × Addr)) : Nm := { S.nm with me := me }
structure HeadOk (S : Src) (Y : Core) : Prop where
  ck : S.ck Y.K = true
  val : (S.fas Y.K).map (fnM Y.K) = S.val
  kin : Y.K.In Y.base
  glob : Y.base.Ns mainGlobals Y.mg
  prog : Y.prog = S.prog
structure Facts (S : Src) (Y : Core) (nm : Nm) (cf : Nat → List D → Sto → R D) (k : Nat) : Prop where
  fn : ∀ f F, S.fnAt f = some F → F.err = false → F.fn.ini = none → FnI Y S.T nm cf k f F.fn.np
  mk_ : ∀ c C, clsI S.T c = some C → MkI Y S.T nm cf k c C
  cl : ∀ c C, S.T.cls c = some C → C.exc = false → ClI Y S.T nm cf k c C
  er : ∀ c C, S.T.cls c = some C → C.exc = true → ErC Y S.T nm c C
  xc : ∀ c C, S.T.cls c = some C → C.exc = true → XcI Y S.T nm c C
  eri : ∀ c, c ∈ S.caught → ErI Y S.T nm c
  kit : Kit Y S.T nm
  con : ∀ j q, S.coAt j = some q → ConI Y S.T nm j
  mgf : ∀ f F x, S.fnAt f = some F → F.err = false → F.prop = false → F.d.at_ = (x, none) → Y.mg x = some (.ref (fad nm Y.K f))
  mgc : ∀ c C, S.clAt c = some C → Y.mg (nm.cls c) = some (.ref (cad nm Y.K c))
  free : ∀ x, x ∈ S.free → Y.mg x = none
  ops : opsB S Y.K = true
  imp : ∀ x id, (x, id) ∈ S.imp → Y.mg x = some (.builtin id)
  kin : Y.K.In Y.base
/-- the text of an error's __init__ -/
inductive EBody (cat : Bool) (fs : List Str) : List Stmt → Prop where
  | mk (p0 p1 p2 p3 p4 : Pos) {te : Expr} {b : List Stmt} (hl : (p2.endLine == p3.line) = true) (ht : PySem.OwnX.TextE cat fs te) (ha : PySem.OwnX.Asg fs b) : EBody cat fs (.Expr (.Call (.Attribute (.Call (.Name "super" p0) [] [] p1) "__init__" p2) [te] [] p3) p4 :: b)
structure GoodE (fs : List Str) (cat : Bool) (d : He.DefD) : Prop where
  nam : d.name = "__init__"
  body : EBody cat fs d.body
  scp : PySem.OwnX.Scp fs d.scope
  head : ∃ ar, (d.params.posonlyargs ++ d.params.args).head? = some ar ∧ ar.arg = ("self" : Str)
  bind : ∀ (dV kV doc pm : Value) (an : Option Addr) (cdv ct : Value) (cc : Addr) (us : List Value), us.length = fs.length + 1 → dV = .none → bindArgs (PySem.W.ksFn d.name d.qual d.params d.body d.scope dV kV doc pm an cdv ct cc) ⟨us, []⟩ = pure ((("self" : Str) :: fs).zip us)
structure GoodF (S : Src) (Y : Core) (F : FnS) : Prop where
  sc : FnScope F.N F.ps F.d.scope
  n1 : F.ps.length = F.fn.np + (if F.fn.ini.isSome then 1 else 0)
  n2 : F.N.length = F.fn.nl
  n3 : F.fn.np ≤ F.fn.nl
  kwd : F.d.kwd = []
  dfl : F.fn.ini = none → F.d.dfl = []
  bindD : F.d.dfl ≠ [] → ∀ n j, j ≤ F.d.dfl.length → n + (F.d.dfl.length - j) = F.ps.length → ∀ (T : Addr) (kV doc pm : Value) (an : Option Addr) (cdv ct : Value) (us its : List Value), us.length = n → its.length = F.d.dfl.length →
    ∃ k, bindArgs (PySem.W.fnOf F.d.name F.d.qual F.d.params F.d.body F.d.scope (.ref T) kV doc pm an cdv ct) ⟨us, []⟩ = seqItems? (.ref T) >>= k ∧ k (some its.toArray) = pure (F.ps.zip (us ++ its.drop j))
  bind : F.d.dfl = [] → ∀ (kV doc pm : Value) (an : Option Addr) (cdv ct : Value) (us : List Value), us.length = F.ps.length → bindArgs (PySem.W.fnOf F.d.name F.d.qual F.d.params F.d.body F.d.scope .none kV doc pm an cdv ct) ⟨us, []⟩ = pure (F.ps.zip us)
  body : ∀ (me : Option (Addr × Addr)) (cf : Nat → List D → Sto → R D) (k : Nat), Facts S Y (nmE S me) cf k → ∀ (fa : Addr) (cdv : Value) (A : Around) (outer : List Env) (s : Shared) (H : Hp) (E : XK), Room (k + 7) (A.deeper (envOfC F.d.qual F.d.scope s.heap.objs.size fa cdv)) →
    PSs (cxF Y F.N F.d.qual F.d.scope fa cdv A outer s H E) F.d.body (tS S.T (nmE S me) Y.K cf (wF E) F.fn.body)
/-- a written default -/
def dvD1 : He.Dv → Option D
  | .non => some .non
  | .bl b => some (.bl b)
  | .int i => some (.int i)
  | _ => none
def dvD : List He.Dv → Option (List D)
  | [] => some []
  | d :: r => (dvD1 d).bind fun x => (dvD r).map (x :: ·)
theorem dvD_reps {K : PySem.W.Frag} (g : Gh) (T : Tab) (nm : Nm) : ∀ {l : List He.Dv} {ds : List D}, dvD l = some ds → Reps T nm K g ds (l.map (He.Dv.v K))
  | [], ds, h => by
    cases h
    exact .nil
  | d :: r, ds, h => by
    unfold dvD at h
    cases h1 : dvD1 d with
    | none => rw [h1] at h; cases h
    | some x =>
      rw [h1] at h
      cases h2 : dvD r with
      | none => rw [h2] at h; cases h
      | some xs =>
        rw [h2] at h
        cases h
        refine .cons ?_ (dvD_reps g T nm h2)
        cases d <;> cases h1
        · exact .non
        · exact .bl _
        · exact .int _
theorem dvD_len : ∀ {l : List He.Dv} {ds : List D}, dvD l = some ds → ds.length = l.length
  | [], ds, h => by
    cases h
    rfl
  | d :: r, ds, h => by
    unfold dvD at h
    cases h1 : dvD1 d with
    | none => rw [h1] at h; cases h
    | some x =>
      rw [h1] at h
      cases h2 : dvD r with
      | none => rw [h2] at h; cases h
      | some xs =>
        rw [h2] at h
        cases h
        show xs.length + 1 = r.length + 1
        rw [dvD_len h2]
/-- the text's numbers fit -/
def clsW (S : Src) (c : Nat) (C : Ev.Cls) : Bool := if C.exc then (match C.fields with
    | [] => !C.cat
    | _ => (match S.fnAt C.init with
      | some F => F.err && decide (F.d.at_ = (S.nm.cls c, some ("__init__" : Str))) && !F.prop
      | none => false)) else (match S.fnAt C.init with
      | some F => !F.err && (decide (F.fn.ini = some c) && (decide (F.fn.np = C.np) && (match dvD F.d.dfl with
        | some ds => dsBeq ds C.dfl
        | none => false)))
      | none => false) && (C.meths.all (fun q => (match S.fnAt q.2 with
        | some F => !F.err && F.fn.ini.isNone
        | none => false)) && C.props.all (fun q => (match S.fnAt q.2 with
        | some F => !F.err && (F.fn.ini.isNone && decide (F.fn.np = 1))
        | none => false)))
def Src.wf (S : Src) : Bool := S.cls.all (fun q => clsW S q.1 q.2) && !(S.prog.main.scope.names.lookup ("super" : Str)).isSome
section
variable {S : Src} {Y : Core} {me : Option (Addr × Addr)}
theorem HeadOk.parts (h : HeadOk S Y) : (∀ f F, S.fnAt f = some F → F.err = false → defOk Y.K (fpA Y.K (F.d.at_, F.prop)) F.d = true ∧ ∀ x, F.d.at_ = (x, none) → (He.Fa.glo x).ok Y.K = true) ∧
    (∀ c C, S.clAt c = some C → (if C.exc then erB S Y.K c C && erM S Y.K c C else clsB S Y.K c C) = true) ∧ (∀ j q, S.coAt j = some q → conB Y.K q.1 q.2 = true) ∧ (∀ x ∈ S.free, (He.Fa.free x).ok Y.K = true) ∧ kitB S Y.K = true ∧ eriB S Y.K = true ∧
    PySem.W.specialIn Y.K (.builtin "object.__class__") "__get__" = some (some (.builtin "getset_descriptor.__get__")) ∧ PySem.W.takesIn Y.K (.builtin "object.__class__") = some true ∧ PySem.W.nsIn Y.K cStatics "thirdparty.any" = some none ∧ PySem.W.nsIn Y.K mainGlobals "super" = some none ∧ impB S Y.K = true ∧ opsB S Y.K = true := by
  have z := h.ck
  unfold Src.ck at z
  obtain ⟨h1, z⟩ := He.ba z
  obtain ⟨h2, z⟩ := He.ba z
  obtain ⟨h3, z⟩ := He.ba z
  obtain ⟨h4, z⟩ := He.ba z
  obtain ⟨h5, z⟩ := He.ba z
  obtain ⟨h6, z⟩ := He.ba z
  obtain ⟨h7, z⟩ := He.ba z
  obtain ⟨h8, z⟩ := He.ba z
  obtain ⟨h9, z⟩ := He.ba z
  obtain ⟨h10, z⟩ := He.ba z
  obtain ⟨h11, h12⟩ := He.ba z
  refine ⟨fun f F hF he => ?_, fun c C hc => ?_, fun j q hj => all_at (p := fun _ q => conB Y.K q.1 q.2) h3 hj, List.all_eq_true.mp h4, h5, h6, He.eqO_ok h7, of_decide_eq_true h8, He.eqO_ok h9, He.eqO_ok h10, h11, h12⟩
  · have q := all_at (p := fun _ F => if F.err then true else defOk Y.K (fpA Y.K (F.d.at_, F.prop)) F.d && (match F.d.at_ with
      | (x, none) => (He.Fa.glo x).ok Y.K
      | _ => true)) h1 hF
    rw [he] at q
    obtain ⟨q1, q2⟩ := He.ba q
    refine ⟨q1, fun x ex => ?_⟩
    rw [ex] at q2
    exact q2
  · exact all_at (p := fun c C => if C.exc then erB S Y.K c C && erM S Y.K c C else clsB S Y.K c C) h2 hc
theorem map_at {α β : Type} {f g : α → β} : ∀ {l : List α} {x : α}, l.map f = l.map g → x ∈ l → f x = g x
  | [], _, _, h => by cases h
  | y :: r, x, e, h => by
    simp only [List.map_cons, List.cons.injEq] at e
    rcases List.mem_cons.mp h with rfl | h
    · exact e.1
    · exact map_at e.2 h
theorem HeadOk.defAt (h : HeadOk S Y) {f : Nat} {F : FnS} (hf : S.fnAt f = some F) : fnM Y.K (fpA Y.K (F.d.at_, F.prop)) = defM F.d (if F.err then ["__class__"] else []) := by
  have e : (S.fas Y.K).map (fnM Y.K) = S.val := h.val
  unfold Src.fas Src.val at e
  rw [List.map_map] at e
  exact map_at e (nameOf_mem hf)
theorem HeadOk.fun_ (h : HeadOk S Y) {f : Nat} {F : FnS} (hf : S.fnAt f = some F) (he : F.err = false) : ∃ fd, FunD Y.K F.d.name F.d.qual F.d.params F.d.body F.d.scope (F.d.dvs Y.K) (F.d.kws Y.K) (fad S.nm Y.K f) fd := by
  have e3 := h.defAt hf
  rw [he] at e3
  have ea : fad S.nm Y.K f = fpA Y.K (F.d.at_, F.prop) := by
    unfold fad Src.nm
    simp only [hf]
  rw [ea]
  exact funD_of e3 (h.parts.1 f F hf he).1
theorem dvOf_rel {K : PySem.W.Frag} {d : D} (h : flat d = true) (g : Gh) (T : Tab) (nm : Nm) : Rep T nm K g d ((dvOf d).v K) := by
  cases d with
  | non => exact .non
  | bl b => exact .bl b
  | int i => exact .int i
  | str z => exact .str z
  | _ => cases h
theorem dvOf_reps {K : PySem.W.Frag} (g : Gh) (T : Tab) (nm : Nm) : ∀ {ds : List D}, ds.all flat = true → Reps T nm K g ds ((ds.map dvOf).map (He.Dv.v K))
  | [], _ => .nil
  | d :: ds, h => by
    obtain ⟨h1, h2⟩ := Bool.and_eq_true_iff.mp (show (flat d && ds.all flat) = true from h)
    exact .cons (dvOf_rel h1 g T nm) (dvOf_reps g T nm h2)
theorem conB_flat {K : PySem.W.Frag} {x : Str} {d : D} (n : ∀ ds, d ≠ .tup ds) (z : conB K x d = true) : flat d = true ∧ (match PySem.W.nsIn K mainGlobals x with
    | some (some u) => He.relB ((dvOf d).v K) u
    | _ => false) = true := by
  cases d with
  | tup ds => exact absurd rfl (n ds)
  | _ => exact He.ba z
theorem HeadOk.con_ (h : HeadOk S Y) {j : Nat} {q : Str × D} (hj : S.coAt j = some q) : ConI Y S.T (nmE S me) j := by
  have z := h.parts.2.2.1 j q hj
  have ec : (nmE S me).con j = q.1 := by
    show (match S.coAt j with
      | some q => q.1
      | none => "?") = q.1
    rw [hj]
  have ed : S.T.con j = q.2 := by
    show (match S.coAt j with
      | some q => q.2
      | none => .non) = q.2
    rw [hj]
  unfold ConI
  rw [ec, ed]
  obtain ⟨x, d⟩ := q
  show ∃ u v, Y.mg x = some u ∧ RelV v u ∧ ∀ g, Rep S.T (nmE S me) Y.K g d v
  have flatc : flat d = true → (match PySem.W.nsIn Y.K mainGlobals x with
    | some (some u) => He.relB ((dvOf d).v Y.K) u
    | _ => false) = true → ∃ u v, Y.mg x = some u ∧ RelV v u ∧ ∀ g, Rep S.T (nmE S me) Y.K g d v := fun fl z => by
    cases e : PySem.W.nsIn Y.K mainGlobals x with
    | none => rw [e] at z; cases z
    | some o =>
      rw [e] at z
      cases o with
      | none => cases z
      | some u => exact ⟨u, _, PySem.W.mg_of h.kin h.glob e, He.relB_ok z, fun g => dvOf_rel fl g _ _⟩
  cases d with
  | tup ds =>
    obtain ⟨z1, z2⟩ := He.ba z
    obtain ⟨z2, z3⟩ := He.ba z2
    exact ⟨_, .ref (He.ga Y.K x), He.glo_ok h.kin h.glob z3, rfl, fun g => .tup (He.tupB_ok z2 _) (dvOf_reps g _ _ z1)⟩
  | non => exact flatc (conB_flat (fun _ y => by cases y) z).1 (conB_flat (fun _ y => by cases y) z).2
  | bl b => exact flatc (conB_flat (fun _ y => by cases y) z).1 (conB_flat (fun _ y => by cases y) z).2
  | int i => exact flatc (conB_flat (fun _ y => by cases y) z).1 (conB_flat (fun _ y => by cases y) z).2
  | str i => exact flatc (conB_flat (fun _ y => by cases y) z).1 (conB_flat (fun _ y => by cases y) z).2
  | _ => cases z
theorem HeadOk.kit_ (h : HeadOk S Y) : Kit Y S.T (nmE S me) := fun k t b hin hk => by
  have z := h.parts.2.2.2.2.1
  unfold kitB at z
  have z1 := List.all_eq_true.mp z t (by simpa using (show S.isi.contains t = true from hin))
  have hm : k ∈ kinds S := by
    unfold kinds
    cases k with
    | int => simp
    | bool => simp
    | str => simp
    | non => simp
    | tuple => simp
    | list => simp
    | dict => simp
    | ins c =>
      cases e : S.clAt c with
      | some C => exact List.mem_append_right _ (List.mem_append_left _ (List.mem_map.mpr ⟨(c, C), nameOf_mem e, rfl⟩))
      | none =>
        have e' : S.T.cls c = none := e
        cases t <;> simp only [kdIs, e'] at hk <;> first | (cases hk; done) | (split at hk <;> cases hk)
    | exc c =>
      cases e : S.clAt c with
      | some C => exact List.mem_append_right _ (List.mem_append_right _ (List.mem_map.mpr ⟨(c, C), nameOf_mem e, rfl⟩))
      | none =>
        have e' : S.T.cls c = none := e
        cases t <;> simp only [kdIs, e'] at hk <;> first | (cases hk; done) | (split at hk <;> cases hk)
  have z2 := List.all_eq_true.mp z1 k hm
  rw [hk] at z2
  exact of_decide_eq_true z2
theorem HeadOk.eri_ (h : HeadOk S Y) {c : Nat} (hc : c ∈ S.caught) : ErI Y S.T (nmE S me) c := fun j hj => by
  have z := h.parts.2.2.2.2.2.1
  unfold eriB at z
  obtain ⟨C, hC, _⟩ := isErr_some hj
  have z2 := List.all_eq_true.mp (List.all_eq_true.mp z c hc) (j, C) (nameOf_mem (show S.clAt j = some C from hC))
  dsimp only at z2
  rw [hj] at z2
  exact of_decide_eq_true (show decide (PySem.W.exmOne Y.K (.ref (cad S.nm Y.K j)) (.ref (cad S.nm Y.K c)) = some (under S.T j c)) = true from z2)
theorem HeadOk.clsP (h : HeadOk S Y) {c : Nat} {C : Ev.Cls} (hC : S.clAt c = some C) (he : C.exc = false) : clsB S Y.K c C = true := by
  have z := h.parts.2.1 c C hC
  rw [he] at z
  exact z
theorem HeadOk.erP (h : HeadOk S Y) {c : Nat} {C : Ev.Cls} (hC : S.clAt c = some C) (he : C.exc = true) : erB S Y.K c C = true ∧ erM S Y.K c C = true := by
  have z := h.parts.2.1 c C hC
  rw [he] at z
  exact He.ba z
theorem HeadOk.mgc_ (h : HeadOk S Y) {c : Nat} {C : Ev.Cls} (hC : S.clAt c = some C) : Y.mg (S.nm.cls c) = some (.ref (cad S.nm Y.K c)) := by
  cases he : C.exc with
  | false => exact He.glo_ok h.kin h.glob (He.ba (h.clsP hC he)).1
  | true => exact He.glo_ok h.kin h.glob (He.ba (h.erP hC he).1).1
theorem wf_at (hw : S.wf = true) {c : Nat} {C : Ev.Cls} (hC : S.clAt c = some C) : clsW S c C = true := all_at (p := clsW S) (He.ba hw).1 hC
theorem wf_top (hw : S.wf = true) : (S.prog.main.scope.names.lookup ("super" : Str)).isSome = false := by
  unfold Src.wf at hw
  have z := (He.ba hw).2
  simpa using z
end
end Snd
set_option Elab.async false
set_option linter.all false
set_option maxRecDepth 100000
set_option maxHeartbeats 0
namespace K61
open PySem PySem.Spec PyProof.Rows L2 Ev Snd
def top (i : Nat) : Stmt := PySem.Challenge.pw_spreadshrinks_k61_whole_chain_of_every_s.main.body.getD i (.Pass ⟨0, 0, 0, 0⟩)
def meth (s : Stmt) (j : Nat) : Stmt := match s with
  | .ClassDef _ _ _ b _ _ _ _ _ _ _ => b.getD j (.Pass ⟨0, 0, 0, 0⟩)
  | _ => .Pass ⟨0, 0, 0, 0⟩
/-! _law_draw -/
def B0 : Ev.S := (.seq (.ifs (.and (.e (.cmp .eq (.ix (.var 1) (.int 0)) (.int 0))) (.e (.cmp .lt (.ix (.var 1) (.int 1)) (.bi .len (.cons (.var 0) .nil))))) (.seq (.set 3 (.ix (.var 0) (.ix (.var 1) (.int 1)))) (.seq (.seti (.var 1) (.int 1) (.bin .add (.ix (.var 1) (.int 1)) (.int 1))) (.seq (.ifs (.e (.cmp .ge (.var 3) (.bin .pow (.int 10) (.int 18)))) (.seq (.seti (.var 1) (.int 0) (.var 3)) .skip) (.seq (.seti (.var 1) (.int 2) (.bin .mod (.bi .int (.cons (.bin .add (.bin .mul (.ix (.var 1) (.int 2)) (.int 69621)) (.var 3)) .nil)) (.int 2147483647))) .skip)) .skip))) .skip) (.seq (.ifs (.e (.cmp .gt (.ix (.var 1) (.int 0)) (.int 0))) (.seq (.set 4 (.bin .mod (.bi .int (.cons (.ix (.var 1) (.int 0)) .nil)) (.var 2))) (.seq (.seti (.var 1) (.int 0) (.bin .fdv (.ix (.var 1) (.int 0)) (.var 2))) (.seq (.ret (.var 4)) .skip))) .skip) (.seq (.seti (.var 1) (.int 3) (.bin .add (.ix (.var 1) (.int 3)) (.int 1))) (.seq (.seti (.var 1) (.int 2) (.bin .mod (.bi .int (.cons (.bin .add (.bin .add (.bin .mul (.ix (.var 1) (.int 2)) (.int 48271)) (.bin .mul (.ix (.var 1) (.int 3)) (.int 7919))) (.int 30103)) .nil)) (.int 2147483647))) (.seq (.set 5 (.bin .mod (.bi .int (.cons (.bin .mul (.ix (.var 1) (.int 2)) (.bin .add (.bin .fdv (.ix (.var 1) (.int 2)) (.int 1009)) (.int 69621))) .nil)) (.int 2147483647))) (.seq (.ret (.bin .mod (.bin .mod (.bi .int (.cons (.bin .mul (.var 5) (.bin .add (.bin .fdv (.var 5) (.int 2003)) (.int 40692))) .nil)) (.int 2147483399)) (.var 2))) .skip))))))
def F0 : FnS := { fn := { np := 3, nl := 6, body := B0, ini := none, lv := 4 }, prop := false, err := false, d := ⟨("_law_draw", none), "_law_draw", "_law_draw", defArgs (top 17), defBody (top 17), defScope (top 17), [], []⟩, N := ["_law_script", "_law_state", "_law_many", "_law_cell", "_law_digit", "_law_number"], ps := ["_law_script", "_law_state", "_law_many"] }
/-! _law_setting -/
def B43 : Ev.S := (.seq (.set 2 (.ix (.frz (.lst (.cons (.str [108, 105, 101, 115]) (.cons (.str [108, 97, 116, 101]) (.cons (.str [108, 97, 116, 101, 108, 105, 101, 115]) (.cons (.str [102, 97, 108, 108, 115]) .nil)))))) (.call 0 (.cons (.var 0) (.cons (.var 1) (.cons (.int 4) .nil)))))) (.seq (.set 3 (.bin .add (.int 2) (.call 0 (.cons (.var 0) (.cons (.var 1) (.cons (.int 8) .nil)))))) (.seq (.ret (.tup (.cons (.var 3) (.cons (.call 0 (.cons (.var 0) (.cons (.var 1) (.cons (.bin .sub (.var 3) (.int 1)) .nil)))) (.cons (.var 2) .nil))))) .skip)))
def F43 : FnS := { fn := { np := 2, nl := 4, body := B43, ini := none, lv := 5 }, prop := false, err := false, d := ⟨("_law_setting", none), "_law_setting", "_law_setting", defArgs (top 18), defBody (top 18), defScope (top 18), [], []⟩, N := ["_law_script", "_law_state", "_law_kind", "_law_houses"], ps := ["_law_script", "_law_state"] }
/-! BadSetting.__init__ -/
def B44 : Ev.S := .skip
def F44 : FnS := { fn := { np := 1, nl := 2, body := B44, ini := some 6, lv := 0 }, prop := false, err := true, d := ⟨("BadSetting", some "__init__"), "__init__", "BadSetting.__init__", defArgs (meth (top 3) 0), defBody (meth (top 3) 0), defScope (meth (top 3) 0), [], []⟩, N := ["self", "part"], ps := ["self", "part"] }
/-! is_integer -/
def B2 : Ev.S := (.seq (.ret (.and (.isi (.var 0) [.int]) (.not (.isi (.var 0) [.bool])))) .skip)
def F2 : FnS := { fn := { np := 1, nl := 1, body := B2, ini := none, lv := 0 }, prop := false, err := false, d := ⟨("is_integer", none), "is_integer", "is_integer", defArgs (top 6), defBody (top 6), defScope (top 6), [], []⟩, N := ["value"], ps := ["value"] }
/-! Setting.__init__ -/
def B45 : Ev.S := (.seq (.ifs (.or (.not (.e (.call 2 (.cons (.var 1) .nil)))) (.not (.e (.chain .le .le (.int 2) (.var 1) (.int 9))))) (.seq (.raise 6 (.cons (.str [104, 111, 117, 115, 101, 115]) .nil)) .skip) .skip) (.seq (.ifs (.or (.not (.e (.isi (.var 3) [.str]))) (.e (.cmp .nin (.var 3) (.con 0)))) (.seq (.raise 6 (.cons (.str [107, 105, 110, 100]) .nil)) .skip) .skip) (.seq (.ifs (.or (.not (.e (.call 2 (.cons (.var 2) .nil)))) (.not (.e (.chain .le .le (.int 0) (.var 2) (.bin .sub (.var 1) (.int 2)))))) (.seq (.raise 6 (.cons (.str [102, 97, 117, 108, 116, 115]) .nil)) .skip) .skip) (.seq (.setf 4 (.var 1)) (.seq (.setf 5 (.var 2)) (.seq (.setf 6 (.var 3)) .skip))))))
def F45 : FnS := { fn := { np := 3, nl := 4, body := B45, ini := some 5, lv := 1 }, prop := false, err := false, d := ⟨("Setting", some "__init__"), "__init__", "Setting.__init__", defArgs (meth (top 15) 0), defBody (meth (top 15) 0), defScope (meth (top 15) 0), [], []⟩, N := ["self", "houses", "faults", "kind"], ps := ["self", "houses", "faults", "kind"] }
/-! Setting.__eq__ -/
def B46 : Ev.S := (.seq (.ifs (.not (.e (.isi (.var 1) [(.cls 5)]))) (.seq (.ret (.bl false)) .skip) .skip) (.seq (.ret (.and (.cmp .eq (.attr (.var 0) 6) (.attr (.var 1) 6)) (.and (.cmp .eq (.attr (.var 0) 4) (.attr (.var 1) 4)) (.cmp .eq (.attr (.var 0) 5) (.attr (.var 1) 5))))) .skip))
def F46 : FnS := { fn := { np := 2, nl := 2, body := B46, ini := none, lv := 2 }, prop := false, err := false, d := ⟨("Setting", some "__eq__"), "__eq__", "Setting.__eq__", defArgs (meth (top 15) 1), defBody (meth (top 15) 1), defScope (meth (top 15) 1), [], []⟩, N := ["self", "other"], ps := ["self", "other"] }
/-! Setting.__str__ -/
def B47 : Ev.S := (.seq (.ret (.fst (.cons (.attr (.var 0) 6) (.cons (.str [32]) (.cons (.attr (.var 0) 4) (.cons (.str [32]) (.cons (.attr (.var 0) 5) .nil))))))) .skip)
def F47 : FnS := { fn := { np := 1, nl := 1, body := B47, ini := none, lv := 0 }, prop := false, err := false, d := ⟨("Setting", some "__str__"), "__str__", "Setting.__str__", defArgs (meth (top 15) 2), defBody (meth (top 15) 2), defScope (meth (top 15) 2), [], []⟩, N := ["self"], ps := ["self"] }
/-! Setting.kept -/
def B54 : Ev.S := (.seq (.ifs (.e (.cmp .eq (.attr (.var 0) 6) (.str [102, 97, 108, 108, 115]))) (.seq (.ret .non) .skip) .skip) (.seq (.ifs (.e (.cmp .eq (.attr (.var 0) 6) (.str [108, 97, 116, 101]))) (.seq (.ret (.bin .sub (.attr (.var 0) 4) (.attr (.var 0) 5))) .skip) .skip) (.seq (.ifs (.e (.cmp .eq (.attr (.var 0) 6) (.str [108, 105, 101, 115]))) (.seq (.ret (.bin .sub (.attr (.var 0) 4) (.bin .mul (.int 2) (.attr (.var 0) 5)))) .skip) .skip) (.seq (.ret (.bin .sub (.attr (.var 0) 4) (.bin .mul (.int 3) (.attr (.var 0) 5)))) .skip))))
def F54 : FnS := { fn := { np := 1, nl := 1, body := B54, ini := none, lv := 0 }, prop := true, err := false, d := ⟨("Setting", some "kept"), "kept", "Setting.kept", defArgs (meth (top 15) 5), defBody (meth (top 15) 5), defScope (meth (top 15) 5), [], []⟩, N := ["self"], ps := ["self"] }
/-! check_bound -/
def B83 : Ev.S := (.seq (.ifs (.or (.e (.cmp .eq (.attr (.var 0) 6) (.str [102, 97, 108, 108, 115]))) (.e (.cmp .lt (.attr (.var 0) 9) (.int 1)))) (.seq (.raise 11 .nil) .skip) .skip) .skip)
def F83 : FnS := { fn := { np := 1, nl := 1, body := B83, ini := none, lv := 16 }, prop := false, err := false, d := ⟨("check_bound", none), "check_bound", "check_bound", defArgs (top 8), defBody (top 8), defScope (top 8), [], []⟩, N := ["setting"], ps := ["setting"] }
/-! check_faults -/
def B120 : Ev.S := (.seq (.expr (.call 83 (.cons (.var 0) .nil))) (.seq (.ifs (.e (.cmp .eq (.attr (.var 0) 5) (.int 0))) (.seq (.raise 11 .nil) .skip) .skip) .skip))
def F120 : FnS := { fn := { np := 1, nl := 1, body := B120, ini := none, lv := 21 }, prop := false, err := false, d := ⟨("check_faults", none), "check_faults", "check_faults", defArgs (top 10), defBody (top 10), defScope (top 10), [], []⟩, N := ["setting"], ps := ["setting"] }
/-! Setting.reach -/
def B55 : Ev.S := (.seq (.ifs (.e (.cmp .eq (.attr (.var 0) 6) (.str [102, 97, 108, 108, 115]))) (.seq (.ret .non) .skip) .skip) (.seq (.ifs (.e (.cmp .eq (.attr (.var 0) 6) (.str [108, 97, 116, 101, 108, 105, 101, 115]))) (.seq (.ret (.bin .mul (.int 2) (.attr (.var 0) 5))) .skip) .skip) (.seq (.ret (.attr (.var 0) 5)) .skip)))
def F55 : FnS := { fn := { np := 1, nl := 1, body := B55, ini := none, lv := 0 }, prop := true, err := false, d := ⟨("Setting", some "reach"), "reach", "Setting.reach", defArgs (meth (top 15) 6), defBody (meth (top 15) 6), defScope (meth (top 15) 6), [], []⟩, N := ["self"], ps := ["self"] }
/-! steps -/
def B87 : Ev.S := (.seq (.ret (.neg (.bin .fdv (.neg (.attr (.var 0) 9)) (.attr (.var 0) 10)))) .skip)
def F87 : FnS := { fn := { np := 1, nl := 1, body := B87, ini := none, lv := 21 }, prop := false, err := false, d := ⟨("steps", none), "steps", "steps", defArgs (top 9), defBody (top 9), defScope (top 9), [], []⟩, N := ["setting"], ps := ["setting"] }
/-! Setting.first_kept -/
def B53 : Ev.S := (.seq (.ifs (.e (.cmp .eq (.attr (.var 0) 6) (.str [102, 97, 108, 108, 115]))) (.seq (.ret .non) .skip) .skip) (.seq (.ifs (.e (.cmp .eq (.attr (.var 0) 6) (.str [108, 97, 116, 101]))) (.seq (.ret (.int 0)) .skip) .skip) (.seq (.ret (.attr (.var 0) 5)) .skip)))
def F53 : FnS := { fn := { np := 1, nl := 1, body := B53, ini := none, lv := 0 }, prop := true, err := false, d := ⟨("Setting", some "first_kept"), "first_kept", "Setting.first_kept", defArgs (meth (top 15) 4), defBody (meth (top 15) 4), defScope (meth (top 15) 4), [], []⟩, N := ["self"], ps := ["self"] }
/-! Setting.size -/
def B48 : Ev.S := (.seq (.ifs (.e (.cmp .eq (.attr (.var 0) 6) (.str [102, 97, 108, 108, 115]))) (.seq (.ret .non) .skip) .skip) (.seq (.ifs (.e (.cmp .eq (.attr (.var 0) 6) (.str [108, 105, 101, 115]))) (.seq (.ret (.attr (.var 0) 4)) .skip) .skip) (.seq (.ret (.bin .sub (.attr (.var 0) 4) (.attr (.var 0) 5))) .skip)))
def F48 : FnS := { fn := { np := 1, nl := 1, body := B48, ini := none, lv := 0 }, prop := true, err := false, d := ⟨("Setting", some "size"), "size", "Setting.size", defArgs (meth (top 15) 3), defBody (meth (top 15) 3), defScope (meth (top 15) 3), [], []⟩, N := ["self"], ps := ["self"] }
/-! chain_view -/
def B121 : Ev.S := (.seq (.set 2 (.bin .sub (.bin .sub (.attr (.var 0) 7) (.attr (.var 0) 8)) (.bin .mul (.var 1) (.attr (.var 0) 10)))) (.seq (.ifs (.e (.cmp .lt (.var 2) (.attr (.var 0) 8))) (.seq (.set 2 (.attr (.var 0) 8)) .skip) .skip) (.seq (.set 3 (.bin .sub (.attr (.var 0) 4) (.attr (.var 0) 7))) (.seq (.ret (.bin .add (.bin .add (.bin .mul (.tup (.cons (.int 0) .nil)) (.var 2)) (.bin .mul (.tup (.cons .non .nil)) (.var 3))) (.bin .mul (.tup (.cons (.int 1) .nil)) (.bin .sub (.attr (.var 0) 7) (.var 2))))) .skip))))
def F121 : FnS := { fn := { np := 2, nl := 4, body := B121, ini := none, lv := 21 }, prop := false, err := false, d := ⟨("chain_view", none), "chain_view", "chain_view", defArgs (top 11), defBody (top 11), defScope (top 11), [], []⟩, N := ["setting", "at", "zeros", "silent"], ps := ["setting", "at"] }
/-! chain -/
def B122 : Ev.S := (.seq (.expr (.call 120 (.cons (.var 0) .nil))) (.seq (.set 1 (.call 87 (.cons (.var 0) .nil))) (.seq (.own 2 (.lst .nil)) (.seq (.for_ [3] (.rng (.cons (.var 1) .nil)) (.seq (.ifs (.e (.cmp .eq (.bin .band (.var 3) (.int 1)) (.int 0))) (.seq (.app 2 (.tup (.cons (.int 0) (.cons (.call 121 (.cons (.var 0) (.cons (.var 3) .nil))) .nil)))) .skip) (.seq (.app 2 (.tup (.cons (.bin .sub (.attr (.var 0) 4) (.int 1)) (.cons (.call 121 (.cons (.var 0) (.cons (.var 3) .nil))) .nil)))) .skip)) .skip)) (.seq (.ifs (.e (.cmp .eq (.bin .band (.var 1) (.int 1)) (.int 1))) (.seq (.app 2 (.tup (.cons (.bin .sub (.attr (.var 0) 4) (.int 1)) (.cons (.call 121 (.cons (.var 0) (.cons (.var 1) .nil))) .nil)))) .skip) (.seq (.app 2 (.tup (.cons (.bin .sub (.attr (.var 0) 4) (.int 2)) (.cons (.call 121 (.cons (.var 0) (.cons (.var 1) .nil))) .nil)))) .skip)) (.seq (.retm 2) .skip))))))
def F122 : FnS := { fn := { np := 1, nl := 4, body := B122, ini := none, lv := 22 }, prop := false, err := false, d := ⟨("chain", none), "chain", "chain", defArgs (top 12), defBody (top 12), defScope (top 12), [], []⟩, N := ["setting", "last", "links", "at"], ps := ["setting"] }
/-! _law_refused -/
def B123 : Ev.S := (.seq (.try_ (.seq (.expr (.call 122 (.cons (.var 0) .nil))) .skip) (.hnd 11 (some 1) (.seq (.ret (.xis 1 (.cls 1))) .skip) .skip)) (.seq (.ret (.bl false)) .skip))
def F123 : FnS := { fn := { np := 1, nl := 2, body := B123, ini := none, lv := 23 }, prop := false, err := false, d := ⟨("_law_refused", none), "_law_refused", "_law_refused", defArgs (top 29), defBody (top 29), defScope (top 29), [], []⟩, N := ["_law_made", "e"], ps := ["_law_made"] }
/-! _law_kept -/
def B57 : Ev.S := (.seq (.ifs (.e (.cmp .eq (.ix (.var 0) (.int 2)) (.str [108, 105, 101, 115]))) (.seq (.ret (.bin .sub (.ix (.var 0) (.int 0)) (.bin .mul (.int 2) (.ix (.var 0) (.int 1))))) .skip) .skip) (.seq (.ifs (.e (.cmp .eq (.ix (.var 0) (.int 2)) (.str [108, 97, 116, 101, 108, 105, 101, 115]))) (.seq (.ret (.bin .sub (.ix (.var 0) (.int 0)) (.bin .mul (.int 3) (.ix (.var 0) (.int 1))))) .skip) .skip) (.seq (.ret (.bin .sub (.ix (.var 0) (.int 0)) (.ix (.var 0) (.int 1)))) .skip)))
def F57 : FnS := { fn := { np := 1, nl := 1, body := B57, ini := none, lv := 4 }, prop := false, err := false, d := ⟨("_law_kept", none), "_law_kept", "_law_kept", defArgs (top 21), defBody (top 21), defScope (top 21), [], []⟩, N := ["_law_setting_here"], ps := ["_law_setting_here"] }
/-! _law_forced -/
def B124 : Ev.S := (.seq (.set 2 (.ix (.var 0) (.int 1))) (.seq (.ifs (.e (.cmp .eq (.ix (.var 0) (.int 2)) (.str [108, 97, 116, 101]))) (.seq (.set 2 (.int 0)) .skip) .skip) (.seq (.ifs (.e (.cmp .le (.bi .len (.cons (.frz (.comp [3] (.var 3) (.seq (.var 1)) (.e (.cmp .eq (.var 3) (.int 1))))) .nil)) (.var 2))) (.seq (.ret (.int 0)) .skip) .skip) (.seq (.ifs (.e (.cmp .le (.bi .len (.cons (.frz (.comp [3] (.var 3) (.seq (.var 1)) (.e (.cmp .eq (.var 3) (.int 0))))) .nil)) (.var 2))) (.seq (.ret (.int 1)) .skip) .skip) (.seq (.ret .non) .skip)))))
def F124 : FnS := { fn := { np := 2, nl := 4, body := B124, ini := none, lv := 4 }, prop := false, err := false, d := ⟨("_law_forced", none), "_law_forced", "_law_forced", defArgs (top 25), defBody (top 25), defScope (top 25), [], []⟩, N := ["_law_setting_here", "_law_view", "_law_allowed", "_law_entry"], ps := ["_law_setting_here", "_law_view"] }
/-! _law_places -/
def B125 : Ev.S := (.seq (.own 2 (.lst .nil)) (.seq (.for_ [3] (.rng (.cons (.bi .len (.cons (.var 0) .nil)) .nil)) (.seq (.ifs (.and (.e (.cmp .isn (.ix (.var 0) (.var 3)) .non)) (.and (.e (.cmp .isn (.ix (.var 1) (.var 3)) .non)) (.e (.cmp .ne (.ix (.var 0) (.var 3)) (.ix (.var 1) (.var 3)))))) (.seq (.app 2 (.var 3)) .skip) .skip) .skip)) (.seq (.retm 2) .skip)))
def F125 : FnS := { fn := { np := 2, nl := 4, body := B125, ini := none, lv := 4 }, prop := false, err := false, d := ⟨("_law_places", none), "_law_places", "_law_places", defArgs (top 26), defBody (top 26), defScope (top 26), [], []⟩, N := ["_law_one", "_law_other", "_law_places_here", "_law_k"], ps := ["_law_one", "_law_other"] }
/-! _law_stands -/
def B126 : Ev.S := (.seq (.set 3 (.call 125 (.cons (.ix (.var 1) (.int 1)) (.cons (.ix (.var 2) (.int 1)) .nil)))) (.seq (.ifs (.or (.e (.cmp .eq (.ix (.var 1) (.int 0)) (.ix (.var 2) (.int 0)))) (.or (.e (.cmp .in_ (.ix (.var 1) (.int 0)) (.var 3))) (.e (.cmp .in_ (.ix (.var 2) (.int 0)) (.var 3))))) (.seq (.ret (.bl false)) .skip) .skip) (.seq (.ifs (.e (.cmp .eq (.ix (.var 0) (.int 2)) (.str [108, 97, 116, 101]))) (.seq (.ret (.cmp .eq (.bi .len (.cons (.var 3) .nil)) (.int 0))) .skip) .skip) (.seq (.ret (.cmp .le (.bi .len (.cons (.var 3) .nil)) (.ix (.var 0) (.int 1)))) .skip))))
def F126 : FnS := { fn := { np := 3, nl := 4, body := B126, ini := none, lv := 5 }, prop := false, err := false, d := ⟨("_law_stands", none), "_law_stands", "_law_stands", defArgs (top 27), defBody (top 27), defScope (top 27), [], []⟩, N := ["_law_setting_here", "_law_one", "_law_other", "_law_places_here"], ps := ["_law_setting_here", "_law_one", "_law_other"] }
/-! _law_steps -/
def B89 : Ev.S := (.seq (.set 1 (.ix (.var 0) (.int 1))) (.seq (.ifs (.e (.cmp .eq (.ix (.var 0) (.int 2)) (.str [108, 97, 116, 101, 108, 105, 101, 115]))) (.seq (.set 1 (.bin .mul (.int 2) (.ix (.var 0) (.int 1)))) .skip) .skip) (.seq (.ret (.bin .fdv (.bin .sub (.bin .add (.call 57 (.cons (.var 0) .nil)) (.var 1)) (.int 1)) (.var 1))) .skip)))
def F89 : FnS := { fn := { np := 1, nl := 2, body := B89, ini := none, lv := 5 }, prop := false, err := false, d := ⟨("_law_steps", none), "_law_steps", "_law_steps", defArgs (top 28), defBody (top 28), defScope (top 28), [], []⟩, N := ["_law_setting_here", "_law_reach"], ps := ["_law_setting_here"] }
/-! _law_is_integer -/
def B28 : Ev.S := (.seq (.ret (.and (.isi (.var 0) [.int]) (.not (.isi (.var 0) [.bool])))) .skip)
def F28 : FnS := { fn := { np := 1, nl := 1, body := B28, ini := none, lv := 4 }, prop := false, err := false, d := ⟨("_law_is_integer", none), "_law_is_integer", "_law_is_integer", defArgs (top 23), defBody (top 23), defScope (top 23), [], []⟩, N := ["_law_actual"], ps := ["_law_actual"] }
/-! _law_sizes -/
def B52 : Ev.S := (.seq (.ifs (.e (.cmp .eq (.ix (.var 0) (.int 2)) (.str [108, 105, 101, 115]))) (.seq (.ret (.lst (.cons (.ix (.var 0) (.int 0)) .nil))) .skip) .skip) (.seq (.ifs (.e (.cmp .eq (.ix (.var 0) (.int 2)) (.str [102, 97, 108, 108, 115]))) (.seq (.ret (.bi .range2 (.cons (.bin .sub (.ix (.var 0) (.int 0)) (.ix (.var 0) (.int 1))) (.cons (.bin .add (.ix (.var 0) (.int 0)) (.int 1)) .nil)))) .skip) .skip) (.seq (.ret (.lst (.cons (.bin .sub (.ix (.var 0) (.int 0)) (.ix (.var 0) (.int 1))) .nil))) .skip)))
def F52 : FnS := { fn := { np := 1, nl := 1, body := B52, ini := none, lv := 4 }, prop := false, err := false, d := ⟨("_law_sizes", none), "_law_sizes", "_law_sizes", defArgs (top 19), defBody (top 19), defScope (top 19), [], []⟩, N := ["_law_setting_here"], ps := ["_law_setting_here"] }
/-! _law_view_at -/
def B127 : Ev.S := (.seq (.ifs (.or (.not (.e (.isi (.var 1) [.list, .tuple]))) (.e (.cmp .ne (.bi .len (.cons (.var 1) .nil)) (.ix (.var 0) (.int 0))))) (.seq (.ret (.int (-1))) .skip) .skip) (.seq (.for_ [2] (.rng (.cons (.bi .len (.cons (.var 1) .nil)) .nil)) (.seq (.ifs (.and (.e (.cmp .isn (.ix (.var 1) (.var 2)) .non)) (.not (.and (.e (.call 28 (.cons (.ix (.var 1) (.var 2)) .nil))) (.e (.chain .le .le (.int 0) (.ix (.var 1) (.var 2)) (.int 1)))))) (.seq (.ret (.var 2)) .skip) .skip) .skip)) (.seq (.ifs (.e (.cmp .ne (.bi .len (.cons (.frz (.comp [3] (.var 3) (.seq (.var 1)) (.e (.cmp .isn (.var 3) .non)))) .nil)) (.ix (.call 52 (.cons (.var 0) .nil)) (.int 0)))) (.seq (.ret (.int (-1))) .skip) .skip) (.seq (.ret .non) .skip))))
def F127 : FnS := { fn := { np := 2, nl := 4, body := B127, ini := none, lv := 5 }, prop := false, err := false, d := ⟨("_law_view_at", none), "_law_view_at", "_law_view_at", defArgs (top 24), defBody (top 24), defScope (top 24), [], []⟩, N := ["_law_setting_here", "_law_view", "_law_k", "_law_entry"], ps := ["_law_setting_here", "_law_view"] }
/-! law -/
def B128 : Ev.S := (.seq (.set 1 (.sto (.lst (.cons (.int 0) (.cons (.int 0) (.cons (.int 0) (.cons (.int 0) .nil))))))) (.seq (.set 2 (.call 43 (.cons (.var 0) (.cons (.var 1) .nil)))) (.seq (.set 3 (.make 5 (.cons (.ix (.var 2) (.int 0)) (.cons (.ix (.var 2) (.int 1)) (.cons (.ix (.var 2) (.int 2)) .nil))))) (.seq (.ifs (.or (.e (.cmp .eq (.ix (.var 2) (.int 2)) (.str [102, 97, 108, 108, 115]))) (.or (.e (.cmp .lt (.call 57 (.cons (.var 2) .nil)) (.int 1))) (.e (.cmp .eq (.ix (.var 2) (.int 1)) (.int 0))))) (.seq (.ret (.call 123 (.cons (.var 3) .nil))) .skip) .skip) (.seq (.set 4 (.sto (.call 122 (.cons (.var 3) .nil)))) (.seq (.ifs (.or (.not (.e (.isi (.var 4) [.list]))) (.e (.cmp .ne (.bi .len (.cons (.var 4) .nil)) (.bin .add (.call 89 (.cons (.var 2) .nil)) (.int 1))))) (.seq (.ret (.bl false)) .skip) .skip) (.seq (.forS 5 (.var 4) (.seq (.ifs (.or (.not (.e (.isi (.var 5) [.tuple]))) (.or (.e (.cmp .ne (.bi .len (.cons (.var 5) .nil)) (.int 2))) (.not (.e (.isi (.ix (.var 5) (.int 1)) [.tuple]))))) (.seq (.ret (.bl false)) .skip) .skip) (.seq (.ifs (.or (.not (.e (.call 28 (.cons (.ix (.var 5) (.int 0)) .nil)))) (.not (.e (.chain .le .lt (.int 0) (.ix (.var 5) (.int 0)) (.ix (.var 2) (.int 0)))))) (.seq (.ret (.bl false)) .skip) .skip) (.seq (.ifs (.or (.e (.cmp .isn (.call 127 (.cons (.var 2) (.cons (.ix (.var 5) (.int 1)) .nil))) .non)) (.e (.cmp .is_ (.ix (.ix (.var 5) (.int 1)) (.ix (.var 5) (.int 0))) .non))) (.seq (.ret (.bl false)) .skip) .skip) .skip)))) (.seq (.set 6 (.ix (.var 4) (.bin .sub (.bi .len (.cons (.var 4) .nil)) (.int 1)))) (.seq (.ifs (.or (.e (.cmp .ne (.call 124 (.cons (.var 2) (.cons (.ix (.ix (.var 4) (.int 0)) (.int 1)) .nil))) (.int 0))) (.e (.cmp .ne (.ix (.ix (.ix (.var 4) (.int 0)) (.int 1)) (.ix (.ix (.var 4) (.int 0)) (.int 0))) (.int 0)))) (.seq (.ret (.bl false)) .skip) .skip) (.seq (.ifs (.or (.e (.cmp .ne (.call 124 (.cons (.var 2) (.cons (.ix (.var 6) (.int 1)) .nil))) (.int 1))) (.e (.cmp .ne (.ix (.ix (.var 6) (.int 1)) (.ix (.var 6) (.int 0))) (.int 1)))) (.seq (.ret (.bl false)) .skip) .skip) (.seq (.for_ [7] (.rng (.cons (.bin .sub (.bi .len (.cons (.var 4) .nil)) (.int 1)) .nil)) (.seq (.ifs (.not (.e (.call 126 (.cons (.var 2) (.cons (.ix (.var 4) (.var 7)) (.cons (.ix (.var 4) (.bin .add (.var 7) (.int 1))) .nil)))))) (.seq (.ret (.bl false)) .skip) .skip) .skip)) (.seq (.appr (.var 4) (.pop (.var 4) (.int 0))) (.seq (.set 8 (.call 122 (.cons (.var 3) .nil))) (.seq (.ret (.and (.cmp .eq (.bi .len (.cons (.var 8) .nil)) (.bi .len (.cons (.var 4) .nil))) (.cmp .eq (.ix (.ix (.ix (.var 8) (.int 0)) (.int 1)) (.ix (.ix (.var 8) (.int 0)) (.int 0))) (.int 0)))) .skip))))))))))))))
def F128 : FnS := { fn := { np := 1, nl := 9, body := B128, ini := none, lv := 24 }, prop := false, err := false, d := ⟨("law", none), "law", "law", defArgs (top 30), defBody (top 30), defScope (top 30), [], []⟩, N := ["_law_script", "_law_state", "_law_setting_here", "_law_made", "_law_links", "_law_link", "_law_last", "_law_k", "_law_again"], ps := ["_law_script"] }
def C5 : Ev.Cls := { fields := [4, 5, 6], exc := false, cat := false, up := [], init := 45, np := 3, dfl := [], meths := [], props := [(7, 48), (8, 53), (9, 54), (10, 55)] }
def C1 : Ev.Cls := { fields := [], exc := true, cat := false, up := [] }
def C6 : Ev.Cls := { fields := [2], exc := true, cat := true, up := [1], init := 44, np := 1, dfl := [] }
def C11 : Ev.Cls := { fields := [], exc := true, cat := false, up := [1] }
def S : Src := { prog := PySem.Challenge.pw_spreadshrinks_k61_whole_chain_of_every_s, fns := [(0, F0), (43, F43), (44, F44), (2, F2), (45, F45), (46, F46), (47, F47), (54, F54), (83, F83), (120, F120), (55, F55), (87, F87), (53, F53), (48, F48), (121, F121), (122, F122), (123, F123), (57, F57), (124, F124), (125, F125), (126, F126), (89, F89), (28, F28), (52, F52), (127, F127), (128, F128)], cls := [(5, C5), (1, C1), (6, C6), (11, C11)], cn := ("Share" :: "NearError" :: "BadShare" :: "BadNumber" :: "NoQuotient" :: "Setting" :: "BadSetting" :: "Rule" :: "BadRule" :: "BadSize" :: "BadView" :: "NoBound" :: "BadCut" :: "WrongKind" :: "BadRules" :: "BadRun" :: "BadLink" :: "NoLink" :: "TooMany" :: "BadTable" :: "Lacks" :: "BadCount" :: "BadSplit" :: "BadDiary" :: "BadLot" :: "NoLot" :: "BadPart" :: "BadStart" :: "BadTurn" :: "NoTurn" :: "BadRound" :: "MixedSettings" :: "NotKept" :: "NoWindows" :: "BadText" :: []), at_ := ("top" :: "bottom" :: "part" :: "over" :: "houses" :: "faults" :: "kind" :: "size" :: "first_kept" :: "kept" :: "reach" :: "true_count" :: "sizes" :: "can_agree" :: "setting" :: "rows" :: "length" :: "at" :: "view" :: "house" :: "sender" :: "line" :: "top_sum" :: []), con := [(0, "KINDS", .tup [.str [108, 105, 101, 115], .str [108, 97, 116, 101], .str [108, 97, 116, 101, 108, 105, 101, 115], .str [102, 97, 108, 108, 115]])], free := ["int", "len", "super", "isinstance", "bool", "str", "range", "list", "tuple"], isi := [.int, .bool, .str, (.cls 5), (.cls 1), .list, .tuple], caught := [11], imp := [], bop := [], rop := [], cop := [(5, .eq, 46)], neg := [], abs := [], str := [(5, 47)], get := [], len := [], inv := [] }
def as_0 : List Addr := [3, 2, 6, 4, 21, 31, 53, 65, 74, 81, 88, 95, 102, 109, 110, 195, 206, 213, 220, 227, 234, 241, 248, 253, 258, 265, 272, 279, 286, 293, 0, 20, 30, 52, 64, 73, 80, 87, 94, 101, 108, 194, 205, 212, 219, 226, 233, 240, 247, 252]
def as_1 : List Addr := [257, 264, 271, 278, 285, 292, 15, 16, 17, 18, 19, 29, 32, 50, 51, 63, 68, 69, 70, 71, 72, 75, 76, 77, 78, 79, 82, 83, 84, 85, 86, 89, 90, 91, 92, 93, 96, 97, 98, 99, 100, 103, 104, 105, 106, 107, 124, 131, 138, 146]
def as_2 : List Addr := [154, 162, 170, 178, 185, 192, 193, 196, 197, 200, 201, 202, 203, 204, 207, 208, 209, 210, 211, 214, 215, 216, 217, 218, 221, 222, 223, 224, 225, 228, 229, 230, 231, 232, 235, 236, 237, 238, 239, 242, 243, 244, 245, 246, 249, 250, 251, 254, 255, 256]
def as_3 : List Addr := [259, 260, 261, 262, 263, 266, 267, 268, 269, 270, 273, 274, 275, 276, 277, 280, 281, 282, 283, 284, 287, 288, 289, 290, 291, 49, 38, 123, 130, 137, 145, 153, 161, 169, 177, 184, 191, 44, 45, 46, 47, 48, 118, 119, 120, 121, 122, 125, 126, 127]
def as_4 : List Addr := [128, 129, 132, 133, 134, 135, 136, 144, 152, 160, 168, 176, 179, 180, 181, 182, 183, 186, 187, 188, 189, 190, 139, 140, 141, 142, 143, 147, 148, 149, 150, 151, 155, 156, 157, 158, 159, 163, 164, 165, 166, 167, 171, 172, 173, 174, 175]
def as_ : List Addr := as_0 ++ as_1 ++ as_2 ++ as_3 ++ as_4
abbrev Rw : PySem.W.OpenRow := PySem.W.OpenLaw.row PySem.Challenge.rw_spreadshrinks_k61_whole_chain_of_every_s
abbrev hook : PySem.W.Hook := hookM as_ S.ck S.fas S.val
def ob (s : PySem.W.SharedT) : AlM := obsM as_ S.ck S.fas (HandSHeadRun.getT s)
theorem ob_eq (s : PySem.W.SharedT) : ob s = hook.obs s.abs := obsM_eq (HandSHeadRun.getT_eq s)
def loose : List Str := ("_wall" :: "NearError" :: "BadSetting" :: "NoBound" :: "is_integer" :: "check_bound" :: "steps" :: "check_faults" :: "chain_view" :: "chain" :: "Setting" :: "_law_draw" :: "_law_setting" :: "_law_sizes" :: "_law_first" :: "_law_kept" :: "_law_true_count" :: "_law_is_integer" :: "_law_view_at" :: "_law_forced" :: "_law_places" :: "_law_stands" :: "_law_steps" :: "_law_refused" :: "KINDS" :: [])
theorem run (w : World) : HandSHeadRun.RunEq Rw (PySem.W.view Rw.prog [30]) hook ob 20000 loose w := by
  intro os
  kernel_rfl
end K61
set_option Elab.async false
set_option linter.all false
set_option maxRecDepth 100000
/-! SndI: all functions of a law. -/
namespace Snd
open PySem PySem.Spec PyProof.Rows L2 Ev
section
variable {S : Src} {Y : Core} {me : Option (Addr × Addr)}
theorem HeadOk.cl_ (h : HeadOk S Y) (hw : S.wf = true) {cf : Nat → List D → Sto → R D} {k : Nat} (hfn : ∀ f F, S.fnAt f = some F → F.err = false → F.fn.ini = none → FnI Y S.T (nmE S me) cf k f F.fn.np) (hnp : ∀ f F, S.fnAt f = some F → F.err = false → ∀ ds st, ds.length ≠ F.fn.np → cf f ds st = .no) {c : Nat} {C : Ev.Cls} (hC : S.clAt c = some C) (he : C.exc = false) : ClI Y S.T (nmE S me) cf k c C := by
  have z := h.clsP hC he
  have wf := wf_at hw hC
  unfold clsW at wf
  rw [he] at wf
  unfold clsB at z
  obtain ⟨z1, z⟩ := He.ba z
  obtain ⟨z2, z⟩ := He.ba z
  obtain ⟨z3, z⟩ := He.ba z
  obtain ⟨z4, z⟩ := He.ba z
  obtain ⟨z5, z⟩ := He.ba z
  obtain ⟨z6, z⟩ := He.ba z
  obtain ⟨z7, z⟩ := He.ba z
  obtain ⟨z8, z⟩ := He.ba z
  obtain ⟨z9, z10⟩ := He.ba z
  obtain ⟨wf1, wf2⟩ := He.ba wf
  obtain ⟨wf2, wf3⟩ := He.ba wf2
  refine ⟨He.cls_ok z2, He.eqO_ok z3, h.parts.2.2.2.2.2.2.1, h.parts.2.2.2.2.2.2.2.1, of_decide_eq_true z4, of_decide_eq_true z5, of_decide_eq_true z6, fun m hm => He.eqO_ok (List.all_eq_true.mp z7 m hm), fun m f hm => ?_, fun m f hm => ?_⟩
  · have mm := nameOf_mem hm
    have y := List.all_eq_true.mp z8 _ mm
    obtain ⟨y1, y⟩ := He.ba y
    obtain ⟨y2, y⟩ := He.ba y
    obtain ⟨y3, y4⟩ := He.ba y
    refine ⟨⟨He.eqO_ok y1, y2, y3⟩, of_decide_eq_true y4, ?_⟩
    have q := List.all_eq_true.mp wf2 _ mm
    cases e : S.fnAt f with
    | none => simp only [e] at q; cases q
    | some F =>
      simp only [e] at q
      obtain ⟨q1, q2⟩ := He.ba q
      exact ⟨_, hfn f F e (by simpa using q1) (by simpa using q2), hnp f F e (by simpa using q1)⟩
  · have mm := nameOf_mem hm
    have y := List.all_eq_true.mp z9 _ mm
    have q := List.all_eq_true.mp wf3 _ mm
    refine ⟨?_, ?_⟩
    · cases e : PySem.W.findIn Y.K (.ref (cad S.nm Y.K c)) (S.nm.attr m) with
      | none => simp only [e] at y; cases y
      | some o =>
        cases o with
        | none => simp only [e] at y; cases y
        | some u =>
          cases u with
          | ref p =>
            simp only [e] at y
            obtain ⟨y1, y⟩ := He.ba y
            obtain ⟨y2, y3⟩ := He.ba y
            refine ⟨p, e, He.eqO_ok y1, of_decide_eq_true y2, ?_⟩
            cases e2 : PySem.W.recIn Y.K p "property" with
            | none => simp only [e2] at y3; cases y3
            | some l =>
              simp only [e2] at y3
              cases l with
              | nil => cases y3
              | cons a r =>
                cases a with
                | ref g =>
                  have eg : g = fad S.nm Y.K f := of_decide_eq_true y3
                  exact ⟨r, by rw [eg]; rfl⟩
                | _ => cases y3
          | _ => simp only [e] at y; cases y
    · cases e : S.fnAt f with
      | none => simp only [e] at q; cases q
      | some F =>
        simp only [e] at q
        obtain ⟨q1, q2⟩ := He.ba q
        obtain ⟨q2, q3⟩ := He.ba q2
        have en : F.fn.np = 1 := of_decide_eq_true q3
        rw [← en]
        exact hfn f F e (by simpa using q1) (by simpa using q2)
theorem HeadOk.made_ (h : HeadOk S Y) {c : Nat} {C : Ev.Cls} (hC : S.clAt c = some C) (he : C.exc = false) : Mk Y.K (cad S.nm Y.K c) (fad S.nm Y.K C.init) := by
  have z := h.clsP hC he
  unfold clsB at z
  obtain ⟨z1, z⟩ := He.ba z
  obtain ⟨z2, z⟩ := He.ba z
  obtain ⟨z3, z⟩ := He.ba z
  obtain ⟨z4, z⟩ := He.ba z
  obtain ⟨z5, z⟩ := He.ba z
  obtain ⟨z6, z⟩ := He.ba z
  obtain ⟨z7, z⟩ := He.ba z
  obtain ⟨z8, z⟩ := He.ba z
  obtain ⟨z9, z⟩ := He.ba z
  obtain ⟨z10, z11⟩ := He.ba z
  have e : fad S.nm Y.K C.init = He.ma Y.K (He.ga Y.K (S.nm.cls c)) "__init__" := of_decide_eq_true z11
  rw [e]
  exact He.mkr_ok z10
theorem HeadOk.xc_ (h : HeadOk S Y) {c : Nat} {C : Ev.Cls} (hC : S.clAt c = some C) (he : C.exc = true) : XcI Y S.T (nmE S me) c C := by
  have z := (h.erP hC he).1
  unfold erB at z
  obtain ⟨z1, z⟩ := He.ba z
  obtain ⟨z2, z⟩ := He.ba z
  obtain ⟨z3, z⟩ := He.ba z
  obtain ⟨z4, z⟩ := He.ba z
  obtain ⟨z5, z⟩ := He.ba z
  obtain ⟨z6, z⟩ := He.ba z
  obtain ⟨z7, z⟩ := He.ba z
  obtain ⟨z8, z⟩ := He.ba z
  obtain ⟨z9, z⟩ := He.ba z
  obtain ⟨z10, z11⟩ := He.ba z
  exact ⟨⟨He.eqO_ok z5, He.eqO_ok z6, of_decide_eq_true z3, z7, He.eqO_ok z8, h.parts.2.2.2.2.2.2.1, h.parts.2.2.2.2.2.2.2.1, of_decide_eq_true z9⟩, of_decide_eq_true z10, fun m hm => He.eqO_ok (List.all_eq_true.mp z11 m hm)⟩
theorem HeadOk.er_ (h : HeadOk S Y) (hw : S.wf = true) (good : ∀ (c : Nat) (C : Ev.Cls) (F : FnS), S.clAt c = some C → C.exc = true → C.fields ≠ [] → S.fnAt C.init = some F → GoodE (C.fields.map S.nm.attr) C.cat F.d) {c : Nat} {C : Ev.Cls} (hC : S.clAt c = some C) (he : C.exc = true) : ErC Y S.T (nmE S me) c C := by
  obtain ⟨z, zm⟩ := h.erP hC he
  unfold erB at z
  obtain ⟨z1, z⟩ := He.ba z
  obtain ⟨z2, z⟩ := He.ba z
  obtain ⟨z3, z⟩ := He.ba z
  obtain ⟨z4, z⟩ := He.ba z
  obtain ⟨z5, z⟩ := He.ba z
  obtain ⟨z6, z⟩ := He.ba z
  obtain ⟨z7, z⟩ := He.ba z
  obtain ⟨z8, z⟩ := He.ba z
  obtain ⟨z9, z⟩ := He.ba z
  obtain ⟨z10, z11⟩ := He.ba z
  refine ⟨z2, of_decide_eq_true z3, of_decide_eq_true z4, ?_⟩
  have wf := wf_at hw hC
  unfold clsW at wf
  rw [he] at wf
  unfold erM at zm
  cases ef : C.fields with
  | nil =>
    rw [ef] at zm
    exact .inl ⟨rfl, zm⟩
  | cons m0 ms =>
    rw [ef] at zm wf
    have hne : C.fields ≠ [] := by rw [ef]; exact List.cons_ne_nil _ _
    have hfn : fnames S.T (nmE S me) c = C.fields.map S.nm.attr := by
      unfold fnames
      rw [show S.T.cls c = some C from hC]
      rfl
    refine .inr ⟨List.cons_ne_nil _ _, fad S.nm Y.K C.init, ?_⟩
    rw [hfn]
    obtain ⟨y1, y⟩ := He.ba zm
    obtain ⟨y2, y⟩ := He.ba y
    obtain ⟨y3, y⟩ := He.ba y
    obtain ⟨y4, y⟩ := He.ba y
    obtain ⟨y5, y⟩ := He.ba y
    obtain ⟨y6, y⟩ := He.ba y
    obtain ⟨y7, y⟩ := He.ba y
    obtain ⟨y8, y⟩ := He.ba y
    obtain ⟨y9, y10⟩ := He.ba y
    have nd : (C.fields.map S.nm.attr).Nodup := of_decide_eq_true z10
    cases e : S.fnAt C.init with
    | none => simp only [e] at wf; cases wf
    | some F =>
      simp only [e] at wf
      obtain ⟨w1, w3⟩ := He.ba wf
      obtain ⟨w1, w2⟩ := He.ba w1
      have G := good c C F hC he hne e
      have ev : fnM Y.K (fad S.nm Y.K C.init) = defM F.d ["__class__"] := by
        have e3 := h.defAt e
        rw [show F.err = true from w1] at e3
        have ea : fad S.nm Y.K C.init = fpA Y.K (F.d.at_, F.prop) := by
          unfold fad Src.nm
          simp only [e]
        rw [ea]
        exact e3
      have cls : ∃ nm q N bs bm sn sub ab col dd k0 k1 k2 k3 k5, Y.K.lookup (cad S.nm Y.K c) = some (excClassObj nm q (cad S.nm Y.K c) N bs bm true sn sub ab col dd k0 k1 k2 k3 k5 "ValueError.__new__") ∧ PySem.HandSPX.refsVE bm = true ∧ PySem.W.alongIn Y.K "__init__" bm = some (some (.builtin "ValueError.__init__")) := by
        split at y1
        · rename_i dd cd sl ho
          split at y1
          · rename_i C' bm k0 k1 k2 k3 n k5 hm hs
            simp only [Bool.and_eq_true, beq_iff_eq, Bool.not_eq_true'] at y1
            obtain ⟨rfl, rfl, hdel, hdict, hrefs, hal⟩ := y1
            obtain ⟨nm, bs, mro, ns, qn, hd, sn, sub, ab, col, del⟩ := cd
            dsimp only at hm hdel hdict
            subst hm hdel hdict
            have hsl : sl = #[k0, k1, k2, k3, some (.builtin "ValueError.__new__"), k5] := by
              obtain ⟨l⟩ := sl
              simp only at hs
              rw [hs]
            subst hsl
            exact ⟨nm, qn, ns, bs, bm, sn, sub, ab, col, dd, k0, k1, k2, k3, k5, ho, hrefs, He.eqO_ok hal⟩
          · cases y1
        · cases y1
      have hclsIn : ∃ cdD, PySem.W.clsIn Y.K (cad S.nm Y.K c) = some cdD := by
        obtain ⟨nm, q, N, bs, bm, sn, sub, ab, col, dd, k0, k1, k2, k3, k5, hl, _⟩ := cls
        exact ⟨_, by unfold PySem.W.clsIn; rw [hl]⟩
      refine ⟨cls, He.eqO_ok y2, He.eqO_ok y3, of_decide_eq_true y4, z2, of_decide_eq_true z3, of_decide_eq_true y5, of_decide_eq_true y6, of_decide_eq_true z4, fun f hf => ?_, nd, ?_, fun hm => ?_, fun f hf => ?_, h.parts.2.2.2.2.2.2.2.2.1, h.parts.2.2.2.2.2.2.2.2.2.1, ?_, ?_⟩
      · obtain ⟨m, hm, em⟩ := List.mem_map.mp hf
        rw [← em]
        exact He.eqO_ok (List.all_eq_true.mp z11 m hm)
      · rw [List.length_map, ef]
        exact of_decide_eq_true y7
      · rw [ef] at hm
        have y8' := y8
        simp only [Bool.not_eq_true'] at y8'
        rw [List.contains_eq_mem] at y8'
        exact absurd hm (of_decide_eq_false y8')
      · rw [ef] at hf
        have q := List.all_eq_true.mp y9 f hf
        simpa using q
      · rw [h.prog]
        exact wf_top hw
      · split at y10
        · rename_i oc od fd osl ho
          split at y10
          · rename_i yn cc cda hcl hco
            obtain ⟨v1, v⟩ := He.ba y10
            obtain ⟨v0, v⟩ := He.ba v
            obtain ⟨v2, v⟩ := He.ba v
            obtain ⟨v3, v4⟩ := He.ba v
            have ynm : yn = ("__class__" : Str) := beq_iff_eq.mp v1
            unfold fnM at ev
            rw [ho] at ev
            obtain ⟨n1, n2, n3, n4, n5, n6, n7, n8, n9, n10, n11, n12, n13, n14, n15⟩ := fd
            dsimp only at hcl hco v3 v0
            have v0' : n8 = .none := by
              unfold noneV at v0
              split at v0
              · rfl
              · cases v0
            subst hcl hco
            subst ynm
            have e2 : (some (n1, n2, n3, n4, n5, n6, [("__class__" : Str)], n15) : FnM) = (some (F.d.name, F.d.qual, F.d.params, FuncBody.stmts F.d.body, F.d.scope, mainGlobals, [("__class__" : Str)], builtinsNs) : FnM) := ev
            simp only [Option.some.injEq, Prod.mk.injEq] at e2
            obtain ⟨h1, h2, h3, h4, h5, h6, h7, h8⟩ := e2
            subst h1 h2 h3 h4 h5 h6 h8
            split at v2
            · rename_i cl0 cd0 D0 csl hcell
              have eD : D0 = cad S.nm Y.K c := beq_iff_eq.mp v2
              subst eD
              split at v4
              · rename_i ccl cdd cvs ccs hcda
                split at v4
                · rename_i file tf hfile
                  obtain ⟨cdD, hcd⟩ := hclsIn
                  obtain ⟨ar, har, hae⟩ := G.head
                  have gb := G.bind n8 n9 n10 n11 n12 (.ref cda) n14 cc
                  have body := G.body
                  have hn := G.nam
                  generalize F.d.body = bd at body gb ho
                  generalize F.d.name = nm1 at hn gb ho
                  cases body with
                  | @mk p0 p1 p2 p3 p4 te b hl ht ha =>
                    subst hn
                    exact ⟨_, _, _, _, _, _, _, _, _, _, _, _, _, _, _, _, p0, p1, p2, p3, p4, _, _, _, _, _, _, _, _, _, cdD, ar, ho, v3, ht, ha, G.scp, hcda, hfile, by rw [h.prog]; exact v4, hcell, hcd, har, hae, hl, fun us hu => gb us hu v0'⟩
                · cases v4
              · cases v4
            · cases v2
          · cases y10
        · cases y10

/-- what the text of a law must bring -/
structure Good (S : Src) (Y : Core) : Prop where
  wf : S.wf = true
  er : ∀ (c : Nat) (C : Ev.Cls) (F : FnS), S.clAt c = some C → C.exc = true → C.fields ≠ [] → S.fnAt C.init = some F → GoodE (C.fields.map S.nm.attr) C.cat F.d
  fn : ∀ (f : Nat) (F : FnS), S.fnAt f = some F → F.err = false → GoodF S Y F
theorem all_nil {α : Type} {P : α → Prop} : ∀ q ∈ ([] : List α), P q := fun q h => by cases h
theorem all_cons {α : Type} {P : α → Prop} {x : α} {l : List α} (h : P x) (t : ∀ q ∈ l, P q) : ∀ q ∈ x :: l, P q := fun q hq => by
  rcases List.mem_cons.mp hq with rfl | hq
  · exact h
  · exact t q hq
theorem good_of (wf : S.wf = true) (er : ∀ q ∈ S.cls, q.2.exc = true → q.2.fields ≠ [] → ∀ F, S.fnAt q.2.init = some F → GoodE (q.2.fields.map S.nm.attr) q.2.cat F.d) (fn : ∀ q ∈ S.fns, q.2.err = false → GoodF S Y q.2) : Good S Y :=
  ⟨wf, fun c C F hC hx hn hF => er (c, C) (nameOf_mem hC) hx hn F hF, fun f F hf he => fn (f, F) (nameOf_mem hf) he⟩
theorem fnOk_no {k f np : Nat} {cf : Nat → List D → Sto → R D} {nm : Nm} {T : Ev.Tab} {fa : Addr} {fd : FuncData} {ps : List Str} (h : ∀ ds st, cf f ds st = .no) : FnOk Y.prog Y.w Y.K Y.mg Y.base (L2.CX Y.prog Y.w) k fa fd ps (SP T nm Y.K cf np f) := by
  refine ⟨fun vs H Q E ⟨_, g, ds, st, _, _, _, o⟩ => ?_, fun A outer s H args us vs Q E _ _ _ _ ⟨_, g, ds, st, _, _, _, o⟩ => ?_⟩
  · rw [h] at o
    exact o.elim
  · rw [h] at o
    exact o.elim
theorem fnOkI_no {k f np c : Nat} {cf : Nat → List D → Sto → R D} {nm : Nm} {T : Ev.Tab} {fa : Addr} {fd : FuncData} {ps : List Str} (h : ∀ ds st, cf f ds st = .no) : FnOk Y.prog Y.w Y.K Y.mg Y.base (L2.CX Y.prog Y.w) k fa fd ps (SPI T nm Y.K cf np f c) := by
  refine ⟨fun vs H Q E ⟨_, x, dx, g, ds, st, ws, _, _, _, _, _, _, o⟩ => ?_, fun A outer s H args us vs Q E _ _ _ _ ⟨_, x, dx, g, ds, st, ws, _, _, _, _, _, _, o⟩ => ?_⟩
  · rw [h] at o
    exact o.elim
  · rw [h] at o
    exact o.elim
/-- another table, the same at f -/
theorem sp_eq {f np : Nat} {cf cf' : Nat → List D → Sto → R D} {nm : Nm} {T : Ev.Tab} {K : PySem.W.Frag} (h : cf f = cf' f) : SP T nm K cf np f = SP T nm K cf' np f := by
  unfold SP
  rw [h]
theorem spi_eq {f np c : Nat} {cf cf' : Nat → List D → Sto → R D} {nm : Nm} {T : Ev.Tab} {K : PySem.W.Frag} (h : cf f = cf' f) : SPI T nm K cf np f c = SPI T nm K cf' np f c := by
  unfold SPI
  rw [h]
theorem tbl_suc {T : Ev.Tab} {l f : Nat} {fn : Fn} (h : T.fn f = some fn) : tbl T (l + 1) f = if fn.lv = l then runB T (tbl T l) fn else tbl T l f := by
  funext ds st
  show (match T.fn f with
    | some fn => if fn.lv = l then runB T (tbl T l) fn ds st else tbl T l f ds st
    | none => .no) = _
  rw [h]
  by_cases e : fn.lv = l
  · simp only [e, if_true]
  · simp only [e, if_false]
theorem src_fn {f : Nat} {F : FnS} (hf : S.fnAt f = some F) (he : F.err = false) : S.T.fn f = some F.fn := by
  show (match S.fnAt f with
    | some F => if F.err then none else some F.fn
    | none => none) = _
  rw [hf]
  show (if F.err then none else some F.fn) = _
  rw [he]
  rfl
theorem tbl_np : ∀ (l : Nat) (f : Nat) (F : FnS), S.fnAt f = some F → F.err = false → ∀ ds st, ds.length ≠ F.fn.np → tbl S.T l f ds st = .no
  | 0, _, _, _, _, _, _, _ => rfl
  | l + 1, f, F, hf, he, ds, st, hn => by
    rw [tbl_suc (src_fn hf he)]
    by_cases z : F.fn.lv = l
    · rw [if_pos z]
      unfold runB
      rw [if_neg hn]
    · rw [if_neg z]
      exact tbl_np l f F hf he ds st hn
theorem facts_of (h : HeadOk S Y) (G : Good S Y) {cf : Nat → List D → Sto → R D} {k : Nat} (hfn : ∀ f F, S.fnAt f = some F → F.err = false → F.fn.ini = none → FnI Y S.T (nmE S me) cf k f F.fn.np)
    (hmk : ∀ c C, clsI S.T c = some C → MkI Y S.T (nmE S me) cf k c C) (hnp : ∀ f F, S.fnAt f = some F → F.err = false → ∀ ds st, ds.length ≠ F.fn.np → cf f ds st = .no) : Facts S Y (nmE S me) cf k where
  fn := hfn
  mk_ := hmk
  cl := fun c C hC he => h.cl_ G.wf hfn hnp hC he
  er := fun c C hC he => h.er_ G.wf G.er hC he
  xc := fun c C hC he => h.xc_ hC he
  eri := fun c hc => h.eri_ hc
  kit := h.kit_
  con := fun j q hj => h.con_ hj
  mgf := fun f F x hf he hp ha => by
    have z := He.glo_ok h.kin h.glob ((h.parts.1 f F hf he).2 x ha)
    have e : fad S.nm Y.K f = He.ga Y.K x := by
      unfold fad Src.nm fpA
      simp only [hf, hp, ha]
      rfl
    show Y.mg x = some (.ref (fad S.nm Y.K f))
    rw [e]
    exact z
  mgc := fun c C hC => h.mgc_ hC
  free := fun x hx => He.free_ok h.kin h.glob (h.parts.2.2.2.1 x hx)
  ops := h.parts.2.2.2.2.2.2.2.2.2.2.2
  imp := fun x id hx => PySem.W.mg_of h.kin h.glob (He.eqO_ok (List.all_eq_true.mp h.parts.2.2.2.2.2.2.2.2.2.2.1 _ hx))
  kin := h.kin
/-- what __init__'s last arguments may be left out -/
theorem HeadOk.inits (h : HeadOk S Y) (G : Good S Y) {c : Nat} {C : Ev.Cls} {F : FnS} (hf : S.fnAt C.init = some F) (he : F.err = false) (hn : F.ps.length = C.np + 1) (hd : dvD F.d.dfl = some C.dfl) :
    ∃ fd, FunD Y.K F.d.name F.d.qual F.d.params F.d.body F.d.scope (F.d.dvs Y.K) [] (fad S.nm Y.K C.init) fd ∧ ∀ n, n + (mis C n).length = C.np → ∃ dvs ds, Binds Y.K fd F.ps ds ∧ Vals dvs ds ∧ ∀ g, Reps S.T (nmE S me) Y.K g (mis C n) dvs := by
  obtain ⟨fd, FD⟩ := h.fun_ hf he
  have gf := G.fn _ F hf he
  have e2 : F.d.kws Y.K = [] := by unfold He.DefD.kws; rw [gf.kwd]; rfl
  rw [e2] at FD
  refine ⟨fd, FD, fun n hm => ?_⟩
  have ld := dvD_len hd
  by_cases hz : F.d.dfl = []
  · have e1 : F.d.dvs Y.K = [] := by unfold He.DefD.dvs; rw [hz]; rfl
    rw [e1] at FD
    have b := FD.bindsN (gf.bind hz)
    have zn : C.dfl = [] := by rw [hz] at ld; exact List.eq_nil_of_length_eq_zero ld
    refine ⟨[], [], b, .nil, fun g => ?_⟩
    unfold mis
    rw [zn]
    simp only [List.drop_nil]
    exact .nil
  · have hl : (F.d.dvs Y.K).length = F.d.dfl.length := by unfold He.DefD.dvs; rw [List.length_map]
    have hm2 : C.dfl.length - (C.dfl.length + n - C.np) + n = C.np := by
      unfold mis at hm
      rw [List.length_drop] at hm
      omega
    have hj : C.dfl.length + n - C.np ≤ C.dfl.length := by omega
    obtain ⟨ds, rv, b⟩ := FD.binds1 (n + 1) (C.dfl.length + n - C.np) (by intro z; rw [← List.length_eq_zero_iff, hl] at z; exact hz (List.eq_nil_of_length_eq_zero z)) (by rw [hl, ← ld, hn]; omega) fun T kV doc pm an cdv ct us its hu hi =>
      gf.bindD hz (n + 1) (C.dfl.length + n - C.np) (by rw [← ld]; exact hj) (by rw [← ld, hn]; omega) T kV doc pm an cdv ct us its hu (by rw [hi, hl])
    refine ⟨_, ds, b, rv, fun g => ?_⟩
    unfold mis He.DefD.dvs
    exact (dvD_reps g S.T (nmE S me) hd).drop _
theorem all_facts (h : HeadOk S Y) (G : Good S Y) : ∀ (l : Nat) (me : Option (Addr × Addr)), Facts S Y (nmE S me) (tbl S.T l) (8 * l + 8) := by
  have fnd : ∀ f F, S.fnAt f = some F → F.err = false → F.fn.ini = none → ∃ fd, FunD Y.K F.d.name F.d.qual F.d.params F.d.body F.d.scope [] [] (fad S.nm Y.K f) fd ∧ Binds Y.K fd F.ps [] := fun f F hf he hi => by
    obtain ⟨fd, FD⟩ := h.fun_ hf he
    have gf := G.fn f F hf he
    have e1 : F.d.dvs Y.K = [] := by unfold He.DefD.dvs; rw [gf.dfl hi]; rfl
    have e2 : F.d.kws Y.K = [] := by unfold He.DefD.kws; rw [gf.kwd]; rfl
    rw [e1, e2] at FD
    exact ⟨fd, FD, FD.bindsN (gf.bind (gf.dfl hi))⟩
  have inis : ∀ c C, clsI S.T c = some C → ∃ F, S.fnAt C.init = some F ∧ F.err = false ∧ F.fn.ini = some c ∧ F.fn.np = C.np ∧ dvD F.d.dfl = some C.dfl := fun c C hC => by
    obtain ⟨hC, he⟩ := clsI_some hC
    have wf := wf_at G.wf (show S.clAt c = some C from hC)
    unfold clsW at wf
    rw [he] at wf
    obtain ⟨wf1, _⟩ := He.ba wf
    cases e : S.fnAt C.init with
    | none => simp only [e] at wf1; cases wf1
    | some F =>
      simp only [e] at wf1
      obtain ⟨q1, q⟩ := He.ba wf1
      obtain ⟨q2, q⟩ := He.ba q
      obtain ⟨q3, q4⟩ := He.ba q
      refine ⟨F, rfl, by simpa using q1, of_decide_eq_true q2, of_decide_eq_true q3, ?_⟩
      cases e5 : dvD F.d.dfl with
      | none => rw [e5] at q4; cases q4
      | some ds => rw [e5] at q4; rw [dsBeq_eq q4]
  intro l
  induction l with
  | zero =>
    intro me
    refine facts_of h G (fun f F hf he hi => ?_) (fun c C hC => ?_) (tbl_np _)
    · obtain ⟨fd, FD, b⟩ := fnd f F hf he hi
      have gf := G.fn f F hf he
      exact ⟨FD.kp, fd, F.ps, fnOk_no fun _ _ => rfl, b, by rw [gf.n1, hi]; rfl⟩
    · obtain ⟨F, hf, he, hi, hnp, hd⟩ := inis c C hC
      have gf := G.fn _ F hf he
      obtain ⟨fd, FD, b⟩ := h.inits (c := c) (me := me) G hf he (by rw [gf.n1, hi, hnp]; rfl) hd
      exact ⟨h.made_ (clsI_some hC).1 (clsI_some hC).2, fd, F.ps, fnOkI_no fun _ _ => rfl, b⟩
  | succ l ih =>
    intro me
    refine facts_of h G (fun f F hf he hi => ?_) (fun c C hC => ?_) (tbl_np _)
    · obtain ⟨fd, FD, b⟩ := fnd f F hf he hi
      have gf := G.fn f F hf he
      have np : F.ps.length = F.fn.np := by rw [gf.n1, hi]; rfl
      have ht := tbl_suc (l := l) (src_fn hf he)
      by_cases z : F.fn.lv = l
      · rw [if_pos z] at ht
        have q := fn_sp (Y := Y) (T := S.T) (nm := nmE S me) (k := 8 * l + 8 + 7) (cf := tbl S.T (l + 1)) FD gf.sc ht hi np gf.n2 gf.n3 fun cdv A outer s H E hr => gf.body me _ _ (ih me) _ cdv A outer s H E hr
        exact ⟨FD.kp, fd, F.ps, q.mono (by omega), b, np⟩
      · rw [if_neg z] at ht
        obtain ⟨kp, fd', ps', q, b', np'⟩ := (ih me).fn f F hf he hi
        refine ⟨kp, fd', ps', ?_, b', np'⟩
        rw [sp_eq ht]
        exact q.mono (by omega)
    · obtain ⟨F, hf, he, hi, hnp, hd⟩ := inis c C hC
      have gf := G.fn _ F hf he
      have np : F.ps.length = F.fn.np + 1 := by rw [gf.n1, hi]; rfl
      obtain ⟨fd, FD, b⟩ := h.inits (c := c) (me := me) G hf he (by rw [np, hnp]) hd
      have ht := tbl_suc (l := l) (src_fn hf he)
      by_cases z : F.fn.lv = l
      · rw [if_pos z] at ht
        have q := fn_spi (Y := Y) (T := S.T) (nm := nmE S me) (k := 8 * l + 8 + 7) (cf := tbl S.T (l + 1)) FD gf.sc ht hi (clsI_some hC).1 np gf.n2 fun p dx cdv A outer s H E hr => gf.body (some (p, dx)) _ _ (ih (some (p, dx))) _ cdv A outer s H E hr
        rw [hnp] at q
        exact ⟨h.made_ (clsI_some hC).1 (clsI_some hC).2, fd, F.ps, q.mono (by omega), b⟩
      · rw [if_neg z] at ht
        obtain ⟨mk, fd', ps', q, b'⟩ := (ih me).mk_ c C hC
        refine ⟨mk, fd', ps', ?_, b'⟩
        rw [spi_eq ht]
        exact q.mono (by omega)

/-! ### the end -/
/-- what lets nothing out -/
theorem fnOk_quiet {P : Program} {w : World} {K : PySem.W.Frag} {mg : Str → Option Value} {base : Heap} {k : Nat} {fa : Addr} {fd : FuncData} {ps : List Str} {sp : Sp} (F : FnOk P w K mg base (L2.CX P w) k fa fd ps sp) : FnOk P w K mg base L2.CX0 k fa fd ps (fun vs H Q _ => sp vs H Q fun _ _ _ => False) :=
  ⟨fun vs H Q E h => F.len vs H Q _ h, fun A outer s H args us vs Q E hr e0 hb r h => codeAny_mono (F.run A outer s H args us vs Q _ hr e0 hb r h) fun r s' z => by
    cases r with
    | ok fl =>
      cases fl with
      | ret u => exact z
      | next => exact z
      | brk => exact z
      | cont => exact z
    | error e =>
      obtain ⟨_, _, _, _, _, _, _, _, _, _, _, _, y⟩ := z
      exact y.elim⟩
/-- all that stands stays -/
def gAll (H : Hp) : Gh := fun b => (H b).map Tag.imm
theorem gAll_im {H : Hp} : imH (gAll H) = H := by
  funext b
  unfold imH gAll
  cases H b <;> rfl
theorem mt0_all {T : Ev.Tab} {nm : Nm} {K : PySem.W.Frag} {H : Hp} : Mt0 T nm K (gAll H) [] H := by
  have z : ∀ a t, gAll H a = some t → ∃ o, t = .imm o ∧ H a = some o := fun a t e => by
    unfold gAll at e
    cases q : H a with
    | none => rw [q] at e; cases e
    | some o => rw [q] at e; cases e; exact ⟨o, rfl, rfl⟩
  refine ⟨fun a o e => ?_, fun a o e => ?_, fun k ob e => by simp at e, fun a k e => ?_, fun a b k e1 e2 => ?_, fun a t e => ?_⟩
  · obtain ⟨o', e1, e2⟩ := z a _ e
    cases e1
    exact e2
  · obtain ⟨o', e1, e2⟩ := z a _ e
    cases e1
  · obtain ⟨o', e1, e2⟩ := z a _ e
    cases e1
  · obtain ⟨o', e3, e4⟩ := z a _ e1
    cases e3
  · obtain ⟨o', e1, e2⟩ := z a _ e
    exact ⟨o', e2⟩
theorem law_walk {l : PySem.W.OpenLaw} {S : Src} {q : Program} {loose : List Str} {XP : (Str → Option Value) → Heap → Prop} {d : DefRec} {n f : Nat} {m : List Addr} {F : FnS} {x : Str} (hn : l.most = some n) (hn2 : n ≤ sizeLine) (hdf : d.params.defaults = []) (hr : Room (8 * F.fn.lv + 16) callerA)
    (hf : S.fnAt f = some F) (he : F.err = false) (hi : F.fn.ini = none) (hps : F.ps = [x]) (hat : F.d.at_ = (d.name, none)) (hpr : F.prop = false) (hprog : l.prog = S.prog) (good : ∀ Y : Core, Good S Y)
    (law : ∀ ns : List Int, ns.length ≤ n → ∃ st, Ev.call S.T f [.scr ns] [] = .ok (.bl true) st) :
    PySem.W.WalkO q loose XP (hookM m S.ck S.fas S.val).says l.row.toRowW d [] (fun f vs => PySem.call f vs) := by
  refine L2.walk_ofE (l := l) (n := n) (k := 8 * F.fn.lv + 16) (x := x) (CX := L2.CX0) hn hn2 hdf hr ?_ (fun _ _ _ _ z => z)
  intro w mg fa h Y G hmg
  obtain ⟨K, KX, c1, c2⟩ := Y
  have e0 : He.FnW = He.FnW := rfl
  have efa : ∀ base : Heap, K.In base → base.Ns mainGlobals mg → HeadOk S ⟨l.prog, w, K, mg, base⟩ := fun base kb gb => ⟨c1, c2, kb, gb, hprog⟩
  have H0 : HeadOk S ⟨l.prog, w, K, mg, h⟩ := efa h KX G
  have gf := (good ⟨l.prog, w, K, mg, h⟩).fn f F hf he
  obtain ⟨fd, FD⟩ := H0.fun_ hf he
  have e1 : F.d.dvs K = [] := by unfold He.DefD.dvs; rw [gf.dfl hi]; rfl
  have e2 : F.d.kws K = [] := by unfold He.DefD.kws; rw [gf.kwd]; rfl
  have FD2 : FunD K F.d.name F.d.qual F.d.params F.d.body F.d.scope [] [] (fad S.nm K f) fd := by
    have z := FD
    show FunD K F.d.name F.d.qual F.d.params F.d.body F.d.scope [] [] (fad S.nm K f) fd
    rw [← e1, ← e2]
    exact z
  have hfa : fa = fad S.nm K f := by
    have z := (facts_of (me := none) H0 (good _) (all_facts H0 (good _) 0 none).fn (all_facts H0 (good _) 0 none).mk_ (tbl_np _)).mgf f F d.name hf he hpr hat
    have z2 : mg d.name = some (.ref (fad S.nm K f)) := z
    rw [hmg] at z2
    cases z2
    rfl
  subst hfa
  obtain ⟨oc, od, dV, kV, doc, pm, an, cdv, ct, osl, efd, lk, hcd, _, _⟩ := FD2.ex
  refine ⟨K, fd, fun vs H Q _ => SP S.T (nmE S none) K (Ev.call S.T) F.fn.np f vs H Q fun _ _ _ => False, KX, fun s u => ?_, fun H a ns hl _ hS => ?_, fun base kb gb => ?_⟩
  · have b := FunD.bindsA (ps := F.ps) FD2 (gf.bind (gf.dfl hi)) s [u] (by rw [hps]; rfl)
    rw [hps] at b
    exact b
  · obtain ⟨st, e⟩ := law ns hl
    have np : F.fn.np = 1 := by
      have z := gf.n1
      rw [hps, hi] at z
      exact z.symm
    refine ⟨by rw [np]; rfl, gAll H, [.scr ns], [], fun a i e => ?_, mt0_all, .cons (.scr (by rw [gAll_im]; exact hS)) .nil, ?_⟩
    · unfold gAll at e
      cases q : H a with
      | none => rw [q] at e; cases e
      | some o => rw [q] at e; cases e
    · rw [e]
      intro g' v H' _ _ r
      cases r
      rfl
  · have np : F.ps.length = F.fn.np := by rw [gf.n1, hi]; rfl
    have ht : Ev.call S.T f = runB S.T (tbl S.T F.fn.lv) F.fn := by
      rw [← tbl_eq S.T (l := F.fn.lv + 1) (src_fn hf he) (Nat.lt_succ_self _), tbl_suc (src_fn hf he), if_pos rfl]
    have q := fn_sp (Y := ⟨l.prog, w, K, mg, base⟩) (T := S.T) (nm := nmE S none) (k := 8 * F.fn.lv + 8 + 7) (cf := Ev.call S.T) FD2 gf.sc ht hi np gf.n2 gf.n3 fun cdv A outer s H E hr => ((good ⟨l.prog, w, K, mg, base⟩).fn f F hf he).body none _ _ (all_facts (efa base kb gb) (good _) F.fn.lv none) _ cdv A outer s H E hr
    have q2 := fnOk_quiet q
    rw [hps] at q2
    exact q2
end
end Snd
set_option Elab.async false
set_option linter.all false
set_option maxRecDepth 100000
/-! SndK: more rules: methods. -/
namespace Snd
open PySem PySem.Spec PyProof.Rows L2 Ev
section
variable {X : Cx} {T : Tab} {nm : Nm} {W : WX} {cf : Nat → List D → Sto → R D} {pos : Pos} {k : Nat}
/-- o.m(..) on one line, few arguments -/
theorem meth_ht {o : Expr} {m : Str} {apos pos : Pos} {es : List Expr} {env : Env} (hl : (apos.endLine == pos.line) = true) (hb : attributeBase o m env (eval o env) = eval o env) (hs : (backTo pos (starEach es env)).any (·.1) = false) (hn : es.length < 30) :
    eval (.Call (.Attribute o m apos) es [] pos) env = (do
      let ov ← eval o env
      standAt apos.atName
      let (f, first) ← holding [ov] (getMethod ov m (L2.plainOf o env))
      callWith pos f first (backTo pos (starEach es env)) (backToKw pos (keywordEach [] env))) := by
  rw [arm_eval_Call, hb]
  have hf : methodCallForm (es.length + ([] : List Keyword).length) (backTo pos (starEach es env)) (backToKw pos (keywordEach [] env)) = true := by
    unfold methodCallForm
    have h1 : (backTo pos (starEach es env)).all (!·.1) = true := by
      rw [List.all_eq_not_any_not]
      simp only [Bool.not_not]
      rw [hs]
      rfl
    rw [h1]
    have h2 : (backToKw pos (keywordEach [] env)) = [] := rfl
    rw [h2]
    simpa using hn
  refine congrArg _ (funext fun ov => ?_)
  refine congrArg _ (funext fun _ => ?_)
  exact L2.mcall_line hf hl
theorem se_meth {m : Nat} {x : Str} {apos : Pos} {e1 e : Expr} {es : List Expr} {a : E} {as : Es} (he : PE X e1 (tE T nm X.K cf W a)) (hx : x = nm.attr m) (hcl : ∀ c C, T.cls c = some C → C.exc = false → ClI (co X) T nm cf k c C) (hr : Room k X.A) (tk : Takes X W)
    (ha : PA X (e :: es) (tA T nm X.K cf W as)) (hst : starEach (e :: es) X.env = (false, eval e X.env) :: starEach es X.env) (hpl : (backTo pos (starEach es X.env)).any (·.1) = false) (hl : (apos.endLine == pos.line) = true) (hb : attributeBase e1 x X.env (eval e1 X.env) = eval e1 X.env) (hn : es.length < 29) :
    PE X (.Call (.Attribute e1 x apos) (e :: es) [] pos) (tE T nm X.K cf W (.meth m a as)) := by
  subst hx
  refine ⟨fun pins s σ H Q I ⟨g, ρ, st, mt, o⟩ => ?_⟩
  refine PySem.W.methodCall_KW (pl := L2.plainOf e1 X.env) (thn (val_go he I mt (Le.refl g) o) fun u s1 ⟨v, H1, d, st1, g1, I1, rv, l1, m1, rr, q⟩ => ?_) (meth_ht hl hb (by rw [hst]; show (false || (backTo pos (starEach es X.env)).any (·.1)) = false; rw [hpl]; rfl) (by simpa using Nat.succ_lt_succ hn))
  by_cases hh : hasM T m d = true
  rotate_left
  · have q' : Out T nm X.K W g ρ σ (fun d _ g' H' => ∀ v, RepR T nm X.K g g' d v → Q v H') (if hasM T m d then (evA T cf as ρ st1).bind fun ds st => methE T cf m d ds st else .no) := q
    rw [if_neg hh] at q'
    exact q'.elim
  have o1 : Out T nm X.K W g ρ σ (fun d _ g' H' => ∀ v, RepR T nm X.K g g' d v → Q v H') ((evA T cf as ρ st1).bind fun ds' st => methE T cf m d ds' st) := by
    have q' : Out T nm X.K W g ρ σ (fun d _ g' H' => ∀ v, RepR T nm X.K g g' d v → Q v H') (if hasM T m d then (evA T cf as ρ st1).bind fun ds st => methE T cf m d ds st else .no) := q
    rw [if_pos hh] at q'
    exact q'
  cases d with
  | ins c ds =>
    have lr : Rep T nm X.K g1 (.ins c ds) v := rr
    cases lr with
    | @ins p dx _ _ vs e1' e2' r =>
      have hp := m1.imm _ _ e1'
      obtain rfl : u = Value.ref p := rv
      have hh' : (methOf T c m).isSome = true := hh
      unfold methOf at hh'
      cases hI : clsI T c with
      | none => simp only [hI, Option.bind_none] at hh'; cases hh'
      | some C =>
        obtain ⟨hC, ne⟩ := clsI_some hI
        have cI := hcl c C hC ne
        cases hm : nameOf m C.meths with
        | none => simp only [hI, Option.bind_some, hm] at hh'; cases hh'
        | some f =>
          obtain ⟨hM, hnf, np, F, hnp⟩ := cI.mt m f hm
          have hlk : ((fnames T nm c).zip vs).lookup (nm.attr m) = none := lookup_zip_none (by unfold fnames; rw [hC]; exact hnf)
          refine getmeth_ok I1 hp cI.cl hM hlk ?_
          have hms : ∀ ds' st', methE T cf m (.ins c ds) ds' st' = cf f (.ins c ds :: ds') st' := fun ds' st' => by
            simp only [methE, methOf, hI, Option.bind_some, hm]
          simp only [hms] at o1
          refine PySem.W.callWith_K (first := [.ref p]) (h₀ := X.base) I1.ok.mod.kin hM.kp (thn (args_go ha I1 m1 (o1.le l1) pos) fun us s2 ⟨vs2, H2, ds2, st2, g2, I2, rv2, r2, l2, hn2, m2, q2⟩ => ⟨I2.kIn, ?_⟩) hst hpl
          by_cases z : (D.ins c ds :: ds2).length = np
          · refine run_call (us := .ref p :: us) (vs := .ref p :: vs2) F hr tk I2 (.cons rfl rv2) ?_ m2 (.cons (.ins (l2.lim.1 _ _ e1') e2' (r.mono l2.lim)) r2) l2 ?_
            · rw [List.length_cons, ← r2.len]
              exact z
            · exact Out.imp q2 fun d st' g' H' l' m' q' v rv => q' v (rv.back l1)
          · rw [hnp _ _ z] at q2
            exact q2.elim
  | _ => cases hh
/-- o.m() -/
theorem se_meth0 {m : Nat} {x : Str} {apos : Pos} {e1 : Expr} {a : E} (he : PE X e1 (tE T nm X.K cf W a)) (hx : x = nm.attr m) (hcl : ∀ c C, T.cls c = some C → C.exc = false → ClI (co X) T nm cf k c C) (hr : Room k X.A) (tk : Takes X W)
    (hl : (apos.endLine == pos.line) = true) (hb : attributeBase e1 x X.env (eval e1 X.env) = eval e1 X.env) :
    PE X (.Call (.Attribute e1 x apos) [] [] pos) (tE T nm X.K cf W (.meth m a .nil)) := by
  subst hx
  refine ⟨fun pins s σ H Q I ⟨g, ρ, st, mt, o⟩ => ?_⟩
  refine PySem.W.methodCall_KW (pl := L2.plainOf e1 X.env) (thn (val_go he I mt (Le.refl g) o) fun u s1 ⟨v, H1, d, st1, g1, I1, rv, l1, m1, rr, q⟩ => ?_) (meth_ht hl hb rfl (by decide))
  by_cases hh : hasM T m d = true
  rotate_left
  · have q' : Out T nm X.K W g ρ σ (fun d _ g' H' => ∀ v, RepR T nm X.K g g' d v → Q v H') (if hasM T m d then (evA T cf .nil ρ st1).bind fun ds st => methE T cf m d ds st else .no) := q
    rw [if_neg hh] at q'
    exact q'.elim
  have o1 : Out T nm X.K W g ρ σ (fun d _ g' H' => ∀ v, RepR T nm X.K g g' d v → Q v H') (methE T cf m d [] st1) := by
    have q' : Out T nm X.K W g ρ σ (fun d _ g' H' => ∀ v, RepR T nm X.K g g' d v → Q v H') (if hasM T m d then (evA T cf .nil ρ st1).bind fun ds st => methE T cf m d ds st else .no) := q
    rw [if_pos hh] at q'
    exact q'
  cases d with
  | ins c ds =>
    have lr : Rep T nm X.K g1 (.ins c ds) v := rr
    cases lr with
    | @ins p dx _ _ vs e1' e2' r =>
      have hp := m1.imm _ _ e1'
      obtain rfl : u = Value.ref p := rv
      have hh' : (methOf T c m).isSome = true := hh
      unfold methOf at hh'
      cases hI : clsI T c with
      | none => simp only [hI, Option.bind_none] at hh'; cases hh'
      | some C =>
        obtain ⟨hC, ne⟩ := clsI_some hI
        have cI := hcl c C hC ne
        cases hm : nameOf m C.meths with
        | none => simp only [hI, Option.bind_some, hm] at hh'; cases hh'
        | some f =>
          obtain ⟨hM, hnf, np, F, hnp⟩ := cI.mt m f hm
          have hlk : ((fnames T nm c).zip vs).lookup (nm.attr m) = none := lookup_zip_none (by unfold fnames; rw [hC]; exact hnf)
          refine getmeth_ok I1 hp cI.cl hM hlk ?_
          have hms : methE T cf m (.ins c ds) [] st1 = cf f [.ins c ds] st1 := by
            simp only [methE, methOf, hI, Option.bind_some, hm]
          rw [hms] at o1
          by_cases z : [D.ins c ds].length = np
          · exact PySem.W.callWith_K0 (first := [.ref p]) I1.kIn hM.kp (run_call (us := [.ref p]) (vs := [.ref p]) F hr tk I1 (.cons rfl .nil) z m1 (.cons (.ins e1' e2' r) .nil) l1 o1)
          · rw [hnp _ _ z] at o1
            exact o1.elim
  | _ => cases hh
end
/-! ### for -/
section
variable {T : Tab} {nm : Nm} {K : PySem.W.Frag} {W : WX} {g g0 g1 gb gb' : Gh} {ρ : Rho} {σ : L2.St} {H : Hp} {st : Sto} {D : Ends}
theorem OutS.base {r : F} (o : OutS T nm K W gb D r) (l : Le gb gb') : OutS T nm K W gb' D r := by
  cases r with
  | nx ρ st => exact fun g' σ' H' l' m => o g' σ' H' (l.trans l') m
  | rt d st => exact fun g' v H' l' m r => o g' v H' (l.trans l') m (r.back l)
  | bk ρ st => exact fun g' σ' H' l' m => o g' σ' H' (l.trans l') m
  | ct ρ st => exact fun g' σ' H' l' m => o g' σ' H' (l.trans l') m
  | er x ρ st => exact fun g' cv dd σ' H' l' m x => o g' cv dd σ' H' (l.trans l') m x
  | no => exact o
/-- without the names' own things -/
def strip (g : Gh) : Gh := fun a => match g a with
  | some (.slot _) => none
  | t => t
theorem strip_of {a : Addr} {t : Tag} (h : g a = some t) (n : ∀ i, t ≠ .slot i) : strip g a = some t := by
  unfold strip
  rw [h]
  cases t with
  | slot i => exact absurd rfl (n i)
  | _ => rfl
theorem of_strip {a : Addr} {t : Tag} (h : strip g a = some t) : g a = some t ∧ ∀ i, t ≠ .slot i := by
  unfold strip at h
  split at h
  · cases h
  · rename_i n
    refine ⟨h, fun i e => ?_⟩
    subst e
    exact n i h
theorem noSlot_strip : NoSlot (strip g) := fun a i e => (of_strip e).2 i rfl
theorem le_strip : Le (strip g) g := fun a t e => (of_strip e).1
theorem le_to_strip (n : NoSlot gb) (l : Le gb g) : Le gb (strip g) := fun a t e => strip_of (l a t e) fun i z => n a i (z ▸ e)
theorem lim_strip : Lim g (strip g) := ⟨fun a o e => strip_of e (fun i z => nomatch z), fun a k e => strip_of e (fun i z => nomatch z)⟩
end
section
variable {X : Cx} {T : Tab} {nm : Nm} {W : WX} {cf : Nat → List D → Sto → R D} {pos : Pos} {k : Nat}
/-- over a list or a tuple -/
def iSeq (K : PySem.W.Frag) (tl : TE) : TI := fun σ H R => tl σ H fun x H1 => (∃ a, x = .ref a ∧ (∃ xs, SqL K H1 a xs) ∧ R (Itl K a) H1) ∨ (∃ a, x = .ref a ∧ (∃ xs, SqT K H1 a xs) ∧ R (Itt K a) H1)
theorem pi_seq {tg l : Expr} {tl : TE} (hl : PE X l tl) : PI X tg l (iSeq X.K tl) := by
  refine ⟨fun pins s σ H R I h => ?_⟩
  refine thn (hl.run pins s σ H _ I h) fun v s1 ⟨x, H1, I1, r1, q1⟩ => ?_
  rcases q1 with ⟨a, e, ⟨xs, hq⟩, q⟩ | ⟨a, e, ⟨xs, hq⟩, q⟩
  · subst e
    cases r1
    obtain ⟨its, rv, p, hz⟩ := I1.list hq
    refine wpAny_pyIter_list p.isList ?_
    refine ⟨s1.heap.objs.size, [s1.heap.objs.size], _, _, H1, rfl, I1.kept (t' := s1.toks) fun b o e => Heap.get?_push_of_some _ e, turn_list a _, ⟨_, Heap.get?_push_size _ rfl, rfl, rfl⟩, fun b hb => ?_, q⟩
    have e : b = s1.heap.objs.size := by simpa using hb
    subst e
    exact I1.fpOk (Nat.le_refl _) (I1.hok.fresh (Nat.le_refl _))
  · subst e
    cases r1
    obtain ⟨its, rv, p, hz⟩ := I1.tuple hq
    refine wpAny_pyIter_tuple (show s1.heap.IsTuple a its.toArray from p) ?_
    refine ⟨s1.heap.objs.size, [s1.heap.objs.size], _, _, H1, rfl, I1.kept (t' := s1.toks) fun b o e => Heap.get?_push_of_some _ e, turn_tuple a _, ⟨_, Heap.get?_push_size _ rfl, rfl, rfl⟩, fun b hb => ?_, q⟩
    have e : b = s1.heap.objs.size := by simpa using hb
    subst e
    exact I1.fpOk (Nat.le_refl _) (I1.hok.fresh (Nat.le_refl _))
/-- one turn of a loop -/
theorem turn_out {gb' : Gh} {D : Ends} {ts : List Nat} {dss : List (List Ev.D)} {b : Ev.S} {ρ1 : Rho} {st1 : Sto} {N : L2.St → Hp → Prop} {g2 : Gh} {σ2 : L2.St} {H2 : Hp} (m : Mt T nm X.K g2 ρ1 st1 σ2 H2) (l : Le gb' g2) (n : NoSlot gb')
    (hN : ∀ g' ρ' st' σ' H', Le gb' g' → Mt T nm X.K g' ρ' st' σ' H' → OutS T nm X.K W gb' D (forL (exS T cf b) ts dss ρ' st') → N σ' H')
    (o : OutS T nm X.K W gb' D (match exS T cf b ρ1 st1 with
      | .nx ρ st => forL (exS T cf b) ts dss ρ st
      | .ct ρ st => forL (exS T cf b) ts dss ρ st
      | .bk ρ st => .nx ρ st
      | r => r)) : tS T nm X.K cf W b { D with nx := N, ct := N, bk := D.nx } σ2 H2 := by
  refine ⟨gb', g2, ρ1, st1, m, l, n, ?_⟩
  cases q : exS T cf b ρ1 st1 with
  | nx ρ st =>
    rw [q] at o
    exact fun g' σ' H' l' m' => hN g' ρ st σ' H' l' m' o
  | ct ρ st =>
    rw [q] at o
    exact fun g' σ' H' l' m' => hN g' ρ st σ' H' l' m' o
  | bk ρ st =>
    rw [q] at o
    exact fun g' σ' H' l' m' => o g' σ' H' l' m'
  | rt d st =>
    rw [q] at o
    exact o
  | er x ρ st =>
    rw [q] at o
    exact o
  | no =>
    rw [q] at o
    exact o
theorem drop_at {α : Type} {xs : List α} {i : Nat} {x : α} (h : xs[i]? = some x) : xs.drop i = x :: xs.drop (i + 1) := by
  obtain ⟨h1, h2⟩ := List.getElem?_eq_some_iff.mp h
  rw [List.drop_eq_getElem_cons h1, h2]
theorem Reps.at2 : ∀ {g : Gh} {ds : List Ev.D} {vs : List V} {i : Nat} {v : V}, Reps T nm X.K g ds vs → vs[i]? = some v → ∃ d, ds[i]? = some d ∧ Rep T nm X.K g d v
  | _, _, _, _, _, .nil, e => by simp at e
  | _, _, _, 0, _, .cons r _, e => by simp at e; subst e; exact ⟨_, rfl, r⟩
  | _, _, _, i + 1, _, .cons _ t, e => by
    obtain ⟨d, h1, h2⟩ := Reps.at2 (i := i) t (by simpa using e)
    exact ⟨d, by simpa using h1, h2⟩
/-- for x in l -/
theorem ss_forSeq {e : Expr} {a : E} {i : Nat} {x : Str} {p : Pos} {body : List Stmt} {b : Ev.S} (hp : PassesOwn (model X.prog X.w) X.A X.env X.xe) (hc : X.calm = true) (he : PE X e (tE T nm X.K cf W a)) (hN : X.N.Nodup) (hi : X.N[i]? = some x) (hx : Loc X.env.scope x) (hf : X.fn x = true ∨ X.env.scope.names.lookup x = some .local)
    (hb : PSs X body (tS T nm X.K cf W b)) (hs : ∀ y, foldedSetIterable e X.env y = pure y) : PS X (.For (.Name x p) e body [] pos) (tS T nm X.K cf W (.for_ [i] (.seq a) b)) := by
  refine PS.imp (ps_for hp hc (pi_seq he) (pg_name hN hi hx hf) hb hs) fun D σ H ⟨gb, g, ρ, st, m, l, n, o⟩ => ⟨g, ρ, st, m, ?_⟩
  have o1 : OutS T nm X.K W gb D ((evE T cf a ρ st).f ρ fun d st => match seqOf d with
    | some ds => forL (exS T cf b) [i] (ds.map fun x => [x]) ρ st
    | none => .no) := by
    have o' : OutS T nm X.K W gb D (((evE T cf a ρ st).bind fun d st => R.of ((seqOf d).map fun ds => ds.map fun x => [x]) st).f ρ fun dss st => forL (exS T cf b) [i] dss ρ st) := o
    cases q : evE T cf a ρ st with
    | ok d st1 =>
      rw [q] at o'
      have o2 : OutS T nm X.K W gb D ((R.of ((seqOf d).map fun ds => ds.map fun x => [x]) st1).f ρ fun dss st => forL (exS T cf b) [i] dss ρ st) := o'
      show OutS T nm X.K W gb D (match seqOf d with
        | some ds => forL (exS T cf b) [i] (ds.map fun x => [x]) ρ st1
        | none => .no)
      cases q2 : seqOf d with
      | none => rw [q2] at o2; exact o2
      | some ds => rw [q2] at o2; exact o2
    | er xx st1 => rw [q] at o'; exact o'
    | no => rw [q] at o'; exact o'
  refine Out.imp (OutS.go o1 l) fun d st1 g1 H1 l1 m1 q v r => ?_
  cases hd : seqOf d with
  | none =>
    simp only [hd] at q
    exact q.elim
  | some ds =>
    simp only [hd] at q
    have lg : Le gb g1 := l.trans l1
    -- the loop's invariant
    have main : ∀ (vs : List V), Reps T nm X.K g1 ds vs → ∀ (Pv : Nat → L2.St → Hp → Prop), (Pv = fun j σ' H' => ∃ g' ρ' st', Le (strip g1) g' ∧ Mt T nm X.K g' ρ' st' σ' H' ∧ OutS T nm X.K W (strip g1) D (forL (exS T cf b) [i] ((ds.map fun x => [x]).drop j) ρ' st')) →
        Pv 0 σ H1 ∧ (∀ j y σ' H', vs[j]? = some y → Pv j σ' H' → gName i y σ' H' fun σ2 H2 => tS T nm X.K cf W b { D with nx := Pv (j + 1), ct := Pv (j + 1), bk := D.nx } σ2 H2) ∧ (∀ σ' H', Pv vs.length σ' H' → D.nx σ' H') := fun vs rs Pv eP => by
      subst eP
      refine ⟨⟨g1, ρ, st1, le_strip, m1, (q.base (le_to_strip n lg))⟩, fun j y σ' H' hy ⟨g', ρ', st', l', m', o'⟩ => ?_, fun σ' H' ⟨g', ρ', st', l', m', o'⟩ => ?_⟩
      · obtain ⟨dj, h1, rj⟩ := rs.at2 hy
        have hj : (ds.map fun x => [x])[j]? = some [dj] := by rw [List.getElem?_map, h1]; rfl
        rw [drop_at hj] at o'
        have rj' : Rep T nm X.K g' dj y := (rj.mono lim_strip).mono l'.lim
        have m2 := m'.set (i := i) (SlR.rep (H := H') rj')
        exact turn_out m2 l' noSlot_strip (fun g2 ρ2 st2 σ2 H2 l2 m2 o2 => ⟨g2, ρ2, st2, l2, m2, o2⟩) o'
      · rw [← rs.len, List.drop_eq_nil_of_le (by rw [List.length_map]; exact Nat.le_refl _)] at o'
        exact o' g' σ' H' l' m'
    cases d with
    | own es =>
      cases hd
      obtain ⟨p', vs, ev, h1, h2, rs⟩ := r
      obtain ⟨z1, z2, z3⟩ := main vs rs _ rfl
      refine .inl ⟨p', ev, ⟨vs, .of (m1.held _ _ h1)⟩, for_list _ z1 (fun j σ' H' _ ⟨g', ρ', st', l', m', _⟩ => .of (m'.held _ _ (l' _ _ (strip_of h1 fun i y => nomatch y)))) z2 z3⟩
    | lst es =>
      cases hd
      have r0 : Rep T nm X.K g1 (.lst ds) v := r
      cases r0 with
      | @lst p' _ vs h1 rs =>
        obtain ⟨z1, z2, z3⟩ := main vs rs _ rfl
        refine .inl ⟨p', rfl, ⟨vs, .of (m1.imm _ _ h1)⟩, for_list _ z1 (fun j σ' H' _ ⟨g', ρ', st', l', m', _⟩ => .of (m'.imm _ _ (l' _ _ (strip_of h1 fun i y => nomatch y)))) z2 z3⟩
    | tup es =>
      cases hd
      have r0 : Rep T nm X.K g1 (.tup ds) v := r
      cases r0 with
      | @tup p' _ vs h1 rs =>
        obtain ⟨z1, z2, z3⟩ := main vs rs _ rfl
        have st_ : ∀ {g' : Gh} {ρ' : Rho} {st' : Sto} {σ' : L2.St} {H' : Hp}, Le (strip g1) g' → Mt T nm X.K g' ρ' st' σ' H' → SqT X.K H' p' vs := fun l' m' => same_seqT (fun a o e => m'.imm a o (l' _ _ (strip_of (of_imH e) fun i y => nomatch y))) h1
        refine .inr ⟨p', rfl, ⟨vs, st_ le_strip m1⟩, for_tup _ z1 (fun j σ' H' _ ⟨g', ρ', st', l', m', _⟩ => st_ l' m') z2 z3⟩
    | _ => cases hd
end
end Snd
set_option Elab.async false
set_option linter.all false
set_option maxRecDepth 100000
set_option maxHeartbeats 0
/-! SndO: what instances do with operators, comparisons, built-in functions. -/
namespace Snd
open PySem PySem.Spec PyProof.Rows L2 Ev
section
variable {S : Src} {X : Cx} {W : WX} {nm : Nm} {cf : Nat → List D → Sto → R D} {k : Nat} {T : Tab}
/-- the function is called, somewhere below the running body -/
theorem run_callA {A : Around} {f np : Nat} {pins : List (Addr × Obj)} {σ : L2.St} {H : Hp} {s : Shared} {Q : VK} {g g0 : Gh} {ρ : Rho} {st : Sto} {ds : List D} {vs : List V} {us : List Value} (hA : A.frames = X.A.frames) (F : FnI (co X) T nm cf k f np) (hr : Room k A) (tk : Takes X W)
    (I : Inv X pins σ H s) (rv : Vals vs us) (hn : vs.length = np) (m : Mt T nm X.K g ρ st σ H) (r : Reps T nm X.K g ds vs) (l0 : Le g0 g)
    (o : Out T nm X.K W g0 ρ σ (fun d _ g' H' => ∀ v, RepR T nm X.K g0 g' d v → Q v H') (cf f ds st)) : wpAny (model X.prog X.w) A (call (.ref (fad nm X.K f)) us) (EP X pins σ Q) X.xe s := by
  obtain ⟨fd, ps, F1, b, e⟩ := F.ok
  have h := sp_of m r l0 hn o
  have hl : us.length = ps.length := by rw [← rv.length]; exact F1.len _ _ _ _ h
  have b2 := b s us I.kIn (by rw [List.append_nil]; exact hl)
  rw [List.append_nil] at b2
  have e0 : Env0 X.prog X.w X.K X.mg X.base A X.stack s H := by
    have e := I.env0
    exact ⟨by rw [hA]; exact e.frames, e.mod, e.bs, e.bsz, e.funs, e.frf, e.hok, e.bare⟩
  refine wpAny_call (codeAny_mono (F1.run A X.stack s H ⟨us, []⟩ us vs Q (WE W σ) hr e0 b2 rv h) fun r s' hq => ?_)
  cases r with
  | error e => exact passAt tk σ pins H s e s' I hq
  | ok fl =>
    cases fl with
    | ret u => exact I.after hq
    | next => exact False.elim hq
    | brk => exact False.elim hq
    | cont => exact False.elim hq
/-- an instance that is looked at -/
theorem ins_at {c : Nat} {ds : List D} {x : V} {g : Gh} {ρ : Rho} {σ : L2.St} {H : Hp} {st : Sto} {pins : List (Addr × Obj)} {s : Shared} (h : LkR T nm X.K g ρ σ (.ins c ds) x) (m : Mt T nm X.K g ρ st σ H) (I : Inv X pins σ H s) :
    ∃ p dx od, x = .ref p ∧ Rep T nm X.K g (.ins c ds) x ∧ PySem.W.InstAt s.heap p (PySem.W.instObj (cad nm X.K c) dx) (cad nm X.K c) od := by
  have r := h.rep m rfl
  cases r with
  | @ins p dx _ _ vs e1 e2 r =>
    obtain ⟨mA, O, _⟩ := ins_get I.hok (m.imm _ _ e1)
    obtain ⟨od, J, _⟩ := O.look
    exact ⟨p, dx, some od, rfl, .ins e1 e2 r, J⟩
theorem ep_back {pins : List (Addr × Obj)} {σ : L2.St} {Q : VK} {u : Value} {s' : Shared} (h : EP X pins σ Q u s') : PySem.W.CmpBack (EP X pins σ Q) u s' := by
  cases u <;> first | exact h | skip
  obtain ⟨v, H', I, r, q⟩ := h
  cases v <;> first | (cases r; done) | (obtain ⟨_, z⟩ := r; cases z)
theorem in1s_fr {A : Around} (h : A.frames = X.A.frames) : A.in1.frames = X.A.frames := h
/-! ### what the checks say -/
structure OwnI (S : Src) (K : PySem.W.Frag) (nm : Nm) (c f : Nat) (name : Str) : Prop where
  hs : PySem.W.findIn K (.ref (cad nm K c)) name = some (some (.ref (fad nm K f)))
  hf : PySem.W.isFn K (.ref (fad nm K f)) = true
theorem own_of {K : PySem.W.Frag} {me : Option (Addr × Addr)} {c f : Nat} {name : Str} (h : ownB S K c f name = true) : OwnI S K (nmE S me) c f name := by
  obtain ⟨h1, h2⟩ := He.ba h
  exact ⟨He.eqO_ok h1, h2⟩
theorem fnB_of {Y : Core} {f n : Nat} (F : Facts S Y nm cf k) (h : fnB S f n = true) : FnI Y S.T nm cf k f n := by
  unfold fnB at h
  cases e : S.fnAt f with
  | none => rw [e] at h; cases h
  | some G =>
    rw [e] at h
    obtain ⟨h1, h⟩ := He.ba h
    obtain ⟨h2, h3⟩ := He.ba h
    rw [← of_decide_eq_true h3]
    exact F.fn f G e (by simpa using h1) (by simpa using h2)
theorem look2_mem {α : Type} [DecidableEq α] {c : Nat} {o : α} {f : Nat} : ∀ {l : List (Nat × α × Nat)}, look2 c o l = some f → (c, o, f) ∈ l
  | [], h => by cases h
  | (k, p, j) :: r, h => by
    have h' : (if k = c ∧ p = o then some j else look2 c o r) = some f := h
    by_cases e : k = c ∧ p = o
    · rw [if_pos e] at h'
      cases h'
      rw [e.1, e.2]
      exact List.mem_cons_self
    · rw [if_neg e] at h'
      exact List.mem_cons_of_mem _ (look2_mem h')
theorem noneOrRef_of {o : Option (Option Value)} (h : noneOrRef o = true) : ∃ rc, o = some rc ∧ (rc = none ∨ ∃ g : Addr, rc = some (.ref g)) := by
  unfold noneOrRef at h
  split at h
  · exact ⟨none, rfl, .inl rfl⟩
  · rename_i a
    exact ⟨_, rfl, .inr ⟨a, rfl⟩⟩
  · cases h
/-- int declines -/
theorem int_decl {i : Int} {t : Tok} {op : BO} (h : op = .add ∨ op = .sub ∨ op = .mul ∨ op = .fdv ∨ op = .mod) (C dx x : Addr) : PySem.W.Decl (.int i t) "int" (PySem.dunder (opOf op).info.2) C dx x ∧ fillsNumberSlot (.type "int") (opOf op).info.2 = pure true := by
  rcases h with rfl | rfl | rfl | rfl | rfl
  · exact ⟨⟨_, F.slot_int_add, fun prog w A E s Q hx hq => call_meets F.slot_int_add (typeIs_int s i t) F.entry_int_add (F.args_int_add_2 _ _) (GQ3.int_add_ref i t x C dx) ⟨hx, hq⟩⟩, F.fills_int_add⟩
  · exact ⟨⟨_, F.slot_int_sub, fun prog w A E s Q hx hq => call_meets F.slot_int_sub (typeIs_int s i t) F.entry_int_sub (F.args_int_sub_2 _ _) (GQ3.int_sub_ref i t x C dx) ⟨hx, hq⟩⟩, F.fills_int_sub⟩
  · exact ⟨⟨_, F.slot_int_mul, fun prog w A E s Q hx hq => call_meets F.slot_int_mul (typeIs_int s i t) F.entry_int_mul (F.args_int_mul_2 _ _) (GQ3.int_mul_ref i t x C dx) ⟨hx, hq⟩⟩, F.fills_int_mul⟩
  · exact ⟨⟨_, F.slot_int_floordiv, fun prog w A E s Q hx hq => call_meets F.slot_int_floordiv (typeIs_int s i t) F.entry_int_floordiv (F.args_int_floordiv_2 _ _) (GQ3.int_floordiv_ref i t x C dx) ⟨hx, hq⟩⟩, F.fills_int_floordiv⟩
  · exact ⟨⟨_, F.slot_int_mod, fun prog w A E s Q hx hq => call_meets F.slot_int_mod (typeIs_int s i t) F.entry_int_mod (F.args_int_mod_2 _ _) (GQ3.int_mod_ref i t x C dx) ⟨hx, hq⟩⟩, F.fills_int_mod⟩
theorem int_declC {i : Int} {t : Tok} {op : CO} (h : isRel op = true) (C dx x : Addr) : PySem.W.Decl (.int i t) "int" (cmpInfo (copOf op)).2.1 C dx x := by
  cases op <;> first | (cases h; done) | skip
  · exact ⟨_, F.slot_int_eq, fun prog w A E s Q hx hq => call_meets F.slot_int_eq (typeIs_int s i t) F.entry_int_eq (F.args_int_eq_2 _ _) (GQ3.int_eq_ref i t x C dx) ⟨hx, hq⟩⟩
  · exact ⟨_, F.slot_int_ne, fun prog w A E s Q hx hq => call_meets F.slot_int_ne (typeIs_int s i t) F.entry_int_ne (F.args_int_ne_2 _ _) (GQ3.int_ne_ref i t x C dx) ⟨hx, hq⟩⟩
  · exact ⟨_, F.slot_int_lt, fun prog w A E s Q hx hq => call_meets F.slot_int_lt (typeIs_int s i t) F.entry_int_lt (F.args_int_lt_2 _ _) (GQ3.int_lt_ref i t x C dx) ⟨hx, hq⟩⟩
  · exact ⟨_, F.slot_int_le, fun prog w A E s Q hx hq => call_meets F.slot_int_le (typeIs_int s i t) F.entry_int_le (F.args_int_le_2 _ _) (GQ3.int_le_ref i t x C dx) ⟨hx, hq⟩⟩
  · exact ⟨_, F.slot_int_gt, fun prog w A E s Q hx hq => call_meets F.slot_int_gt (typeIs_int s i t) F.entry_int_gt (F.args_int_gt_2 _ _) (GQ3.int_gt_ref i t x C dx) ⟨hx, hq⟩⟩
  · exact ⟨_, F.slot_int_ge, fun prog w A E s Q hx hq => call_meets F.slot_int_ge (typeIs_int s i t) F.entry_int_ge (F.args_int_ge_2 _ _) (GQ3.int_ge_ref i t x C dx) ⟨hx, hq⟩⟩
/-- what is known of the left operand -/
structure LeftI (u : Value) (T : String) : Prop where
  ty : typeOf u = pure (.type T)
  ti : ∀ s : Shared, s.TypeIs u T
  one : ∀ op (x : Addr), oneThing? op u (.ref x) = none
theorem left_decl {op : CO} {d : D} {v : V} {u : Value} (h : mayL op d = true) (ho : isRel op = true) {g : Gh} {ρ : Rho} {σ : L2.St} {H : Hp} {st : Sto} (l : LkR T nm X.K g ρ σ d v) (m : Mt T nm X.K g ρ st σ H) (r : RelV v u) (C dx x : Addr) :
    ∃ T, T ∈ (["int", "NoneType", "str", "bool"] : List String) ∧ LeftI u T ∧ PySem.W.Decl u T (cmpInfo (copOf op)).2.1 C dx x := by
  cases d with
  | int i =>
    rw [l.int m] at r
    obtain ⟨t, rfl⟩ := r
    exact ⟨"int", by simp, ⟨rfl, fun s => typeIs_int s i t, fun op x => by cases op <;> rfl⟩, int_declC ho C dx x⟩
  | non =>
    rw [l.non m] at r
    cases r
    refine ⟨"NoneType", by simp, ⟨rfl, fun s => rfl, fun op x => by cases op <;> rfl⟩, ?_⟩
    cases op <;> first | (cases h; done) | skip
    · exact ⟨_, F.slot_NoneType_eq, fun prog w A E s Q hx hq => call_meets F.slot_NoneType_eq rfl F.entry_NoneType_eq (F.args_NoneType_eq_2 _ _) (GQ3.none_eq_ref x C dx) ⟨hx, hq⟩⟩
    · exact ⟨_, F.slot_NoneType_ne, fun prog w A E s Q hx hq => call_meets F.slot_NoneType_ne rfl F.entry_NoneType_ne (F.args_NoneType_ne_2 _ _) (GQ3.none_ne_ref x C dx) ⟨hx, hq⟩⟩
  | str z =>
    rw [l.str m] at r
    obtain ⟨t, rfl⟩ := r
    refine ⟨"str", by simp, ⟨rfl, fun s => typeIs_str s _ t, fun op x => by cases op <;> rfl⟩, ?_⟩
    cases op <;> first | (cases h; done) | skip
    · exact ⟨_, F.slot_str_eq, fun prog w A E s Q hx hq => call_meets F.slot_str_eq (typeIs_str s _ t) F.entry_str_eq (F.args_str_eq_2 _ _) (GQ3.str_eq_ref _ t x C dx) ⟨hx, hq⟩⟩
    · exact ⟨_, F.slot_str_ne, fun prog w A E s Q hx hq => call_meets F.slot_str_ne (typeIs_str s _ t) F.entry_str_ne (F.args_str_ne_2 _ _) (GQ3.str_ne_ref _ t x C dx) ⟨hx, hq⟩⟩
  | bl z =>
    rw [l.bl m] at r
    cases r
    refine ⟨"bool", by simp, ⟨rfl, fun s => rfl, fun op x => by cases op <;> rfl⟩, ?_⟩
    cases op <;> first | (cases h; done) | skip
    · exact ⟨_, F.slot_bool_eq, fun prog w A E s Q hx hq => call_meets F.slot_bool_eq rfl F.entry_int_eq (F.args_int_eq_2 _ _) (GQ3.bool_eq_ref z x C dx) ⟨hx, hq⟩⟩
    · exact ⟨_, F.slot_bool_ne, fun prog w A E s Q hx hq => call_meets F.slot_bool_ne rfl F.entry_int_ne (F.args_int_ne_2 _ _) (GQ3.bool_ne_ref z x C dx) ⟨hx, hq⟩⟩
  | _ => cases h
/-- + - * // % of instances -/
theorem insOps_of {me : Option (Addr × Addr)} (hnm : nm = nmE S me) (F : Facts S (co X) nm cf k) (hr : Room k X.A) (tk : Takes X W) : InsOps X S.T nm W cf := by
  subst hnm
  intro op pins s σ H g0 g ρ st d e x y u w Q hd I m ld le rx ry l0 o
  have hops := F.ops
  unfold opsB at hops
  have hu : X.A.units < cLine := by have := hr.un; omega
  have kin := I.ok.mod.kin
  obtain ⟨mm, hF⟩ := I.fr
  rcases hd with ⟨c, ds, rfl⟩ | ⟨i, c, ds, rfl, rfl⟩
  · obtain ⟨p, dx, od, ex, rr, J⟩ := ins_at ld m I
    subst ex
    cases rx
    have main : ∀ f e, S.T.bop c op = some f → (∃ i, e = .int i) ∨ (∃ es, e = .ins c es) → LkR S.T (nmE S me) X.K g ρ σ e y →
        Out S.T (nmE S me) X.K W g0 ρ σ (fun d _ g' H' => ∀ v, RepR S.T (nmE S me) X.K g0 g' d v → Q v H') (cf f [.ins c ds, e] st) → wpAny (model X.prog X.w) X.A (binaryOp (opOf op) (.ref p) w) (EP X pins σ Q) X.xe s := fun f e hb he le o => by
      have hb' : look2 c op S.bop = some f := hb
      have hq := List.all_eq_true.mp (He.ba hops).1 _ (look2_mem hb')
      obtain ⟨_, hq⟩ := He.ba hq
      obtain ⟨q1, hq⟩ := He.ba hq
      obtain ⟨q2, hq⟩ := He.ba hq
      obtain ⟨q3, hq⟩ := He.ba hq
      obtain ⟨q4, hq⟩ := He.ba hq
      obtain ⟨q5, hq⟩ := He.ba hq
      obtain ⟨q6, q7⟩ := He.ba hq
      have own := own_of (me := me) q2
      obtain ⟨rc, r1, r2⟩ := noneOrRef_of q4
      have re : Rep S.T (nmE S me) X.K g e y := le.rep m (by rcases he with ⟨_, rfl⟩ | ⟨_, rfl⟩ <;> rfl)
      have cal := run_callA (A := X.A) (Q := Q) rfl (fnB_of F q1) hr tk I (.cons (show RelV (V.ref p) (.ref p) from rfl) (.cons ry .nil)) rfl m (.cons rr (.cons re .nil)) l0 o
      have back := wpAny_mono cal (fun u s' z => ep_back z) fun _ _ z => z
      rcases he with ⟨i, rfl⟩ | ⟨es, rfl⟩
      · rw [le.int m] at ry
        obtain ⟨t, rfl⟩ := ry
        obtain ⟨fo, h1⟩ := Option.isSome_iff_exists.mp q5
        obtain ⟨ro, h2⟩ := Option.isSome_iff_exists.mp q6
        exact PySem.W.ksp_binT hF kin J rfl q3 own.hs own.hf r1 r2 h1 h2 (of_decide_eq_true q7) back
      · obtain ⟨p2, dx2, od2, ey, _, J2⟩ := ins_at le m I
        subst ey
        cases ry
        exact PySem.W.binop_K hF kin J J2.type q3 own.hs own.hf back
    cases e with
    | int j =>
      cases hb : S.T.bop c op with
      | none => simp only [binE, hb] at o; exact o.elim
      | some f =>
        simp only [binE, hb] at o
        exact main f _ hb (.inl ⟨j, rfl⟩) le o
    | ins c' es =>
      by_cases hc : c = c'
      · subst hc
        cases hb : S.T.bop c op with
        | none => simp only [binE, hb, if_true] at o; exact o.elim
        | some f =>
          simp only [binE, hb, if_true] at o
          exact main f _ hb (.inr ⟨es, rfl⟩) le o
      · simp only [binE, if_neg hc] at o
        exact o.elim
    | _ =>
      have z : ∀ e, (∀ i, e ≠ .int i) → (∀ k es, e ≠ .ins k es) → binE S.T cf op (.ins c ds) e st = .no := fun e h1 h2 => by
        cases e <;> first | exact absurd rfl (h1 _) | exact absurd rfl (h2 _ _) | (cases op <;> rfl)
      rw [z _ (by intro i q; cases q) (by intro i es q; cases q)] at o
      exact o.elim
  · obtain ⟨p, dx, od, ey, rr, J⟩ := ins_at le m I
    subst ey
    cases ry
    rw [ld.int m] at rx
    obtain ⟨t, rfl⟩ := rx
    cases hb : S.T.rop c op with
    | none => simp only [binE, hb] at o; exact o.elim
    | some f =>
      simp only [binE, hb] at o
      have hb' : look2 c op S.rop = some f := hb
      have hq := List.all_eq_true.mp (He.ba (He.ba hops).2).1 _ (look2_mem hb')
      obtain ⟨_, hq⟩ := He.ba hq
      obtain ⟨q1, hq⟩ := He.ba hq
      obtain ⟨q2, hq⟩ := He.ba hq
      obtain ⟨q3, hq⟩ := He.ba hq
      obtain ⟨q4, hq⟩ := He.ba hq
      obtain ⟨q5, q6⟩ := He.ba hq
      have own := own_of (me := me) q2
      have hfl : ∃ fl : Addr, PySem.W.findIn X.K (.ref (cad (nmE S me) X.K c)) (PySem.dunder (opOf op).info.2) = some (some (.ref fl)) := by
        dsimp only at q4
        split at q4
        · rename_i a e
          exact ⟨a, e⟩
        · cases q4
      obtain ⟨fl, hfl⟩ := hfl
      have q6' : op = .add ∨ op = .sub ∨ op = .mul ∨ op = .fdv ∨ op = .mod := by
        cases op <;> first | (exact .inl rfl) | (exact .inr (.inl rfl)) | (exact .inr (.inr (.inl rfl))) | (exact .inr (.inr (.inr (.inl rfl)))) | (exact .inr (.inr (.inr (.inr rfl)))) | (cases (show false = true from q6))
      obtain ⟨D, hfills⟩ := int_decl (i := i) (t := t) q6' (cad (nmE S me) X.K c) dx p
      have cal := run_callA (A := X.A) (Q := Q) rfl (fnB_of F q1) hr tk I (.cons (show RelV (V.ref p) (.ref p) from rfl) (.cons (show RelV (V.int i) (.int i t) from ⟨t, rfl⟩) .nil)) rfl m (.cons rr (.cons (.int i) .nil)) l0 o
      exact PySem.W.bin_right I.kIn J rfl (typeIs_int s i t) q3 hfills hfl own.hs own.hf (of_decide_eq_true q5) D (wpAny_mono cal (fun u s' z => ep_back z) fun _ _ z => z)
/-! ### comparisons -/
structure CopI (S : Src) (K : PySem.W.Frag) (nm : Nm) (Y : Core) (cf : Nat → List D → Sto → R D) (k c : Nat) (o : CO) (f : Nat) : Prop where
  fn : FnI Y S.T nm cf k f 2
  own : OwnI S K nm c f (cmpInfo (copOf o)).2.1
  op : o = .eq ∨ o = .lt ∨ o = .le ∨ o = .gt ∨ o = .ge
  nf : ∀ T ∈ (["int", "NoneType", "str", "bool", "tuple", "list"] : List String), PySem.W.notFirst K (cad nm K c) (.type T) = true
  nc : ∀ c' C, S.clAt c' = some C → C.exc = false → PySem.W.notFirst K (cad nm K c) (.ref (cad nm K c')) = true
  ns : ∀ T ∈ (["int", "NoneType", "str", "bool"] : List String), PySem.W.subIn K (.ref (cad nm K c)) (.type T) = some false
  ne : PySem.W.findIn K (.ref (cad nm K c)) "__ne__" = some (some (.builtin "object.__ne__"))
  ob : PySem.W.subIn K (.ref (cad nm K c)) (.type "object") = some true
theorem cop_of {me : Option (Addr × Addr)} {Y : Core} (F : Facts S Y (nmE S me) cf k) {c f : Nat} {o : CO} (h : S.T.cop c o = some f) : CopI S Y.K (nmE S me) Y cf k c o f := by
  have hops := F.ops
  unfold opsB at hops
  have h' : look2 c o S.cop = some f := h
  have hq := List.all_eq_true.mp (He.ba (He.ba (He.ba hops).2).2).1 _ (look2_mem h')
  obtain ⟨_, hq⟩ := He.ba hq
  obtain ⟨q1, hq⟩ := He.ba hq
  obtain ⟨q2, hq⟩ := He.ba hq
  obtain ⟨q3, hq⟩ := He.ba hq
  obtain ⟨q4, hq⟩ := He.ba hq
  obtain ⟨q5, hq⟩ := He.ba hq
  obtain ⟨q6, hq⟩ := He.ba hq
  obtain ⟨q7, q8⟩ := He.ba hq
  refine ⟨fnB_of F q1, own_of q2, ?_, fun T hT => List.all_eq_true.mp q4 T hT, fun c' C hC hx => ?_, fun T hT => of_decide_eq_true (List.all_eq_true.mp q6 T hT), He.eqO_ok q7, of_decide_eq_true q8⟩
  · cases o <;> first | (exact .inl rfl) | (exact .inr (.inl rfl)) | (exact .inr (.inr (.inl rfl))) | (exact .inr (.inr (.inr (.inl rfl)))) | (exact .inr (.inr (.inr (.inr rfl)))) | (cases (show false = true from q3))
  · have z := List.all_eq_true.mp q5 _ (nameOf_mem hC)
    dsimp only at z
    rw [hx] at z
    exact z
/-- the type of what stands on the right -/
theorem right_type {d : D} {v : V} {u : Value} (h : mayR T d = true) {g : Gh} {ρ : Rho} {σ : L2.St} {H : Hp} {st : Sto} {pins : List (Addr × Obj)} {s : Shared} (l : LkR T nm X.K g ρ σ d v) (m : Mt T nm X.K g ρ st σ H) (I : Inv X pins σ H s) (r : RelV v u) :
    Rep T nm X.K g d v ∧ ((∃ t, t ∈ (["int", "NoneType", "str", "bool", "tuple", "list"] : List String) ∧ PySem.W.Looks (model X.prog X.w) s.heap (typeOf u) (.type t)) ∨ ∃ c ds, d = .ins c ds ∧ (∃ C, clsI T c = some C) ∧ PySem.W.Looks (model X.prog X.w) s.heap (typeOf u) (.ref (cad nm X.K c))) := by
  cases d with
  | non => rw [l.non m] at r ⊢; cases r; exact ⟨.non, .inl ⟨"NoneType", by simp, PySem.W.Looks.of_pure rfl⟩⟩
  | bl b => rw [l.bl m] at r ⊢; cases r; exact ⟨.bl b, .inl ⟨"bool", by simp, PySem.W.Looks.of_pure rfl⟩⟩
  | int i => rw [l.int m] at r ⊢; obtain ⟨t, rfl⟩ := r; exact ⟨.int i, .inl ⟨"int", by simp, PySem.W.Looks.of_pure rfl⟩⟩
  | str z => rw [l.str m] at r ⊢; obtain ⟨t, rfl⟩ := r; exact ⟨.str z, .inl ⟨"str", by simp, PySem.W.Looks.of_pure rfl⟩⟩
  | tup ds =>
    have rr := l.rep m rfl
    refine ⟨rr, .inl ⟨"tuple", by simp, ?_⟩⟩
    cases rr with
    | tup sq _ =>
      cases r
      obtain ⟨its, rv, ⟨o, ho, hc, _⟩, hz⟩ := I.tuple (same_seqT (fun a o e => m.imm a o (of_imH e)) sq)
      have z : PySem.W.Looks (model X.prog X.w) s.heap (typeOf (.ref _)) o.cls := (PySem.W.Looks.ld ho).andThen .now
      rw [hc] at z
      exact z
  | lst ds =>
    have rr := l.rep m rfl
    refine ⟨rr, .inl ⟨"list", by simp, ?_⟩⟩
    cases rr with
    | lst sq _ =>
      cases r
      obtain ⟨_, its, n, _, ho⟩ := (show ObjOk X.prog X.w H s.heap _ (.lst _) from I.hok _ _ (m.imm _ _ sq))
      exact (PySem.W.Looks.ld ho).andThen .now
  | ins c ds =>
    have rr := l.rep m rfl
    refine ⟨rr, .inr ⟨c, ds, rfl, Option.isSome_iff_exists.mp h, ?_⟩⟩
    obtain ⟨p, dx, od, ev, _, J⟩ := ins_at l m I
    subst ev
    cases r
    exact J.type
  | _ => cases h
/-- a truth value's answer -/
theorem out_bl {cfr : R D} {o : CO} {g0 g : Gh} {ρ : Rho} {σ : L2.St} {Q : Bool → Hp → Prop} (h : Out T nm X.K W g0 ρ σ (fun b _ _ H' => Q b H') ((asBl cfr).bind fun k st => .ok (if o = .ne then !k else k) st)) :
    Out T nm X.K W g0 ρ σ (fun d _ g' H' => ∀ v, RepR T nm X.K g0 g' d v → (∃ b, v = .bl b ∧ Q (if o = .ne then !b else b) H')) cfr := by
  cases cfr with
  | ok d st =>
    cases d with
    | bl b =>
      refine fun g' H' l m v r => ?_
      cases r
      exact ⟨b, rfl, h g' H' l m⟩
    | _ => exact h.elim
  | er x st => exact h
  | no => exact h
theorem ep_bl {pins : List (Addr × Obj)} {σ : L2.St} {P : Bool → Hp → Prop} {u : Value} {s' : Shared} (h : EP X pins σ (fun v H' => ∃ b, v = .bl b ∧ P b H') u s') : ∃ b, u = .bool b ∧ ∃ H', Inv X pins σ H' s' ∧ P b H' := by
  obtain ⟨v, H', I, r, b, rfl, q⟩ := h
  cases r
  exact ⟨b, rfl, H', I, q⟩
theorem cop_opC {o : CO} (h : isRel o = true) : (o = .ne ∧ (if isEq o then CO.eq else o) = .eq) ∨ (o ≠ .ne ∧ (if isEq o then CO.eq else o) = o) := by
  cases o <;> first | (cases h; done) | (exact .inl ⟨rfl, rfl⟩) | (exact .inr ⟨(by intro z; cases z), rfl⟩)
/-- a comparison with an instance on the left, somewhere below -/
theorem ins_left {me : Option (Addr × Addr)} (hnm : nm = nmE S me) {A : Around} (hA : A.frames = X.A.frames) (F : Facts S (co X) nm cf k) (hr : Room (k + 1) A) (tk : Takes X W) {op : CO} {pins : List (Addr × Obj)} {s : Shared} {σ : L2.St} {H : Hp} {g0 g : Gh} {ρ : Rho} {st : Sto} {c : Nat} {ds : List D} {e : D} {x y : V} {u w : Value} {Q : Bool → Hp → Prop} (ho : isRel op = true)
    (I : Inv X pins σ H s) (m : Mt S.T nm X.K g ρ st σ H) (ld : LkR S.T nm X.K g ρ σ (.ins c ds) x) (le : LkR S.T nm X.K g ρ σ e y) (hm : mayR S.T e = true) (rx : RelV x u) (ry : RelV y w) (l0 : Le g0 g) (o : Out S.T nm X.K W g0 ρ σ (fun b _ _ H' => Q b H') (insC S.T cf op c ds e st)) :
    wpAny (model X.prog X.w) A (richCompare (copOf op) u w) (fun v s' => ∃ b, v = .bool b ∧ ∃ H', Inv X pins σ H' s' ∧ Q b H') X.xe s := by
  subst hnm
  have hu : A.units + 1 < cLine := by have := hr.un; omega
  obtain ⟨p, dx, od, ex, rr, J⟩ := ins_at ld m I
  subst ex
  cases rx
  obtain ⟨re, hty⟩ := right_type hm le m I ry
  obtain ⟨mm, hF⟩ := I.fr
  unfold insC at o
  cases hc : S.T.cop c (if isEq op then .eq else op) with
  | none => rw [hc] at o; exact o.elim
  | some f =>
    rw [hc] at o
    have C := cop_of F hc
    have cal : ∀ A' : Around, A'.frames = X.A.frames → Room k A' → wpAny (model X.prog X.w) A' (call (.ref (fad (nmE S me) X.K f)) [.ref p, w]) (fun v s' => ∃ b, v = .bool b ∧ ∃ H', Inv X pins σ H' s' ∧ Q (if op = .ne then !b else b) H') X.xe s := fun A' hA' hr' =>
      wpAny_mono (run_callA hA' C.fn hr' tk I (.cons (show RelV (V.ref p) (.ref p) from rfl) (.cons ry .nil)) rfl m (.cons rr (.cons re .nil)) l0 (out_bl (g := g) o)) (fun v s' z => ep_bl z) fun _ _ z => z
    rcases cop_opC ho with ⟨rfl, e2⟩ | ⟨n2, e2⟩
    · have own := C.own
      rw [e2] at own
      have tr : ∀ Q' : Option Value → Shared → Prop, (∀ b s', (∃ H', Inv X pins σ H' s' ∧ Q b H') → Q' (some (.bool b)) s') → wpAny (model X.prog X.w) A (tryCompare (.ref p) "__ne__" w) Q' X.xe s := fun Q' hq' =>
        PySem.W.ne_try hu I.kIn J C.ne C.ob own.hs own.hf (wpAny_mono (cal A.in1 hA hr.in1) (fun v s' z => by
          obtain ⟨b, rfl, z⟩ := z
          exact ⟨b, rfl, hq' _ _ z⟩) fun _ _ z => z)
      have notF : ∀ tb, PySem.W.Looks (model X.prog X.w) s.heap (typeOf w) tb → PySem.W.notFirst X.K (cad (nmE S me) X.K c) tb = true → wpAny (model X.prog X.w) A (richCompare (copOf .ne) (.ref p) w) (fun v s' => ∃ b, v = .bool b ∧ ∃ H', Inv X pins σ H' s' ∧ Q b H') X.xe s := fun tb hb hn => by
        unfold richCompare
        simp only [oneThing_ref]
        refine wpAny_holding (wpAny_bind (wpAny_cRoomFor (by omega) ?_))
        refine wpAny_bind (J.type.here (wpAny_bind (hb.here ?_)))
        split
        · rename_i q
          have e : PySem.W.subIn X.K tb (.ref (cad (nmE S me) X.K c)) = some false := by
            rcases Bool.or_eq_true_iff.mp hn with e | e
            · rw [beq_iff_eq.mp e] at q; simp at q
            · exact beq_iff_eq.mp e
          refine wpAny_bind ((PySem.W.looks_subIn I.kIn e).here ?_)
          simp only [Bool.false_eq_true, if_false]
          refine wpAny_bind (tr _ fun b s' z => ?_)
          exact wpAny_pure ⟨b, rfl, z⟩
        · refine wpAny_bind (wpAny_pure ?_)
          simp only [Bool.false_eq_true, if_false]
          refine wpAny_bind (tr _ fun b s' z => ?_)
          exact wpAny_pure ⟨b, rfl, z⟩
      rcases hty with ⟨t, ht, L⟩ | ⟨c', ds', rfl, ⟨C', hI⟩, L⟩
      · exact notF _ L (C.nf t ht)
      · obtain ⟨hC', hx'⟩ := clsI_some hI
        exact notF _ L (C.nc c' C' hC' hx')
    · have own := C.own
      rw [e2] at own
      have back : wpAny (model X.prog X.w) A (call (.ref (fad (nmE S me) X.K f)) [.ref p, w]) (PySem.W.CmpBack fun v s' => ∃ b, v = .bool b ∧ ∃ H', Inv X pins σ H' s' ∧ Q b H') X.xe s := wpAny_mono (cal A hA (hr.mono (Nat.le_succ _))) (fun v s' z => by
        obtain ⟨b, rfl, z⟩ := z
        rw [if_neg n2] at z
        exact ⟨b, rfl, z⟩) fun _ _ z => z
      rcases hty with ⟨t, ht, L⟩ | ⟨c', ds', rfl, ⟨C', hI⟩, L⟩
      · exact PySem.W.cmp_K (by omega) hF I.ok.mod.kin J L (C.nf t ht) own.hs own.hf back
      · obtain ⟨hC', hx'⟩ := clsI_some hI
        exact PySem.W.cmp_K (by omega) hF I.ok.mod.kin J L (C.nc c' C' hC' hx') own.hs own.hf back
theorem flip_info {op : CO} (h : isRel op = true) : (cmpInfo (copOf op)).2.2 = (cmpInfo (copOf (flipC op))).2.1 ∧ isRel (flipC op) = true ∧ (flipC op = .ne ↔ op = .ne) := by
  cases op <;> first | (cases h; done) | exact ⟨rfl, rfl, by constructor <;> (intro z; cases z; try rfl)⟩
/-- a comparison with an instance on the right, what stands on the left declines -/
theorem ins_right {me : Option (Addr × Addr)} (hnm : nm = nmE S me) {A : Around} (hA : A.frames = X.A.frames) (F : Facts S (co X) nm cf k) (hr : Room (k + 1) A) (tk : Takes X W) {op : CO} {pins : List (Addr × Obj)} {s : Shared} {σ : L2.St} {H : Hp} {g0 g : Gh} {ρ : Rho} {st : Sto} {c : Nat} {ds : List D} {e : D} {x y : V} {u w : Value} {Q : Bool → Hp → Prop} (ho : isRel op = true)
    (I : Inv X pins σ H s) (m : Mt S.T nm X.K g ρ st σ H) (le : LkR S.T nm X.K g ρ σ e x) (ld : LkR S.T nm X.K g ρ σ (.ins c ds) y) (hm : mayL op e = true) (rx : RelV x u) (ry : RelV y w) (l0 : Le g0 g) (o : Out S.T nm X.K W g0 ρ σ (fun b _ _ H' => Q b H') (insC S.T cf (flipC op) c ds e st)) :
    wpAny (model X.prog X.w) A (richCompare (copOf op) u w) (fun v s' => ∃ b, v = .bool b ∧ ∃ H', Inv X pins σ H' s' ∧ Q b H') X.xe s := by
  subst hnm
  have hu : A.units + 1 < cLine := by have := hr.un; omega
  obtain ⟨p, dx, od, ex, rr, J⟩ := ins_at ld m I
  subst ex
  cases ry
  obtain ⟨T, hT, L, D⟩ := left_decl hm ho le m rx (cad (nmE S me) X.K c) dx p
  have re : Rep S.T (nmE S me) X.K g e x := le.rep m (by cases e <;> first | rfl | cases hm)
  unfold insC at o
  cases hc : S.T.cop c (if isEq (flipC op) then .eq else flipC op) with
  | none => rw [hc] at o; exact o.elim
  | some f =>
    rw [hc] at o
    have C := cop_of F hc
    obtain ⟨fi1, fi2, fi3⟩ := flip_info ho
    have cal : ∀ A' : Around, A'.frames = X.A.frames → Room k A' → wpAny (model X.prog X.w) A' (call (.ref (fad (nmE S me) X.K f)) [.ref p, u]) (fun v s' => ∃ b, v = .bool b ∧ ∃ H', Inv X pins σ H' s' ∧ Q (if flipC op = .ne then !b else b) H') X.xe s := fun A' hA' hr' =>
      wpAny_mono (run_callA hA' C.fn hr' tk I (.cons (show RelV (V.ref p) (.ref p) from rfl) (.cons rx .nil)) rfl m (.cons rr (.cons re .nil)) l0 (out_bl (g := g) o)) (fun v s' z => ep_bl z) fun _ _ z => z
    refine PySem.W.cmp_right (by omega) (L.one _ _) I.kIn J L.ty (L.ti s) (C.ns T hT) D fun Q' hq' => ?_
    rw [fi1]
    rcases cop_opC fi2 with ⟨e1, e2⟩ | ⟨n2, e2⟩
    · have own := C.own
      rw [e2] at own
      rw [e1]
      exact PySem.W.ne_try hu I.kIn J C.ne C.ob own.hs own.hf (wpAny_mono (cal A.in1 hA hr.in1) (fun v s' z => by
        obtain ⟨b, rfl, z⟩ := z
        rw [if_pos e1] at z
        exact ⟨b, rfl, hq' _ _ (fun z => nomatch z) ⟨_, rfl, z⟩⟩) fun _ _ z => z)
    · have own := C.own
      rw [e2] at own
      exact PySem.W.cmp_try I.kIn J own.hs own.hf (wpAny_mono (cal A hA (hr.mono (Nat.le_succ _))) (fun v s' z => by
        obtain ⟨b, rfl, z⟩ := z
        rw [if_neg n2] at z
        exact hq' _ _ (fun z => nomatch z) ⟨_, rfl, z⟩) fun _ _ z => z)
/-- .. any -/
theorem ins_cmp {me : Option (Addr × Addr)} (hnm : nm = nmE S me) {A : Around} (hA : A.frames = X.A.frames) (F : Facts S (co X) nm cf k) (hr : Room (k + 1) A) (tk : Takes X W) {op : CO} {pins : List (Addr × Obj)} {s : Shared} {σ : L2.St} {H : Hp} {g0 g : Gh} {ρ : Rho} {st : Sto} {d e : D} {x y : V} {u w : Value} {Q : Bool → Hp → Prop} (ho : isRel op = true)
    (I : Inv X pins σ H s) (m : Mt S.T nm X.K g ρ st σ H) (ld : LkR S.T nm X.K g ρ σ d x) (le : LkR S.T nm X.K g ρ σ e y) (rx : RelV x u) (ry : RelV y w) (l0 : Le g0 g) (o : Out S.T nm X.K W g0 ρ σ (fun b _ _ H' => Q b H') (cmpI S.T cf op d e st)) :
    wpAny (model X.prog X.w) A (richCompare (copOf op) u w) (fun v s' => ∃ b, v = .bool b ∧ ∃ H', Inv X pins σ H' s' ∧ Q b H') X.xe s := by
  by_cases hd : ∃ c ds, d = .ins c ds
  · obtain ⟨c, ds, rfl⟩ := hd
    have o' : Out S.T nm X.K W g0 ρ σ (fun b _ _ H' => Q b H') (if mayR S.T e then insC S.T cf op c ds e st else .no) := o
    by_cases hm : mayR S.T e = true
    · rw [if_pos hm] at o'
      exact ins_left hnm hA F hr tk ho I m ld le hm rx ry l0 o'
    · rw [if_neg hm] at o'
      exact o'.elim
  · by_cases he : ∃ c ds, e = .ins c ds
    · obtain ⟨c, ds, rfl⟩ := he
      have o' : Out S.T nm X.K W g0 ρ σ (fun b _ _ H' => Q b H') (if mayL op d then insC S.T cf (flipC op) c ds d st else .no) := by
        cases d <;> first | exact o | exact absurd ⟨_, _, rfl⟩ hd
      by_cases hm : mayL op d = true
      · rw [if_pos hm] at o'
        exact ins_right hnm hA F hr tk ho I m ld le hm rx ry l0 o'
      · rw [if_neg hm] at o'
        exact o'.elim
    · have z : cmpI S.T cf op d e st = .no := by
        cases d <;> first | (exact absurd ⟨_, _, rfl⟩ hd) | (cases e <;> first | rfl | exact absurd ⟨_, _, rfl⟩ he)
      rw [z] at o
      exact o.elim
end
end Snd
set_option Elab.async false
set_option linter.all false
set_option maxRecDepth 100000
set_option maxHeartbeats 1000000
/-! SndQ: == of rows. -/
namespace Snd
open PySem PySem.Spec PyProof.Rows L2 Ev
section
variable {T : Tab} {nm : Nm} {K : PySem.W.Frag} {g : Gh}
def NoK (K : PySem.W.Frag) (g : Gh) : Prop := ∀ a o, K.lookup a = some o → g a = none
theorem relV_fun {v w : V} {u : Value} (h : RelV v u) (h' : RelV w u) : v = w := by
  cases v <;> cases w <;> first
    | rfl
    | (cases h; cases h'; done)
    | (cases h; cases h'; rfl)
    | (obtain ⟨t, rfl⟩ := h; obtain ⟨t', e⟩ := h'; cases e; rfl)
    | (obtain ⟨t, rfl⟩ := h; obtain ⟨t', e⟩ := h'; cases e; done)
    | (obtain ⟨t, rfl⟩ := h; cases h'; done)
    | (obtain ⟨t, rfl⟩ := h'; cases h; done)
theorem vals_fun : ∀ {us : List Value} {vs ws : List V}, Vals vs us → Vals ws us → vs = ws
  | [], _, _, h, h' => by cases h; cases h'; rfl
  | _ :: _, _, _, h, h' => by
    cases h with
    | cons a r => cases h' with
      | cons b t => rw [relV_fun a b, vals_fun r t]
theorem sqT_fun (hk : NoK K g) {p : Addr} {vs ws : List V} (h : SqT K (imH g) p vs) (h' : SqT K (imH g) p ws) : vs = ws := by
  rcases h with (h | ⟨o, h⟩) | ⟨o, its, n, l, c, d, z, r⟩
  · rcases h' with (h' | ⟨o', h'⟩) | ⟨o', its, n, l, _⟩
    · rw [h] at h'; cases h'; rfl
    · rw [h] at h'; cases h'
    · have e := of_imH h; rw [hk _ _ l] at e; cases e
  · rcases h' with (h' | ⟨o', h'⟩) | ⟨o', its, n, l, _⟩
    · rw [h] at h'; cases h'
    · rw [h] at h'; cases h'; rfl
    · have e := of_imH h; rw [hk _ _ l] at e; cases e
  · rcases h' with (h' | ⟨o', h'⟩) | ⟨o', its', n', l', c', d', z', r'⟩
    · have e := of_imH h'; rw [hk _ _ l] at e; cases e
    · have e := of_imH h'; rw [hk _ _ l] at e; cases e
    · rw [l] at l'; cases l'
      rw [d] at d'; cases d'
      exact vals_fun r r'
theorem sqT_not (hk : NoK K g) {p : Addr} {vs : List V} (h : SqT K (imH g) p vs) {t : Tag} (e : g p = some t) : t = .imm (.tup vs) ∨ ∃ o, t = .imm (.frz o (.tup vs)) := by
  rcases h with (h | ⟨o, h⟩) | ⟨o, its, n, l, _⟩
  · have e' := of_imH h; rw [e] at e'; cases e'; exact .inl rfl
  · have e' := of_imH h; rw [e] at e'; cases e'; exact .inr ⟨o, rfl⟩
  · rw [hk _ _ l] at e; cases e
theorem zip_snd : ∀ {ns : List Str} {vs ws : List V}, vs.length = ns.length → ws.length = ns.length → ns.zip vs = ns.zip ws → vs = ws
  | [], [], [], _, _, _ => rfl
  | n :: ns, v :: vs, w :: ws, h1, h2, e => by
    simp only [List.zip_cons_cons, List.cons.injEq, Prod.mk.injEq] at e
    rw [e.1.2, zip_snd (by simpa using h1) (by simpa using h2) e.2]
mutual
theorem sim_of (hk : NoK K g) : ∀ {d d' : D} {v : V}, Rep T nm K g d v → Rep T nm K g d' v → simB d d' = true
  | _, _, _, .scr _, _ => by unfold simB; rfl
  | _, _, _, .non, .non => rfl
  | _, _, _, .bl _, .bl _ => by simp [simB]
  | _, _, _, .int _, .int _ => by simp [simB]
  | .str a, d', _, .str _, h => by
    generalize e : V.str (strOf a) = w at h
    cases h with
    | str b =>
      simp only [V.str.injEq, strOf_inj] at e
      simp [simB, e]
    | _ => cases e
  | .tup ds, d', .ref p, .tup s r, h => by
    cases h with
    | tup s' r' =>
      have e := sqT_fun hk s s'
      subst e
      simp only [simB]
      exact sims_of hk r r'
    | scr _ => simp [simB]
    | lst e r' =>
      rcases sqT_not hk s e with z | ⟨o, z⟩ <;> cases z
    | ins e l r' =>
      rcases sqT_not hk s e with z | ⟨o, z⟩ <;> cases z
    | ref e =>
      rcases sqT_not hk s e with z | ⟨o, z⟩ <;> cases z
  | .lst ds, d', .ref p, .lst e r, h => by
    cases h with
    | lst e' r' =>
      rw [e] at e'
      cases e'
      simp only [simB]
      exact sims_of hk r r'
    | scr _ => simp [simB]
    | tup s' r' =>
      rcases sqT_not hk s' e with z | ⟨o, z⟩ <;> cases z
    | ins e' l r' => rw [e] at e'; cases e'
    | ref e' => rw [e] at e'; cases e'
  | .ins c ds, d', .ref p, .ins e l r, h => by
    cases h with
    | @ins _ _ c' _ _ e' l' r' =>
      rw [e] at e'
      simp only [Option.some.injEq, Tag.imm.injEq, HO.ins.injEq] at e'
      simp only [simB]
      exact sims_zip hk e'.2.2 l l' r r'
    | scr _ => simp [simB]
    | tup s' r' =>
      rcases sqT_not hk s' e with z | ⟨o, z⟩ <;> cases z
    | lst e' r' => rw [e] at e'; cases e'
    | ref e' => rw [e] at e'; cases e'
  | .ref k, d', .ref p, .ref e, h => by
    cases h with
    | ref e' => rw [e] at e'; cases e'; simp [simB]
    | scr _ => simp [simB]
    | tup s' r' =>
      rcases sqT_not hk s' e with z | ⟨o, z⟩ <;> cases z
    | lst e' r' => rw [e] at e'; cases e'
    | ins e' l r' => rw [e] at e'; cases e'
theorem sims_of (hk : NoK K g) : ∀ {ds ds' : List D} {vs : List V}, Reps T nm K g ds vs → Reps T nm K g ds' vs → simsB ds ds' = true
  | _, _, _, .nil, .nil => rfl
  | _, _, _, .cons a r, .cons b t => by simp [simsB, sim_of hk a b, sims_of hk r t]
theorem sims_zip (hk : NoK K g) {ns ns' : List Str} {ds ds' : List D} {vs vs' : List V} (e : ns.zip vs = ns'.zip vs') (l : vs.length = ns.length) (l' : vs'.length = ns'.length) (r : Reps T nm K g ds vs) (r' : Reps T nm K g ds' vs') : simsB ds ds' = true := by
  have hl : ns.length = ns'.length := by
    have z := congrArg List.length e
    simp only [List.length_zip, l, l', Nat.min_self] at z
    exact z
  have e2 : vs = vs' := by
    have z := congrArg (List.map Prod.snd) e
    rwa [List.map_snd_zip (by omega), List.map_snd_zip (by omega)] at z
  subst e2
  exact sims_of hk r r'
end
end
section
variable {S : Src} {X : Cx} {W : WX} {nm : Nm} {cf : Nat → List D → Sto → R D} {k : Nat} {T : Tab}
theorem noK_of {g : Gh} {ρ : Rho} {σ : L2.St} {H : Hp} {st : Sto} {pins : List (Addr × Obj)} {s : Shared} (I : Inv X pins σ H s) (m : Mt T nm X.K g ρ st σ H) : NoK X.K g := fun a o e => by
  cases q : g a with
  | none => rfl
  | some t =>
    obtain ⟨u, hu⟩ := m.trk a t q
    have z := (I.bs a o (I.ok.mod.kin a o e)).2
    rw [hu] at z
    cases z
/-! ### the same object -/
theorem eqAll_sim {f : D → D → Sto → R Bool} (hf : ∀ d d' st k st', simB d d' = true → f d d' st = .ok k st' → k = true ∧ st' = st) : ∀ (xs ys : List D) (st : Sto) (k : Bool) (st' : Sto), simsB xs ys = true → eqAll f xs ys st = .ok k st' → k = true ∧ st' = st
  | [], [], st, k, st', _, e => by cases e; exact ⟨rfl, rfl⟩
  | [], _ :: _, st, k, st', h, e => by simp [simsB] at h
  | _ :: _, [], st, k, st', h, e => by simp [simsB] at h
  | x :: xs, y :: ys, st, k, st', h, e => by
    simp only [simsB, Bool.and_eq_true] at h
    have e' : ((f x y st).bind fun k st => if k then eqAll f xs ys st else .ok false st) = .ok k st' := e
    cases q : f x y st with
    | ok k1 st1 =>
      rw [q] at e'
      obtain ⟨rfl, rfl⟩ := hf x y st k1 st1 h.1 q
      exact eqAll_sim hf xs ys _ k st' h.2 e'
    | er x st1 => rw [q] at e'; cases e'
    | no => rw [q] at e'; cases e'
theorem sims_len : ∀ {xs ys : List D}, simsB xs ys = true → xs.length = ys.length
  | [], [], _ => rfl
  | [], _ :: _, h => by simp [simsB] at h
  | _ :: _, [], h => by simp [simsB] at h
  | x :: xs, y :: ys, h => by
    simp only [simsB, Bool.and_eq_true] at h
    simp [sims_len h.2]
theorem eqRow_sim {f : D → D → Sto → R Bool} (hf : ∀ d d' st k st', simB d d' = true → f d d' st = .ok k st' → k = true ∧ st' = st) {kk : Bool} {xs ys : List D} {st st' : Sto} {k : Bool} (h : simsB xs ys = true) (e : eqRow f kk xs ys st = .ok k st') : k = true ∧ st' = st := by
  have hl := sims_len h
  unfold eqRow at e
  rw [if_neg (by simp [hl])] at e
  cases q : eqAll f xs ys st with
  | ok k1 st1 =>
    rw [q] at e
    obtain ⟨rfl, rfl⟩ := eqAll_sim hf xs ys st k1 st1 h q
    cases e
    simp [hl]
  | er x st1 => rw [q] at e; cases e
  | no => rw [q] at e; cases e
theorem cmpG_sim {d d' : D} {st st' : Sto} {k : Bool} (h : simB d d' = true) (e : cmpG T cf d d' st = .ok k st') : k = true ∧ st' = st := by
  unfold cmpG at e
  split at e
  · rename_i k1 st1 _
    split at e
    · rename_i z
      cases e
      simp only [Bool.and_eq_true, h, Bool.not_true, Bool.or_false] at z
      exact ⟨z.2, rfl⟩
    · cases e
  · cases e
theorem eqX_eq (n : Nat) (a b : D) (st : Sto) : eqX T cf n a b st = if isIns a || isIns b then cmpG T cf a b st else match rowOf a, rowOf b with
    | some (k, xs), some (l, ys) => if k = l then (match n with
      | 0 => .no
      | n + 1 => eqRow (eqX T cf n) k xs ys st) else .ok false st
    | some _, none => if flat b then .ok false st else .no
    | none, some _ => if flat a then .ok false st else .no
    | none, none => R.of (eqB a b) st := by
  cases n <;> (unfold eqX; rfl)
theorem eqB_sim {a b : D} {k : Bool} (h : simB a b = true) (e : eqB a b = some k) : k = true := by
  cases a <;> cases b <;> simp only [eqB, eqF] at e <;> first | (cases e; done) | skip
  all_goals (cases e; simp_all [simB])
theorem row_sim {a b : D} {k l : Bool} {xs ys : List D} (ha : rowOf a = some (k, xs)) (hb : rowOf b = some (l, ys)) (h : simB a b = true) : k = l ∧ simsB xs ys = true := by
  cases a <;> cases b <;> simp only [rowOf] at ha hb <;> first | (cases ha; done) | (cases hb; done) | skip
  all_goals (cases ha; cases hb; first | (simp [simB] at h; done) | (simp only [simB] at h; exact ⟨rfl, h⟩))
theorem eqX_sim : ∀ (n : Nat) (d d' : D) (st : Sto) (k : Bool) (st' : Sto), simB d d' = true → eqX T cf n d d' st = .ok k st' → k = true ∧ st' = st := by
  intro n
  induction n with
  | zero =>
    intro d d' st k st' h e
    rw [eqX_eq] at e
    split at e
    · exact cmpG_sim h e
    · split at e
      · rename_i kk xs l ys ha hb
        split at e
        · cases e
        · rename_i hn
          exact absurd (row_sim ha hb h).1 hn
      · rename_i ha hb
        split at e
        · rename_i hf
          exfalso
          cases d <;> simp only [rowOf] at ha <;> first | (cases ha; done) | skip
          all_goals (cases d' <;> first | (cases hf; done) | (simp [simB] at h; done))
        · cases e
      · rename_i ha hb
        split at e
        · rename_i hf
          exfalso
          cases d' <;> simp only [rowOf] at hb <;> first | (cases hb; done) | skip
          all_goals (cases d <;> first | (cases hf; done) | (simp [simB] at h; done))
        · cases e
      · cases q : eqB d d' with
        | none => rw [q] at e; cases e
        | some b => rw [q] at e; cases e; exact ⟨eqB_sim h q, rfl⟩
  | succ n ih =>
    intro d d' st k st' h e
    rw [eqX_eq] at e
    split at e
    · exact cmpG_sim h e
    · split at e
      · rename_i kk xs l ys ha hb
        split at e
        · exact eqRow_sim ih (row_sim ha hb h).2 e
        · rename_i hn
          exact absurd (row_sim ha hb h).1 hn
      · rename_i ha hb
        split at e
        · rename_i hf
          exfalso
          cases d <;> simp only [rowOf] at ha <;> first | (cases ha; done) | skip
          all_goals (cases d' <;> first | (cases hf; done) | (simp [simB] at h; done))
        · cases e
      · rename_i ha hb
        split at e
        · rename_i hf
          exfalso
          cases d' <;> simp only [rowOf] at hb <;> first | (cases hb; done) | skip
          all_goals (cases d <;> first | (cases hf; done) | (simp [simB] at h; done))
        · cases e
      · cases q : eqB d d' with
        | none => rw [q] at e; cases e
        | some b => rw [q] at e; cases e; exact ⟨eqB_sim h q, rfl⟩
/-! ### flat data -/
theorem eqB_V {A : Around} {s : Shared} {g : Gh} {x y : D} {v w : V} {u u' : Value} {b : Bool} (h : eqB x y = some b) (rx : Rep T nm X.K g x v) (ry : Rep T nm X.K g y w) (ru : RelV v u) (rw_ : RelV w u') : SeqAt.EqAt A s u u' b := by
  have sb : ∀ a c : Str, (a == c) = decide (a = c) := fun a c => by
    by_cases e : a = c
    · subst e
      simp
    · simp [e]
  cases rx with
  | non =>
    obtain rfl : u = .none := ru
    cases ry with
    | non => cases h; obtain rfl : u' = .none := rw_; exact SeqAt.EqAt.same _
    | bl c => cases h; obtain rfl : u' = .bool c := rw_; exact SeqAt.EqAt.none_bool _
    | int c => cases h; obtain ⟨t, rfl⟩ := (show ∃ t, u' = .int c t from rw_); exact SeqAt.EqAt.none_int _ _
    | str c => cases h; obtain ⟨t, rfl⟩ := (show ∃ t, u' = .str (strOf c) t from rw_); exact SeqAt.EqAt.none_str _ _
    | _ => cases h
  | bl a =>
    obtain rfl : u = .bool a := ru
    cases ry with
    | non => cases h; obtain rfl : u' = .none := rw_; exact SeqAt.EqAt.bool_none _
    | bl c =>
      cases h; obtain rfl : u' = .bool c := rw_
      have z := SeqAt.EqAt.bool_bool (A := A) (s := s) a c
      rw [show (a == c) = decide (a = c) by cases a <;> cases c <;> rfl] at z
      exact z
    | int c =>
      cases h; obtain ⟨t, rfl⟩ := (show ∃ t, u' = .int c t from rw_)
      have z := SeqAt.EqAt.bool_int (A := A) (s := s) a c t
      rw [show ∀ i j : Int, (i == j) = decide (i = j) from fun i j => rfl] at z
      exact z
    | str c => cases h; obtain ⟨t, rfl⟩ := (show ∃ t, u' = .str (strOf c) t from rw_); exact SeqAt.EqAt.bool_str _ _ _
    | _ => cases h
  | int a =>
    obtain ⟨t0, rfl⟩ := (show ∃ t, u = .int a t from ru)
    cases ry with
    | non => cases h; obtain rfl : u' = .none := rw_; exact SeqAt.EqAt.int_none _ _
    | bl c =>
      cases h; obtain rfl : u' = .bool c := rw_
      have z := SeqAt.EqAt.int_bool (A := A) (s := s) a t0 c
      rw [show ∀ i j : Int, (i == j) = decide (i = j) from fun i j => rfl] at z
      exact z
    | int c =>
      cases h; obtain ⟨t, rfl⟩ := (show ∃ t, u' = .int c t from rw_)
      have z := SeqAt.EqAt.int_int (A := A) (s := s) a t0 c t
      rw [show ∀ i j : Int, (i == j) = decide (i = j) from fun i j => rfl] at z
      exact z
    | str c => cases h; obtain ⟨t, rfl⟩ := (show ∃ t, u' = .str (strOf c) t from rw_); exact SeqAt.EqAt.int_str _ _ _ _
    | _ => cases h
  | str a =>
    obtain ⟨t0, rfl⟩ := (show ∃ t, u = .str (strOf a) t from ru)
    cases ry with
    | non => cases h; obtain rfl : u' = .none := rw_; exact SeqAt.EqAt.str_none _ _
    | bl c => cases h; obtain rfl : u' = .bool c := rw_; exact SeqAt.EqAt.str_bool _ _ _
    | int c => cases h; obtain ⟨t, rfl⟩ := (show ∃ t, u' = .int c t from rw_); exact SeqAt.EqAt.str_int _ _ _ _
    | str c =>
      cases h; obtain ⟨t, rfl⟩ := (show ∃ t, u' = .str (strOf c) t from rw_)
      have z := SeqAt.EqAt.str_str (A := A) (s := s) (strOf a) t0 (strOf c) t
      rw [sb] at z
      simp only [strOf_inj] at z
      exact z
    | _ => cases h
  | _ => cases ry <;> cases h
/-- a row as it stands -/
def RowH (K : PySem.W.Frag) (H : Hp) (k : Bool) (p : Addr) (vs : List V) : Prop := if k then H p = some (.lst vs) else SqT K H p vs
theorem row_at {d : D} {k : Bool} {xs : List D} {v : V} {g : Gh} {ρ : Rho} {σ : L2.St} {H : Hp} {st : Sto} (h : rowOf d = some (k, xs)) (l : LkR T nm X.K g ρ σ d v) (m : Mt T nm X.K g ρ st σ H) : ∃ p vs, v = .ref p ∧ RowH X.K H k p vs ∧ Reps T nm X.K g xs vs := by
  cases d <;> simp only [rowOf] at h <;> first | (cases h; done) | skip
  · cases h
    cases l.rep m rfl with
    | tup s r => exact ⟨_, _, rfl, same_seqT (fun a o e => m.imm a o (of_imH e)) s, r⟩
  · cases h
    obtain ⟨p, vs, a, b, c⟩ := lstS_ok (st := st) l m (show lstS st (.lst _) = some _ from rfl)
    exact ⟨p, vs, a, b, c⟩
  · cases h
    obtain ⟨p, vs, a, b, c⟩ := lstS_ok (st := st) l m (show lstS st (.own _) = some _ from rfl)
    exact ⟨p, vs, a, b, c⟩
/-- the row as an object -/
theorem row_obj {k : Bool} {p : Addr} {vs : List V} {σ : L2.St} {H : Hp} {pins : List (Addr × Obj)} {s : Shared} (I : Inv X pins σ H s) (h : RowH X.K H k p vs) : ∃ its : List Value, Vals vs its ∧ (if k then ∃ n, s.heap.get? p = some { cls := .type "list", data := .seq its.toArray n } else s.heap.IsTuple p its.toArray) := by
  cases k with
  | true =>
    obtain ⟨its, n, r, e, z⟩ := I.lst (show H p = some (.lst vs) from h)
    exact ⟨its, r, n, e⟩
  | false =>
    obtain ⟨its, r, e, z⟩ := I.tuple (show SqT X.K H p vs from h)
    exact ⟨its, r, e⟩
/-- == within a row, at A -/
def EqGo (S : Src) (X : Cx) (W : WX) (nm : Nm) (A : Around) (f : D → D → Sto → R Bool) : Prop :=
  ∀ (pins : List (Addr × Obj)) (s : Shared) (σ : L2.St) (H : Hp) (g0 g : Gh) (ρ : Rho) (st : Sto) (d e : D) (x y : V) (u w : Value) (Q : Bool → Sto → Gh → Hp → Prop),
    Inv X pins σ H s → Mt S.T nm X.K g ρ st σ H → Rep S.T nm X.K g d x → Rep S.T nm X.K g e y → RelV x u → RelV y w → Le g0 g → Out S.T nm X.K W g0 ρ σ Q (f d e st) →
      wpAny (model X.prog X.w) A (eqBool u w) (fun b s' => ∃ H' g' st', Inv X pins σ H' s' ∧ Le g g' ∧ Mt S.T nm X.K g' ρ st' σ H' ∧ Q b st' g' H') X.xe s
theorem drop_two {α : Type} {xs : List α} {i : Nat} (h : i < xs.length) : xs.drop i = xs[i] :: xs.drop (i + 1) := List.drop_eq_getElem_cons h
theorem eqAll_end {f : D → D → Sto → R Bool} {xs ys : List D} {i : Nat} (h : min xs.length ys.length ≤ i) (st : Sto) : eqAll f (xs.drop i) (ys.drop i) st = .ok true st := by
  rcases Nat.le_total xs.length ys.length with z | z
  · rw [List.drop_eq_nil_of_le (as := xs) (by omega)]; rfl
  · rw [List.drop_eq_nil_of_le (as := ys) (by omega)]
    cases xs.drop i <;> rfl
/-- the loop over two rows -/
theorem rows_go {A : Around} (hu : A.units < cLine) {f : D → D → Sto → R Bool} (hf : EqGo S X W nm A.in1 f) (ne : Bool) {kk : Bool} {xs ys : List D} {pins : List (Addr × Obj)} {s : Shared} {σ : L2.St} {H : Hp} {g0 g : Gh} {ρ : Rho} {st : Sto} {d e : D} {p q : Addr} {Q : Bool → Sto → Gh → Hp → Prop}
    (hd : rowOf d = some (kk, xs)) (he : rowOf e = some (kk, ys)) (hl : kk = true → xs.length = ys.length) (I : Inv X pins σ H s) (m : Mt S.T nm X.K g ρ st σ H) (ld : LkR S.T nm X.K g ρ σ d (.ref p)) (le : LkR S.T nm X.K g ρ σ e (.ref q)) (l0 : Le g0 g)
    (o : Out S.T nm X.K W g0 ρ σ (fun b st g' H' => Q (b && xs.length == ys.length) st g' H') (eqAll f xs ys st)) :
    wpAny (model X.prog X.w) A (richCompare (if ne then .NotEq else .Eq) (.ref p) (.ref q)) (fun v s' => ∃ b, v = .bool (b != ne) ∧ ∃ H' g' st', Inv X pins σ H' s' ∧ Le g g' ∧ Mt S.T nm X.K g' ρ st' σ H' ∧ Q b st' g' H') X.xe s := by
  have fix : ∀ {g' H' st'}, Le g g' → Mt S.T nm X.K g' ρ st' σ H' → ∃ vs ws, RowH X.K H' kk p vs ∧ RowH X.K H' kk q ws ∧ Reps S.T nm X.K g' xs vs ∧ Reps S.T nm X.K g' ys ws := fun {g' H' st'} l m => by
    obtain ⟨p1, vs, e1, h1, r1⟩ := row_at hd (ld.le l) m
    obtain ⟨p2, ws, e2, h2, r2⟩ := row_at he (le.le l) m
    cases e1; cases e2
    exact ⟨vs, ws, h1, h2, r1, r2⟩
  let II : Nat → Shared → Prop := fun i s' => ∃ H' g' st', Inv X pins σ H' s' ∧ Le g g' ∧ Mt S.T nm X.K g' ρ st' σ H' ∧ Out S.T nm X.K W g0 ρ σ (fun b st g' H' => Q (b && xs.length == ys.length) st g' H') (eqAll f (xs.drop i) (ys.drop i) st')
  let JJ : Shared → Prop := fun s' => ∃ H' g' st', Inv X pins σ H' s' ∧ Le g g' ∧ Mt S.T nm X.K g' ρ st' σ H' ∧ Q false st' g' H'
  have i0 : II 0 s := ⟨H, g, st, I, Le.refl g, m, o⟩
  have turn : ∀ i s', II i s' → ∀ (its its2 : List Value) (H' : Hp) (g' : Gh) (st' : Sto) (vs ws : List V), Inv X pins σ H' s' → Le g g' → Mt S.T nm X.K g' ρ st' σ H' → Out S.T nm X.K W g0 ρ σ (fun b st g' H' => Q (b && xs.length == ys.length) st g' H') (eqAll f (xs.drop i) (ys.drop i) st') →
      Reps S.T nm X.K g' xs vs → Reps S.T nm X.K g' ys ws → Vals vs its → Vals ws its2 → ∀ (h1 : i < its.toArray.size) (h2 : i < its2.toArray.size), wpAny (model X.prog X.w) A.in1 (eqBool its.toArray[i] its2.toArray[i]) (fun r s2 => if r then II (i + 1) s2 else JJ s2) X.xe s' := fun i s' _ its its2 H' g' st' vs ws I' l' m' o' rx ry rv rw h1 h2 => by
    have g1 : its[i]? = some its.toArray[i] := by
      have h1' : i < its.length := by simpa using h1
      rw [List.getElem?_eq_getElem h1'] <;> simp
    have g2 : its2[i]? = some its2.toArray[i] := by
      have h2' : i < its2.length := by simpa using h2
      rw [List.getElem?_eq_getElem h2'] <;> simp
    have k1 : i < vs.length := by rw [rv.length]; simpa using h1
    have k2 : i < ws.length := by rw [rw.length]; simpa using h2
    have j1 : i < xs.length := by rw [rx.len]; exact k1
    have j2 : i < ys.length := by rw [ry.len]; exact k2
    obtain ⟨v, hv, rd⟩ := rx.at (List.getElem?_eq_getElem j1)
    obtain ⟨w, hw, re⟩ := ry.at (List.getElem?_eq_getElem j2)
    obtain ⟨u, hu', ru⟩ := rv.get hv
    obtain ⟨u2, hu2, ru2⟩ := rw.get hw
    rw [g1] at hu'
    rw [g2] at hu2
    rw [Option.some.inj hu', Option.some.inj hu2]
    have o2 : Out S.T nm X.K W g0 ρ σ (fun b st g' H' => Q (b && xs.length == ys.length) st g' H') ((f xs[i] ys[i] st').bind fun k st => if k then eqAll f (xs.drop (i + 1)) (ys.drop (i + 1)) st else .ok false st) := by
      have z := o'
      rw [drop_two j1, drop_two j2] at z
      exact z
    refine wpAny_mono (hf pins s' σ H' g0 g' ρ st' _ _ _ _ _ _ (fun b st1 g1 H1 => Out S.T nm X.K W g0 ρ σ (fun b st g' H' => Q (b && xs.length == ys.length) st g' H') (if b then eqAll f (xs.drop (i + 1)) (ys.drop (i + 1)) st1 else .ok false st1)) I' m' rd re ru ru2 (l0.trans l') (Out.bind0 o2)) (fun b s2 z => ?_) fun _ _ z => z
    obtain ⟨H2, gg2, st2, I2, l2, m2, q2⟩ := z
    cases b with
    | true => exact ⟨H2, gg2, st2, I2, l'.trans l2, m2, q2⟩
    | false => exact ⟨H2, gg2, st2, I2, l'.trans l2, m2, (q2.le (l0.trans (l'.trans l2))).ok m2⟩
  have fin : ∀ i s', min xs.length ys.length ≤ i → II i s' → ∃ H' g' st', Inv X pins σ H' s' ∧ Le g g' ∧ Mt S.T nm X.K g' ρ st' σ H' ∧ Q (xs.length == ys.length) st' g' H' := fun i s' hi ⟨H', g', st', I', l', m', o'⟩ => by
    rw [eqAll_end hi] at o'
    have z := (o'.le (l0.trans l')).ok m'
    rw [Bool.true_and] at z
    exact ⟨H', g', st', I', l', m', z⟩
  cases kk with
  | true =>
    have hl' := hl rfl
    have LJ : GQ2.ListJ X.prog X.w A X.xe p q xs.length II JJ := by
      refine ⟨fun i s' h => ?_, fun s' ⟨H', g', st', I', l', m', _⟩ => ?_⟩
      · obtain ⟨H', g', st', I', l', m', o'⟩ := id h
        obtain ⟨vs, ws, h1, h2, r1, r2⟩ := fix l' m'
        obtain ⟨its, rv, n, e1⟩ := row_obj I' h1
        obtain ⟨its2, rw, n2, e2⟩ := row_obj I' h2
        exact ⟨its.toArray, its2.toArray, n, n2, e1, e2, by rw [List.size_toArray, ← rv.length, r1.len], by rw [List.size_toArray, ← rw.length, hl', r2.len], fun z1 z2 => turn i s' h its its2 H' g' st' vs ws I' l' m' o' r1 r2 rv rw z1 z2⟩
      · obtain ⟨vs, ws, h1, h2, r1, r2⟩ := fix l' m'
        obtain ⟨its, rv, n, e1⟩ := row_obj I' h1
        obtain ⟨its2, rw, n2, e2⟩ := row_obj I' h2
        exact ⟨its.toArray, its2.toArray, n, n2, e1, e2, by rw [List.size_toArray, ← rv.length, r1.len], by rw [List.size_toArray, ← rw.length, hl', r2.len]⟩
    have f1 : ∀ s', II xs.length s' → ∃ H' g' st', Inv X pins σ H' s' ∧ Le g g' ∧ Mt S.T nm X.K g' ρ st' σ H' ∧ Q true st' g' H' := fun s' h => by
      have z := fin xs.length s' (Nat.min_le_left _ _) h
      rw [show (xs.length == ys.length) = true by simp [hl']] at z
      exact z
    cases ne with
    | false => exact GQ2.rc_listJ hu II JJ LJ (fun s' h => ⟨true, rfl, f1 s' h⟩) (fun s' h => ⟨false, rfl, h⟩) i0
    | true => exact GQ2.rcn_listJ hu II JJ LJ (fun s' h => ⟨true, rfl, f1 s' h⟩) (fun s' h => ⟨false, rfl, h⟩) i0
  | false =>
    obtain ⟨vs, ws, h1, h2, r1, r2⟩ := fix (Le.refl g) m
    obtain ⟨its, rv, e1⟩ := row_obj I h1
    obtain ⟨its2, rw, e2⟩ := row_obj I h2
    have tr : ∀ i (z1 : i < its.toArray.size) (z2 : i < its2.toArray.size) s', II i s' → wpAny (model X.prog X.w) A.in1 (eqBool its.toArray[i] its2.toArray[i]) (fun r s2 => if r then II (i + 1) s2 else JJ s2) X.xe s' := fun i z1 z2 s' h => by
      obtain ⟨H', g', st', I', l', m', o'⟩ := id h
      exact turn i s' h its its2 H' g' st' vs ws I' l' m' o' (r1.mono l'.lim) (r2.mono l'.lim) rv rw z1 z2
    have sz1 : its.toArray.size = xs.length := by rw [List.size_toArray, ← rv.length, r1.len]
    have sz2 : its2.toArray.size = ys.length := by rw [List.size_toArray, ← rw.length, r2.len]
    cases ne with
    | false => exact GQ2.rc_tupJ hu II JJ e1 e2 tr (fun s' h => ⟨_, by rw [sz1, sz2, Bool.bne_false], fin _ s' (by rw [sz1, sz2]; exact Nat.le_refl _) h⟩) (fun s' h => ⟨false, rfl, h⟩) i0
    | true => exact GQ2.rcn_tupJ hu II JJ e1 e2 tr (fun s' h => ⟨xs.length == ys.length, by rw [sz1, sz2, Bool.bne_true]; rfl, fin _ s' (by rw [sz1, sz2]; exact Nat.le_refl _) h⟩) (fun s' h => ⟨false, rfl, h⟩) i0
theorem isList_of {h : Heap} {p : Addr} {its : List Value} {n : Nat} (e : h.get? p = some { cls := .type "list", data := .seq its.toArray n }) : h.IsList p its.toArray := ⟨_, e, rfl, n, rfl⟩
/-- a row and what is none -/
theorem row_flat {A : Around} {kk : Bool} {p : Addr} {vs : List V} {g : Gh} {σ : L2.St} {H : Hp} {pins : List (Addr × Obj)} {s : Shared} {e : D} {y : V} {w : Value} (hu : A.units < cLine) (I : Inv X pins σ H s) (h : RowH X.K H kk p vs) (hf : flat e = true) (re : Rep T nm X.K g e y) (rw_ : RelV y w) :
    (SeqAt.RcAt A s (.ref p) w false ∧ SeqAt.RcNeAt A s (.ref p) w true) ∧ SeqAt.RcAt A s w (.ref p) false ∧ SeqAt.RcNeAt A s w (.ref p) true := by
  obtain ⟨its, rv, ob⟩ := row_obj I h
  cases kk with
  | true =>
    obtain ⟨n, e1⟩ := ob
    have L := isList_of e1
    cases re with
    | non => obtain rfl : w = .none := rw_; exact ⟨⟨.list_none L hu, .list_none L hu⟩, .none_list L hu, .none_list L hu⟩
    | bl b => obtain rfl : w = .bool b := rw_; exact ⟨⟨.list_bool b L hu, .list_bool b L hu⟩, .bool_list b L hu, .bool_list b L hu⟩
    | int i => obtain ⟨t, rfl⟩ := (show ∃ t, w = .int i t from rw_); exact ⟨⟨.list_int i t L hu, .list_int i t L hu⟩, .int_list i t L hu, .int_list i t L hu⟩
    | str z => obtain ⟨t, rfl⟩ := (show ∃ t, w = .str (strOf z) t from rw_); exact ⟨⟨.list_str _ t L hu, .list_str _ t L hu⟩, .str_list _ t L hu, .str_list _ t L hu⟩
    | _ => cases hf
  | false =>
    have L : s.heap.IsTuple p its.toArray := ob
    cases re with
    | non => obtain rfl : w = .none := rw_; exact ⟨⟨.tuple_none L hu, .tuple_none L hu⟩, .none_tuple L hu, .none_tuple L hu⟩
    | bl b => obtain rfl : w = .bool b := rw_; exact ⟨⟨.tuple_bool b L hu, .tuple_bool b L hu⟩, .bool_tuple b L hu, .bool_tuple b L hu⟩
    | int i => obtain ⟨t, rfl⟩ := (show ∃ t, w = .int i t from rw_); exact ⟨⟨.tuple_int i t L hu, .tuple_int i t L hu⟩, .int_tuple i t L hu, .int_tuple i t L hu⟩
    | str z => obtain ⟨t, rfl⟩ := (show ∃ t, w = .str (strOf z) t from rw_); exact ⟨⟨.tuple_str _ t L hu, .tuple_str _ t L hu⟩, .str_tuple _ t L hu, .str_tuple _ t L hu⟩
    | _ => cases hf
/-- a list and a tuple -/
theorem row_kinds {A : Around} {k1 k2 : Bool} {p q : Addr} {vs ws : List V} {σ : L2.St} {H : Hp} {pins : List (Addr × Obj)} {s : Shared} (hu : A.units < cLine) (hn : k1 ≠ k2) (I : Inv X pins σ H s) (h : RowH X.K H k1 p vs) (h' : RowH X.K H k2 q ws) :
    SeqAt.RcAt A s (.ref p) (.ref q) false ∧ SeqAt.RcNeAt A s (.ref p) (.ref q) true := by
  obtain ⟨its, rv, ob⟩ := row_obj I h
  obtain ⟨its', rv', ob'⟩ := row_obj I h'
  cases k1 <;> cases k2 <;> first | exact absurd rfl hn | skip
  · obtain ⟨n, e1⟩ := ob'
    exact ⟨.tuple_list ob (isList_of e1) hu, .tuple_list ob (isList_of e1) hu⟩
  · obtain ⟨n, e1⟩ := ob
    exact ⟨.list_tuple (isList_of e1) ob' hu, .list_tuple (isList_of e1) ob' hu⟩
/-- lists of unlike lengths -/
theorem row_lens {A : Around} {p q : Addr} {vs ws : List V} {σ : L2.St} {H : Hp} {pins : List (Addr × Obj)} {s : Shared} (hu : A.units < cLine) (hn : vs.length ≠ ws.length) (I : Inv X pins σ H s) (h : RowH X.K H true p vs) (h' : RowH X.K H true q ws) :
    SeqAt.RcAt A s (.ref p) (.ref q) false ∧ SeqAt.RcNeAt A s (.ref p) (.ref q) true := by
  obtain ⟨its, rv, n, e1⟩ := row_obj I h
  obtain ⟨its', rv', n', e1'⟩ := row_obj I h'
  have hz : (its.toArray.size != its'.toArray.size) = true := by
    rw [List.size_toArray, List.size_toArray, ← rv.length, ← rv'.length]
    simpa using hn
  exact ⟨.lists_lengths (isList_of e1) (isList_of e1') hz hu, .lists_lengths (isList_of e1) (isList_of e1') hz hu⟩
/-- no floats here -/
theorem no_flt {g : Gh} {d : D} {x : V} {u : Value} (r : Rep T nm X.K g d x) (ru : RelV x u) : ∀ a t, u ≠ .float a t := fun a t z => by
  subst z
  cases r <;> first | (cases ru; done) | (obtain ⟨_, z⟩ := ru; cases z)
theorem same_val {g : Gh} {d e : D} {x y : V} {u w : Value} (rd : Rep T nm X.K g d x) (re : Rep T nm X.K g e y) (ru : RelV x u) (rw_ : RelV y w) (hk : NoK X.K g) (h : (u == w) = true) : simB d e = true := by
  have e1 := beq_iff_eq.mp h
  subst e1
  have e2 := relV_fun ru rw_
  subst e2
  exact sim_of hk rd re
theorem cmpG_form (d e : D) (st : Sto) : cmpG T cf d e st = .no ∨ ∃ k, cmpG T cf d e st = .ok k st ∧ cmpI T cf .eq d e st = .ok k st := by
  unfold cmpG
  cases q : cmpI T cf .eq d e st with
  | ok k st1 =>
    by_cases z : (stEq st st1 && (k || !simB d e)) = true
    · right
      refine ⟨k, if_pos z, ?_⟩
      rw [stEq_eq (Bool.and_eq_true_iff.mp z).1]
    · left
      exact if_neg z
  | er x st1 => exact .inl rfl
  | no => exact .inl rfl
theorem Out.ok' {α : Type} {P : α → Sto → Gh → Hp → Prop} {a : α} {g0 g : Gh} {ρ : Rho} {σ : L2.St} {H : Hp} {st : Sto} (h : Out T nm X.K W g0 ρ σ P (.ok a st)) (l : Le g0 g) (m : Mt T nm X.K g ρ st σ H) : P a st g H := h g H l m
theorem cmpG_noer {d e : D} {st st' : Sto} {x : Xn} : cmpG T cf d e st ≠ .er x st' := fun h => by
  rcases cmpG_form (T := T) (cf := cf) d e st with z | ⟨k, z, _⟩
  · rw [z] at h; cases h
  · rw [z] at h; cases h
theorem eqAll_noer {f : D → D → Sto → R Bool} (hf : ∀ d e st x st', f d e st ≠ .er x st') : ∀ (xs ys : List D) (st : Sto) (x : Xn) (st' : Sto), eqAll f xs ys st ≠ .er x st'
  | [], _, st, x, st', h => by cases h
  | _ :: _, [], st, x, st', h => by cases h
  | a :: xs, b :: ys, st, x, st', h => by
    have h' : ((f a b st).bind fun k st => if k then eqAll f xs ys st else .ok false st) = .er x st' := h
    cases q : f a b st with
    | ok k st1 =>
      rw [q] at h'
      cases k with
      | true => exact eqAll_noer hf xs ys _ _ _ h'
      | false => cases h'
    | er y st1 => exact hf _ _ _ _ _ q
    | no => rw [q] at h'; cases h'
theorem eqRow_noer {f : D → D → Sto → R Bool} (hf : ∀ d e st x st', f d e st ≠ .er x st') {k : Bool} {xs ys : List D} {st st' : Sto} {x : Xn} : eqRow f k xs ys st ≠ .er x st' := fun h => by
  unfold eqRow at h
  split at h
  · cases h
  · cases q : eqAll f xs ys st with
    | ok k st1 => rw [q] at h; cases h
    | er y st1 => exact eqAll_noer hf _ _ _ _ _ q
    | no => rw [q] at h; cases h
theorem eqX_noer : ∀ (n : Nat) (d e : D) (st : Sto) (x : Xn) (st' : Sto), eqX T cf n d e st ≠ .er x st' := by
  intro n
  induction n with
  | zero =>
    intro d e st x st' h
    rw [eqX_eq] at h
    split at h
    · exact cmpG_noer h
    · split at h
      · split at h <;> cases h
      · split at h <;> cases h
      · split at h <;> cases h
      · cases q : eqB d e with
        | none => rw [q] at h; cases h
        | some b => rw [q] at h; cases h
  | succ n ih =>
    intro d e st x st' h
    rw [eqX_eq] at h
    split at h
    · exact cmpG_noer h
    · split at h
      · split at h
        · exact eqRow_noer ih h
        · cases h
      · split at h <;> cases h
      · split at h <;> cases h
      · cases q : eqB d e with
        | none => rw [q] at h; cases h
        | some b => rw [q] at h; cases h
/-- one level -/
theorem eqx_step {me : Option (Addr × Addr)} (hnm : nm = nmE S me) (F : Facts S (co X) nm cf k) (tk : Takes X W) (n : Nat) {A : Around} (ih : ∀ n', n = n' + 1 → EqGo S X W nm A.in1 (eqX S.T cf n')) (hA : A.frames = X.A.frames) (hr : Room (k + 1 + n) A) : EqGo S X W nm A (eqX S.T cf n) := by
  intro pins s σ H g0 g ρ st d e x y u w Q I m rd re ru rw_ l0 o
  have hu : A.units < cLine := by have := hr.un; omega
  have hk := noK_of I m
  rw [eqX_eq] at o
  have simple : ∀ b : Bool, SeqAt.EqAt A s u w b → Q b st g H → wpAny (model X.prog X.w) A (eqBool u w) (fun b s' => ∃ H' g' st', Inv X pins σ H' s' ∧ Le g g' ∧ Mt S.T nm X.K g' ρ st' σ H' ∧ Q b st' g' H') X.xe s := fun b h q => h _ _ _ _ ⟨H, g, st, I, Le.refl g, m, q⟩
  have simpleR : ∀ b : Bool, (u == w) = false → SeqAt.RcAt A s u w b → Q b st g H → wpAny (model X.prog X.w) A (eqBool u w) (fun b s' => ∃ H' g' st', Inv X pins σ H' s' ∧ Le g g' ∧ Mt S.T nm X.K g' ρ st' σ H' ∧ Q b st' g' H') X.xe s := fun b hne h q =>
    GQ2.eqBool_J hne (fun a t b t' z _ => no_flt rd ru a t z) (h _ _ _ _ ⟨b, rfl, H, g, st, I, Le.refl g, m, q⟩)
  by_cases hs : (u == w) = true
  · have sim := same_val rd re ru rw_ hk hs
    have e1 := beq_iff_eq.mp hs
    subst e1
    have z : ∀ r : R Bool, (∀ k st', r = .ok k st' → k = true ∧ st' = st) → (∀ x st', r ≠ .er x st') → Out S.T nm X.K W g0 ρ σ Q r → Q true st g H := fun r h1 h2 oo => by
      cases r with
      | ok k st' =>
        obtain ⟨rfl, rfl⟩ := h1 _ _ rfl
        exact (oo.le l0).ok m
      | er x st' => exact absurd rfl (h2 _ _)
      | no => exact oo.elim
    have o' : Out S.T nm X.K W g0 ρ σ Q (eqX S.T cf n d e st) := by rw [eqX_eq]; exact o
    exact simple true (SeqAt.EqAt.same _) (z _ (fun k st' h => eqX_sim n d e st k st' sim h) (fun x st' h => eqX_noer n d e st x st' h) o')
  · have hs' : (u == w) = false := by simpa using hs
    by_cases hi : (isIns d || isIns e) = true
    · rw [if_pos hi] at o
      rcases cmpG_form (T := S.T) (cf := cf) d e st with z | ⟨kk, z1, z2⟩
      · rw [z] at o
        exact o.elim
      · rw [z1] at o
        refine GQ2.eqBool_J hs' (fun a t b t' z _ => no_flt rd ru a t z) ?_
        have oc : Out S.T nm X.K W g ρ σ (fun b _ _ H' => ∃ g' st', Le g g' ∧ Mt S.T nm X.K g' ρ st' σ H' ∧ Q b st' g' H') (cmpI S.T cf .eq d e st) := by
          rw [z2]
          exact fun g' H' l' m' => ⟨g', st, l', m', o g' H' (l0.trans l') m'⟩
        refine wpAny_mono (ins_cmp hnm hA F (hr.mono (by omega)) tk (op := .eq) rfl I m (LkR.of_rep (RepR.plain (g0 := g) rd rd.plain)) (LkR.of_rep (RepR.plain (g0 := g) re re.plain)) ru rw_ (Le.refl g) oc) (fun v s' z => ?_) fun _ _ z => z
        obtain ⟨b, rfl, H', I', g', st', l', m', q⟩ := z
        exact ⟨b, rfl, H', g', st', I', l', m', q⟩
    · rw [if_neg hi] at o
      have lkd : LkR S.T nm X.K g ρ σ d x := LkR.of_rep (RepR.plain (g0 := g) rd rd.plain)
      have lke : LkR S.T nm X.K g ρ σ e y := LkR.of_rep (RepR.plain (g0 := g) re re.plain)
      cases h1 : rowOf d with
      | none =>
        cases h2 : rowOf e with
        | none =>
          simp only [h1, h2] at o
          obtain ⟨b, e1, q⟩ := Out.of (o.le l0) m
          exact simple b (eqB_V e1 rd re ru rw_) q
        | some r2 =>
          obtain ⟨l, ys⟩ := r2
          simp only [h1, h2] at o
          by_cases hf : flat d = true
          · rw [if_pos hf] at o
            obtain ⟨q, ws, e2, hw, rws⟩ := row_at h2 lke m
            subst e2
            cases rw_
            exact simpleR false hs' (row_flat hu I hw hf rd ru).2.1 ((o.le l0).ok m)
          · rw [if_neg hf] at o
            exact o.elim
      | some r1 =>
        obtain ⟨kk, xs⟩ := r1
        obtain ⟨p, vs, e1, hv, rvs⟩ := row_at h1 lkd m
        subst e1
        cases ru
        cases h2 : rowOf e with
        | none =>
          simp only [h1, h2] at o
          by_cases hf : flat e = true
          · rw [if_pos hf] at o
            exact simpleR false hs' (row_flat hu I hv hf re rw_).1.1 ((o.le l0).ok m)
          · rw [if_neg hf] at o
            exact o.elim
        | some r2 =>
          obtain ⟨l, ys⟩ := r2
          obtain ⟨q, ws, e2, hw, rws⟩ := row_at h2 lke m
          subst e2
          cases rw_
          simp only [h1, h2] at o
          by_cases hkl : kk = l
          · subst hkl
            rw [if_pos rfl] at o
            cases n with
            | zero => exact o.elim
            | succ n =>
              have o1 : Out S.T nm X.K W g0 ρ σ Q (eqRow (eqX S.T cf n) kk xs ys st) := o
              unfold eqRow at o1
              by_cases hl : (kk && xs.length != ys.length) = true
              · rw [if_pos hl] at o1
                obtain ⟨l1, l2⟩ := He.ba hl
                subst l1
                have hn : vs.length ≠ ws.length := by rw [← rvs.len, ← rws.len]; simpa using l2
                exact simpleR false hs' (row_lens hu hn I hv hw).1 ((o1.le l0).ok m)
              · rw [if_neg hl] at o1
                have hl2 : kk = true → xs.length = ys.length := fun z => by
                  rw [z] at hl
                  simpa using hl
                refine GQ2.eqBool_J hs' (fun a t b t' z _ => nomatch z) ?_
                refine wpAny_mono (rows_go (Q := Q) hu (ih n rfl) false h1 h2 hl2 I m lkd lke l0 ?_) (fun v s' z => ?_) fun _ _ z => z
                · have o2 := Out.bind0 o1
                  cases q3 : eqAll (eqX S.T cf n) xs ys st with
                  | ok b st' =>
                    rw [q3] at o2
                    exact fun g' H' l' m' => (o2 g' H' l' m').ok' l' m'
                  | er x st' => rw [q3] at o2; exact o2
                  | no => rw [q3] at o2; exact o2
                · obtain ⟨b, rfl, H', g', st', I', l', m', q⟩ := z
                  exact ⟨b, by rw [Bool.bne_false], H', g', st', I', l', m', q⟩
          · rw [if_neg hkl] at o
            exact simpleR false hs' (row_kinds hu hkl I hv hw).1 ((o.le l0).ok m)
/-- == within a row -/
theorem eqx_go {me : Option (Addr × Addr)} (hnm : nm = nmE S me) (F : Facts S (co X) nm cf k) (tk : Takes X W) : ∀ (n : Nat) (A : Around), A.frames = X.A.frames → Room (k + 1 + n) A → EqGo S X W nm A (eqX S.T cf n) := by
  intro n
  induction n with
  | zero =>
    intro A hA hr pins s σ H g0 g ρ st d e x y u w Q I m rd re ru rw_ l0 o
    exact eqx_step hnm F tk 0 (fun n' z => by cases z) hA hr pins s σ H g0 g ρ st d e x y u w Q I m rd re ru rw_ l0 o
  | succ n ih =>
    intro A hA hr pins s σ H g0 g ρ st d e x y u w Q I m rd re ru rw_ l0 o
    exact eqx_step hnm F tk (n + 1) (fun n' z => by cases z; exact ih A.in1 hA (Room.in1 (k := k + 1 + n) hr)) hA hr pins s σ H g0 g ρ st d e x y u w Q I m rd re ru rw_ l0 o
/-- == of rows, comparisons of instances -/
theorem insCmp_of {me : Option (Addr × Addr)} (hnm : nm = nmE S me) (F : Facts S (co X) nm cf k) (hr : Room (k + 7) X.A) (tk : Takes X W) : InsCmp X S.T nm W cf := by
  refine ⟨by have := hr.un; omega, ?_⟩
  intro op pins s σ H g0 g ρ st d e x y u w Q hs I m ld le rx ry l0 o
  have hu : X.A.units < cLine := by have := hr.un; omega
  have hrel : isRel op = true := by
    unfold spec at hs
    cases op <;> first | rfl | (simp [isRel, isEq] at hs; done)
  have fin : ∀ {v : Value} {s' : Shared}, (∃ b, v = .bool b ∧ ∃ H', Inv X pins σ H' s' ∧ Q b H') → EP X pins σ (fun v H' => ∃ b, v = .bl b ∧ Q b H') v s' := fun {v s'} ⟨b, e, H', I', q⟩ => ⟨.bl b, H', I', e, b, rfl, q⟩
  have rich : wpAny (model X.prog X.w) X.A (richCompare (copOf op) u w) (EP X pins σ fun v H' => ∃ b, v = .bl b ∧ Q b H') X.xe s → wpAny (model X.prog X.w) X.A (compareOp (copOf op) u w) (EP X pins σ fun v H' => ∃ b, v = .bl b ∧ Q b H') X.xe s := fun h => by
    cases op <;> first | exact h | cases hrel
  refine rich ?_
  unfold cmpS at o
  by_cases hi : (isIns d || isIns e) = true
  · rw [if_pos hi] at o
    exact wpAny_mono (ins_cmp hnm rfl F (hr.mono (by omega)) tk hrel I m ld le rx ry l0 o) (fun v s' z => fin z) fun _ _ z => z
  · rw [if_neg hi] at o
    have heq : isEq op = true ∧ (isRow d || isRow e) = true := by
      unfold spec at hs
      have z : (isRel op && (isIns d || isIns e)) = false := by simp only [Bool.and_eq_false_iff]; exact .inr (by simpa using hi)
      rw [z, Bool.false_or] at hs
      exact He.ba hs
    obtain ⟨ne, hne, hop⟩ : ∃ ne : Bool, (op = .ne ↔ ne = true) ∧ copOf op = (if ne then .NotEq else .Eq) := by
      cases op <;> first | exact ⟨false, by constructor <;> (intro z; cases z), rfl⟩ | exact ⟨true, by constructor <;> (intro _; rfl), rfl⟩ | (cases heq.1)
    have flip : ∀ b : Bool, (if op = .ne then !b else b) = (b != ne) := fun b => by
      by_cases z : op = .ne
      · rw [if_pos z, hne.mp z]; cases b <;> rfl
      · rw [if_neg z]
        cases ne with
        | true => exact absurd (hne.mpr rfl) z
        | false => cases b <;> rfl
    rw [hop]
    have both : ∀ b : Bool, SeqAt.RcAt X.A s u w b ∧ SeqAt.RcNeAt X.A s u w (!b) → Q (b != ne) H → wpAny (model X.prog X.w) X.A (richCompare (if ne then .NotEq else .Eq) u w) (EP X pins σ fun v H' => ∃ b, v = .bl b ∧ Q b H') X.xe s := fun b h q => by
      cases ne with
      | false =>
        rw [Bool.bne_false] at q
        exact h.1 _ _ _ _ (fin ⟨b, rfl, H, I, q⟩)
      | true =>
        rw [Bool.bne_true] at q
        exact h.2 _ _ _ _ (fin ⟨!b, rfl, H, I, q⟩)
    rw [eqX_eq, if_neg hi] at o
    have known : ∀ b : Bool, Out S.T nm X.K W g0 ρ σ (fun b _ _ H' => Q b H') ((R.ok b st : R Bool).bind fun k st => .ok (if op = .ne then !k else k) st) → Q (b != ne) H := fun b o => by
      have z := (show Out S.T nm X.K W g0 ρ σ (fun b _ _ H' => Q b H') (.ok (if op = .ne then !b else b) st) from o).ok' l0 m
      rw [flip] at z
      exact z
    cases h1 : rowOf d with
    | none =>
      cases h2 : rowOf e with
      | none =>
        exfalso
        have z : isRow d = false ∧ isRow e = false := by
          constructor
          · cases d <;> first | rfl | (cases h1)
          · cases e <;> first | rfl | (cases h2)
        rw [z.1, z.2] at heq
        cases heq.2
      | some r2 =>
        obtain ⟨l, ys⟩ := r2
        simp only [h1, h2] at o
        by_cases hf : flat d = true
        · rw [if_pos hf] at o
          obtain ⟨q, ws, e2, hw, rws⟩ := row_at h2 le m
          subst e2
          cases ry
          exact both false (row_flat hu I hw hf (ld.rep m (by cases d <;> first | rfl | cases hf)) rx).2 (known false o)
        · rw [if_neg hf] at o
          exact o.elim
    | some r1 =>
      obtain ⟨kk, xs⟩ := r1
      obtain ⟨p, vs, e1, hv, rvs⟩ := row_at h1 ld m
      subst e1
      cases rx
      cases h2 : rowOf e with
      | none =>
        simp only [h1, h2] at o
        by_cases hf : flat e = true
        · rw [if_pos hf] at o
          exact both false (row_flat hu I hv hf (le.rep m (by cases e <;> first | rfl | cases hf)) ry).1 (known false o)
        · rw [if_neg hf] at o
          exact o.elim
      | some r2 =>
        obtain ⟨l, ys⟩ := r2
        obtain ⟨q, ws, e2, hw, rws⟩ := row_at h2 le m
        subst e2
        cases ry
        simp only [h1, h2] at o
        by_cases hkl : kk = l
        · subst hkl
          rw [if_pos rfl] at o
          unfold eqRow at o
          by_cases hl : (kk && xs.length != ys.length) = true
          · rw [if_pos hl] at o
            obtain ⟨l1, l2⟩ := He.ba hl
            subst l1
            have hn : vs.length ≠ ws.length := by rw [← rvs.len, ← rws.len]; simpa using l2
            exact both false (row_lens hu hn I hv hw) (known false o)
          · rw [if_neg hl] at o
            have hl2 : kk = true → xs.length = ys.length := fun z => by
              rw [z] at hl
              simpa using hl
            refine wpAny_mono (rows_go (Q := fun b _ _ H' => Q (b != ne) H') hu (eqx_go hnm F tk 4 X.A.in1 rfl (Room.in1 (hr.mono (by omega)))) ne h1 h2 hl2 I m ld le l0 ?_) (fun v s' z => ?_) fun _ _ z => z
            · cases q3 : eqAll (eqX S.T cf 4) xs ys st with
              | ok b st' =>
                rw [q3] at o
                refine fun g' H' l' m' => ?_
                have z := o g' H' l' m'
                rw [flip] at z
                exact z
              | er x st' => rw [q3] at o; exact o
              | no => rw [q3] at o; exact o
            · obtain ⟨b, rfl, H', g', st', I', l', m', q⟩ := z
              exact fin ⟨_, rfl, H', I', q⟩
        · rw [if_neg hkl] at o
          exact both false (row_kinds hu hkl I hv hw) (known false o)
end
end Snd
set_option Elab.async false
set_option linter.all false
set_option maxRecDepth 100000
set_option maxHeartbeats 1000000
/-! SndR: built-in functions, instances among them. -/
namespace Snd
open PySem PySem.Spec PyProof.Rows L2 Ev
section
variable {S : Src} {X : Cx} {W : WX} {nm : Nm} {cf : Nat → List D → Sto → R D} {k : Nat} {T : Tab} {pos : Pos}
theorem subscripted_true {slice : Expr} (h : ∀ l u p, slice ≠ .Slice l u none p) (o i : Value) : subscripted slice true o i = runValue (.builtin "lifetime.subscript" ⟨[o, i], []⟩) := by
  cases slice <;> first | rfl | (rename_i l u z p; cases z <;> first | rfl | exact absurd rfl (h _ _ _))
theorem insIx_of {me : Option (Addr × Addr)} (hnm : nm = nmE S me) (F : Facts S (co X) nm cf k) (hr : Room (k + 2) X.A) (tk : Takes X W) : InsIx X S.T nm W cf := by
  refine ⟨by have := hr.un; omega, ?_⟩
  subst hnm
  intro value slice pins s σ H g0 g ρ st c ds e x y u w Q hsl I m ld re rx ry l0 o
  obtain ⟨p, dx, od, ex, rr, J⟩ := ins_at ld m I
  subst ex
  cases rx
  obtain ⟨mm, hF⟩ := I.fr
  have z : ixE S.T cf (.ins c ds) e st = (match S.T.get c with
    | some f => cf f [.ins c ds, e] st
    | none => .no) := by
    cases re <;> rfl
  rw [z] at o
  cases hg : S.T.get c with
  | none => rw [hg] at o; exact o.elim
  | some f =>
    rw [hg] at o
    have hops := F.ops
    unfold opsB at hops
    have hg' : nameOf c S.get = some f := hg
    have hq := List.all_eq_true.mp (He.ba (He.ba (He.ba (He.ba (He.ba (He.ba (He.ba hops).2).2).2).2).2).2).1 _ (nameOf_mem hg')
    obtain ⟨_, hq⟩ := He.ba hq
    obtain ⟨q1, hq⟩ := He.ba hq
    obtain ⟨q2, q3⟩ := He.ba hq
    have own := own_of (me := me) q2
    exact PySem.W.sub_K hF I.ok.mod.kin J own.hs q3 own.hf (run_callA (A := X.A.in1) rfl (fnB_of F q1) (Room.in1 (hr.mono (by omega))) tk I (.cons (show RelV (V.ref p) (.ref p) from rfl) (.cons ry .nil)) rfl m (.cons rr (.cons re .nil)) l0 o) (subscripted_true hsl _ _)
theorem insLen_of {me : Option (Addr × Addr)} (hnm : nm = nmE S me) (F : Facts S (co X) nm cf k) (hr : Room (k + 2) X.A) (tk : Takes X W) : InsLen X S.T nm W cf := by
  subst hnm
  intro pins s σ H g0 g ρ st c ds x u Q I m ld rx l0 o
  obtain ⟨p, dx, od, ex, rr, J⟩ := ins_at ld m I
  subst ex
  cases rx
  obtain ⟨mm, hF⟩ := I.fr
  have o' : Out S.T (nmE S me) X.K W g0 ρ σ (fun d _ g' H' => ∀ v, RepR S.T (nmE S me) X.K g0 g' d v → Q v H') (match S.T.len c with
    | some f => (match cf f [.ins c ds] st with
      | .ok (.int n) st => if 0 ≤ n ∧ n < LINE then .ok (.int n) st else .no
      | .er x st => .er x st
      | _ => .no)
    | none => .no) := o
  cases hg : S.T.len c with
  | none => rw [hg] at o'; exact o'.elim
  | some f =>
    simp only [hg] at o'
    have hops := F.ops
    unfold opsB at hops
    have hg' : nameOf c S.len = some f := hg
    have hq := List.all_eq_true.mp (He.ba (He.ba (He.ba (He.ba (He.ba (He.ba (He.ba (He.ba hops).2).2).2).2).2).2).2).1 _ (nameOf_mem hg')
    obtain ⟨_, hq⟩ := He.ba hq
    obtain ⟨q1, q2⟩ := He.ba hq
    have own := own_of (me := me) q2
    have oc : Out S.T (nmE S me) X.K W g0 ρ σ (fun d _ g' H' => ∀ v, RepR S.T (nmE S me) X.K g0 g' d v → ∃ n : Int, v = .int n ∧ (0 ≤ n ∧ n < LINE) ∧ Q (.int n) H') (cf f [.ins c ds] st) := by
      cases z : cf f [.ins c ds] st with
      | ok d st1 =>
        rw [z] at o'
        cases d with
        | int n =>
          refine fun g' H' l' m' v r => ?_
          cases r
          by_cases hn : 0 ≤ n ∧ n < LINE
          · simp only [if_pos hn] at o'
            exact ⟨n, rfl, hn, o' g' H' l' m' _ (.int n)⟩
          · simp only [if_neg hn] at o'
            exact o'.elim
        | _ => exact o'.elim
      | er x st1 => rw [z] at o'; exact o'
      | no => rw [z] at o'; exact o'
    refine PySem.W.len_K hF I.ok.mod.kin J own.hs own.hf (wpAny_mono (run_callA (A := X.A.in1) rfl (fnB_of F q1) (Room.in1 (hr.mono (by omega))) tk I (.cons (show RelV (V.ref p) (.ref p) from rfl) .nil) rfl m (.cons rr .nil) l0 oc) (fun v s' z => ?_) fun _ _ z => z)
    obtain ⟨y, H', I', r, n, e, hn, q⟩ := z
    subst e
    obtain ⟨t, rfl⟩ := r
    have h63 : n < 2 ^ 63 := Int.lt_trans hn.2 (by decide)
    exact ⟨⟨hn.1, h63⟩, .int n, H', I'.tok _, ⟨_, rfl⟩, q⟩
/-- - of a number, of an instance -/
theorem se_negI {me : Option (Addr × Addr)} (hnm : nm = nmE S me) (F : Facts S (co X) nm cf k) (hr : Room (k + 2) X.A) (tk : Takes X W) {e : Expr} {a : E} (ha : PE X e (tE S.T nm X.K cf W a)) : PE X (.UnaryOp .USub e pos) (tE S.T nm X.K cf W (.neg a)) := by
  subst hnm
  refine ⟨fun pins s σ H Q I ⟨g, ρ, st, m, o⟩ => ?_⟩
  refine wpAny_UnaryOp (thn (val_go ha I m (Le.refl g) o) fun u s1 ⟨v, H1, d, st1, g1, I1, rv, l1, m1, rr, q⟩ => ?_)
  have lk : LkR S.T (nmE S me) X.K g1 ρ σ d v := .of_rep rr
  cases d with
  | int i =>
    rw [lk.int m1] at rv
    obtain ⟨t, rfl⟩ := rv
    exact neg_int ⟨.int (-i), H1, I1.tok _, ⟨_, rfl⟩, (q.le l1).ok m1 _ (.int _)⟩
  | ins c ds =>
    obtain ⟨p, dx, od, ex, rep, J⟩ := ins_at lk m1 I1
    subst ex
    cases rv
    obtain ⟨mm, hF⟩ := I1.fr
    have o' : Out S.T (nmE S me) X.K W g ρ σ (fun d _ g' H' => ∀ v, RepR S.T (nmE S me) X.K g g' d v → Q v H') (match S.T.neg c with
      | some f => cf f [.ins c ds] st1
      | none => .no) := q
    cases hg : S.T.neg c with
    | none => rw [hg] at o'; exact o'.elim
    | some f =>
      rw [hg] at o'
      have hops := F.ops
      unfold opsB at hops
      have hg' : nameOf c S.neg = some f := hg
      have hq := List.all_eq_true.mp (He.ba (He.ba (He.ba (He.ba hops).2).2).2).1 _ (nameOf_mem hg')
      obtain ⟨_, hq⟩ := He.ba hq
      obtain ⟨q1, q2⟩ := He.ba hq
      have own := own_of (me := me) q2
      exact PySem.W.ksp_neg hF I1.ok.mod.kin J own.hs own.hf (run_callA (A := X.A) rfl (fnB_of F q1) (hr.mono (by omega)) tk I1 (.cons (show RelV (V.ref p) (.ref p) from rfl) .nil) rfl m1 (.cons rep .nil) l1 o')
  | _ => exact q.elim
/-- abs -/
theorem abs_K {prog : Program} {w : World} {A : Around} {E : Value → Shared → Prop} {s : Shared} {K : PySem.W.Frag} {x C f : Addr} {ox : Obj} {od : Option Obj} {Q : Value → Shared → Prop} (Xk : K.In s.heap) (I : PySem.W.InstAt s.heap x ox C od) (hs : PySem.W.findIn K (.ref C) "__abs__" = some (some (.ref f))) (hf : PySem.W.isFn K (.ref f) = true)
    (h : wpAny (model prog w) A.in1 (call (.ref f) [.ref x]) Q E s) : wpAny (model prog w) A (call (.builtin "abs") [.ref x]) Q E s := by
  refine Calls.call_function_entry kind_abs plain_abs entry_abs (args_abs _) ?_
  unfold Builtin.«abs»
  refine wpAny_bind (m := oneArg "abs" _) (wpAny_pure ?_)
  refine wpAny_bind (m := callSpecial? (.ref x) (Str.ofString "__abs__")) (PySem.W.special_fn Xk I hs (beq_iff_eq.mp hf) (wpAny_mono h (fun r s' hr => ?_) fun _ _ y => y))
  exact wpAny_pure ⟨_, rfl, hr⟩
theorem bi_abs {me : Option (Addr × Addr)} (hnm : nm = nmE S me) (F : Facts S (co X) nm cf k) (hr : Room (k + 2) X.A) (tk : Takes X W) {pins : List (Addr × Obj)} {s : Shared} {σ : L2.St} {H : Hp} {g0 g : Gh} {ρ : Rho} {st : Sto} {ds : List D} {vs : List V} {us : List Value} {Q : VK} (I : Inv X pins σ H s) (m : Mt S.T nm X.K g ρ st σ H) (l : LkRs S.T nm X.K g ρ σ ds vs) (rv : Vals vs us) (l0 : Le g0 g)
    (o : Out S.T nm X.K W g0 ρ σ (fun d _ g' H' => ∀ v, RepR S.T nm X.K g0 g' d v → Q v H') (biE S.T cf .abs ds st)) : wpAny (model X.prog X.w) X.A (call (.builtin "abs") us) (EP X pins σ Q) X.xe s := by
  subst hnm
  match ds, vs, l with
  | [], [], _ => rw [bi_no (by decide) (by simp)] at o; exact o.elim
  | _ :: _ :: _, _ :: _ :: _, _ => rw [bi_no (by simp) (by simp)] at o; exact o.elim
  | [d], [v], ⟨lk, _⟩ =>
    match us, rv with
    | [u], .cons ru .nil =>
    cases d with
    | int i =>
      rw [lk.int m] at ru
      obtain ⟨t, rfl⟩ := ru
      exact call_abs_int fun u tk => ⟨.int (if i < 0 then -i else i), H, I.tok _, ⟨_, rfl⟩, flat_out o l0 m (.int _)⟩
    | ins c es =>
      obtain ⟨p, dx, od, ex, rep, J⟩ := ins_at lk m I
      subst ex
      cases ru
      have o' : Out S.T (nmE S me) X.K W g0 ρ σ (fun d _ g' H' => ∀ v, RepR S.T (nmE S me) X.K g0 g' d v → Q v H') (match S.T.abs c with
        | some f => cf f [.ins c es] st
        | none => .no) := o
      cases hg : S.T.abs c with
      | none => rw [hg] at o'; exact o'.elim
      | some f =>
        rw [hg] at o'
        have hops := F.ops
        unfold opsB at hops
        have hg' : nameOf c S.abs = some f := hg
        have hq := List.all_eq_true.mp (He.ba (He.ba (He.ba (He.ba (He.ba hops).2).2).2).2).1 _ (nameOf_mem hg')
        obtain ⟨_, hq⟩ := He.ba hq
        obtain ⟨q1, q2⟩ := He.ba hq
        have own := own_of (me := me) q2
        exact abs_K I.kIn J own.hs own.hf (run_callA (A := X.A.in1) rfl (fnB_of F q1) (Room.in1 (hr.mono (by omega))) tk I (.cons (show RelV (V.ref p) (.ref p) from rfl) .nil) rfl m (.cons rep .nil) l0 o')
    | ref r =>
      cases h1 : st[r]? with
      | none => simp only [biE, h1] at o; exact o.elim
      | some ob => cases ob <;> (simp only [biE, h1] at o; exact o.elim)
    | _ => exact o.elim
/-- the digits -/
theorem str_int (i : Int) : (toString i : Str) = strOf (strI i) := by
  show Str.ofString (toString i) = _
  rw [Str.ofString_eq_toList]
  unfold strI digitsOf strOf
  cases i with
  | ofNat n =>
    rw [if_neg (by show ¬ (Int.ofNat n < 0); simp)]
    show (⟨((Nat.repr n).toList.map Char.toNat).toArray⟩ : Str) = _
    unfold Nat.repr
    simp
  | negSucc n =>
    rw [if_pos (by omega)]
    show (⟨(("-" ++ Nat.repr (n + 1)).toList.map Char.toNat).toArray⟩ : Str) = _
    unfold Nat.repr
    simp
theorem bi_str {me : Option (Addr × Addr)} (hnm : nm = nmE S me) (F : Facts S (co X) nm cf k) (hr : Room (k + 3) X.A) (tk : Takes X W) {pins : List (Addr × Obj)} {s : Shared} {σ : L2.St} {H : Hp} {g0 g : Gh} {ρ : Rho} {st : Sto} {ds : List D} {vs : List V} {us : List Value} {Q : VK} (I : Inv X pins σ H s) (m : Mt S.T nm X.K g ρ st σ H) (l : LkRs S.T nm X.K g ρ σ ds vs) (rv : Vals vs us) (l0 : Le g0 g)
    (o : Out S.T nm X.K W g0 ρ σ (fun d _ g' H' => ∀ v, RepR S.T nm X.K g0 g' d v → Q v H') (biE S.T cf .str ds st)) : wpAny (model X.prog X.w) X.A (call (.type "str") us) (EP X pins σ Q) X.xe s := by
  subst hnm
  match ds, vs, l with
  | [], [], _ => rw [bi_no (by decide) (by simp)] at o; exact o.elim
  | _ :: _ :: _, _ :: _ :: _, _ => rw [bi_no (by simp) (by simp)] at o; exact o.elim
  | [d], [v], ⟨lk, _⟩ =>
    cases d with
    | int i =>
      have o' : Out S.T (nmE S me) X.K W g0 ρ σ (fun d _ g' H' => ∀ v, RepR S.T (nmE S me) X.K g0 g' d v → Q v H') (R.of (if i.natAbs.log2 < 1920 then some (.str (strI i)) else none) st) := o
      by_cases hl : i.natAbs.log2 < 1920
      · rw [if_pos hl] at o'
        refine call_str_int pins s σ H _ us Q I rv ⟨i, by rw [lk.int m], hl, ?_⟩
        rw [str_int]
        exact flat_out o' l0 m (.str _)
      · rw [if_neg hl] at o'
        exact o'.elim
    | str z => exact SkE.call_str_str pins s σ H _ us Q I rv ⟨strOf z, by rw [lk.str m], flat_out o l0 m (.str _)⟩
    | ins c es =>
      match us, rv with
      | [u], .cons ru .nil =>
      obtain ⟨p, dx, od, ex, rep, J⟩ := ins_at lk m I
      subst ex
      cases ru
      have o' : Out S.T (nmE S me) X.K W g0 ρ σ (fun d _ g' H' => ∀ v, RepR S.T (nmE S me) X.K g0 g' d v → Q v H') (match S.T.str c with
        | some f => asTx (cf f [.ins c es] st)
        | none => .no) := o
      cases hg : S.T.str c with
      | none => rw [hg] at o'; exact o'.elim
      | some f =>
        simp only [hg] at o'
        have hops := F.ops
        unfold opsB at hops
        have hg' : nameOf c S.str = some f := hg
        have hq := List.all_eq_true.mp (He.ba (He.ba (He.ba (He.ba (He.ba (He.ba hops).2).2).2).2).2).1 _ (nameOf_mem hg')
        obtain ⟨_, hq⟩ := He.ba hq
        obtain ⟨q1, q2⟩ := He.ba hq
        have own := own_of (me := me) q2
        have oc : Out S.T (nmE S me) X.K W g0 ρ σ (fun d _ g' H' => ∀ v, RepR S.T (nmE S me) X.K g0 g' d v → ∃ z, v = .str z ∧ Q (.str z) H') (cf f [.ins c es] st) := by
          cases z : cf f [.ins c es] st with
          | ok d st1 =>
            rw [z] at o'
            cases d with
            | str n =>
              refine fun g' H' l' m' v r => ?_
              cases r
              exact ⟨_, rfl, o' g' H' l' m' _ (.str n)⟩
            | _ => exact o'.elim
          | er x st1 => rw [z] at o'; exact o'
          | no => rw [z] at o'; exact o'
        refine PySem.W.kso_call (by have := hr.un; show X.A.units + 1 + 1 < cLine; omega) I.kIn J own.hs own.hf (wpAny_mono (run_callA (A := X.A.in1.in1) rfl (fnB_of F q1) (Room.in1 (Room.in1 (hr.mono (by omega)))) tk I (.cons (show RelV (V.ref p) (.ref p) from rfl) .nil) rfl m (.cons rep .nil) l0 oc) (fun v s' z => ?_) fun _ _ z => z)
        obtain ⟨y, H', I', r, n, e, q⟩ := z
        subst e
        obtain ⟨t, rfl⟩ := r
        exact ⟨.str n, H', I', ⟨t, rfl⟩, q⟩
    | ref r =>
      cases h1 : st[r]? with
      | none => simp only [biE, strE, R.of, biD] at o; exact o.elim
      | some ob => simp only [biE, strE, R.of, biD] at o; exact o.elim
    | _ => exact o.elim
/-- gcd -/
theorem bi_gcd {pins : List (Addr × Obj)} {s : Shared} {σ : L2.St} {H : Hp} {g0 g : Gh} {ρ : Rho} {st : Sto} {ds : List D} {vs : List V} {us : List Value} {Q : VK} (I : Inv X pins σ H s) (m : Mt T nm X.K g ρ st σ H) (l : LkRs T nm X.K g ρ σ ds vs) (rv : Vals vs us) (l0 : Le g0 g)
    (o : Out T nm X.K W g0 ρ σ (fun d _ g' H' => ∀ v, RepR T nm X.K g0 g' d v → Q v H') (biE T cf .gcd ds st)) : wpAny (model X.prog X.w) X.A (call (.builtin "math.gcd") us) (EP X pins σ Q) X.xe s := by
  have two : ∀ {ds : List D}, biE T cf .gcd ds st ≠ .no → ∃ a b, ds = [.int a, .int b] := fun {ds} h => by
    match ds with
    | [] => exact absurd rfl h
    | [d] =>
      exfalso
      cases d with
      | ref r =>
        cases h1 : st[r]? with
        | none => exact h (by simp only [biE, h1])
        | some ob => cases ob <;> exact h (by simp only [biE, h1]; try rfl)
      | _ => exact h rfl
    | [d, e] => cases d <;> first | (exact absurd rfl h) | (cases e <;> first | exact absurd rfl h | exact ⟨_, _, rfl⟩)
    | d :: e :: f :: r => cases d <;> first | (exact absurd rfl h) | (cases e <;> exact absurd rfl h)
  obtain ⟨a, b, rfl⟩ := two (fun z => by rw [z] at o; exact o)
  match vs, l with
  | [v, w], ⟨l1, l2, _⟩ =>
    exact cr_gcd pins s σ H _ us Q I rv ⟨a, b, by rw [l1.int m, l2.int m], flat_out o l0 m (.int _)⟩
/-- a module's function, called -/
theorem se_biM {b : BI} {id : String} {x : Str} {p : Pos} {e : Expr} {es : List Expr} {as : Es} (hg : Gl X x) (hm : X.mg x = some (.builtin id)) (ha : PA X (e :: es) (tL T nm X.K cf W as)) (hdb : (x == ("__debug__" : Str)) = false)
    (he : starEach (e :: es) X.env = (false, eval e X.env) :: starEach es X.env) (hpl : (backTo pos (starEach es X.env)).any (·.1) = false)
    (hr : ∀ {pins : List (Addr × Obj)} {s : Shared} {σ : L2.St} {H : Hp} {g0 g : Gh} {ρ : Rho} {st : Sto} {ds : List D} {vs : List V} {us : List Value} {Q : VK}, Inv X pins σ H s → Mt T nm X.K g ρ st σ H → LkRs T nm X.K g ρ σ ds vs → Vals vs us → Le g0 g →
      Out T nm X.K W g0 ρ σ (fun d _ g' H' => ∀ v, RepR T nm X.K g0 g' d v → Q v H') (biE T cf b ds st) → wpAny (model X.prog X.w) X.A (call (.builtin id) us) (EP X pins σ Q) X.xe s) :
    PE X (.Call (.Name x p) (e :: es) [] pos) (tE T nm X.K cf W (.bi b as)) := by
  refine ⟨fun pins s σ H Q I ⟨g, ρ, st, m, o⟩ => ?_⟩
  refine wpAny_Call_Name_kw (ld_glob I hg hm ?_ hdb)
  exact PyProof.Rows.callWith_builtin1 (thn (looks_go ha I m o pos) fun us s1 ⟨vs, H1, ds, st1, g1, I1, rv, r, l1, m1, q⟩ => hr I1 m1 r rv l1 q) he hpl
theorem biE_lst {b : BI} {d : D} {st : Sto} {f : List D → Option D} (hb : ∀ d, biD b [d] = (match asL d with
    | some ds => f ds
    | none => none)) (hn : b ≠ .len ∧ b ≠ .str ∧ b ≠ .abs) : biE T cf b [d] st = R.of (match lstS st d with
    | some ds => f ds
    | none => none) st := by
  have z : ∀ d, (∀ r, d ≠ .ref r) → biE T cf b [d] st = R.of (biD b [d]) st := fun d hd => by
    cases b <;> first | exact absurd rfl hn.1 | exact absurd rfl hn.2.1 | exact absurd rfl hn.2.2 | (cases d <;> first | rfl | exact absurd rfl (hd _))
  cases d with
  | ref r =>
    have e : biE T cf b [.ref r] st = (match st[r]? with
      | some (.lst ds) => R.of (biD b [.lst ds]) st
      | _ => .no) := by cases b <;> first | exact absurd rfl hn.1 | exact absurd rfl hn.2.1 | exact absurd rfl hn.2.2 | rfl
    rw [e]
    cases h1 : st[r]? with
    | none => simp only [lstS, h1]; rfl
    | some ob =>
      cases ob with
      | lst ds => simp only [lstS, h1]; rw [hb]; rfl
      | _ => simp only [lstS, h1]; rfl
  | _ => rw [z _ (by intro r q; cases q), hb]; rfl
/-- rows of whole numbers -/
theorem allInt_ok {g : Gh} : ∀ {ds : List D} {ns : List Int} {vs : List V}, allInt ds = some ns → Reps T nm X.K g ds vs → vs = ns.map V.int ∧ ds = ns.map D.int
  | [], ns, _, h, .nil => by cases h; exact ⟨rfl, rfl⟩
  | d :: ds, ns, _, h, .cons a r => by
    cases d with
    | int i =>
      cases h1 : allInt ds with
      | none => simp [allInt, h1] at h
      | some ms =>
        simp only [allInt, h1, Option.map_some, Option.some.injEq] at h
        obtain ⟨e1, e2⟩ := allInt_ok h1 r
        subst h
        cases a
        rw [e1, e2]
        exact ⟨rfl, rfl⟩
    | _ => cases h
theorem bi_sum {pins : List (Addr × Obj)} {s : Shared} {σ : L2.St} {H : Hp} {g0 g : Gh} {ρ : Rho} {st : Sto} {ds : List D} {vs : List V} {us : List Value} {Q : VK} (hc : X.calm = true) (I : Inv X pins σ H s) (m : Mt T nm X.K g ρ st σ H) (l : LkRs T nm X.K g ρ σ ds vs) (rv : Vals vs us) (l0 : Le g0 g)
    (o : Out T nm X.K W g0 ρ σ (fun d _ g' H' => ∀ v, RepR T nm X.K g0 g' d v → Q v H') (biE T cf .sum ds st)) : wpAny (model X.prog X.w) X.A (call (.builtin "sum") us) (EP X pins σ Q) X.xe s := by
  match ds, vs, l with
  | [], [], _ => rw [bi_no (by decide) (by simp)] at o; exact o.elim
  | _ :: _ :: _, _ :: _ :: _, _ => rw [bi_no (by simp) (by simp)] at o; exact o.elim
  | [d], [v], ⟨lk, _⟩ =>
    rw [biE_lst (f := fun ds => (allInt ds).map fun ns => .int ns.sum) (fun d => by cases d <;> first | rfl | (simp only [biD, asL, Option.bind_some]; cases allInt _ <;> rfl)) (by decide)] at o
    cases h : lstS st d with
    | some es =>
      rw [h] at o
      obtain ⟨p, ws, ex, hp, r⟩ := lstS_ok lk m h
      subst ex
      cases h2 : allInt es with
      | none => simp only [h2] at o; exact o.elim
      | some ns =>
        simp only [h2] at o
        obtain ⟨e1, _⟩ := allInt_ok h2 r
        exact cr_sum hc pins s σ H _ us Q I rv ⟨p, ns, rfl, by rw [← e1]; exact .of hp, flat_out o l0 m (.int _)⟩
    | none => rw [h] at o; exact o.elim
theorem insI_perm (x : Int) : ∀ l : List Int, (insI x l).Perm (x :: l)
  | [] => .refl _
  | y :: r => by
    unfold insI
    by_cases h : x ≤ y
    · rw [if_pos h]
    · rw [if_neg h]
      exact (List.Perm.cons y (insI_perm x r)).trans (List.Perm.swap x y r)
theorem insI_sorted (x : Int) : ∀ {l : List Int}, l.Pairwise (· ≤ ·) → (insI x l).Pairwise (· ≤ ·)
  | [], _ => by simp [insI]
  | y :: r, h => by
    unfold insI
    obtain ⟨h1, h2⟩ := List.pairwise_cons.mp h
    by_cases hx : x ≤ y
    · rw [if_pos hx]
      refine List.pairwise_cons.mpr ⟨fun z hz => ?_, h⟩
      rcases List.mem_cons.mp hz with rfl | hz
      · exact hx
      · exact Int.le_trans hx (h1 z hz)
    · rw [if_neg hx]
      refine List.pairwise_cons.mpr ⟨fun z hz => ?_, insI_sorted x h2⟩
      rcases List.mem_cons.mp ((insI_perm x r).mem_iff.mp hz) with rfl | hz
      · omega
      · exact h1 z hz
theorem sortI_perm : ∀ l : List Int, (sortI l).Perm l
  | [] => .refl _
  | x :: r => (insI_perm x (sortI r)).trans (List.Perm.cons x (sortI_perm r))
theorem sortI_sorted : ∀ l : List Int, (sortI l).Pairwise (· ≤ ·)
  | [] => .nil
  | x :: r => insI_sorted x (sortI_sorted r)
theorem sorted_uniq {l m : List Int} (h : l.Perm m) (h1 : l.Pairwise (· ≤ ·)) (h2 : m.Pairwise (· ≤ ·)) : l = m := h.eq_of_pairwise (fun a b _ _ h h' => Int.le_antisymm h h') h1 h2
theorem bi_sorted {pins : List (Addr × Obj)} {s : Shared} {σ : L2.St} {H : Hp} {g0 g : Gh} {ρ : Rho} {st : Sto} {ds : List D} {vs : List V} {us : List Value} {Q : VK} (I : Inv X pins σ H s) (m : Mt T nm X.K g ρ st σ H) (l : LkRs T nm X.K g ρ σ ds vs) (rv : Vals vs us) (l0 : Le g0 g)
    (o : Out T nm X.K W g0 ρ σ (fun d _ g' H' => ∀ v, RepR T nm X.K g0 g' d v → Q v H') (biE T cf .sorted ds st)) : wpAny (model X.prog X.w) X.A (call (.builtin "sorted") us) (EP X pins σ Q) X.xe s := by
  match ds, vs, l with
  | [], [], _ => rw [bi_no (by decide) (by simp)] at o; exact o.elim
  | _ :: _ :: _, _ :: _ :: _, _ => rw [bi_no (by simp) (by simp)] at o; exact o.elim
  | [d], [v], ⟨lk, _⟩ =>
    rw [biE_lst (f := fun ds => (allInt ds).bind fun ns => if ns.length < 64 then some (.own ((sortI ns).map D.int)) else none) (fun d => by cases d <;> first | rfl | (simp only [biD, asL, Option.bind_some]; cases allInt _ <;> rfl)) (by decide)] at o
    cases h : lstS st d with
    | some es =>
      rw [h] at o
      obtain ⟨p, ws, ex, hp, r⟩ := lstS_ok lk m h
      subst ex
      cases h2 : allInt es with
      | none => simp only [h2] at o; exact o.elim
      | some ns =>
        simp only [h2, Option.bind_some] at o
        by_cases hl : ns.length < 64
        · rw [if_pos hl] at o
          obtain ⟨e1, _⟩ := allInt_ok h2 r
          refine cr_sorted pins s σ H _ us Q I rv ⟨p, ns, rfl, by rw [← e1]; exact .of hp, hl, fun ns' q hp' hs' hq => ?_⟩
          have e3 : ns' = sortI ns := sorted_uniq (hp'.trans (sortI_perm ns).symm) hs' (sortI_sorted ns)
          subst e3
          have rr : ∀ l : List Int, Reps T nm X.K g (l.map D.int) (l.map V.int) := fun l => by
            induction l with
            | nil => exact .nil
            | cons a l ih => exact .cons (.int a) ih
          exact new_own l0 m (rr _) o hq
        · rw [if_neg hl] at o
          exact o.elim
    | none => rw [h] at o; exact o.elim
end
end Snd
set_option Elab.async false
set_option linter.all false
set_option maxRecDepth 100000
set_option maxHeartbeats 1000000
/-! SndL: loops, and what is never run. -/
namespace Snd
open PySem PySem.Spec PyProof.Rows L2 Ev
section
variable {X : Cx} {T : Tab} {nm : Nm} {W : WX} {cf : Nat → List D → Sto → R D} {pos : Pos} {k : Nat}
/-! ### what is never run -/
theorem se_stuck {e : Expr} : PE X e (tE T nm X.K cf W .stuck) := ⟨fun pins s σ H Q I ⟨g, ρ, st, m, o⟩ => (show False from o).elim⟩
theorem ss_stuck {e : Stmt} : PS X e (tS T nm X.K cf W .stuck) := ⟨fun pins s σ H D I ⟨gb, g, ρ, st, m, l, n, o⟩ => (show False from o).elim⟩
theorem se_frz {e : Expr} {a : E} (h : PE X e (tE T nm X.K cf W a)) : PE X e (tE T nm X.K cf W (.frz a)) :=
  PE.imp h fun σ H Q ⟨g, ρ, st, m, o⟩ => ⟨g, ρ, st, m, Out.imp (Out.bind0 o) fun d st1 g1 H1 l1 m1 q v r => by
    obtain ⟨g2, l2, m2, r2⟩ := kept r m1 l1
    exact q g2 H1 l2 m2 v (RepR.plain r2 r2.plain)⟩
/-! ### for over range -/
theorem rangeI_at {lo hi : Int} {i : Nat} (h : i < (hi - lo).toNat) : (rangeI lo hi)[i]? = some (lo + (i : Int)) := by
  unfold rangeI
  rw [List.getElem?_map, List.getElem?_range h]
  rfl
theorem rangeI_len {lo hi : Int} : (rangeI lo hi).length = (hi - lo).toNat := by
  unfold rangeI
  rw [List.length_map, List.length_range]
theorem rng_main {gb g1 : Gh} {D : Ends} {ρ : Rho} {st1 : Sto} {σ : L2.St} {H1 : Hp} {i : Nat} {b : Ev.S} {lo hi : Int} (m1 : Mt T nm X.K g1 ρ st1 σ H1) (lg : Le gb g1) (n : NoSlot gb)
    (q : OutS T nm X.K W gb D (forL (exS T cf b) [i] ((rangeI lo hi).map fun n => [.int n]) ρ st1)) :
    ∃ Wv : Nat → Nat → L2.St → Hp → Prop, (∃ m, Wv 0 m σ H1) ∧ ∀ j m σ H, Wv j m σ H →
      ((Itr lo (hi - lo).toNat).stop j H ∧ D.nx σ H) ∨ ((Itr lo (hi - lo).toNat).go j H ∧ ∃ N : L2.St → Hp → Prop, (∀ σ' H', N σ' H' → ∃ m', m' < m ∧ Wv (j + 1) m' σ' H') ∧ ∀ x H', (Itr lo (hi - lo).toNat).yld j H x H' → gName i x σ H' fun σ2 H2 => tS T nm X.K cf W b { D with nx := N, ct := N, bk := D.nx } σ2 H2) := by
  refine for_range (fun j σ' H' => ∃ g' ρ' st', Le (strip g1) g' ∧ Mt T nm X.K g' ρ' st' σ' H' ∧ OutS T nm X.K W (strip g1) D (forL (exS T cf b) [i] (((rangeI lo hi).map fun n => [Ev.D.int n]).drop j) ρ' st')) ⟨g1, ρ, st1, le_strip, m1, (q.base (le_to_strip n lg))⟩ (fun j σ' H' hj ⟨g', ρ', st', l', m', o'⟩ => ?_) (fun σ' H' ⟨g', ρ', st', l', m', o'⟩ => ?_)
  · have hj' : ((rangeI lo hi).map fun n => [Ev.D.int n])[j]? = some [.int (lo + (j : Int))] := by rw [List.getElem?_map, rangeI_at hj]; rfl
    rw [drop_at hj'] at o'
    have m2 := m'.set (i := i) (SlR.rep (H := H') (.int (lo + (j : Int))))
    exact turn_out m2 l' noSlot_strip (fun g2 ρ2 st2 σ2 H2 l2 m2 o2 => ⟨g2, ρ2, st2, l2, m2, o2⟩) o'
  · rw [List.drop_eq_nil_of_le (by rw [List.length_map, rangeI_len]; exact Nat.le_refl _)] at o'
    exact o' g' σ' H' l' m'
theorem out_len {as : Es} {g : Gh} {ρ : Rho} {σ : L2.St} {st : Sto} {P : List Ev.D → Sto → Gh → Hp → Prop} (o : Out T nm X.K W g ρ σ P (evA T cf as ρ st)) : Out T nm X.K W g ρ σ (fun ds st g H => ds.length = as.len ∧ P ds st g H) (evA T cf as ρ st) := by
  cases q : evA T cf as ρ st with
  | ok ds st1 =>
    rw [q] at o
    exact fun g' H' l m => ⟨evA_len q, o g' H' l m⟩
  | er x st1 => rw [q] at o; exact o
  | no => rw [q] at o; exact o
theorem rng_f {as : Es} {gb : Gh} {D : Ends} {ρ : Rho} {st : Sto} {i : Nat} {b : Ev.S} (o : OutS T nm X.K W gb D (exS T cf (.for_ [i] (.rng as) b) ρ st)) : OutS T nm X.K W gb D ((evA T cf as ρ st).f ρ fun ds st => match rngI ds with
    | some ns => forL (exS T cf b) [i] (ns.map fun n => [.int n]) ρ st
    | none => .no) := by
  have o' : OutS T nm X.K W gb D (((evA T cf as ρ st).bind fun ds st => R.of ((rngI ds).map fun ns => ns.map fun n => [.int n]) st).f ρ fun dss st => forL (exS T cf b) [i] dss ρ st) := o
  cases q : evA T cf as ρ st with
  | ok ds st1 =>
    rw [q] at o'
    have o2 : OutS T nm X.K W gb D ((R.of ((rngI ds).map fun ns => ns.map fun n => [.int n]) st1).f ρ fun dss st => forL (exS T cf b) [i] dss ρ st) := o'
    show OutS T nm X.K W gb D (match rngI ds with
      | some ns => forL (exS T cf b) [i] (ns.map fun n => [.int n]) ρ st1
      | none => .no)
    cases q2 : rngI ds with
    | none => rw [q2] at o2; exact o2
    | some ds => rw [q2] at o2; exact o2
  | er xx st1 => rw [q] at o'; exact o'
  | no => rw [q] at o'; exact o'
theorem ss_forRng1 {e : Expr} {a : E} {i : Nat} {x : Str} {p p1 p2 : Pos} {body : List Stmt} {b : Ev.S} (hp : PassesOwn (model X.prog X.w) X.A X.env X.xe) (hc : X.calm = true) (hg : Gl X "range") (hm : X.mg "range" = none) (ha : PA X [e] (tA T nm X.K cf W (.cons a .nil))) (hN : X.N.Nodup) (hi : X.N[i]? = some x) (hx : Loc X.env.scope x) (hf : X.fn x = true ∨ X.env.scope.names.lookup x = some .local)
    (hb : PSs X body (tS T nm X.K cf W b)) (h1 : starEach [e] X.env = (false, eval e X.env) :: starEach [] X.env) : PS X (.For (.Name x p) (.Call (.Name "range" p1) [e] [] p2) body [] pos) (tS T nm X.K cf W (.for_ [i] (.rng (.cons a .nil)) b)) := by
  refine PS.imp (ps_for hp hc (pi_range1 hg hm ha h1) (pg_name hN hi hx hf) hb (fun _ => rfl)) fun D σ H ⟨gb, g, ρ, st, m, l, n, o⟩ => ⟨g, ρ, st, m, ?_⟩
  refine Out.imp (out_len (OutS.go (rng_f o) l)) fun ds st1 g1 H1 l1 m1 ⟨hl, q⟩ vs r => ?_
  match ds, vs, r, hl with
  | [d], [v], .cons r1 .nil, _ =>
    cases r1 with
    | int j =>
      by_cases hj : -(LINE : Int) < j ∧ j < LINE
      · simp only [rngI, if_pos hj] at q
        have hb1 : (LINE : Int) < 2 ^ 62 := by decide
        have z := rng_main (W := W) m1 (l.trans l1) n q
        rw [show (j - 0).toNat = j.toNat by rw [Int.sub_zero]] at z
        exact ⟨j, rfl, by omega, by omega, z⟩
      · simp only [rngI, if_neg hj] at q
        exact (show False from q).elim
    | _ => exact (show False from q).elim
theorem ss_forRng2 {e e2 : Expr} {a a2 : E} {i : Nat} {x : Str} {p p1 p2 : Pos} {body : List Stmt} {b : Ev.S} (hp : PassesOwn (model X.prog X.w) X.A X.env X.xe) (hc : X.calm = true) (hg : Gl X "range") (hm : X.mg "range" = none) (ha : PA X [e, e2] (tA T nm X.K cf W (.cons a (.cons a2 .nil)))) (hN : X.N.Nodup) (hi : X.N[i]? = some x) (hx : Loc X.env.scope x) (hf : X.fn x = true ∨ X.env.scope.names.lookup x = some .local)
    (hb : PSs X body (tS T nm X.K cf W b)) (h1 : starEach [e, e2] X.env = (false, eval e X.env) :: starEach [e2] X.env) (h2 : starEach [e2] X.env = (false, eval e2 X.env) :: starEach [] X.env) : PS X (.For (.Name x p) (.Call (.Name "range" p1) [e, e2] [] p2) body [] pos) (tS T nm X.K cf W (.for_ [i] (.rng (.cons a (.cons a2 .nil))) b)) := by
  refine PS.imp (ps_for hp hc (pi_range2 hg hm ha (by rw [h1, h2]; rfl) (by rw [h2]; rfl)) (pg_name hN hi hx hf) hb (fun _ => rfl)) fun D σ H ⟨gb, g, ρ, st, m, l, n, o⟩ => ⟨g, ρ, st, m, ?_⟩
  refine Out.imp (out_len (OutS.go (rng_f o) l)) fun ds st1 g1 H1 l1 m1 ⟨hl, q⟩ vs r => ?_
  match ds, vs, r, hl with
  | [d, d2], [v, v2], .cons r1 (.cons r2 .nil), _ =>
    cases r1 with
    | int i1 =>
      cases r2 with
      | int j =>
        by_cases hj : (-(LINE : Int) < i1 ∧ i1 < LINE) ∧ -(LINE : Int) < j ∧ j < LINE
        · simp only [rngI, if_pos hj] at q
          have hb1 : (LINE : Int) < 2 ^ 62 := by decide
          have z := rng_main (W := W) m1 (l.trans l1) n q
          exact ⟨i1, j, rfl, ⟨by omega, by omega, by omega, by omega⟩, z⟩
        · simp only [rngI, if_neg hj] at q
          exact (show False from q).elim
      | _ => exact (show False from q).elim
    | _ => exact (show False from q).elim
end
end Snd
set_option Elab.async false
set_option linter.all false
set_option maxRecDepth 100000
set_option maxHeartbeats 1000000
/-! SndM: list(range(..)), f-strings, slices. -/
namespace Snd
open PySem PySem.Spec PyProof.Rows L2 Ev
section
variable {X : Cx} {T : Tab} {nm : Nm} {W : WX} {cf : Nat → List D → Sto → R D} {pos : Pos} {k : Nat}
theorem reps_ints {K : PySem.W.Frag} {g : Gh} {lo hi : Int} : Reps T nm K g ((rangeI lo hi).map D.int) (rgV lo hi) := by
  unfold rangeI rgV
  rw [List.map_map]
  generalize List.range (hi - lo).toNat = l
  induction l with
  | nil => exact .nil
  | cons a l ih => exact .cons (.int _) ih
theorem se_lrng1 {p p2 pos2 : Pos} {e1 : Expr} {a : E} (hc : X.calm = true) (hg : Gl X "list") (hm : X.mg "list" = none) (hg2 : Gl X "range") (hm2 : X.mg "range" = none) (ha : PE X e1 (tB T nm X.K cf W a))
    (h1 : starEach [e1] X.env = (false, eval e1 X.env) :: starEach [] X.env) (h0 : starEach [Expr.Call (.Name "range" p2) [e1] [] pos2] X.env = (false, eval (Expr.Call (.Name "range" p2) [e1] [] pos2) X.env) :: starEach [] X.env) :
    PE X (.Call (.Name "list" p) [.Call (.Name "range" p2) [e1] [] pos2] [] pos) (tE T nm X.K cf W (.bi .range1 (.cons a .nil))) :=
  PE.imp (pe_listRg hc hg hm (prg_1 hg2 hm2 ha h1) h0) fun σ H Q ⟨g, ρ, st, m, o⟩ => by
    refine ⟨g, ρ, st, m, Out.imp (Out.bind0 (Out.bind0 o)) fun d st1 g1 H1 l1 m1 q v lk => ?_⟩
    have q2 : Out T nm X.K W g ρ σ (fun d _ g' H' => ∀ v, RepR T nm X.K g g' d v → Q v H') (biE T cf .range1 [d] st1) := q g1 H1 l1 m1
    cases d with
    | int n =>
      have e := lk.int m1
      subst e
      by_cases hn : -(LINE : Int) < n ∧ n < LINE
      · have e2 : biE T cf .range1 [.int n] st1 = .ok (.own ((rangeI 0 n).map D.int)) st1 := by
          show R.of (biD .range1 [.int n]) st1 = _
          simp only [biD, if_pos hn]
          rfl
        rw [e2] at q2
        have hb : LINE = 1000000 := rfl
        refine ⟨n, rfl, ⟨by omega, by omega, by omega, by omega, by omega⟩, fun p hp => new_own l1 m1 reps_ints q2 hp⟩
      · have e2 : biE T cf .range1 [.int n] st1 = .no := by
          show R.of (biD .range1 [.int n]) st1 = _
          simp only [biD, if_neg hn]
          rfl
        rw [e2] at q2
        exact q2.elim
    | _ => exact (show False from by first | exact q2 | (revert q2; simp [biE, biD]; try (split <;> intro z <;> exact z))).elim
theorem se_lrng2 {p p2 pos2 : Pos} {e1 e2 : Expr} {a b : E} (hc : X.calm = true) (hg : Gl X "list") (hm : X.mg "list" = none) (hg2 : Gl X "range") (hm2 : X.mg "range" = none) (ha : PE X e1 (tB T nm X.K cf W a)) (hb : PE X e2 (tB T nm X.K cf W b))
    (h1 : starEach [e1, e2] X.env = (false, eval e1 X.env) :: starEach [e2] X.env) (h2 : starEach [e2] X.env = (false, eval e2 X.env) :: starEach [] X.env) (h3 : (backTo pos2 (starEach [e2] X.env)).any (·.1) = false)
    (h0 : starEach [Expr.Call (.Name "range" p2) [e1, e2] [] pos2] X.env = (false, eval (Expr.Call (.Name "range" p2) [e1, e2] [] pos2) X.env) :: starEach [] X.env) :
    PE X (.Call (.Name "list" p) [.Call (.Name "range" p2) [e1, e2] [] pos2] [] pos) (tE T nm X.K cf W (.bi .range2 (.cons a (.cons b .nil)))) :=
  PE.imp (pe_listRg hc hg hm (prg_2 hg2 hm2 ha hb h1 h2 h3) h0) fun σ H Q ⟨g, ρ, st, m, o⟩ => by
    refine ⟨g, ρ, st, m, Out.imp (Out.bind0 (Out.bind0 o)) fun d st1 g1 H1 l1 m1 q v lk => ?_⟩
    refine ⟨g1, ρ, st1, m1, Out.imp ((Out.bind0 (Out.bind0 q)).le l1) fun e st2 g2 H2 l2 m2 q w lk2 => ?_⟩
    have l3 := l1.trans l2
    have q2 : Out T nm X.K W g ρ σ (fun d _ g' H' => ∀ v, RepR T nm X.K g g' d v → Q v H') (biE T cf .range2 [d, e] st2) := q g2 H2 l3 m2 g2 H2 l3 m2
    cases d with
    | int n =>
      have en := (lk.le l2).int m2
      subst en
      cases e with
      | int j =>
        have ej := lk2.int m2
        subst ej
        by_cases hn : (-(LINE : Int) < n ∧ n < LINE) ∧ (-(LINE : Int) < j ∧ j < LINE) ∧ j - n ≤ LINE
        · have e2 : biE T cf .range2 [.int n, .int j] st2 = .ok (.own ((rangeI n j).map D.int)) st2 := by
            show R.of (biD .range2 [.int n, .int j]) st2 = _
            simp only [biD, if_pos hn]
            rfl
          rw [e2] at q2
          have hb : LINE = 1000000 := rfl
          refine ⟨n, j, rfl, rfl, ⟨by omega, by omega, by omega, by omega, by omega⟩, fun p hp => new_own l3 m2 reps_ints q2 hp⟩
        · have e2 : biE T cf .range2 [.int n, .int j] st2 = .no := by
            show R.of (biD .range2 [.int n, .int j]) st2 = _
            simp only [biD, if_neg hn]
            rfl
          rw [e2] at q2
          exact q2.elim
      | _ => exact (show False from by first | exact q2 | (revert q2; simp [biE, biD]; try (split <;> intro z <;> exact z))).elim
    | _ => exact (show False from by first | exact q2 | (revert q2; simp [biE, biD]; try (split <;> intro z <;> exact z))).elim
/-! ### f-strings -/
inductive FJ (X : Cx) (T : Tab) (nm : Nm) (W : WX) (cf : Nat → List D → Sto → R D) : List Expr → Es → List TE → Prop where
  | nil : FJ X T nm W cf [] .nil []
  | fmt {e : Expr} {a : E} {es : List Expr} {as : Es} {ts : List TE} {p : Pos} (h : PE X e (tE T nm X.K cf W a)) (r : FJ X T nm W cf es as ts) : FJ X T nm W cf (.FormattedValue e (-1) none p :: es) (.cons a as) (tFmt (tE T nm X.K cf W a) :: ts)
  | lit {e : Expr} {s : List Nat} {es : List Expr} {as : Es} {ts : List TE} (h : PE X e (tE T nm X.K cf W (.str s))) (r : FJ X T nm W cf es as ts) : FJ X T nm W cf (e :: es) (.cons (.str s) as) (tE T nm X.K cf W (.str s) :: ts)
theorem FJ.pj {es : List Expr} {as : Es} {ts : List TE} (h : FJ X T nm W cf es as ts) : PJ X es ts := by
  induction h with
  | nil => exact .nil
  | fmt h _ ih => exact .cons (pe_fmt h) ih
  | lit h _ ih => exact .cons h ih
theorem fj_go {σ : L2.St} {Q : VK} {g0 : Gh} {ρ : Rho} {es : List Expr} {as : Es} {ts : List TE} (h : FJ X T nm W cf es as ts) : ∀ {acc : List Nat} {g : Gh} {st : Sto} {H : Hp}, Le g0 g → Mt T nm X.K g ρ st σ H →
    Out T nm X.K W g0 ρ σ (fun d _ g' H' => ∀ v, RepR T nm X.K g0 g' d v → Q v H') (evF T cf as acc ρ st) → tJs ts (strOf acc) σ H (fun out H1 => Q (.str out) H1) := by
  have step : ∀ {es : List Expr} {as : Es} {ts : List TE} {acc s : List Nat} {g : Gh} {st : Sto} {H : Hp}, (∀ {acc : List Nat} {g : Gh} {st : Sto} {H : Hp}, Le g0 g → Mt T nm X.K g ρ st σ H →
      Out T nm X.K W g0 ρ σ (fun d _ g' H' => ∀ v, RepR T nm X.K g0 g' d v → Q v H') (evF T cf as acc ρ st) → tJs ts (strOf acc) σ H (fun out H1 => Q (.str out) H1)) → Le g0 g → Mt T nm X.K g ρ st σ H →
      Out T nm X.K W g0 ρ σ (fun d _ g' H' => ∀ v, RepR T nm X.K g0 g' d v → Q v H') (if acc.length + s.length ≤ LINE then evF T cf as (acc ++ s) ρ st else .no) → ∃ y : Str, V.str (strOf s) = .str y ∧ (strOf acc ++ y).length ≤ sizeLine ∧ tJs ts (strOf acc ++ y) σ H (fun out H1 => Q (.str out) H1) := fun {es as ts acc s g st H} ih l m o => by
    by_cases hl : acc.length + s.length ≤ LINE
    · rw [if_pos hl] at o
      refine ⟨strOf s, rfl, ?_, ?_⟩
      · rw [strOf_app, strOf_len, List.length_append]
        exact line_le hl
      · rw [strOf_app]
        exact ih l m o
    · rw [if_neg hl] at o
      exact o.elim
  induction h with
  | nil => intro acc g st H l m o; exact (o.le l).ok m _ (RepR.plain (.str _) rfl)
  | @fmt e a es as ts p h r ih =>
    intro acc g st H l m o
    refine ⟨g, ρ, st, m, Out.imp ((Out.bind0 o).le l) fun d st1 g1 H1 l1 m1 q v r => ?_⟩
    cases d with
    | str s =>
      cases (show Rep T nm X.K g1 (.str s) v from r)
      by_cases hs : s.length ≤ LINE
      · simp only [fmtD, if_pos hs] at q
        exact .inl ⟨strOf s, rfl, by rw [strOf_len]; exact line_le hs, step (es := es) ih (l.trans l1) m1 q⟩
      · simp only [fmtD, if_neg hs] at q
        exact (show False from q).elim
    | int i =>
      cases (show Rep T nm X.K g1 (.int i) v from r)
      by_cases hi : i.natAbs.log2 < 1920
      · simp only [fmtD, if_pos hi] at q
        refine .inr ⟨i, rfl, hi, ?_⟩
        rw [str_int]
        exact step (es := es) ih (l.trans l1) m1 q
      · simp only [fmtD, if_neg hi] at q
        exact (show False from q).elim
    | _ => exact (show False from q).elim
  | @lit e s es as ts h r ih =>
    intro acc g st H l m o
    refine ⟨g, ρ, st, m, fun g1 H1 l1 m1 v r => ?_⟩
    have q : Out T nm X.K W g0 ρ σ (fun d _ g' H' => ∀ v, RepR T nm X.K g0 g' d v → Q v H') (match fmtD (.str s) with
      | some s => if acc.length + s.length ≤ LINE then evF T cf as (acc ++ s) ρ st else .no
      | none => .no) := o
    cases (show Rep T nm X.K g1 (.str s) v from r)
    by_cases hs : s.length ≤ LINE
    · simp only [fmtD, if_pos hs] at q
      exact step (es := es) ih (l.trans l1) m1 q
    · simp only [fmtD, if_neg hs] at q
      exact (show False from q).elim
theorem se_fst {v1 v2 : Expr} {rest : List Expr} {as : Es} {ts : List TE} (h : FJ X T nm W cf (v1 :: v2 :: rest) as ts) : PE X (.JoinedStr (v1 :: v2 :: rest) pos) (tE T nm X.K cf W (.fst as)) :=
  PE.imp (pe_joined h.pj) fun σ H Q ⟨g, ρ, st, m, o⟩ => by
    have e : strOf [] = Str.empty := by simp [strOf, Str.empty]
    rw [← e]
    exact fj_go h (Le.refl g) m o
end
end Snd
set_option Elab.async false
set_option linter.all false
set_option maxRecDepth 100000
set_option maxHeartbeats 1000000
/-! SndN: comprehensions. -/
namespace Snd
open PySem PySem.Spec PyProof.Rows L2 Ev
section
variable {X : Cx} {T : Tab} {nm : Nm} {K : PySem.W.Frag} {W : WX} {cf : Nat → List D → Sto → R D} {pos : Pos} {k : Nat} {g g2 : Gh} {ρ : Rho} {st st2 : Sto} {σ : L2.St} {H H2 : Hp}
/-- a list that nobody names grows -/
theorem Mt.held_upd (m : Mt T nm K g ρ st σ H) {p : Addr} {o : HO} (ws : List V) (h1 : g p = some (.held o)) : Mt T nm K (put g p (.held (.lst ws))) ρ st σ (upd H p (.lst ws)) ∧ Lim g (put g p (.held (.lst ws))) := by
  have pn : ∀ a t, g a = some t → (∀ o, t ≠ .held o) → a ≠ p := fun a t e n z => by
    rw [z, h1] at e
    cases e
    exact n o rfl
  have lm : Lim g (put g p (.held (.lst ws))) := ⟨fun a o e => by rw [put_ne (pn a _ e (fun _ z => nomatch z))]; exact e, fun a j e => by rw [put_ne (pn a _ e (fun _ z => nomatch z))]; exact e⟩
  have ob : ∀ a t, put g p (.held (.lst ws)) a = some t → (∀ o, t ≠ .held o) → a ≠ p ∧ g a = some t := fun a t e n => by
    by_cases z : a = p
    · subst z
      rw [put_same] at e
      cases e
      exact absurd rfl (n _)
    · rw [put_ne z] at e
      exact ⟨z, e⟩
  refine ⟨⟨⟨fun a o e => ?_, fun a o e => ?_, fun j b e => ?_, fun a j e => m.stl a j (ob a _ e (fun _ z => nomatch z)).2, fun a b j e f => m.uniq a b j (ob a _ e (fun _ z => nomatch z)).2 (ob b _ f (fun _ z => nomatch z)).2, fun a t e => ?_⟩, m.len, fun j d z => ?_⟩, lm⟩
  · obtain ⟨n, e'⟩ := ob a _ e (fun _ z => nomatch z)
    rw [upd_ne n]
    exact m.imm a o e'
  · by_cases n : a = p
    · subst n
      rw [put_same] at e
      cases e
      exact upd_same
    · rw [put_ne n] at e
      rw [upd_ne n]
      exact m.held a o e
  · obtain ⟨a, o', e1, e2, rr⟩ := m.sto j b e
    have n := pn a _ e1 (fun _ z => nomatch z)
    exact ⟨a, o', by rw [put_ne n]; exact e1, by rw [upd_ne n]; exact e2, rr.mono lm⟩
  · by_cases n : a = p
    · subst n
      exact ⟨_, upd_same⟩
    · rw [upd_ne n]
      rw [put_ne n] at e
      exact m.trk a t e
  · obtain ⟨w, h3, h4⟩ := m.slots j d z
    exact ⟨w, h3, h4.mono lm fun q e3 => ⟨by rw [put_ne (pn q _ e3 (fun _ z => nomatch z))]; exact e3, upd_ne (pn q _ e3 (fun _ z => nomatch z))⟩⟩
/-- behind a block, its own slot has the value from ahead of it -/
theorem Mt.back (m : Mt T nm K g ρ st σ H) {i : Nat} {x : Option D} {v : Option V} (l : Le g g2) (hp : plainO ρ[i]? = true) (m2 : Mt T nm K g2 (ρ.set i x) st2 (σ.set i v) H2) : Mt T nm K g2 ρ st2 σ H2 := by
  refine ⟨m2.toMt0, m.len, fun j d z => ?_⟩
  by_cases e : i = j
  · subst e
    obtain ⟨w, h1, h2⟩ := m.slots i d z
    rw [z] at hp
    refine ⟨w, h1, ?_⟩
    cases d with
    | own ds => cases hp
    | obj c ds => cases hp
    | exc c ds => cases hp
    | _ => exact Rep.mono l.lim h2
  · obtain ⟨w, h1, h2⟩ := m2.slots j d (by rw [List.getElem?_set_ne e]; exact z)
    rw [List.getElem?_set_ne e] at h1
    exact ⟨w, h1, h2⟩
/-- no error leaves a block -/
def WN : WX := fun _ _ _ _ => False
theorem compL_nil {el : Rho → Sto → R D} {te : Rho → Sto → R Bool} {is : List Nat} {acc : List D} : compL el te ρ is [] acc st = .ok acc st := by rw [compL]
theorem compL_cons {el : Rho → Sto → R D} {te : Rho → Sto → R Bool} {i : Nat} {d : D} {r : List (List D)} {acc ds : List D} {st' : Sto} (h : compL el te ρ [i] ([d] :: r) acc st = .ok ds st') :
    ∃ b st1, te (ρ.set i (some d)) st = .ok b st1 ∧ ((b = false ∧ compL el te ρ [i] r acc st1 = .ok ds st') ∨ (b = true ∧ acc.length < LINE ∧ ∃ y st2, el (ρ.set i (some d)) st1 = .ok y st2 ∧ compL el te ρ [i] r (acc ++ [fz y]) st2 = .ok ds st')) := by
  rw [compL] at h
  simp only [setAll] at h
  cases q : te (ρ.set i (some d)) st with
  | ok b st1 =>
    rw [q] at h
    refine ⟨b, st1, rfl, ?_⟩
    cases b with
    | false => exact .inl ⟨rfl, h⟩
    | true =>
      refine .inr ⟨rfl, ?_⟩
      simp only [bind_ok, if_true] at h
      cases q2 : el (ρ.set i (some d)) st1 with
      | ok y st2 =>
        rw [q2] at h
        simp only [bind_ok] at h
        by_cases hl : acc.length < LINE
        · rw [if_pos hl] at h
          exact ⟨hl, y, st2, rfl, h⟩
        · rw [if_neg hl] at h
          cases h
      | er x st2 => rw [q2] at h; cases h
      | no => rw [q2] at h; cases h
  | er x st1 => rw [q] at h; cases h
  | no => rw [q] at h; cases h
theorem wipe_set {i : Nat} {x : Option V} : (wipe σ [i]).set i x = σ.set i x := by
  show (σ.set i none).set i x = _
  rw [List.set_set]
theorem wipe_again {i : Nat} {x : Option V} : wipe (σ.set i x) [i] = wipe σ [i] := by
  show (σ.set i x).set i none = σ.set i none
  rw [List.set_set]
theorem comp_main {J : L2.It} {items : List D} {g0 g1 : Gh} {st1 : Sto} {H1 : Hp} {i : Nat} {e : E} {t : Tt} {Q : VK} {D : Addr} {ds : List Ev.D} (m1 : Mt T nm K g1 ρ st1 σ H1) (l0 : Le g0 g1) (hD : H1 D = none) (hp : plainO ρ[i]? = true)
    (hJ : ∀ g' st' H', Le g1 g' → Mt T nm K g' ρ st' σ H' → (∀ j, j < items.length → J.go j H') ∧ J.stop items.length H' ∧ ∀ j x H'', j < items.length → J.yld j H' x H'' → H'' = H' ∧ ∃ d, items[j]? = some d ∧ Rep T nm K g' d x)
    (hc : compL (evE T cf e) (evT T cf t) ρ [i] (items.map fun d => [d]) [] st1 = .ok ds st2)
    (hQ : ∀ g' H', Le g0 g' → Mt T nm K g' ρ st2 σ H' → RepR T nm K g0 g' (.own ds) (.ref D) → Q (.ref D) H') :
    ∃ Wv : Nat → Nat → Hp → Prop, (∃ m, Wv 0 m (upd H1 D (.lst []))) ∧ ∀ j m H, Wv j m H →
      (J.stop j H ∧ Q (.ref D) H) ∨ (J.go j H ∧ ∃ Nx : Hp → Prop, (∀ H', Nx H' → ∃ m', m' < m ∧ Wv (j + 1) m' H') ∧ ∀ x H', J.yld j H x H' → gName i x (wipe σ [i]) H' fun σ2 H2 => wipe σ2 [i] = wipe σ [i] ∧ tT T nm K cf WN t σ2 H2 fun b H3 =>
        if b = true then tE T nm K cf WN e σ2 H3 fun y H4 => ∃ acc, H4 D = some (.lst acc) ∧ acc.length < sizeLine ∧ Nx (upd H4 D (.lst (acc ++ [y]))) else Nx H3) := by
  have gD : g1 D = none := by
    cases z : g1 D with
    | none => rfl
    | some t =>
      obtain ⟨o, e⟩ := m1.trk _ _ z
      rw [hD] at e
      cases e
  have gD0 : g0 D = none := by
    cases z : g0 D with
    | none => rfl
    | some t => rw [l0 _ _ z] at gD; cases gD
  refine ⟨fun j m H => m = items.length - j ∧ j ≤ items.length ∧ ∃ g' st' acc vacc, Le g1 g' ∧ Mt T nm K g' ρ st' σ H ∧ g' D = some (.held (.lst vacc)) ∧ Reps T nm K g' acc vacc ∧ compL (evE T cf e) (evT T cf t) ρ [i] ((items.drop j).map fun d => [d]) acc st' = .ok ds st2,
    ⟨_, rfl, Nat.zero_le _, put g1 D (.held (.lst [])), st1, [], [], le_put gD, m1.new hD (.inr rfl), put_same, .nil, by rw [List.drop_zero]; exact hc⟩, ?_⟩
  rintro j m H ⟨rfl, hj, g', st', acc, vacc, l', m', hd, ra, hc'⟩
  obtain ⟨hgo, hstop, hyld⟩ := hJ g' st' H l' m'
  by_cases hlt : j < items.length
  · refine .inr ⟨hgo j hlt, fun H' => ∃ g' st' acc vacc, Le g1 g' ∧ Mt T nm K g' ρ st' σ H' ∧ g' D = some (.held (.lst vacc)) ∧ Reps T nm K g' acc vacc ∧ compL (evE T cf e) (evT T cf t) ρ [i] ((items.drop (j + 1)).map fun d => [d]) acc st' = .ok ds st2,
      fun H' p => ⟨items.length - (j + 1), by omega, rfl, hlt, p⟩, fun x H' hy => ?_⟩
    obtain ⟨eH, d, hi, rd⟩ := hyld j x H' hlt hy
    subst eH
    rw [drop_at hi, List.map_cons] at hc'
    obtain ⟨b, sb, hb, hcase⟩ := compL_cons hc'
    have hgn : ∀ k : L2.St → Hp → Prop, k (σ.set i (some x)) H' → gName i x (wipe σ [i]) H' k := fun k h => by
      show k ((wipe σ [i]).set i (some x)) H'
      rw [wipe_set]
      exact h
    refine hgn _ ⟨wipe_again, g', ρ.set i (some d), st', m'.set (SlR.rep rd), ?_⟩
    rw [hb]
    intro g2 H3 l2 m2
    rcases hcase with ⟨rfl, hr⟩ | ⟨rfl, hl, y, sy, hy2, hr⟩
    · simp only [Bool.false_eq_true, if_false]
      exact ⟨g2, sb, acc, vacc, l'.trans l2, m'.back l2 hp m2, l2 _ _ hd, ra.mono l2.lim, hr⟩
    · simp only [if_true]
      refine ⟨g2, ρ.set i (some d), sb, m2, ?_⟩
      rw [hy2]
      intro g3 H4 l3 m3 v r
      obtain ⟨g4, l4, m4, r4⟩ := kept r m3 l3
      have l24 := l2.trans l4
      have mb := m'.back l24 hp m4
      have hd4 := l24 _ _ hd
      refine ⟨vacc, mb.held _ _ hd4, by rw [← ra.len]; exact line_lt hl, ?_⟩
      obtain ⟨m5, lm5⟩ := mb.held_upd (vacc ++ [v]) hd4
      refine ⟨_, sy, acc ++ [fz y], vacc ++ [v], fun a t z => ?_, m5, put_same, ((ra.mono l24.lim).append (.cons r4 .nil)).mono lm5, hr⟩
      have na : a ≠ D := fun q => by rw [q, gD] at z; cases z
      rw [put_ne na]
      exact (l'.trans l24) _ _ z
  · have e0 : j = items.length := by omega
    subst e0
    rw [List.drop_eq_nil_of_le (Nat.le_refl _), List.map_nil, compL_nil] at hc'
    cases hc'
    exact .inl ⟨hstop, hQ g' H (l0.trans l') m' ⟨D, vacc, rfl, hd, gD0, ra⟩⟩
end
section
variable {X : Cx} {T : Tab} {nm : Nm} {W : WX} {cf : Nat → List D → Sto → R D} {pos : Pos} {k : Nat} {g g1 : Gh} {ρ : Rho} {st st1 : Sto} {σ : L2.St} {H H1 : Hp}
/-- a comprehension's loop has an answer, or the whole has none -/
theorem comp_go {i : Nat} {e : E} {t : Tt} {P : D → Sto → Gh → Hp → Prop} {dss : List (List D)} (o : Out T nm X.K W g ρ σ P (if [i].all fun i => plainO ρ[i]? then (match compL (evE T cf e) (evT T cf t) ρ [i] dss [] st1 with
    | .ok ds st => .ok (.own ds) st
    | _ => .no) else .no)) : plainO ρ[i]? = true ∧ ∃ ds st2, compL (evE T cf e) (evT T cf t) ρ [i] dss [] st1 = .ok ds st2 ∧ Out T nm X.K W g ρ σ P (.ok (.own ds) st2) := by
  by_cases h : ([i].all fun i => plainO ρ[i]?) = true
  · rw [if_pos h] at o
    refine ⟨by simpa using h, ?_⟩
    cases q : compL (evE T cf e) (evT T cf t) ρ [i] dss [] st1 with
    | ok ds st2 => rw [q] at o; exact ⟨ds, st2, rfl, o⟩
    | er x st2 => rw [q] at o; exact o.elim
    | no => rw [q] at o; exact o.elim
  · rw [if_neg h] at o
    exact o.elim
/-- no test -/
theorem pts_none : PTs X [] (tT T nm X.K cf WN (.e (.bl true))) := ⟨fun pins s σ H Q I ⟨g, ρ, st, m, o⟩ => pts_nil.run pins s σ H Q I (show Q true H from Out.ok (show Out T nm X.K WN g ρ σ (fun b _ _ H' => Q b H') (.ok true st) from o) m)⟩
variable {elt iter tgt : Expr} {ifs : List Expr} {scope : Scope} {x : Str} {i : Nat} {px : Pos} {e : E} {t : Tt}
theorem lcSeq_imp {a : E} (σ : L2.St) (H : Hp) (Q : VK) (h : tE T nm X.K cf W (.comp [i] e (.seq a) t) σ H Q) : tLc (iSeq X.K (tE T nm X.K cf W a)) (gName i) (tT T nm X.K cf WN t) (tE T nm X.K cf WN e) [i] σ H Q := by
    obtain ⟨g, ρ, st, m, o⟩ := h
    refine ⟨g, ρ, st, m, Out.imp (Out.bind0 (Out.bind0 o)) fun d st1 g1 H1 l1 m1 q v r => ?_⟩
    cases hd : seqOf d with
    | none => rw [hd] at q; exact (show False from q).elim
    | some ds =>
      rw [hd] at q
      obtain ⟨hp, ds2, st2, hcl, q3⟩ := comp_go (q g1 H1 l1 m1)
      have main : ∀ {J : L2.It}, (∀ g' st' H', Le g1 g' → Mt T nm X.K g' ρ st' σ H' → (∀ j, j < ds.length → J.go j H') ∧ J.stop ds.length H' ∧ ∀ j x H'', j < ds.length → J.yld j H' x H'' → H'' = H' ∧ ∃ d, ds[j]? = some d ∧ Rep T nm X.K g' d x) → ∀ D, H1 D = none → _ :=
        fun hJ D hD => comp_main (e := e) (t := t) (Q := Q) m1 l1 hD hp hJ hcl fun g' H' l m r => q3 g' H' l m _ r
      have lst : ∀ {p' : Addr} {vs : List V}, Reps T nm X.K g1 ds vs → (∀ g' st' H', Le g1 g' → Mt T nm X.K g' ρ st' σ H' → SqL X.K H' p' vs) → ∀ g' st' H', Le g1 g' → Mt T nm X.K g' ρ st' σ H' → (∀ j, j < ds.length → (Itl X.K p').go j H') ∧ (Itl X.K p').stop ds.length H' ∧ ∀ j x H'', j < ds.length → (Itl X.K p').yld j H' x H'' → H'' = H' ∧ ∃ d, ds[j]? = some d ∧ Rep T nm X.K g' d x := fun {p' vs} rs sq g' st' H' l m => by
        have s := sq g' st' H' l m
        refine ⟨fun j hj => ⟨vs, vs[j]'(by rw [← rs.len]; exact hj), s, by simp⟩, ⟨vs, s, by rw [rs.len]; exact Nat.le_refl _⟩, fun j x H'' hj ⟨e1, y⟩ => ⟨e1, ?_⟩⟩
        obtain ⟨d, h1, h2⟩ := rs.at2 (y vs s)
        exact ⟨d, h1, h2.mono l.lim⟩
      have tup : ∀ {p' : Addr} {vs : List V}, Reps T nm X.K g1 ds vs → (∀ g' st' H', Le g1 g' → Mt T nm X.K g' ρ st' σ H' → SqT X.K H' p' vs) → ∀ g' st' H', Le g1 g' → Mt T nm X.K g' ρ st' σ H' → (∀ j, j < ds.length → (Itt X.K p').go j H') ∧ (Itt X.K p').stop ds.length H' ∧ ∀ j x H'', j < ds.length → (Itt X.K p').yld j H' x H'' → H'' = H' ∧ ∃ d, ds[j]? = some d ∧ Rep T nm X.K g' d x := fun {p' vs} rs sq g' st' H' l m => by
        have s := sq g' st' H' l m
        refine ⟨fun j hj => ⟨vs, vs[j]'(by rw [← rs.len]; exact hj), s, by simp⟩, ⟨vs, s, by rw [rs.len]; exact Nat.le_refl _⟩, fun j x H'' hj ⟨e1, y⟩ => ⟨e1, ?_⟩⟩
        obtain ⟨d, h1, h2⟩ := rs.at2 (y vs s)
        exact ⟨d, h1, h2.mono l.lim⟩
      cases d with
      | own es =>
        cases hd
        obtain ⟨p', vs, ev, h1, h2, rs⟩ := r
        exact .inl ⟨p', ev, ⟨vs, .of (m1.held _ _ h1)⟩, main (lst rs fun g' st' H' l' m' => .of (m'.held _ _ (l' _ _ h1)))⟩
      | lst es =>
        cases hd
        have r0 : Rep T nm X.K g1 (.lst ds) v := r
        cases r0 with
        | @lst p' _ vs h1 rs => exact .inl ⟨p', rfl, ⟨vs, .of (m1.imm _ _ h1)⟩, main (lst rs fun g' st' H' l' m' => .of (m'.imm _ _ (l' _ _ h1)))⟩
      | tup es =>
        cases hd
        have r0 : Rep T nm X.K g1 (.tup ds) v := r
        cases r0 with
        | @tup p' _ vs h1 rs =>
          have st_ : ∀ g' st' H', Le g1 g' → Mt T nm X.K g' ρ st' σ H' → SqT X.K H' p' vs := fun g' st' H' l' m' => same_seqT (fun a o e => m'.imm a o (l' _ _ (of_imH e))) h1
          exact .inr ⟨p', rfl, ⟨vs, st_ g1 st1 H1 (Le.refl _) m1⟩, main (tup rs st_)⟩
      | _ => cases hd
theorem se_compSeq {a : E} (hc : X.calm = true) (hN : X.N.Nodup) (ha : PE X iter (tE T nm X.K cf W a)) (ok : BlkOk X.N X.env.scope scope [(x, i)])
    (hg : ∀ (s : Shared) (H : Hp) (C : Addr) (cl : List (Str × Addr)) (fp : List Addr), PG (X.blk s H scope (compEnvC scope cl C X.env) fp) tgt (gName i))
    (ht : ∀ (s : Shared) (H : Hp) (C : Addr) (cl : List (Str × Addr)) (fp : List Addr), PTs (X.blk s H scope (compEnvC scope cl C X.env) fp) ifs (tT T nm X.K cf WN t))
    (he : ∀ (s : Shared) (H : Hp) (C : Addr) (cl : List (Str × Addr)) (fp : List Addr), PE (X.blk s H scope (compEnvC scope cl C X.env) fp) elt (tE T nm X.K cf WN e)) (hs : ∀ y, foldedSetIterable iter X.env y = pure y) :
    PE X (.ListComp elt [⟨tgt, iter, ifs, 0⟩] scope pos) (tE T nm X.K cf W (.comp [i] e (.seq a) t)) :=
  PE.imp (pe_lc hc hN (pi_seq ha) ok hg ht he hs) fun σ H Q h => lcSeq_imp σ H Q h
theorem rng_J {lo hi : Int} : ∀ g' st' H', Le g1 g' → Mt T nm X.K g' ρ st' σ H' → (∀ j, j < ((rangeI lo hi).map D.int).length → (Itr lo (hi - lo).toNat).go j H') ∧ (Itr lo (hi - lo).toNat).stop ((rangeI lo hi).map D.int).length H' ∧ ∀ j x H'', j < ((rangeI lo hi).map D.int).length → (Itr lo (hi - lo).toNat).yld j H' x H'' → H'' = H' ∧ ∃ d, ((rangeI lo hi).map D.int)[j]? = some d ∧ Rep T nm X.K g' d x := fun g' st' H' l m => by
  have ln : ((rangeI lo hi).map D.int).length = (hi - lo).toNat := by rw [List.length_map, rangeI_len]
  rw [ln]
  refine ⟨fun j hj => hj, Nat.le_refl _, fun j x H'' hj ⟨e1, e2⟩ => ⟨e1, .int (lo + (j : Int)), ?_, ?_⟩⟩
  · rw [List.getElem?_map, rangeI_at hj]; rfl
  · rw [e2]; exact .int _
theorem rng_maps {lo hi : Int} : ((rangeI lo hi).map fun n => [D.int n]) = ((rangeI lo hi).map D.int).map fun d => [d] := by rw [List.map_map]; rfl
theorem lcR1_imp {a : E} (σ : L2.St) (H : Hp) (Q : VK) (h : tE T nm X.K cf W (.comp [i] e (.rng (.cons a .nil)) t) σ H Q) : tLc (iRng1 (tA T nm X.K cf W (.cons a .nil))) (gName i) (tT T nm X.K cf WN t) (tE T nm X.K cf WN e) [i] σ H Q := by
    obtain ⟨g, ρ, st, m, o⟩ := h
    refine ⟨g, ρ, st, m, Out.imp (out_len (Out.bind0 (Out.bind0 o))) fun ds st1 g1 H1 l1 m1 ⟨hl, q⟩ vs r => ?_⟩
    match ds, vs, r, hl with
    | [d], [v], .cons r1 .nil, _ =>
      cases r1 with
      | int j =>
        by_cases hj : -(LINE : Int) < j ∧ j < LINE
        · simp only [rngI, if_pos hj] at q
          have hb1 : (LINE : Int) < 2 ^ 62 := by decide
          obtain ⟨hp, ds2, st2, hcl, q3⟩ := comp_go (q g1 H1 l1 m1)
          simp only [rng_maps] at hcl
          refine ⟨j, rfl, by omega, by omega, fun D hD => ?_⟩
          have z := comp_main (e := e) (t := t) (Q := Q) m1 l1 hD hp rng_J hcl fun g' H' l m r => q3 g' H' l m _ r
          rw [show (j - 0).toNat = j.toNat by rw [Int.sub_zero]] at z
          exact z
        · simp only [rngI, if_neg hj] at q
          exact (show False from q).elim
      | _ => exact (show False from q).elim
theorem se_compR1 {e1 : Expr} {p1 p2 : Pos} {a : E} (hc : X.calm = true) (hN : X.N.Nodup) (hgl : Gl X "range") (hm : X.mg "range" = none) (ha : PA X [e1] (tA T nm X.K cf W (.cons a .nil))) (ok : BlkOk X.N X.env.scope scope [(x, i)])
    (hg : ∀ (s : Shared) (H : Hp) (C : Addr) (cl : List (Str × Addr)) (fp : List Addr), PG (X.blk s H scope (compEnvC scope cl C X.env) fp) tgt (gName i))
    (ht : ∀ (s : Shared) (H : Hp) (C : Addr) (cl : List (Str × Addr)) (fp : List Addr), PTs (X.blk s H scope (compEnvC scope cl C X.env) fp) ifs (tT T nm X.K cf WN t))
    (he : ∀ (s : Shared) (H : Hp) (C : Addr) (cl : List (Str × Addr)) (fp : List Addr), PE (X.blk s H scope (compEnvC scope cl C X.env) fp) elt (tE T nm X.K cf WN e)) (h1 : starEach [e1] X.env = (false, eval e1 X.env) :: starEach [] X.env) :
    PE X (.ListComp elt [⟨tgt, .Call (.Name "range" p1) [e1] [] p2, ifs, 0⟩] scope pos) (tE T nm X.K cf W (.comp [i] e (.rng (.cons a .nil)) t)) :=
  PE.imp (pe_lc hc hN (pi_range1 hgl hm ha h1) ok hg ht he) fun σ H Q h => lcR1_imp σ H Q h
theorem lcR2_imp {a a2 : E} (σ : L2.St) (H : Hp) (Q : VK) (h : tE T nm X.K cf W (.comp [i] e (.rng (.cons a (.cons a2 .nil))) t) σ H Q) : tLc (iRng2 (tA T nm X.K cf W (.cons a (.cons a2 .nil)))) (gName i) (tT T nm X.K cf WN t) (tE T nm X.K cf WN e) [i] σ H Q := by
    obtain ⟨g, ρ, st, m, o⟩ := h
    refine ⟨g, ρ, st, m, Out.imp (out_len (Out.bind0 (Out.bind0 o))) fun ds st1 g1 H1 l1 m1 ⟨hl, q⟩ vs r => ?_⟩
    match ds, vs, r, hl with
    | [d, d2], [v, v2], .cons r1 (.cons r2 .nil), _ =>
      cases r1 with
      | int i1 =>
        cases r2 with
        | int j =>
          by_cases hj : (-(LINE : Int) < i1 ∧ i1 < LINE) ∧ -(LINE : Int) < j ∧ j < LINE
          · simp only [rngI, if_pos hj] at q
            have hb1 : (LINE : Int) < 2 ^ 62 := by decide
            obtain ⟨hp, ds2, st2, hcl, q3⟩ := comp_go (q g1 H1 l1 m1)
            simp only [rng_maps] at hcl
            exact ⟨i1, j, rfl, ⟨by omega, by omega, by omega, by omega⟩, fun D hD => comp_main (e := e) (t := t) (Q := Q) m1 l1 hD hp rng_J hcl fun g' H' l m r => q3 g' H' l m _ r⟩
          · simp only [rngI, if_neg hj] at q
            exact (show False from q).elim
        | _ => exact (show False from q).elim
      | _ => exact (show False from q).elim
theorem se_compR2 {e1 e2 : Expr} {p1 p2 : Pos} {a a2 : E} (hc : X.calm = true) (hN : X.N.Nodup) (hgl : Gl X "range") (hm : X.mg "range" = none) (ha : PA X [e1, e2] (tA T nm X.K cf W (.cons a (.cons a2 .nil)))) (ok : BlkOk X.N X.env.scope scope [(x, i)])
    (hg : ∀ (s : Shared) (H : Hp) (C : Addr) (cl : List (Str × Addr)) (fp : List Addr), PG (X.blk s H scope (compEnvC scope cl C X.env) fp) tgt (gName i))
    (ht : ∀ (s : Shared) (H : Hp) (C : Addr) (cl : List (Str × Addr)) (fp : List Addr), PTs (X.blk s H scope (compEnvC scope cl C X.env) fp) ifs (tT T nm X.K cf WN t))
    (he : ∀ (s : Shared) (H : Hp) (C : Addr) (cl : List (Str × Addr)) (fp : List Addr), PE (X.blk s H scope (compEnvC scope cl C X.env) fp) elt (tE T nm X.K cf WN e)) (h1 : starEach [e1, e2] X.env = (false, eval e1 X.env) :: starEach [e2] X.env) (h2 : starEach [e2] X.env = (false, eval e2 X.env) :: starEach [] X.env) :
    PE X (.ListComp elt [⟨tgt, .Call (.Name "range" p1) [e1, e2] [] p2, ifs, 0⟩] scope pos) (tE T nm X.K cf W (.comp [i] e (.rng (.cons a (.cons a2 .nil))) t)) :=
  PE.imp (pe_lc hc hN (pi_range2 hgl hm ha (by rw [h1, h2]; rfl) (by rw [h2]; rfl)) ok hg ht he) fun σ H Q h => lcR2_imp σ H Q h
/-! ### x = [..] -/
theorem ss_set_of {st_ : Stmt} {j : Nat} {a : E} (h : PS X st_ (tAsg (tE T nm X.K cf W a) (gName j))) : PS X st_ (tS T nm X.K cf W (.set j a)) :=
  PS.imp h fun D σ H ⟨gb, g, ρ, st, m, l, n, o⟩ => ⟨g, ρ, st, m, Out.imp (OutS.go o l) fun d st1 g1 H1 l1 m1 q v r => by
    obtain ⟨g2, l2, m2, r2⟩ := kept r m1 l1
    exact q g2 _ H1 (l.trans l2) (m2.set (SlR.rep r2))⟩
theorem ss_own_of {st_ : Stmt} {j : Nat} {a : E} (h : PS X st_ (tAsg (tE T nm X.K cf W a) (gName j))) : PS X st_ (tS T nm X.K cf W (.own j a)) :=
  PS.imp h fun D σ H ⟨gb, g, ρ, st, m, l, n, o⟩ => ⟨g, ρ, st, m, Out.imp (OutS.go o l) fun d st1 g1 H1 l1 m1 q v r => by
    cases d with
    | own ds =>
      obtain ⟨p, vs, ev, h1, h2, h3⟩ := r
      subst ev
      have gn : gb p = none := by
        cases z : gb p with
        | none => rfl
        | some t =>
          rw [l _ _ z] at h2
          cases h2
      exact q _ _ H1 (Le.word (l.trans l1) gn) (m1.take h1 h3)
    | _ => exact q.elim⟩
/-- name = [..] on one line, the name a local -/
theorem asg_lc {j : Nat} {y : Str} {py spos : Pos} {src : Ev.It} {wi : TI} (hc : X.calm = true) (hN : X.N.Nodup) (hy : X.N[j]? = some y) (hyl : X.env.scope.names.lookup y = some .local) (hk : X.env.scope.kind = .function) (hl : (py.line == pos.line) = true)
    (hn : (scope.names.any fun (n, k) => n == y && (k == .local || k == .cell)) = false) (hi : PI X tgt iter wi) (himp : ∀ (σ : L2.St) (H : Hp) (Q : VK), tE T nm X.K cf W (.comp [i] e src t) σ H Q → tLc wi (gName i) (tT T nm X.K cf WN t) (tE T nm X.K cf WN e) [i] σ H Q) (ok : BlkOk X.N X.env.scope scope [(x, i)])
    (hg : ∀ (s : Shared) (H : Hp) (C : Addr) (cl : List (Str × Addr)) (fp : List Addr), PG (X.blk s H scope (compEnvC scope cl C X.env) fp) tgt (gName i))
    (ht : ∀ (s : Shared) (H : Hp) (C : Addr) (cl : List (Str × Addr)) (fp : List Addr), PTs (X.blk s H scope (compEnvC scope cl C X.env) fp) ifs (tT T nm X.K cf WN t))
    (he : ∀ (s : Shared) (H : Hp) (C : Addr) (cl : List (Str × Addr)) (fp : List Addr), PE (X.blk s H scope (compEnvC scope cl C X.env) fp) elt (tE T nm X.K cf WN e)) (hs : ∀ y, foldedSetIterable iter X.env y = pure y) :
    PS X (.Assign [.Name y py] (.ListComp elt [⟨tgt, iter, ifs, 0⟩] scope pos) spos) (tAsg (tE T nm X.K cf W (.comp [i] e src t)) (gName j)) :=
  PS.imp (ps_setLc hc hN hy hyl (sw_true hk hyl hl hn) hi ok hg ht he hs) fun D σ H h => himp σ H _ h
end
end Snd
set_option Elab.async false
set_option linter.all false
set_option maxRecDepth 100000
set_option maxHeartbeats 1000000
/-! SndE0: enumerate and zip over lists and tuples in any mix, at the machine's level. -/
namespace Snd
open PySem PySem.Spec PyProof.Rows L2
/-- an iterator over a list (true) or a tuple (false) -/
def ItAt (q : Bool) (h : Heap) (it l : Addr) (i : Nat) : Prop := match q with
  | true => h.IsListIter it l i
  | false => h.IsTupleIter it l i
def SqAt (q : Bool) (h : Heap) (l : Addr) (xs : Array Value) : Prop := match q with
  | true => h.IsList l xs
  | false => h.IsTuple l xs
section
variable {h h' : Heap} {q q2 : Bool} {it l b : Addr} {i : Nat} {xs : Array Value}
theorem ItAt.to (x : ItAt q h it l i) (e : ∀ o, h.get? it = some o → h'.get? it = some o) : ItAt q h' it l i := by
  cases q
  · exact Heap.IsTupleIter.at x e
  · exact Heap.IsListIter.at x e
theorem ItAt.but (x : ItAt q h it l i) (e : Heap.ExtBut b h h') (n : it ≠ b) : ItAt q h' it l i := x.to fun o ho => e _ _ n ho
theorem SqAt.but (x : SqAt q h l xs) (e : Heap.ExtBut b h h') (n : l ≠ b) : SqAt q h' l xs := by
  cases q
  · exact Heap.IsTuple.extBut x e n
  · exact Heap.IsList.extBut x e n
theorem ItAt.obj (x : ItAt q h it l i) : ∃ o fs, h.get? it = some o ∧ o.data = .fields fs := by
  cases q
  · obtain ⟨o, ho, _, hd⟩ := x
    exact ⟨o, _, ho, hd⟩
  · obtain ⟨o, ho, _, hd⟩ := x
    exact ⟨o, _, ho, hd⟩
theorem ItAt.lt (x : ItAt q h it l i) : it < h.objs.size := by
  obtain ⟨o, fs, ho, _⟩ := x.obj
  exact Heap.lt_size ho
theorem SqAt.lt (x : SqAt q h l xs) : l < h.objs.size := by
  cases q
  · obtain ⟨o, ho, _⟩ := x
    exact Heap.lt_size ho
  · obtain ⟨o, ho, _⟩ := x
    exact Heap.lt_size ho
end
section
variable {prog : Program} {w : World} {A : Around} {E : Value → Shared → Prop} {s : Shared} {q q2 : Bool}
theorem nx_item {it l : Addr} {i : Nat} {xs : Array Value} {x : Value} {Q : Value → Shared → Prop} (a : ItAt q s.heap it l i) (b : SqAt q s.heap l xs) (e : xs[i]? = some x)
    (k : ∀ h', ItAt q h' it l (i + 1) → Heap.SameBut it s.heap h' → Q x { s with heap := h' }) : wpAny (model prog w) A (Builtin.SmallTypes.nextOf (.ref it)) Q E s := by
  cases q
  · exact RZ.nextOf_tuple_item a b e k
  · exact wpAny_nextOf_list_item a b e k
theorem nx_end {it l : Addr} {i : Nat} {xs : Array Value} {Q : Value → Shared → Prop} (hh : A.handled = none) (a : ItAt q s.heap it l i) (b : SqAt q s.heap l xs) (e : xs[i]? = none)
    (k : ∀ h' e, Heap.ExtBut it s.heap h' → (∃ o, h'.get? e = some o ∧ o.cls = .type "StopIteration") → E (.ref e) { s with heap := h' }) : wpAny (model prog w) A (Builtin.SmallTypes.nextOf (.ref it)) Q E s := by
  cases q
  · exact RZ.nextOf_tuple_end hh a b e k
  · exact wpAny_nextOf_list_end hh a b e k
theorem it_new {l : Addr} {xs : Array Value} {Q : Value → Shared → Prop} (b : SqAt q s.heap l xs)
    (k : Q (.ref s.heap.objs.size) { s with heap := s.heap.push { cls := .type (if q then "list_iterator" else "tuple_iterator"), data := .fields #[.ref l, .int 0 0] } }) : wpAny (model prog w) A (pyIter (.ref l)) Q E s := by
  cases q
  · exact wpAny_pyIter_tuple b k
  · exact wpAny_pyIter_list b k
end

/-! ### enumerate -/
section
variable {prog : Program} {w : World} {A : Around} {E : Value → Shared → Prop} {s : Shared} {q q2 : Bool}
theorem en_item {e it l : Addr} {n : Nat} {xs : Array Value} {x y : Value} {Q : Value → Shared → Prop}
    (he : IsEnum s.heap e it n y) (a : ItAt q s.heap it l n) (b : SqAt q s.heap l xs) (hx : xs[n]? = some x) (ne : e ≠ it)
    (k : ∀ h', IsEnumOut h' e it ((n : Int) + 1) x s.heap.objs.size → ItAt q h' it l (n + 1) →
      h'.get? s.heap.objs.size = some { cls := .type "tuple", data := .seq #[.int n s.toks, x] } → h'.objs.size = s.heap.objs.size + 1 →
      (∀ c o, c ≠ e → c ≠ it → s.heap.get? c = some o → h'.get? c = some o) → Q (.ref s.heap.objs.size) { s with heap := h', toks := s.toks + 1 }) :
    wpAny (model prog w) A (Builtin.«enumerate.__next__» ⟨[.ref e], []⟩) (fun fin s' => ∃ v, fin = .done (.ret v) ∧ Q v s') E s := by
  obtain ⟨h0, gl, dd, tk, os⟩ := s
  show wpAny _ _ (field (.ref e) 2 >>= _) _ _ ⟨h0, gl, dd, tk, os⟩
  refine wpAny_bind (wpAny_field he rfl (x := .ref it) rfl ?_)
  refine wpAny_bind (nx_item a b hx fun u1 a1 s1 => ?_)
  replace s1 : Heap.SameBut it h0 u1 := s1
  have e1 : IsEnum u1 e it n y := (s1.2 e ne).trans he
  show wpAny _ _ (field (.ref e) 3 >>= _) _ _ ⟨u1, gl, dd, tk, os⟩
  refine wpAny_bind (wpAny_field e1 rfl (x := rawInt n) rfl ?_)
  show wpAny _ _ (field (.ref e) 4 >>= _) _ _ ⟨u1, gl, dd, tk, os⟩
  refine wpAny_bind (wpAny_field e1 rfl (x := .none) rfl ?_)
  show wpAny _ _ (mkInt n >>= _) _ _ ⟨u1, gl, dd, tk, os⟩
  refine wpAny_bind (wpAny_mkInt ?_)
  show wpAny _ _ (setField (.ref e) 3 (rawInt ((n : Int) + 1)) >>= _) _ _ ⟨u1, gl, dd, tk + 1, os⟩
  refine wpAny_bind (wpAny_setField_rec e1 (by simp) fun u2 e2 s2 => ?_)
  replace s2 : Heap.SameBut e u1 u2 := s2
  replace e2 : IsEnum u2 e it ((n : Int) + 1) y := e2
  show wpAny _ _ (setField (.ref e) 4 .none >>= _) _ _ ⟨u2, gl, dd, tk + 1, os⟩
  refine wpAny_bind (wpAny_setField_rec e2 (by simp) fun u3 e3 s3 => ?_)
  replace s3 : Heap.SameBut e u2 u3 := s3
  replace e3 : IsEnum u3 e it ((n : Int) + 1) y := e3
  show wpAny _ _ (newTuple [.int n tk, x] >>= _) _ _ ⟨u3, gl, dd, tk + 1, os⟩
  refine wpAny_bind (wpAny_newTuple ?_)
  have z3 : u3.objs.size = h0.objs.size := by rw [s3.1, s2.1, s1.1]
  have el : e < h0.objs.size := Heap.lt_size he
  have a3 : ItAt q u3 it l (n + 1) := (a1.but s2.extBut ne.symm).but s3.extBut ne.symm
  have k3 : ∀ c o, c ≠ e → c ≠ it → h0.get? c = some o → u3.get? c = some o := fun c o c1 c2 z => s3.extBut c o c1 (s2.extBut c o c1 (s1.extBut c o c2 z))
  have push : ∃ u4, u4 = u3.push { cls := .type "tuple", data := .seq #[.int n tk, x] } := ⟨_, rfl⟩
  obtain ⟨u4, h4⟩ := push
  rw [← h4]
  have e4 : IsEnum u4 e it ((n : Int) + 1) y := by rw [h4]; exact Heap.get?_push_of_some _ e3
  have t4 : u4.get? h0.objs.size = some { cls := .type "tuple", data := .seq #[.int n tk, x] } := by rw [h4, ← z3]; exact Heap.get?_push_size _ rfl
  have z4 : u4.objs.size = h0.objs.size + 1 := by rw [h4, Heap.size_push, z3]
  have k4 : ∀ c o, c ≠ e → c ≠ it → h0.get? c = some o → u4.get? c = some o := fun c o c1 c2 z => by rw [h4]; exact Heap.get?_push_of_some _ (k3 c o c1 c2 z)
  have a4 : ItAt q u4 it l (n + 1) := a3.to fun o z => by rw [h4]; exact Heap.get?_push_of_some _ z
  show wpAny _ _ (Builtin.SmallTypes.ownedTupleIsFree (.ref e) >>= _) _ _ ⟨u4, gl, dd, tk + 1, os⟩
  rw [z3]
  clear h4 k3 a3 z3 e3 s3 e2 s2 e1 s1 a1 u3 u2 u1
  refine wpAny_bind ?_
  unfold Builtin.SmallTypes.ownedTupleIsFree
  refine wpAny_bind (wpAny_field e4 rfl (x := .none) rfl (wpAny_pure ?_))
  simp only [if_true]
  refine wpAny_bind (wpAny_rule ?_)
  refine wpAny_bind (wpAny_field e4 rfl (x := y) rfl ?_)
  refine wpAny_bind (wpAny_setField_rec e4 (by simp) fun u5 e5 s5 => ?_)
  replace s5 : Heap.SameBut e u4 u5 := s5
  replace e5 : IsEnum u5 e it ((n : Int) + 1) x := e5
  show wpAny _ _ (Builtin.SmallTypes.ownedTupleHandOut (.ref e) (.ref h0.objs.size) >>= _) _ _ ⟨u5, gl, dd, tk + 1, os⟩
  refine wpAny_bind ?_
  unfold Builtin.SmallTypes.ownedTupleHandOut
  refine wpAny_bind (wpAny_setField_rec e5 (by simp) fun u6 e6 s6 => ?_)
  replace s6 : Heap.SameBut e u5 u6 := s6
  replace e6 : IsEnumOut u6 e it ((n : Int) + 1) x h0.objs.size := e6
  refine wpAny_setField_rec e6 (by simp) fun u7 e7 s7 => ?_
  replace s7 : Heap.SameBut e u6 u7 := s7
  replace e7 : IsEnumOut u7 e it ((n : Int) + 1) x h0.objs.size := e7
  have up : ∀ c o, c ≠ e → u4.get? c = some o → u7.get? c = some o := fun c o c1 z => s7.extBut c o c1 (s6.extBut c o c1 (s5.extBut c o c1 z))
  refine wpAny_bind (wpAny_letGo (wpAny_pure ⟨_, rfl, k u7 e7 (a4.to fun o z => up _ _ ne.symm z) (up _ _ (Nat.ne_of_gt el) t4) ?_ fun c o c1 c2 z => up c o c1 (k4 c o c1 c2 z)⟩))
  rw [s7.1, s6.1, s5.1, z4]
theorem en_next {e it l : Addr} {n : Nat} {xs : Array Value} {x y : Value} {Q : Option Value → Shared → Prop}
    (he : IsEnum s.heap e it n y) (a : ItAt q s.heap it l n) (b : SqAt q s.heap l xs) (hx : xs[n]? = some x) (ne : e ≠ it)
    (k : ∀ h', IsEnumOut h' e it ((n : Int) + 1) x s.heap.objs.size → ItAt q h' it l (n + 1) →
      h'.get? s.heap.objs.size = some { cls := .type "tuple", data := .seq #[.int n s.toks, x] } → h'.objs.size = s.heap.objs.size + 1 →
      (∀ c o, c ≠ e → c ≠ it → s.heap.get? c = some o → h'.get? c = some o) → Q (some (.ref s.heap.objs.size)) { s with heap := h', toks := s.toks + 1 }) :
    wpAny (model prog w) A (pyNext (.ref e)) Q E s := by
  have ty : s.TypeIs (.ref e) "enumerate" := ⟨_, he, rfl⟩
  unfold pyNext
  exact wpAny_bind (wpAny_attempt (wpAny_callSpecial?_slot (name := Str.ofString "__next__") ty F.slot_enumerate_next (wpAny_call_entry F.slot_enumerate_next ty F.entry_enumerate_next
    (en_item he a b hx ne fun h' r1 r2 r3 r4 r5 => wpAny_pure (k h' r1 r2 r3 r4 r5)) (F.args_enumerate_next_1 _))))
theorem en_stop {e it l : Addr} {n : Nat} {xs : Array Value} {y : Value} {Q : Option Value → Shared → Prop} (hh : A.handled = none)
    (he : IsEnum s.heap e it n y) (a : ItAt q s.heap it l n) (b : SqAt q s.heap l xs) (hx : xs[n]? = none)
    (k : ∀ h', Heap.ExtBut it s.heap h' → Q none { s with heap := h' }) : wpAny (model prog w) A (pyNext (.ref e)) Q E s := by
  have ty : s.TypeIs (.ref e) "enumerate" := ⟨_, he, rfl⟩
  unfold pyNext
  refine wpAny_bind (wpAny_attempt (wpAny_callSpecial?_slot (name := Str.ofString "__next__") ty F.slot_enumerate_next (wpAny_call_entry F.slot_enumerate_next ty F.entry_enumerate_next ?_ (F.args_enumerate_next_1 _))))
  show wpAny _ _ (field (.ref e) 2 >>= _) _ _ s
  refine wpAny_bind (wpAny_field he rfl (x := .ref it) rfl ?_)
  refine wpAny_bind (nx_end hh a b hx fun h' z he' ⟨o, ho, hc⟩ => ?_)
  refine wpAny_bind (wpAny_isInstance (T := "StopIteration") (b := true) ⟨o, ho, hc⟩ isSubtype_stop ?_)
  exact wpAny_pure (k _ he')
end
/-- enumerate(tuple), made -/
theorem en_new (l : Addr) (xs : Array Value) :
    Meets (Builtin.«enumerate.__new__» ⟨[.type "enumerate", .ref l], []⟩) (fun _ R s => s.heap.IsTuple l xs ∧
      R (.ok (.ret (.ref (s.heap.push { cls := .type "tuple_iterator", data := .fields #[.ref l, .int 0 0] }).objs.size)))
        { s with heap := (s.heap.push { cls := .type "tuple_iterator", data := .fields #[.ref l, .int 0 0] }).push { cls := .type "enumerate", data := .fields #[.none, .bool false, .ref s.heap.objs.size, rawInt 0, .none, .none] } }) :=
  .of_wp fun prog w A R s h => by
    obtain ⟨h0, gl, dd, tk, os⟩ := s
    obtain ⟨hl, h⟩ := h
    have hsub := sub_enumerate
    have hL : Heap.IsTuple (Shared.heap ⟨h0, gl, dd, tk, os⟩) l xs := hl
    obtain ⟨ol, hol, rest⟩ := id hl
    wp_walk using AutoSeq1.wpAny_loadPart' hol
    refine wpAny_stack_any fun st => wpAny_pure ?_
    split
    · rename_i c _ _ _ _ _
      cases (c == Value.type "enumerate")
      · wp_walk using wpAny_pyIter_tuple hL
        exact ⟨_, rfl, h⟩
      · wp_walk using wpAny_pyIter_tuple hL
        exact ⟨_, rfl, h⟩
    · wp_walk using wpAny_pyIter_tuple hL
      exact ⟨_, rfl, h⟩
section
variable {prog : Program} {w : World} {A : Around} {E : Value → Shared → Prop} {s : Shared} {q q2 : Bool}
theorem en_call {l : Addr} {xs : Array Value} {Q : Value → Shared → Prop} (b : SqAt q s.heap l xs)
    (k : ∀ h', IsEnum h' (s.heap.objs.size + 1) s.heap.objs.size 0 .none → ItAt q h' s.heap.objs.size l 0 → (∀ c o, s.heap.get? c = some o → h'.get? c = some o) → Q (.ref (s.heap.objs.size + 1)) { s with heap := h' }) :
    wpAny (model prog w) A (call (.type "enumerate") [.ref l]) Q E s := by
  cases q with
  | true => exact call_enumerate_list b fun h' r1 r2 _ r4 => k h' r1 r2 r4
  | false =>
    refine callType_new F.called_enumerate (by decide) (F.typeCall_enumerate_1 _) (F.newCall_enumerate_1 _) (fun obj => F.args_object_init_2 obj _) F.entry_enumerate_new (en_new l xs) ⟨b, ?_⟩
    have z1 : (s.heap.push { cls := .type "tuple_iterator", data := .fields #[.ref l, .int 0 0] }).objs.size = s.heap.objs.size + 1 := Heap.size_push ..
    have g1 := Heap.get?_push_size (s.heap.push { cls := .type "tuple_iterator", data := .fields #[.ref l, .int 0 0] }) (o := { cls := .type "enumerate", data := .fields #[.none, .bool false, .ref s.heap.objs.size, rawInt 0, .none, .none] }) rfl
    show _ ∧ _
    rw [z1] at g1 ⊢
    exact ⟨⟨_, g1, rfl⟩, k _ g1 ⟨_, Heap.get?_push_of_some _ (Heap.get?_push_size _ rfl), rfl, rfl⟩ fun c o z => Heap.get?_push_of_some _ (Heap.get?_push_of_some _ z)⟩
end
/-! ### zip -/
section
variable {prog : Program} {w : World} {A : Around} {E : Value → Shared → Prop} {s : Shared} {q q2 : Bool}
theorem zp_item {z TI TO i1 i2 l1 l2 : Addr} {n1 n2 : Nat} {xs ys : Array Value} {x y a b : Value} {Q : Value → Shared → Prop} (ap : ZipApart z TI TO i1 i2 l1 l2)
    (hz : IsZip s.heap z TI TO .none) (ti : IsPair s.heap TI (.ref i1) (.ref i2)) (to : IsPair s.heap TO a b)
    (a1 : ItAt q s.heap i1 l1 n1) (a2 : ItAt q2 s.heap i2 l2 n2) (b1 : SqAt q s.heap l1 xs) (b2 : SqAt q2 s.heap l2 ys) (hx : xs[n1]? = some x) (hy : ys[n2]? = some y)
    (k : ∀ h', IsZip h' z TI TO (rawInt s.heap.objs.size) → IsPair h' TO x y → ItAt q h' i1 l1 (n1 + 1) → ItAt q2 h' i2 l2 (n2 + 1) → IsPair h' s.heap.objs.size x y → h'.objs.size = s.heap.objs.size + 1 →
      (∀ c o, c ≠ z → c ≠ TO → c ≠ i1 → c ≠ i2 → s.heap.get? c = some o → h'.get? c = some o) → Q (.ref s.heap.objs.size) { s with heap := h' }) :
    wpAny (model prog w) A (Builtin.«zip.__next__» ⟨[.ref z], []⟩) (fun fin s' => ∃ v, fin = .done (.ret v) ∧ Q v s') E s := by
  show wpAny _ _ (field (.ref z) 2 >>= _) _ _ s
  refine wpAny_bind (wpAny_field hz rfl (x := .bool false) rfl ?_)
  show wpAny _ _ (field (.ref z) 3 >>= _) _ _ s
  refine wpAny_bind (wpAny_field hz rfl (x := .ref TI) rfl ?_)
  refine wpAny_bind (wpAny_seqItems ti rfl ?_)
  show wpAny _ _ (Builtin.SmallTypes.ownedTupleIsFree (.ref z) >>= _) _ _ s
  refine wpAny_bind ?_
  unfold Builtin.SmallTypes.ownedTupleIsFree
  refine wpAny_bind (wpAny_field hz rfl (x := .none) rfl (wpAny_pure ?_))
  simp only [if_true]
  refine wpAny_bind (wpAny_rule ?_)
  refine wpAny_bind (wpAny_field hz rfl (x := .ref TO) rfl ?_)
  refine wpAny_bind (wpAny_setField_rec hz (by simp) fun u1 z1 s1 => ?_)
  replace z1 : IsZip u1 z TI TO .ellipsis := z1
  refine wpAny_bind ?_
  simp only [List.zipIdx_cons, List.zipIdx_nil, List.forIn_cons, List.forIn_nil]
  refine wpAny_bind (wpAny_bind (wpAny_onRaise ?_))
  show wpAny _ _ (Builtin.SmallTypes.nextOf (.ref i1) >>= _) _ _ _
  refine wpAny_bind (nx_item (a1.but s1.extBut ap.i1z) (b1.but s1.extBut ap.l1z) hx fun u2 r1 s2 => wpAny_pure ?_)
  have to2 : IsPair u2 TO a b := s2.extBut _ _ ap.TOi1 (s1.extBut _ _ ap.TOz to)
  refine wpAny_bind (wpAny_seqItems to2 rfl ?_)
  refine wpAny_bind (wpAny_updateSeq_pair to2 fun u3 to3 s3 => ?_)
  replace to3 : IsPair u3 TO x b := to3
  refine wpAny_bind (wpAny_letGo (wpAny_pure ?_))
  refine wpAny_bind (wpAny_bind (wpAny_onRaise ?_))
  show wpAny _ _ (Builtin.SmallTypes.nextOf (.ref i2) >>= _) _ _ _
  refine wpAny_bind (nx_item (((a2.but s1.extBut ap.i2z).but s2.extBut ap.i12.symm).but s3.extBut ap.TOi2.symm) (((b2.but s1.extBut ap.l2z).but s2.extBut ap.l2i1).but s3.extBut ap.l2TO) hy fun u4 r2 s4 => wpAny_pure ?_)
  have to4 : IsPair u4 TO x b := s4.extBut _ _ ap.TOi2 to3
  refine wpAny_bind (wpAny_seqItems to4 rfl ?_)
  refine wpAny_bind (wpAny_updateSeq_pair to4 fun u5 to5 s5 => ?_)
  replace to5 : IsPair u5 TO x y := to5
  refine wpAny_bind (wpAny_letGo (wpAny_pure (wpAny_pure ?_)))
  refine wpAny_bind (wpAny_seqItems to5 rfl ?_)
  refine wpAny_bind (wpAny_newTuple ?_)
  have sz : u5.objs.size = s.heap.objs.size := by rw [s5.1, s4.1, s3.1, s2.1, s1.1]
  have z5 : IsZip u5 z TI TO .ellipsis := s5.extBut _ _ ap.TOz.symm (s4.extBut _ _ ap.i2z.symm (s3.extBut _ _ ap.TOz.symm (s2.extBut _ _ ap.i1z.symm z1)))
  have kp : ∀ c o, c ≠ z → c ≠ TO → c ≠ i1 → c ≠ i2 → s.heap.get? c = some o → u5.get? c = some o := fun c o c1 c2 c3 c4 e => s5.extBut _ _ c2 (s4.extBut _ _ c4 (s3.extBut _ _ c2 (s2.extBut _ _ c3 (s1.extBut _ _ c1 e))))
  have a51 : ItAt q u5 i1 l1 (n1 + 1) := ((r1.but s3.extBut ap.TOi1.symm).but s4.extBut ap.i12).but s5.extBut ap.TOi1.symm
  have a52 : ItAt q2 u5 i2 l2 (n2 + 1) := r2.but s5.extBut ap.TOi2.symm
  have zl : z < u5.objs.size := Heap.lt_size z5
  show wpAny _ _ (Builtin.SmallTypes.ownedTupleHandOut (.ref z) (.ref u5.objs.size) >>= _) _ _ _
  refine wpAny_bind ?_
  unfold Builtin.SmallTypes.ownedTupleHandOut
  have z6 : IsZip (u5.push { cls := .type "tuple", data := .seq #[x, y] }) z TI TO .ellipsis := Heap.get?_push_of_some _ z5
  refine wpAny_bind (wpAny_setField_rec z6 (by simp) fun u7 z7 s7 => ?_)
  replace z7 : IsZip u7 z TI TO (rawInt u5.objs.size) := z7
  refine wpAny_setField_rec z7 (by simp) fun u8 z8 s8 => ?_
  replace z8 : IsZip u8 z TI TO (rawInt u5.objs.size) := z8
  have up : ∀ c o, c ≠ z → u5.get? c = some o → u8.get? c = some o := fun c o c1 e => s8.extBut _ _ c1 (s7.extBut _ _ c1 (Heap.get?_push_of_some _ e))
  have t8 : IsPair u8 u5.objs.size x y := s8.extBut _ _ (Nat.ne_of_gt zl) (s7.extBut _ _ (Nat.ne_of_gt zl) (Heap.get?_push_size _ rfl))
  have l8 : u8.objs.size = u5.objs.size + 1 := by rw [s8.1, s7.1, Heap.size_push]
  rw [sz] at z8 t8 l8
  refine wpAny_pure ⟨_, rfl, ?_⟩
  show Q (.ref u5.objs.size) _
  rw [sz]
  exact k u8 z8 (up _ _ ap.TOz to5) (a51.to fun o e => up _ o ap.i1z e) (a52.to fun o e => up _ o ap.i2z e) t8 l8 fun c o c1 c2 c3 c4 e => up c o c1 (kp c o c1 c2 c3 c4 e)
theorem zp_end {z TI TO i1 i2 l1 l2 : Addr} {n1 n2 : Nat} {xs ys : Array Value} {a b : Value} {Q : Fin → Shared → Prop} (hh : A.handled = none) (ap : ZipApart z TI TO i1 i2 l1 l2)
    (hz : IsZip s.heap z TI TO .none) (ti : IsPair s.heap TI (.ref i1) (.ref i2)) (to : IsPair s.heap TO a b)
    (a1 : ItAt q s.heap i1 l1 n1) (a2 : ItAt q2 s.heap i2 l2 n2) (b1 : SqAt q s.heap l1 xs) (b2 : SqAt q2 s.heap l2 ys) (hend : xs[n1]? = none ∨ ys[n2]? = none)
    (k : ∀ h' e, (∀ c o, c ≠ z → c ≠ TO → c ≠ i1 → c ≠ i2 → s.heap.get? c = some o → h'.get? c = some o) → (∃ o, h'.get? e = some o ∧ o.cls = .type "StopIteration") → E (.ref e) { s with heap := h' }) :
    wpAny (model prog w) A (Builtin.«zip.__next__» ⟨[.ref z], []⟩) Q E s := by
  show wpAny _ _ (field (.ref z) 2 >>= _) _ _ s
  refine wpAny_bind (wpAny_field hz rfl (x := .bool false) rfl ?_)
  show wpAny _ _ (field (.ref z) 3 >>= _) _ _ s
  refine wpAny_bind (wpAny_field hz rfl (x := .ref TI) rfl ?_)
  refine wpAny_bind (wpAny_seqItems ti rfl ?_)
  show wpAny _ _ (Builtin.SmallTypes.ownedTupleIsFree (.ref z) >>= _) _ _ s
  refine wpAny_bind ?_
  unfold Builtin.SmallTypes.ownedTupleIsFree
  refine wpAny_bind (wpAny_field hz rfl (x := .none) rfl (wpAny_pure ?_))
  simp only [if_true]
  refine wpAny_bind (wpAny_rule ?_)
  refine wpAny_bind (wpAny_field hz rfl (x := .ref TO) rfl ?_)
  refine wpAny_bind (wpAny_setField_rec hz (by simp) fun u1 z1 s1 => ?_)
  replace z1 : IsZip u1 z TI TO .ellipsis := z1
  refine wpAny_bind ?_
  simp only [List.zipIdx_cons, List.zipIdx_nil, List.forIn_cons, List.forIn_nil]
  refine wpAny_bind (wpAny_bind (wpAny_onRaise ?_))
  show wpAny _ _ (Builtin.SmallTypes.nextOf (.ref i1) >>= _) _ _ _
  have ia := a1.but s1.extBut ap.i1z
  have ib := b1.but s1.extBut ap.l1z
  cases hx : xs[n1]? with
  | none =>
    refine wpAny_bind (nx_end hh ia ib hx fun u2 e s2 ⟨oe, hoe, hce⟩ => ?_)
    have z2 : IsZip u2 z TI TO .ellipsis := s2 _ _ ap.i1z.symm z1
    have ez : e ≠ z := fun x => by
      subst x
      rw [z2] at hoe
      cases hoe
      simp at hce
    refine wpAny_setField_rec z2 (by simp) fun u3 _ s3 => k u3 e (fun c o c1 _ c3 _ x => s3.extBut _ _ c1 (s2 _ _ c3 (s1.extBut _ _ c1 x))) ⟨oe, s3.extBut _ _ ez hoe, hce⟩
  | some x =>
    have hy : ys[n2]? = none := hend.resolve_left fun h => by rw [hx] at h; cases h
    refine wpAny_bind (nx_item ia ib hx fun u2 r1 s2 => wpAny_pure ?_)
    have to2 : IsPair u2 TO a b := s2.extBut _ _ ap.TOi1 (s1.extBut _ _ ap.TOz to)
    refine wpAny_bind (wpAny_seqItems to2 rfl ?_)
    refine wpAny_bind (wpAny_updateSeq_pair to2 fun u3 to3 s3 => ?_)
    refine wpAny_bind (wpAny_letGo (wpAny_pure ?_))
    refine wpAny_bind (wpAny_bind (wpAny_onRaise ?_))
    show wpAny _ _ (Builtin.SmallTypes.nextOf (.ref i2) >>= _) _ _ _
    refine wpAny_bind (nx_end hh (((a2.but s1.extBut ap.i2z).but s2.extBut ap.i12.symm).but s3.extBut ap.TOi2.symm) (((b2.but s1.extBut ap.l2z).but s2.extBut ap.l2i1).but s3.extBut ap.l2TO) hy fun u4 e s4 ⟨oe, hoe, hce⟩ => ?_)
    have z4 : IsZip u4 z TI TO .ellipsis := s4 _ _ ap.i2z.symm (s3.extBut _ _ ap.TOz.symm (s2.extBut _ _ ap.i1z.symm z1))
    have ez : e ≠ z := fun x => by
      subst x
      rw [z4] at hoe
      cases hoe
      simp at hce
    refine wpAny_setField_rec z4 (by simp) fun u5 _ s5 => k u5 e (fun c o c1 c2 c3 c4 x => s5.extBut _ _ c1 (s4 _ _ c4 (s3.extBut _ _ c2 (s2.extBut _ _ c3 (s1.extBut _ _ c1 x))))) ⟨oe, s5.extBut _ _ ez hoe, hce⟩
theorem zp_next {z TI TO i1 i2 l1 l2 : Addr} {n1 n2 : Nat} {xs ys : Array Value} {x y a b : Value} {Q : Option Value → Shared → Prop} (ap : ZipApart z TI TO i1 i2 l1 l2)
    (hz : IsZip s.heap z TI TO .none) (ti : IsPair s.heap TI (.ref i1) (.ref i2)) (to : IsPair s.heap TO a b)
    (a1 : ItAt q s.heap i1 l1 n1) (a2 : ItAt q2 s.heap i2 l2 n2) (b1 : SqAt q s.heap l1 xs) (b2 : SqAt q2 s.heap l2 ys) (hx : xs[n1]? = some x) (hy : ys[n2]? = some y)
    (k : ∀ h', IsZip h' z TI TO (rawInt s.heap.objs.size) → IsPair h' TO x y → ItAt q h' i1 l1 (n1 + 1) → ItAt q2 h' i2 l2 (n2 + 1) → IsPair h' s.heap.objs.size x y → h'.objs.size = s.heap.objs.size + 1 →
      (∀ c o, c ≠ z → c ≠ TO → c ≠ i1 → c ≠ i2 → s.heap.get? c = some o → h'.get? c = some o) → Q (some (.ref s.heap.objs.size)) { s with heap := h' }) :
    wpAny (model prog w) A (pyNext (.ref z)) Q E s := by
  have ty : s.TypeIs (.ref z) "zip" := ⟨_, hz, rfl⟩
  unfold pyNext
  exact wpAny_bind (wpAny_attempt (wpAny_callSpecial?_slot (name := Str.ofString "__next__") ty F.slot_zip_next (wpAny_call_entry F.slot_zip_next ty F.entry_zip_next
    (zp_item ap hz ti to a1 a2 b1 b2 hx hy fun h' r1 r2 r3 r4 r5 r6 r7 => wpAny_pure (k h' r1 r2 r3 r4 r5 r6 r7)) (F.args_zip_next_1 _))))
theorem zp_stop {z TI TO i1 i2 l1 l2 : Addr} {n1 n2 : Nat} {xs ys : Array Value} {a b : Value} {Q : Option Value → Shared → Prop} (hh : A.handled = none) (ap : ZipApart z TI TO i1 i2 l1 l2)
    (hz : IsZip s.heap z TI TO .none) (ti : IsPair s.heap TI (.ref i1) (.ref i2)) (to : IsPair s.heap TO a b)
    (a1 : ItAt q s.heap i1 l1 n1) (a2 : ItAt q2 s.heap i2 l2 n2) (b1 : SqAt q s.heap l1 xs) (b2 : SqAt q2 s.heap l2 ys) (hend : xs[n1]? = none ∨ ys[n2]? = none)
    (k : ∀ h', (∀ c o, c ≠ z → c ≠ TO → c ≠ i1 → c ≠ i2 → s.heap.get? c = some o → h'.get? c = some o) → Q none { s with heap := h' }) : wpAny (model prog w) A (pyNext (.ref z)) Q E s := by
  have ty : s.TypeIs (.ref z) "zip" := ⟨_, hz, rfl⟩
  unfold pyNext
  refine wpAny_bind (wpAny_attempt (wpAny_callSpecial?_slot (name := Str.ofString "__next__") ty F.slot_zip_next (wpAny_call_entry F.slot_zip_next ty F.entry_zip_next
    (zp_end hh ap hz ti to a1 a2 b1 b2 hend fun h' e hk ⟨o, ho, hc⟩ => ?_) (F.args_zip_next_1 _))))
  refine wpAny_bind (wpAny_isInstance (T := "StopIteration") (b := true) ⟨o, ho, hc⟩ isSubtype_stop ?_)
  exact wpAny_pure (k _ hk)
end
def iN (q : Bool) (l : Addr) : Obj := { cls := .type (if q then "list_iterator" else "tuple_iterator"), data := .fields #[.ref l, .int 0 0] }
abbrev zA (q : Bool) (h : Heap) (l1 : Addr) : Heap := h.push (iN q l1)
abbrev zB (q q2 : Bool) (h : Heap) (l1 l2 : Addr) : Heap := (zA q h l1).push (iN q2 l2)
abbrev zC (q q2 : Bool) (h : Heap) (l1 l2 : Addr) : Heap := (zB q q2 h l1 l2).push { cls := .type "tuple", data := .seq #[.ref h.objs.size, .ref (zA q h l1).objs.size] }
abbrev zD (q q2 : Bool) (h : Heap) (l1 l2 : Addr) : Heap := (zC q q2 h l1 l2).push { cls := .type "tuple", data := .seq #[.none, .none] }
abbrev zE (q q2 : Bool) (h : Heap) (l1 l2 : Addr) : Heap := (zD q q2 h l1 l2).push { cls := .type "zip", data := .fields #[.none, .bool false, .bool false, .ref (zB q q2 h l1 l2).objs.size, .ref (zC q q2 h l1 l2).objs.size] }
theorem zp_new (q q2 : Bool) (l1 l2 : Addr) (xs ys : Array Value) :
    Meets (Builtin.«zip.__new__» ⟨[.type "zip", .ref l1, .ref l2], []⟩) (fun _ R s => SqAt q s.heap l1 xs ∧ SqAt q2 s.heap l2 ys ∧
      R (.ok (.ret (.ref (zD q q2 s.heap l1 l2).objs.size))) { s with heap := zE q q2 s.heap l1 l2 }) :=
  .of_wp fun prog w A R s h => by
    obtain ⟨h0, gl, dd, tk, os⟩ := s
    obtain ⟨c1, c2, h⟩ := h
    have hsub := sub_zip
    cases q <;> cases q2
    · have d1 : Heap.IsTuple (Shared.heap ⟨h0, gl, dd, tk, os⟩) l1 xs := c1
      have d2 : Heap.IsTuple (Shared.heap ⟨h0.push { cls := .type "tuple_iterator", data := .fields #[.ref l1, .int 0 0] }, gl, dd, tk, os⟩) l2 ys := Heap.IsTuple.push c2 _
      wp_walk using wpAny_pyIter_tuple d1, wpAny_pyIter_tuple d2
      exact ⟨_, rfl, h⟩
    · have d1 : Heap.IsTuple (Shared.heap ⟨h0, gl, dd, tk, os⟩) l1 xs := c1
      have d2 : Heap.IsList (Shared.heap ⟨h0.push { cls := .type "tuple_iterator", data := .fields #[.ref l1, .int 0 0] }, gl, dd, tk, os⟩) l2 ys := Heap.IsList.push c2 _
      wp_walk using wpAny_pyIter_tuple d1, wpAny_pyIter_list d2
      exact ⟨_, rfl, h⟩
    · have d1 : Heap.IsList (Shared.heap ⟨h0, gl, dd, tk, os⟩) l1 xs := c1
      have d2 : Heap.IsTuple (Shared.heap ⟨h0.push { cls := .type "list_iterator", data := .fields #[.ref l1, .int 0 0] }, gl, dd, tk, os⟩) l2 ys := Heap.IsTuple.push c2 _
      wp_walk using wpAny_pyIter_list d1, wpAny_pyIter_tuple d2
      exact ⟨_, rfl, h⟩
    · have d1 : Heap.IsList (Shared.heap ⟨h0, gl, dd, tk, os⟩) l1 xs := c1
      have d2 : Heap.IsList (Shared.heap ⟨h0.push { cls := .type "list_iterator", data := .fields #[.ref l1, .int 0 0] }, gl, dd, tk, os⟩) l2 ys := Heap.IsList.push c2 _
      wp_walk using wpAny_pyIter_list d1, wpAny_pyIter_list d2
      exact ⟨_, rfl, h⟩
theorem itAt_new {q : Bool} {h : Heap} {it l : Addr} (e : h.get? it = some (iN q l)) : ItAt q h it l 0 := by
  cases q
  · exact ⟨_, e, rfl, rfl⟩
  · exact ⟨_, e, rfl, rfl⟩
section
variable {prog : Program} {w : World} {A : Around} {E : Value → Shared → Prop} {s : Shared} {q q2 : Bool}
theorem zp_call {l1 l2 : Addr} {xs ys : Array Value} {Q : Value → Shared → Prop} (b1 : SqAt q s.heap l1 xs) (b2 : SqAt q2 s.heap l2 ys)
    (k : ∀ h', IsZip h' (s.heap.objs.size + 4) (s.heap.objs.size + 2) (s.heap.objs.size + 3) .none → IsPair h' (s.heap.objs.size + 2) (.ref s.heap.objs.size) (.ref (s.heap.objs.size + 1)) →
      IsPair h' (s.heap.objs.size + 3) .none .none → ItAt q h' s.heap.objs.size l1 0 → ItAt q2 h' (s.heap.objs.size + 1) l2 0 →
      (∀ c o, s.heap.get? c = some o → h'.get? c = some o) → Q (.ref (s.heap.objs.size + 4)) { s with heap := h' }) :
    wpAny (model prog w) A (call (.type "zip") [.ref l1, .ref l2]) Q E s := by
  refine callType_new F.called_zip (by decide) (F.typeCall_zip_2 _ _) (F.newCall_zip_2 _ _) (fun obj => F.args_object_init_3 obj _ _) F.entry_zip_new (zp_new q q2 l1 l2 xs ys) ⟨b1, b2, ?_⟩
  have y1 : (zA q s.heap l1).objs.size = s.heap.objs.size + 1 := Heap.size_push ..
  have y2 : (zB q q2 s.heap l1 l2).objs.size = s.heap.objs.size + 2 := by rw [Heap.size_push, y1]
  have y3 : (zC q q2 s.heap l1 l2).objs.size = s.heap.objs.size + 3 := by rw [Heap.size_push, y2]
  have y4 : (zD q q2 s.heap l1 l2).objs.size = s.heap.objs.size + 4 := by rw [Heap.size_push, y3]
  have f : ∀ (h : Heap) (o o' : Obj) (c : Addr), h.get? c = some o → (h.push o').get? c = some o := fun h o o' c z => Heap.get?_push_of_some _ z
  have p5 : (zE q q2 s.heap l1 l2).get? (zD q q2 s.heap l1 l2).objs.size = some _ := Heap.get?_push_size _ rfl
  have p4 : (zE q q2 s.heap l1 l2).get? (zC q q2 s.heap l1 l2).objs.size = some _ := f _ _ _ _ (Heap.get?_push_size _ rfl)
  have p3 : (zE q q2 s.heap l1 l2).get? (zB q q2 s.heap l1 l2).objs.size = some _ := f _ _ _ _ (f _ _ _ _ (Heap.get?_push_size _ rfl))
  have p2 : (zE q q2 s.heap l1 l2).get? (zA q s.heap l1).objs.size = some (iN q2 l2) := f _ _ _ _ (f _ _ _ _ (f _ _ _ _ (Heap.get?_push_size _ rfl)))
  have p1 : (zE q q2 s.heap l1 l2).get? s.heap.objs.size = some (iN q l1) := f _ _ _ _ (f _ _ _ _ (f _ _ _ _ (f _ _ _ _ (Heap.get?_push_size _ rfl))))
  show _ ∧ _
  rw [y2, y3, y4] at p5
  rw [y1, y2] at p3
  rw [y3] at p4
  rw [y1] at p2
  rw [y4]
  exact ⟨⟨_, p5, rfl⟩, k _ p5 p3 p4 (itAt_new p1) (itAt_new p2) fun c o x => f _ _ _ _ (f _ _ _ _ (f _ _ _ _ (f _ _ _ _ (f _ _ _ _ x))))⟩
end
end Snd
set_option Elab.async false
set_option linter.all false
set_option maxRecDepth 100000
set_option maxHeartbeats 1000000
/-! SndE1: enumerate and zip as what a for walks. -/
namespace Snd
open PySem PySem.Spec PyProof.Rows L2
/-- a list's or a tuple's items -/
def SqQ (K : PySem.W.Frag) (q : Bool) (H : Hp) (a : Addr) (xs : List V) : Prop := match q with
  | true => SqL K H a xs
  | false => SqT K H a xs
section
variable {X : Cx} {pins : List (Addr × Obj)} {σ : L2.St} {H : Hp} {s : Shared} {q q2 : Bool} {a b : Addr} {xs ys : List V}
theorem sq_at (I : Inv X pins σ H s) (h : SqQ X.K q H a xs) : ∃ its : List Value, Vals xs its ∧ SqAt q s.heap a its.toArray := by
  cases q
  · obtain ⟨its, rv, p, _⟩ := I.tuple h
    exact ⟨its, rv, p⟩
  · obtain ⟨its, rv, p, _⟩ := I.list h
    exact ⟨its, rv, p.isList⟩
theorem sq_inj (I : Inv X pins σ H s) (h : SqQ X.K q H a xs) (h' : SqQ X.K q H a ys) : xs = ys := by
  cases q
  · exact I.tuple_inj h h'
  · exact I.list_inj h h'
end
def ItE (K : PySem.W.Frag) (q : Bool) (a : Addr) : It :=
  ⟨fun i H => ∃ (xs : List V) (x : V), SqQ K q H a xs ∧ xs[i]? = some x,
    fun i H v H' => ∃ T x, v = .ref T ∧ H T = none ∧ H' = upd H T (.tup [.int (i : Nat), x]) ∧ ∀ xs, SqQ K q H a xs → xs[i]? = some x,
    fun i H => ∃ xs : List V, SqQ K q H a xs ∧ xs.length ≤ i⟩
theorem turnE {P : Program} {w : World} {K : PySem.W.Frag} {elts : List Expr} {kk : Nat} {tpos : Pos} (q : Bool) (a e it : Addr) :
    Turn P w K (.Tuple elts kk tpos) (ItE K q a) [e, it] e (fun i h => (∃ old, IsEnum h e it ((i : Nat) : Int) old) ∧ ItAt q h it a i ∧ e ≠ it) where
  mem := by simp
  obj := fun i h ⟨⟨old, he⟩, ha, _⟩ b hb => by
    obtain ⟨o, fs, ho, hd⟩ := ha.obj
    have e' : b = e ∨ b = it := by simpa using hb
    rcases e' with z | z
    · rw [z]
      exact ⟨_, he, fun v y => nomatch y⟩
    · rw [z]
      exact ⟨o, ho, fun v y => by rw [hd] at y; cases y⟩
  keep := fun i h h' ⟨⟨old, he⟩, ha, ne⟩ k => ⟨⟨old, k e (by simp) _ he⟩, ha.to fun o y => k it (by simp) o y, ne⟩
  item := by
    intro X hP hw hK hc i pins s σ H E I hf ⟨⟨old, he⟩, ha, ne⟩ ⟨xs, x, hq, hx⟩
    subst hP hw hK
    obtain ⟨its, rv, p⟩ := sq_at I hq
    obtain ⟨u, hu, ru⟩ := rv.get hx
    have el : e < s.heap.objs.size := Heap.lt_size he
    have il := ha.lt
    refine en_next he ha p (x := u) (by simpa using hu) ne fun h' ho ha' hT hsz hk => ?_
    refine ⟨_, rfl, wpAny_letOwnedTupleGo_enum (s := { s with heap := h', toks := s.toks + 1 }) ho fun h2 he' sb => ?_⟩
    have t2 : h2.get? s.heap.objs.size = some { cls := .type "tuple", data := .seq #[.int i s.toks, u] } := (sb.2 _ (Nat.ne_of_gt el)).trans hT
    have nw : ObjOk X.prog X.w (upd H s.heap.objs.size (.tup [.int (i : Nat), x])) h2 s.heap.objs.size (.tup [.int (i : Nat), x]) :=
      ⟨by show 2 ≤ sizeLine; decide, [.int i s.toks, u], .cons ⟨_, rfl⟩ (.cons ru .nil), ⟨_, t2, rfl, _, rfl⟩⟩
    have I2 : Inv X pins σ (upd H s.heap.objs.size (.tup [.int (i : Nat), x])) { s with heap := h2, toks := s.toks + 1 } :=
      I.turnedNew (ch := [e, it]) (fun b ob hb y => (sb.2 b (fun z => hb (by simp [z]))).trans (hk b ob (fun z => hb (by simp [z])) (fun z => hb (by simp [z])) y)) hf (Nat.le_refl _) nw
    have e1 : ((i + 1 : Nat) : Int) = (i : Int) + 1 := by omega
    refine ⟨.ref s.heap.objs.size, _, I2, rfl, ⟨_, x, rfl, I.hok.fresh (Nat.le_refl _), rfl, fun ys hy => by rw [sq_inj I hy hq]; exact hx⟩, ⟨⟨u, by rw [e1]; exact he'⟩, ha'.to fun o y => (sb.2 it ne.symm).trans y, ne⟩, fun b hb => ?_⟩
    have lt : b < s.heap.objs.size := by
      have e' : b = e ∨ b = it := by simpa using hb
      rcases e' with z | z
      · rw [z]; exact el
      · rw [z]; exact il
    rw [upd_ne (Nat.ne_of_lt lt)]
    exact (hf b hb).1
  done := by
    intro X hP hw hK hc i pins s σ H E I hf ⟨⟨old, he⟩, ha, ne⟩ ⟨xs, hq, hx⟩
    subst hP hw hK
    obtain ⟨its, rv, p⟩ := sq_at I hq
    obtain ⟨f0, f1, f2, f3, f4, f5⟩ := hf it (by simp)
    have hl := rv.length
    exact en_stop (I.ok.hd hc) he ha p (by simp; omega) fun h' eb => ⟨rfl, I.turned (t' := s.toks) (fun b o hb y => eb b o hb y) f0 f1 f3 f4 f5⟩
  self := fun A i s Q E ⟨⟨_, he⟩, _⟩ h => wpAny_pyIter_enum he h
def iE (K : PySem.W.Frag) (ta : TA) : TI := fun σ H R => ta σ H fun vs H1 => ∃ (q : Bool) (a : Addr) (xs : List V), vs = [.ref a] ∧ SqQ K q H1 a xs ∧ R (ItE K q a) H1
theorem pi_E {X : Cx} {e : Expr} {ta : TA} {p pos tpos : Pos} {elts : List Expr} {kk : Nat} (hg : Gl X "enumerate") (hm : X.mg "enumerate" = none) (ha : PA X [e] ta) (hs : starEach [e] X.env = [(false, eval e X.env)]) :
    PI X (.Tuple elts kk tpos) (.Call (.Name "enumerate" p) [e] [] pos) (iE X.K ta) := by
  refine ⟨fun pins s σ H R I h => ?_⟩
  refine Call_ (ld_blt I hg hm boot_enumerate (PyProof.Rows.callWith_type1 (thn (ha.run pos pins s σ H _ I h) fun us s1 ⟨vs, H1, I1, r1, q1⟩ => ?_) hs rfl))
  obtain ⟨q, a, xs, ex, hq, z⟩ := q1
  subst ex
  cases r1 with
  | cons r rr =>
    cases rr
    cases r
    obtain ⟨its, rv, p1⟩ := sq_at I1 hq
    refine en_call p1 fun h' he ha' hk => wpAny_pyIter_enum he ?_
    refine ⟨s1.heap.objs.size + 1, [s1.heap.objs.size + 1, s1.heap.objs.size], _, _, H1, rfl, I1.kept (t' := s1.toks) hk, turnE q a (s1.heap.objs.size + 1) s1.heap.objs.size, ⟨⟨.none, he⟩, ha', Nat.succ_ne_self _⟩, fun b hb => ?_, z⟩
    have e' : b = s1.heap.objs.size + 1 ∨ b = s1.heap.objs.size := by simpa using hb
    have le : s1.heap.objs.size ≤ b := by rcases e' with z | z <;> rw [z] <;> first | exact Nat.le_refl _ | exact Nat.le_add_right _ _
    exact I1.fpOk le (I1.hok.fresh le)
/-! ### zip -/
def ItZ (K : PySem.W.Frag) (q q2 : Bool) (a b : Addr) : It :=
  ⟨fun i H => ∃ (xs ys : List V) (x y : V), SqQ K q H a xs ∧ SqQ K q2 H b ys ∧ xs[i]? = some x ∧ ys[i]? = some y,
    fun i H v H' => ∃ T x y, v = .ref T ∧ H T = none ∧ H' = upd H T (.tup [x, y]) ∧ (∀ xs, SqQ K q H a xs → xs[i]? = some x) ∧ ∀ ys, SqQ K q2 H b ys → ys[i]? = some y,
    fun i H => ∃ xs ys : List V, SqQ K q H a xs ∧ SqQ K q2 H b ys ∧ (xs.length ≤ i ∨ ys.length ≤ i)⟩
theorem turnZ {P : Program} {w : World} {K : PySem.W.Frag} {elts : List Expr} {kk : Nat} {tpos : Pos} (q q2 : Bool) {a b z TI TO i1 i2 : Addr} (ap : ZipApart z TI TO i1 i2 a b) :
    Turn P w K (.Tuple elts kk tpos) (ItZ K q q2 a b) [z, TI, TO, i1, i2] z (fun i h => IsZip h z TI TO .none ∧ IsPair h TI (.ref i1) (.ref i2) ∧ (∃ x y, IsPair h TO x y) ∧ ItAt q h i1 a i ∧ ItAt q2 h i2 b i) where
  mem := by simp
  obj := fun i h ⟨hz, ti, ⟨x, y, to⟩, a1, a2⟩ c hc => by
    obtain ⟨o1, fs1, ho1, hd1⟩ := a1.obj
    obtain ⟨o2, fs2, ho2, hd2⟩ := a2.obj
    simp only [List.mem_cons, List.not_mem_nil, or_false] at hc
    rcases hc with rfl | rfl | rfl | rfl | rfl
    · exact ⟨_, hz, fun v y => nomatch y⟩
    · exact ⟨_, ti, fun v y => nomatch y⟩
    · exact ⟨_, to, fun v y => nomatch y⟩
    · exact ⟨o1, ho1, fun v y => by rw [hd1] at y; cases y⟩
    · exact ⟨o2, ho2, fun v y => by rw [hd2] at y; cases y⟩
  keep := fun i h h' ⟨hz, ti, ⟨x, y, to⟩, a1, a2⟩ k => ⟨k z (by simp) _ hz, k TI (by simp) _ ti, ⟨x, y, k TO (by simp) _ to⟩, a1.to fun o y => k i1 (by simp) o y, a2.to fun o y => k i2 (by simp) o y⟩
  item := by
    intro X hP hw hK hc i pins s σ H E I hf ⟨hz, ti, ⟨x0, y0, to⟩, a1, a2⟩ ⟨xs, ys, x, y, hq1, hq2, hx, hy⟩
    subst hP hw hK
    obtain ⟨its, rv, p1⟩ := sq_at I hq1
    obtain ⟨its2, rv2, p2⟩ := sq_at I hq2
    obtain ⟨u, hu, ru⟩ := rv.get hx
    obtain ⟨u2, hu2, ru2⟩ := rv2.get hy
    have zl : z < s.heap.objs.size := Heap.lt_size hz
    have lts : ∀ c, c ∈ [z, TI, TO, i1, i2] → c < s.heap.objs.size := fun c hc => by
      simp only [List.mem_cons, List.not_mem_nil, or_false] at hc
      rcases hc with rfl | rfl | rfl | rfl | rfl
      · exact zl
      · exact Heap.lt_size ti
      · exact Heap.lt_size to
      · exact a1.lt
      · exact a2.lt
    refine zp_next ap hz ti to a1 a2 p1 p2 (x := u) (y := u2) (by simpa using hu) (by simpa using hu2) fun h' z' to' a1' a2' hT hsz hk => ?_
    refine ⟨_, rfl, wpAny_letOwnedTupleGo_zip (s := { s with heap := h' }) z' fun h2 z2 sb => ?_⟩
    have t2 : h2.get? s.heap.objs.size = some { cls := .type "tuple", data := .seq #[u, u2] } := (sb.2 _ (Nat.ne_of_gt zl)).trans hT
    have nw : ObjOk X.prog X.w (upd H s.heap.objs.size (.tup [x, y])) h2 s.heap.objs.size (.tup [x, y]) :=
      ⟨by show 2 ≤ sizeLine; decide, [u, u2], .cons ru (.cons ru2 .nil), ⟨_, t2, rfl, _, rfl⟩⟩
    have I2 : Inv X pins σ (upd H s.heap.objs.size (.tup [x, y])) { s with heap := h2 } :=
      I.turnedNew (t' := s.toks) (ch := [z, TI, TO, i1, i2]) (fun c o hb w => (sb.2 c (fun y => hb (by simp [y]))).trans (hk c o (fun y => hb (by simp [y])) (fun y => hb (by simp [y])) (fun y => hb (by simp [y])) (fun y => hb (by simp [y])) w)) hf (Nat.le_refl _) nw
    refine ⟨.ref s.heap.objs.size, _, I2, rfl, ⟨_, x, y, rfl, I.hok.fresh (Nat.le_refl _), rfl, fun l hl => by rw [sq_inj I hl hq1]; exact hx, fun l hl => by rw [sq_inj I hl hq2]; exact hy⟩,
      ⟨z2, (sb.2 _ ap.TIz).trans (hk _ _ ap.TIz ap.TITO ap.TIi1 ap.TIi2 ti), ⟨u, u2, (sb.2 _ ap.TOz).trans to'⟩, a1'.to fun o w => (sb.2 _ ap.i1z).trans w, a2'.to fun o w => (sb.2 _ ap.i2z).trans w⟩, fun c hcm => ?_⟩
    rw [upd_ne (Nat.ne_of_lt (lts c hcm))]
    exact (hf c hcm).1
  done := by
    intro X hP hw hK hc i pins s σ H E I hf ⟨hz, ti, ⟨x0, y0, to⟩, a1, a2⟩ ⟨xs, ys, hq1, hq2, hend⟩
    subst hP hw hK
    obtain ⟨its, rv, p1⟩ := sq_at I hq1
    obtain ⟨its2, rv2, p2⟩ := sq_at I hq2
    have l1 := rv.length
    have l2 := rv2.length
    have he : its.toArray[i]? = none ∨ its2.toArray[i]? = none := by
      rcases hend with w | w
      · exact .inl (by simp; omega)
      · exact .inr (by simp; omega)
    exact zp_stop (I.ok.hd hc) ap hz ti to a1 a2 p1 p2 he fun h' hk => ⟨rfl, I.turnedL (t' := s.toks) (ch := [z, TI, TO, i1, i2]) (fun c o hb w =>
      hk c o (fun y => hb (by simp [y])) (fun y => hb (by simp [y])) (fun y => hb (by simp [y])) (fun y => hb (by simp [y])) w) hf⟩
  self := fun A i s Q E st h => wpAny_pyIter_zip st.1 h
def iZ (K : PySem.W.Frag) (ta : TA) : TI := fun σ H R => ta σ H fun vs H1 => ∃ (q q2 : Bool) (a b : Addr) (xs ys : List V), vs = [.ref a, .ref b] ∧ SqQ K q H1 a xs ∧ SqQ K q2 H1 b ys ∧ R (ItZ K q q2 a b) H1
theorem pi_Z {X : Cx} {e e2 : Expr} {ta : TA} {p pos tpos : Pos} {elts : List Expr} {kk : Nat} (hg : Gl X "zip") (hm : X.mg "zip" = none) (ha : PA X [e, e2] ta)
    (hs : starEach [e, e2] X.env = (false, eval e X.env) :: starEach [e2] X.env) (hpl : (backTo pos (starEach [e2] X.env)).any (·.1) = false) :
    PI X (.Tuple elts kk tpos) (.Call (.Name "zip" p) [e, e2] [] pos) (iZ X.K ta) := by
  refine ⟨fun pins s σ H R I h => ?_⟩
  refine Call_ (ld_blt I hg hm PyProof.Rows.boot_zip (PyProof.Rows.callWith_type1 (thn (ha.run pos pins s σ H _ I h) fun us s1 ⟨vs, H1, I1, r1, q1⟩ => ?_) hs hpl))
  obtain ⟨q, q2, a, b, xs, ys, ex, hq1, hq2, w⟩ := q1
  subst ex
  cases r1 with
  | cons r rr =>
    cases rr with
    | cons r' rr =>
      cases rr
      cases r
      cases r'
      obtain ⟨its, rv, p1⟩ := sq_at I1 hq1
      obtain ⟨its2, rv2, p2⟩ := sq_at I1 hq2
      refine zp_call p1 p2 fun h' hz ti to a1 a2 hk => wpAny_pyIter_zip hz ?_
      refine ⟨s1.heap.objs.size + 4, [s1.heap.objs.size + 4, s1.heap.objs.size + 2, s1.heap.objs.size + 3, s1.heap.objs.size, s1.heap.objs.size + 1], _, _, H1, rfl, I1.kept (t' := s1.toks) hk, turnZ q q2 (PySem.W.ktu_apart s1.heap.objs.size a b p1.lt p2.lt), ⟨hz, ti, ⟨_, _, to⟩, a1, a2⟩, fun c hcm => ?_, w⟩
      simp only [List.mem_cons, List.not_mem_nil, or_false] at hcm
      have le : s1.heap.objs.size ≤ c := by rcases hcm with z | z | z | z | z <;> rw [z] <;> first | exact Nat.le_refl _ | exact Nat.le_add_right _ _
      exact I1.fpOk le (I1.hok.fresh le)
end Snd
set_option Elab.async false
set_option linter.all false
set_option maxRecDepth 100000
set_option maxHeartbeats 1000000
/-! SndE2: for and comprehensions over enumerate and zip. -/
namespace Snd
open PySem PySem.Spec PyProof.Rows L2 Ev
section
variable {X : Cx} {T : Tab} {nm : Nm} {W : WX} {cf : Nat → List D → Sto → R D} {pos : Pos} {k : Nat} {g g0 g1 gb : Gh} {ρ : Rho} {st st1 st2 : Sto} {σ : L2.St} {H H1 : Hp}
/-- a row that was read stays -/
theorem row_ok {d : Ev.D} {ds : List Ev.D} {v : V} (r : RepR T nm X.K g g1 d v) (m : Mt T nm X.K g1 ρ st σ H1) (h : seqOf d = some ds) :
    ∃ (p : Addr) (q : Bool) (vs : List V), v = .ref p ∧ Reps T nm X.K g1 ds vs ∧ ∀ (g' : Gh) (ρ' : Rho) (st' : Sto) (σ' : L2.St) (H' : Hp), Le (strip g1) g' → Mt T nm X.K g' ρ' st' σ' H' → SqQ X.K q H' p vs := by
  cases d with
  | own es =>
    cases h
    obtain ⟨p, vs, ev, h1, h2, rs⟩ := r
    exact ⟨p, true, vs, ev, rs, fun g' ρ' st' σ' H' l' m' => .of (m'.held _ _ (l' _ _ (strip_of h1 fun i y => nomatch y)))⟩
  | lst es =>
    cases h
    have r0 : Rep T nm X.K g1 (.lst ds) v := r
    cases r0 with
    | @lst p _ vs h1 rs => exact ⟨p, true, vs, rfl, rs, fun g' ρ' st' σ' H' l' m' => .of (m'.imm _ _ (l' _ _ (strip_of h1 fun i y => nomatch y)))⟩
  | tup es =>
    cases h
    have r0 : Rep T nm X.K g1 (.tup ds) v := r
    cases r0 with
    | @tup p _ vs h1 rs => exact ⟨p, false, vs, rfl, rs, fun g' ρ' st' σ' H' l' m' => same_seqT (fun a o e => m'.imm a o (l' _ _ (strip_of (of_imH e) fun i y => nomatch y))) h1⟩
  | _ => cases h
/-- what yields new pairs -/
def Src2 (T : Tab) (nm : Nm) (K : PySem.W.Frag) (g1 : Gh) (J : L2.It) (dss : List (List Ev.D)) : Prop := ∀ (g' : Gh) (ρ' : Rho) (st' : Sto) (σ' : L2.St) (H' : Hp), Le (strip g1) g' → Mt T nm K g' ρ' st' σ' H' →
  (∀ j, j < dss.length → J.go j H') ∧ J.stop dss.length H' ∧ ∀ j x H'', j < dss.length → J.yld j H' x H'' → ∃ p v1 v2 d1 d2, x = .ref p ∧ H' p = none ∧ H'' = upd H' p (.tup [v1, v2]) ∧ dss[j]? = some [d1, d2] ∧ Rep T nm K g' d1 v1 ∧ Rep T nm K g' d2 v2
theorem enumD_len : ∀ (ds : List Ev.D) (k : Int), (enumD k ds).length = ds.length
  | [], _ => rfl
  | _ :: ds, k => by simp [enumD, enumD_len ds]
theorem enumD_at : ∀ (ds : List Ev.D) (k : Int) (j : Nat) (d : Ev.D), ds[j]? = some d → (enumD k ds)[j]? = some [.int (k + j), d]
  | [], _, _, _, h => by simp at h
  | x :: ds, k, 0, d, h => by
    simp at h
    simp [enumD, h]
  | x :: ds, k, j + 1, d, h => by
    have := enumD_at ds (k + 1) j d (by simpa using h)
    have e : k + 1 + (j : Int) = k + ((j + 1 : Nat) : Int) := by omega
    rw [e] at this
    simpa [enumD] using this
theorem src_enum {ds : List Ev.D} {vs : List V} {p : Addr} {q : Bool} (rs : Reps T nm X.K g1 ds vs) (hs : ∀ (g' : Gh) (ρ' : Rho) (st' : Sto) (σ' : L2.St) (H' : Hp), Le (strip g1) g' → Mt T nm X.K g' ρ' st' σ' H' → SqQ X.K q H' p vs) : Src2 T nm X.K g1 (ItE X.K q p) (enumD 0 ds) := fun g' ρ' st' σ' H' l m => by
  have s := hs g' ρ' st' σ' H' l m
  have ln : (enumD 0 ds).length = vs.length := by rw [enumD_len, rs.len]
  refine ⟨fun j hj => ⟨vs, vs[j]'(by omega), s, by simp⟩, ⟨vs, s, by omega⟩, fun j x H'' hj ⟨t, y, e1, e2, e3, e4⟩ => ?_⟩
  obtain ⟨d, h1, h2⟩ := rs.at2 (e4 vs s)
  exact ⟨t, _, _, .int j, d, e1, e2, e3, by have := enumD_at ds 0 j d h1; rw [Int.zero_add] at this; exact this, .int _, (h2.mono lim_strip).mono l.lim⟩
theorem zipD_len : ∀ (ds es : List Ev.D), (zipD ds es).length = min ds.length es.length
  | [], es => by simp [zipD]
  | _ :: _, [] => by simp [zipD]
  | _ :: ds, _ :: es => by simp [zipD, zipD_len ds es]
theorem zipD_at : ∀ (ds es : List Ev.D) (j : Nat) (d e : Ev.D), ds[j]? = some d → es[j]? = some e → (zipD ds es)[j]? = some [d, e]
  | [], _, _, _, _, h, _ => by simp at h
  | _ :: _, [], _, _, _, _, h => by simp at h
  | x :: ds, y :: es, 0, d, e, h, h' => by
    simp at h h'
    simp [zipD, h, h']
  | x :: ds, y :: es, j + 1, d, e, h, h' => by
    have := zipD_at ds es j d e (by simpa using h) (by simpa using h')
    simpa [zipD] using this
theorem src_zip {ds es : List Ev.D} {vs ws : List V} {p p2 : Addr} {q q2 : Bool} (rs : Reps T nm X.K g1 ds vs) (rt : Reps T nm X.K g1 es ws) (hs : ∀ (g' : Gh) (ρ' : Rho) (st' : Sto) (σ' : L2.St) (H' : Hp), Le (strip g1) g' → Mt T nm X.K g' ρ' st' σ' H' → SqQ X.K q H' p vs)
    (ht : ∀ (g' : Gh) (ρ' : Rho) (st' : Sto) (σ' : L2.St) (H' : Hp), Le (strip g1) g' → Mt T nm X.K g' ρ' st' σ' H' → SqQ X.K q2 H' p2 ws) : Src2 T nm X.K g1 (ItZ X.K q q2 p p2) (zipD ds es) := fun g' ρ' st' σ' H' l m => by
  have s := hs g' ρ' st' σ' H' l m
  have t := ht g' ρ' st' σ' H' l m
  have ln : (zipD ds es).length = min vs.length ws.length := by rw [zipD_len, rs.len, rt.len]
  refine ⟨fun j hj => ⟨vs, ws, vs[j]'(by omega), ws[j]'(by omega), s, t, by simp, by simp⟩, ⟨vs, ws, s, t, by omega⟩, fun j x H'' hj ⟨t', y, z, e1, e2, e3, e4, e5⟩ => ?_⟩
  obtain ⟨d, h1, h2⟩ := rs.at2 (e4 vs s)
  obtain ⟨d', h1', h2'⟩ := rt.at2 (e5 ws t)
  exact ⟨t', _, _, d, d', e1, e2, e3, zipD_at ds es j d d' h1 h1', (h2.mono lim_strip).mono l.lim, (h2'.mono lim_strip).mono l.lim⟩
/-- two names -/
def g2N (K : PySem.W.Frag) (i j : Nat) : TG := gTup K 2 (gCons (gName i) (gCons (gName j) gNil))
theorem g2N_of {K : PySem.W.Frag} {i j : Nat} {p : Addr} {v1 v2 : V} {Q : L2.St → Hp → Prop} (h : H p = some (.tup [v1, v2])) (q : Q ((σ.set i (some v1)).set j (some v2)) H) : g2N K i j (.ref p) σ H Q :=
  ⟨p, [v1, v2], rfl, SqT.of h, rfl, v1, [v2], rfl, v2, [], rfl, rfl, q⟩
theorem loop2 {gb g1 : Gh} {D : Ends} {J : L2.It} {dss : List (List Ev.D)} {i j : Nat} {b : Ev.S} (m1 : Mt T nm X.K g1 ρ st1 σ H1) (lg : Le gb g1) (n : NoSlot gb) (hs : Src2 T nm X.K g1 J dss)
    (q : OutS T nm X.K W gb D (forL (exS T cf b) [i, j] dss ρ st1)) :
    ∃ Wv : Nat → Nat → L2.St → Hp → Prop, (∃ m, Wv 0 m σ H1) ∧ ∀ t m σ H, Wv t m σ H →
      (J.stop t H ∧ D.nx σ H) ∨ (J.go t H ∧ ∃ N : L2.St → Hp → Prop, (∀ σ' H', N σ' H' → ∃ m', m' < m ∧ Wv (t + 1) m' σ' H') ∧ ∀ x H', J.yld t H x H' → g2N X.K i j x σ H' fun σ2 H2 => tS T nm X.K cf W b { D with nx := N, ct := N, bk := D.nx } σ2 H2) := by
  refine ⟨fun t m σ' H' => m = dss.length - t ∧ t ≤ dss.length ∧ ∃ g' ρ' st', Le (strip g1) g' ∧ Mt T nm X.K g' ρ' st' σ' H' ∧ OutS T nm X.K W (strip g1) D (forL (exS T cf b) [i, j] (dss.drop t) ρ' st'),
    ⟨_, rfl, Nat.zero_le _, g1, ρ, st1, le_strip, m1, by rw [List.drop_zero]; exact q.base (le_to_strip n lg)⟩, ?_⟩
  rintro t m σ' H' ⟨rfl, ht, g', ρ', st', l', m', o'⟩
  obtain ⟨hgo, hstop, hy⟩ := hs g' ρ' st' σ' H' l' m'
  by_cases hlt : t < dss.length
  · refine .inr ⟨hgo t hlt, fun σ' H' => ∃ g' ρ' st', Le (strip g1) g' ∧ Mt T nm X.K g' ρ' st' σ' H' ∧ OutS T nm X.K W (strip g1) D (forL (exS T cf b) [i, j] (dss.drop (t + 1)) ρ' st'), fun σ' H' z => ⟨_, by omega, rfl, hlt, z⟩, fun x H'' y => ?_⟩
    obtain ⟨p, v1, v2, d1, d2, rfl, hp, rfl, hi, r1, r2⟩ := hy t x H'' hlt y
    rw [drop_at hi] at o'
    have lp : Le g' (put g' p (.imm (.tup [v1, v2]))) := le_put (m'.fresh hp)
    have m2 := (m'.new hp (.inl rfl) : Mt T nm X.K (put g' p (.imm (.tup [v1, v2]))) ρ' st' σ' _)
    have m3 := (m2.set (i := i) (SlR.rep (r1.mono lp.lim))).set (i := j) (SlR.rep (r2.mono lp.lim))
    exact g2N_of upd_same (turn_out m3 (l'.trans lp) noSlot_strip (fun g2 ρ2 st2 σ2 H2 l2 m2 o2 => ⟨g2, ρ2, st2, l2, m2, o2⟩) o')
  · have e : t = dss.length := by omega
    subst e
    rw [List.drop_eq_nil_of_le (Nat.le_refl _)] at o'
    exact .inl ⟨hstop, o' g' σ' H' l' m'⟩
/-- the items of enumerate, of zip -/
theorem ss_forEnum {e : Expr} {a : E} {i j : Nat} {x y : Str} {p p' p1 p2 tp : Pos} {kk : Nat} {body : List Stmt} {b : Ev.S} (hp : PassesOwn (model X.prog X.w) X.A X.env X.xe) (hc : X.calm = true) (hg : Gl X "enumerate") (hm : X.mg "enumerate" = none) (he : PE X e (tE T nm X.K cf W a)) (hN : X.N.Nodup)
    (hi : X.N[i]? = some x) (hj : X.N[j]? = some y) (hx : Loc X.env.scope x) (hy : Loc X.env.scope y) (fx : X.fn x = true) (fy : X.fn y = true)
    (hb : PSs X body (tS T nm X.K cf W b)) (hs : starEach [e] X.env = [(false, eval e X.env)]) : PS X (.For (.Tuple [.Name x p, .Name y p'] kk tp) (.Call (.Name "enumerate" p1) [e] [] p2) body [] pos) (tS T nm X.K cf W (.for_ [i, j] (.enum a) b)) := by
  refine PS.imp (ps_for hp hc (pi_E hg hm (pa_cons he pa_nil hs) hs) (pg_tup hc (pgs_cons (pg_name hN hi hx (.inl fx)) (pgs_cons (pg_name hN hj hy (.inl fy)) pgs_nil))) hb (fun _ => rfl)) fun D σ H ⟨gb, g, ρ, st, m, l, n, o⟩ => ⟨g, ρ, st, m, ?_⟩
  have o1 : OutS T nm X.K W gb D ((evE T cf a ρ st).f ρ fun d st => match seqOf d with
    | some ds => forL (exS T cf b) [i, j] (enumD 0 ds) ρ st
    | none => .no) := by
    have o' : OutS T nm X.K W gb D (((evE T cf a ρ st).bind fun d st => R.of ((seqOf d).map (enumD 0)) st).f ρ fun dss st => forL (exS T cf b) [i, j] dss ρ st) := o
    cases q : evE T cf a ρ st with
    | ok d st1 =>
      rw [q] at o'
      have o2 : OutS T nm X.K W gb D ((R.of ((seqOf d).map (enumD 0)) st1).f ρ fun dss st => forL (exS T cf b) [i, j] dss ρ st) := o'
      show OutS T nm X.K W gb D (match seqOf d with
        | some ds => forL (exS T cf b) [i, j] (enumD 0 ds) ρ st1
        | none => .no)
      cases q2 : seqOf d with
      | none => rw [q2] at o2; exact o2
      | some ds => rw [q2] at o2; exact o2
    | er xx st1 => rw [q] at o'; exact o'
    | no => rw [q] at o'; exact o'
  refine Out.imp (OutS.go o1 l) fun d st1 g1 H1 l1 m1 q v r => ?_
  cases hd : seqOf d with
  | none =>
    simp only [hd] at q
    exact q.elim
  | some ds =>
    simp only [hd] at q
    obtain ⟨p, qq, vs, rfl, rs, hq⟩ := row_ok r m1 hd
    exact ⟨qq, p, vs, rfl, hq g1 ρ st1 σ H1 le_strip m1, loop2 m1 (l.trans l1) n (src_enum rs hq) q⟩
theorem RepR.le' {d : Ev.D} {v : V} {g2 : Gh} (r : RepR T nm X.K g g1 d v) (l : Le g1 g2) : RepR T nm X.K g g2 d v := by
  cases d with
  | own ds =>
    obtain ⟨p, vs, ev, h1, h2, rs⟩ := r
    exact ⟨p, vs, ev, l _ _ h1, h2, rs.mono l.lim⟩
  | _ => exact Rep.mono l.lim r
theorem zip_f {a a2 : E} {α : Type} {kk : List (List Ev.D) → Sto → R α} : (evI T cf (.zip a a2) ρ st).bind kk = (evE T cf a ρ st).bind fun d st => (evE T cf a2 ρ st).bind fun e st => (R.of ((seqOf d).bind fun ds => (seqOf e).map fun es => zipD ds es) st).bind kk := by
  show ((evE T cf a ρ st).bind fun d st => (evE T cf a2 ρ st).bind fun e st => R.of ((seqOf d).bind fun ds => (seqOf e).map fun es => zipD ds es) st).bind kk = _
  cases evE T cf a ρ st with
  | ok d st1 =>
    show ((evE T cf a2 ρ st1).bind fun e st => R.of ((seqOf d).bind fun ds => (seqOf e).map fun es => zipD ds es) st).bind kk = (evE T cf a2 ρ st1).bind fun e st => (R.of ((seqOf d).bind fun ds => (seqOf e).map fun es => zipD ds es) st).bind kk
    cases evE T cf a2 ρ st1 <;> rfl
  | er x st1 => rfl
  | no => rfl
theorem ss_forZip {e e2 : Expr} {a a2 : E} {i j : Nat} {x y : Str} {p p' p1 p2 tp : Pos} {kk : Nat} {body : List Stmt} {b : Ev.S} (hp : PassesOwn (model X.prog X.w) X.A X.env X.xe) (hc : X.calm = true) (hg : Gl X "zip") (hm : X.mg "zip" = none) (he : PE X e (tE T nm X.K cf W a)) (he2 : PE X e2 (tE T nm X.K cf W a2)) (hN : X.N.Nodup)
    (hi : X.N[i]? = some x) (hj : X.N[j]? = some y) (hx : Loc X.env.scope x) (hy : Loc X.env.scope y) (fx : X.fn x = true) (fy : X.fn y = true)
    (hb : PSs X body (tS T nm X.K cf W b)) (hs : starEach [e, e2] X.env = (false, eval e X.env) :: starEach [e2] X.env) (hs2 : starEach [e2] X.env = [(false, eval e2 X.env)]) : PS X (.For (.Tuple [.Name x p, .Name y p'] kk tp) (.Call (.Name "zip" p1) [e, e2] [] p2) body [] pos) (tS T nm X.K cf W (.for_ [i, j] (.zip a a2) b)) := by
  refine PS.imp (ps_for hp hc (pi_Z hg hm (pa_cons he (pa_cons he2 pa_nil hs2) hs) hs (by rw [hs2]; rfl)) (pg_tup hc (pgs_cons (pg_name hN hi hx (.inl fx)) (pgs_cons (pg_name hN hj hy (.inl fy)) pgs_nil))) hb (fun _ => rfl)) fun D σ H ⟨gb, g, ρ, st, m, l, n, o⟩ => ⟨g, ρ, st, m, ?_⟩
  have o1 : OutS T nm X.K W gb D ((evE T cf a ρ st).f ρ fun d st => (evE T cf a2 ρ st).f ρ fun e st => match seqOf d, seqOf e with
    | some ds, some es => forL (exS T cf b) [i, j] (zipD ds es) ρ st
    | _, _ => .no) := by
    have o' : OutS T nm X.K W gb D (((evE T cf a ρ st).bind fun d st => (evE T cf a2 ρ st).bind fun e st => R.of ((seqOf d).bind fun ds => (seqOf e).map fun es => zipD ds es) st).f ρ fun dss st => forL (exS T cf b) [i, j] dss ρ st) := o
    cases q : evE T cf a ρ st with
    | ok d st1 =>
      rw [q] at o'
      have o2 : OutS T nm X.K W gb D (((evE T cf a2 ρ st1).bind fun e st => R.of ((seqOf d).bind fun ds => (seqOf e).map fun es => zipD ds es) st).f ρ fun dss st => forL (exS T cf b) [i, j] dss ρ st) := o'
      show OutS T nm X.K W gb D ((evE T cf a2 ρ st1).f ρ fun e st => match seqOf d, seqOf e with
        | some ds, some es => forL (exS T cf b) [i, j] (zipD ds es) ρ st
        | _, _ => .no)
      cases q1 : evE T cf a2 ρ st1 with
      | ok e st2 =>
        rw [q1] at o2
        have o3 : OutS T nm X.K W gb D ((R.of ((seqOf d).bind fun ds => (seqOf e).map fun es => zipD ds es) st2).f ρ fun dss st => forL (exS T cf b) [i, j] dss ρ st) := o2
        show OutS T nm X.K W gb D (match seqOf d, seqOf e with
          | some ds, some es => forL (exS T cf b) [i, j] (zipD ds es) ρ st2
          | _, _ => .no)
        cases q2 : seqOf d with
        | none => rw [q2] at o3; exact o3
        | some ds =>
          cases q3 : seqOf e with
          | none => rw [q2, q3] at o3; exact o3
          | some es => rw [q2, q3] at o3; exact o3
      | er xx st2 => rw [q1] at o2; exact o2
      | no => rw [q1] at o2; exact o2
    | er xx st1 => rw [q] at o'; exact o'
    | no => rw [q] at o'; exact o'
  refine Out.imp (OutS.go o1 l) fun d st1 g1 H1 l1 m1 q v r => ⟨g1, ρ, st1, m1, Out.imp (OutS.go q (l.trans l1)) fun d2 st2 g2 H2 l2 m2 q2 v2 r2 => ?_⟩
  cases hd : seqOf d with
  | none =>
    simp only [hd] at q2
    exact q2.elim
  | some ds =>
    cases hd2 : seqOf d2 with
    | none =>
      simp only [hd, hd2] at q2
      exact q2.elim
    | some es =>
      simp only [hd, hd2] at q2
      obtain ⟨p, qq, vs, rfl, rs, hq⟩ := row_ok (r.le' l2) m2 hd
      obtain ⟨p', qq', ws, rfl, rt, hq'⟩ := row_ok r2 m2 hd2
      exact ⟨qq, qq', p, p', vs, ws, rfl, hq g2 ρ st2 σ H2 le_strip m2, hq' g2 ρ st2 σ H2 le_strip m2, loop2 m2 ((l.trans l1).trans l2) n (src_zip rs rt hq hq') q2⟩
end
end Snd
set_option Elab.async false
set_option linter.all false
set_option maxRecDepth 100000
set_option maxHeartbeats 1000000
/-! SndE3: comprehensions over enumerate and zip. -/
namespace Snd
open PySem PySem.Spec PyProof.Rows L2 Ev
section
variable {X : Cx} {T : Tab} {nm : Nm} {K : PySem.W.Frag} {W : WX} {cf : Nat → List D → Sto → R D} {pos : Pos} {k : Nat} {g g2 : Gh} {ρ : Rho} {st st2 : Sto} {σ : L2.St} {H H2 : Hp}
theorem compL_consG {el : Rho → Sto → R Ev.D} {te : Rho → Sto → R Bool} {is : List Nat} {ρ' : Rho} {d0 : List Ev.D} {r : List (List Ev.D)} {acc ds : List Ev.D} {st' : Sto} (hs : setAll ρ is d0 = some ρ') (h : compL el te ρ is (d0 :: r) acc st = .ok ds st') :
    ∃ b st1, te ρ' st = .ok b st1 ∧ ((b = false ∧ compL el te ρ is r acc st1 = .ok ds st') ∨ (b = true ∧ acc.length < LINE ∧ ∃ y st2, el ρ' st1 = .ok y st2 ∧ compL el te ρ is r (acc ++ [fz y]) st2 = .ok ds st')) := by
  rw [compL] at h
  simp only [hs] at h
  cases q : te ρ' st with
  | ok b st1 =>
    rw [q] at h
    refine ⟨b, st1, rfl, ?_⟩
    cases b with
    | false => exact .inl ⟨rfl, h⟩
    | true =>
      refine .inr ⟨rfl, ?_⟩
      simp only [bind_ok, if_true] at h
      cases q2 : el ρ' st1 with
      | ok y st2 =>
        rw [q2] at h
        simp only [bind_ok] at h
        by_cases hl : acc.length < LINE
        · rw [if_pos hl] at h
          exact ⟨hl, y, st2, rfl, h⟩
        · rw [if_neg hl] at h
          cases h
      | er x st2 => rw [q2] at h; cases h
      | no => rw [q2] at h; cases h
  | er x st1 => rw [q] at h; cases h
  | no => rw [q] at h; cases h
theorem wipe2_set {i j : Nat} (hij : i ≠ j) {x y : Option V} : ((wipe σ [i, j]).set i x).set j y = (σ.set i x).set j y := by
  show ((((σ.set j none).set i none).set i x).set j y : L2.St) = _
  rw [List.set_set, List.set_comm none x (Ne.symm hij), List.set_set]
theorem wipe2_again {i j : Nat} (hij : i ≠ j) {x y : Option V} : wipe ((σ.set i x).set j y) [i, j] = wipe σ [i, j] := by
  show ((((σ.set i x).set j y).set j none).set i none : L2.St) = (σ.set j none).set i none
  rw [List.set_set, List.set_comm x none hij, List.set_set]
theorem comp2_main {J : L2.It} {dss : List (List Ev.D)} {g0 g1 : Gh} {st1 : Sto} {H1 : Hp} {i j : Nat} {e : E} {t : Tt} {Q : VK} {D : Addr} {ds : List Ev.D} (m1 : Mt T nm K g1 ρ st1 σ H1) (l0 : Le g0 g1) (hD : H1 D = none) (hij : i ≠ j) (hp : plainO ρ[i]? = true) (hp2 : plainO ρ[j]? = true)
    (hJ : Src2 T nm K g1 J dss) (hc : compL (evE T cf e) (evT T cf t) ρ [i, j] dss [] st1 = .ok ds st2)
    (hQ : ∀ g' H', Le g0 g' → Mt T nm K g' ρ st2 σ H' → RepR T nm K g0 g' (.own ds) (.ref D) → Q (.ref D) H') :
    ∃ Wv : Nat → Nat → Hp → Prop, (∃ m, Wv 0 m (upd H1 D (.lst []))) ∧ ∀ n m H, Wv n m H →
      (J.stop n H ∧ Q (.ref D) H) ∨ (J.go n H ∧ ∃ Nx : Hp → Prop, (∀ H', Nx H' → ∃ m', m' < m ∧ Wv (n + 1) m' H') ∧ ∀ x H', J.yld n H x H' → g2N K i j x (wipe σ [i, j]) H' fun σ2 H2 => wipe σ2 [i, j] = wipe σ [i, j] ∧ tT T nm K cf WN t σ2 H2 fun b H3 =>
        if b = true then tE T nm K cf WN e σ2 H3 fun y H4 => ∃ acc, H4 D = some (.lst acc) ∧ acc.length < sizeLine ∧ Nx (upd H4 D (.lst (acc ++ [y]))) else Nx H3) := by
  have gD : g1 D = none := by
    cases z : g1 D with
    | none => rfl
    | some t =>
      obtain ⟨o, e⟩ := m1.trk _ _ z
      rw [hD] at e
      cases e
  have gD0 : g0 D = none := by
    cases z : g0 D with
    | none => rfl
    | some t => rw [l0 _ _ z] at gD; cases gD
  refine ⟨fun n m H => m = dss.length - n ∧ n ≤ dss.length ∧ ∃ g' st' acc vacc, Le g1 g' ∧ Mt T nm K g' ρ st' σ H ∧ g' D = some (.held (.lst vacc)) ∧ Reps T nm K g' acc vacc ∧ compL (evE T cf e) (evT T cf t) ρ [i, j] (dss.drop n) acc st' = .ok ds st2,
    ⟨_, rfl, Nat.zero_le _, put g1 D (.held (.lst [])), st1, [], [], le_put gD, m1.new hD (.inr rfl), put_same, .nil, by rw [List.drop_zero]; exact hc⟩, ?_⟩
  rintro n m H ⟨rfl, hj, g', st', acc, vacc, l', m', hd, ra, hc'⟩
  obtain ⟨hgo, hstop, hyld⟩ := hJ g' ρ st' σ H (le_strip.trans l') m'
  by_cases hlt : n < dss.length
  · refine .inr ⟨hgo n hlt, fun H' => ∃ g' st' acc vacc, Le g1 g' ∧ Mt T nm K g' ρ st' σ H' ∧ g' D = some (.held (.lst vacc)) ∧ Reps T nm K g' acc vacc ∧ compL (evE T cf e) (evT T cf t) ρ [i, j] (dss.drop (n + 1)) acc st' = .ok ds st2,
      fun H' p => ⟨dss.length - (n + 1), by omega, rfl, hlt, p⟩, fun x H' hy => ?_⟩
    obtain ⟨p, v1, v2, d1, d2, rfl, hpn, rfl, hi, r1, r2⟩ := hyld n x H' hlt hy
    rw [drop_at hi] at hc'
    obtain ⟨b, sb, hb, hcase⟩ := compL_consG (ρ' := (ρ.set i (some d1)).set j (some d2)) rfl hc'
    have lp : Le g' (put g' p (.imm (.tup [v1, v2]))) := le_put (m'.fresh hpn)
    have mp : Mt T nm K (put g' p (.imm (.tup [v1, v2]))) ρ st' σ (upd H p (.tup [v1, v2])) := m'.new hpn (.inl rfl)
    have mi := mp.set (i := i) (SlR.rep (r1.mono lp.lim))
    have mj := mi.set (i := j) (SlR.rep (r2.mono lp.lim))
    have hpj : plainO (ρ.set i (some d1))[j]? = true := by rw [List.getElem?_set_ne hij]; exact hp2
    have bk : ∀ {g3 : Gh} {st3 : Sto} {H3 : Hp}, Le (put g' p (.imm (.tup [v1, v2]))) g3 → Mt T nm K g3 ((ρ.set i (some d1)).set j (some d2)) st3 ((σ.set i (some v1)).set j (some v2)) H3 → Mt T nm K g3 ρ st3 σ H3 := fun l3 m3 => mp.back l3 hp (mi.back l3 hpj m3)
    refine g2N_of upd_same ?_
    rw [wipe2_set hij]
    refine ⟨wipe2_again hij, _, _, st', mj, ?_⟩
    rw [hb]
    intro g2 H3 l2 m2
    rcases hcase with ⟨rfl, hr⟩ | ⟨rfl, hl, y, sy, hy2, hr⟩
    · simp only [Bool.false_eq_true, if_false]
      exact ⟨g2, sb, acc, vacc, (l'.trans lp).trans l2, bk l2 m2, l2 _ _ (lp _ _ hd), ra.mono (lp.trans l2).lim, hr⟩
    · simp only [if_true]
      refine ⟨g2, _, sb, m2, ?_⟩
      rw [hy2]
      intro g3 H4 l3 m3 v r
      obtain ⟨g4, l4, m4, r4⟩ := kept r m3 l3
      have l24 := l2.trans l4
      have mb := bk l24 m4
      have hd4 := l24 _ _ (lp _ _ hd)
      refine ⟨vacc, mb.held _ _ hd4, by rw [← ra.len]; exact line_lt hl, ?_⟩
      obtain ⟨m5, lm5⟩ := mb.held_upd (vacc ++ [v]) hd4
      refine ⟨_, sy, acc ++ [fz y], vacc ++ [v], fun a t z => ?_, m5, put_same, ((ra.mono (lp.trans l24).lim).append (.cons r4 .nil)).mono lm5, hr⟩
      have na : a ≠ D := fun q => by rw [q, gD] at z; cases z
      rw [put_ne na]
      exact ((l'.trans lp).trans l24) _ _ z
  · have e0 : n = dss.length := by omega
    subst e0
    rw [List.drop_eq_nil_of_le (Nat.le_refl _), compL_nil] at hc'
    cases hc'
    exact .inl ⟨hstop, hQ g' H (l0.trans l') m' ⟨D, vacc, rfl, hd, gD0, ra⟩⟩
end
section
variable {X : Cx} {T : Tab} {nm : Nm} {W : WX} {cf : Nat → List D → Sto → R D} {pos : Pos} {k : Nat} {g g1 : Gh} {ρ : Rho} {st st1 : Sto} {σ : L2.St} {H H1 : Hp} {elt iter tgt : Expr} {ifs : List Expr} {scope : Scope} {i j : Nat} {e : E} {t : Tt}
theorem comp2_go {P : Ev.D → Sto → Gh → Hp → Prop} {dss : List (List Ev.D)} (o : Out T nm X.K W g ρ σ P (if [i, j].all fun i => plainO ρ[i]? then (match compL (evE T cf e) (evT T cf t) ρ [i, j] dss [] st1 with
    | .ok ds st => .ok (.own ds) st
    | _ => .no) else .no)) : (plainO ρ[i]? = true ∧ plainO ρ[j]? = true) ∧ ∃ ds st2, compL (evE T cf e) (evT T cf t) ρ [i, j] dss [] st1 = .ok ds st2 ∧ Out T nm X.K W g ρ σ P (.ok (.own ds) st2) := by
  by_cases h : ([i, j].all fun i => plainO ρ[i]?) = true
  · rw [if_pos h] at o
    refine ⟨by simpa using h, ?_⟩
    cases q : compL (evE T cf e) (evT T cf t) ρ [i, j] dss [] st1 with
    | ok ds st2 => rw [q] at o; exact ⟨ds, st2, rfl, o⟩
    | er x st2 => rw [q] at o; exact o.elim
    | no => rw [q] at o; exact o.elim
  · rw [if_neg h] at o
    exact o.elim
theorem lcZip_imp {a a2 : E} (hij : i ≠ j) (σ : L2.St) (H : Hp) (Q : VK) (h : tE T nm X.K cf W (.comp [i, j] e (.zip a a2) t) σ H Q) : tLc (iZ X.K (tCons (tE T nm X.K cf W a) (tCons (tE T nm X.K cf W a2) tNil))) (g2N X.K i j) (tT T nm X.K cf WN t) (tE T nm X.K cf WN e) [i, j] σ H Q := by
  obtain ⟨g, ρ, st, m, o⟩ := h
  have o' : Out T nm X.K W g ρ σ (fun d _ g' H' => ∀ v, RepR T nm X.K g g' d v → Q v H') ((evI T cf (.zip a a2) ρ st).bind fun dss st => if [i, j].all fun i => plainO ρ[i]? then (match compL (evE T cf e) (evT T cf t) ρ [i, j] dss [] st with
    | .ok ds st => .ok (.own ds) st
    | _ => .no) else .no) := o
  rw [zip_f] at o'
  refine ⟨g, ρ, st, m, Out.imp (Out.bind0 o') fun d st1 g1 H1 l1 m1 q v r => ⟨g1, ρ, st1, m1, Out.imp (Out.bind0 (q.le l1)) fun d2 st2 g2 H2 l2 m2 q2 v2 r2 => ?_⟩⟩
  cases hd : seqOf d with
  | none => rw [hd] at q2; exact (show False from q2).elim
  | some ds =>
    cases hd2 : seqOf d2 with
    | none => rw [hd, hd2] at q2; exact (show False from q2).elim
    | some es =>
      rw [hd, hd2] at q2
      obtain ⟨⟨hp, hp2⟩, ds2, st3, hcl, q3⟩ := comp2_go (W := W) (g := g1) (σ := σ) (P := fun d _ g' H' => ∀ v, RepR T nm X.K g g' d v → Q v H') (dss := zipD ds es) (st1 := st2) (e := e) (t := t) (i := i) (j := j) q2
      obtain ⟨p, qq, vs, rfl, rs, hq⟩ := row_ok (r.le' l2) m2 hd
      obtain ⟨p', qq', ws, rfl, rt, hq'⟩ := row_ok r2 m2 hd2
      exact ⟨qq, qq', p, p', vs, ws, rfl, hq g2 ρ st2 σ H2 le_strip m2, hq' g2 ρ st2 σ H2 le_strip m2, fun D hD => comp2_main (Q := Q) m2 l2 hD hij hp hp2 (src_zip rs rt hq hq') hcl fun g' H' l m r => q3 g' H' l m _ (r.back l1)⟩
theorem lcEnum_imp {a : E} (hij : i ≠ j) (σ : L2.St) (H : Hp) (Q : VK) (h : tE T nm X.K cf W (.comp [i, j] e (.enum a) t) σ H Q) : tLc (iE X.K (tCons (tE T nm X.K cf W a) tNil)) (g2N X.K i j) (tT T nm X.K cf WN t) (tE T nm X.K cf WN e) [i, j] σ H Q := by
  obtain ⟨g, ρ, st, m, o⟩ := h
  refine ⟨g, ρ, st, m, Out.imp (Out.bind0 (Out.bind0 o)) fun d st1 g1 H1 l1 m1 q v r => ?_⟩
  cases hd : seqOf d with
  | none => rw [hd] at q; exact (show False from q).elim
  | some ds =>
    rw [hd] at q
    obtain ⟨⟨hp, hp2⟩, ds2, st3, hcl, q3⟩ := comp2_go (q g1 H1 l1 m1)
    obtain ⟨p, qq, vs, rfl, rs, hq⟩ := row_ok r m1 hd
    exact ⟨qq, p, vs, rfl, hq g1 ρ st1 σ H1 le_strip m1, fun D hD => comp2_main (Q := Q) m1 l1 hD hij hp hp2 (src_enum rs hq) hcl fun g' H' l m r => q3 g' H' l m _ r⟩
end
end Snd
set_option Elab.async false
set_option linter.all false
set_option maxRecDepth 100000
set_option maxHeartbeats 1000000
/-! SndP: slices. -/
namespace Snd
open PySem PySem.Spec PyProof.Rows L2 Ev
section
variable {X : Cx} {T : Tab} {nm : Nm} {W : WX} {cf : Nat → List D → Sto → R D} {pos p2 : Pos} {k : Nat}
def tP (X : Cx) (T : Tab) (nm : Nm) (cf : Nat → List D → Sto → R D) (W : WX) (a : E) : TO := fun σ H Q => ∃ g ρ st, Mt T nm X.K g ρ st σ H ∧ Out T nm X.K W g ρ σ (fun o _ _ H' => Q o H') (ptE a (evE T cf a ρ st))
theorem pp_none : PO X none (tP X T nm cf W .nop) := ⟨fun pins s σ H Q I ⟨g, ρ, st, m, o⟩ => po_none.run pins s σ H Q I (show Q none H from Out.ok (show Out T nm X.K W g ρ σ (fun o _ _ H' => Q o H') (.ok none st) from o) m)⟩
def isNop : E → Bool
  | .nop => true
  | _ => false
theorem ptE_of {a : E} (h : isNop a = false) (r : R D) : ptE a r = r.bind fun d st => (match d with
    | .int i => .ok (some i) st
    | _ => .no) := by
  cases a <;> first | rfl | cases h
theorem pp_some {e : Expr} {a : E} (h : PE X e (tE T nm X.K cf W a)) (hn : isNop a = false := by rfl) : PO X (some e) (tP X T nm cf W a) := ⟨fun pins s σ H Q I ⟨g, ρ, st, m, o⟩ => by
  rw [ptE_of hn] at o
  refine (po_some h).run pins s σ H Q I ⟨g, ρ, st, m, Out.imp (Out.bind0 o) fun d st1 g1 H1 l1 m1 q v r => ?_⟩
  cases d with
  | int i =>
    cases (show Rep T nm X.K g1 (.int i) v from r)
    exact ⟨i, rfl, q g1 H1 l1 m1⟩
  | _ => exact (show False from q).elim⟩
theorem sIx_eq (n d : Nat) (o : Option Int) : HT.sIx n d o = Ev.sIx n d o := by
  cases o <;> rfl
theorem cutV_reps {g : Gh} {ds : List D} {vs : List V} (r : Reps T nm X.K g ds vs) (l h : Option Int) : Reps T nm X.K g (cutL ds l h) (cutV vs l h) := by
  unfold cutL cutV
  rw [sIx_eq, sIx_eq, r.len]
  exact (r.drop _).take _
theorem cutS_of (z : List Nat) (l h : Option Int) : cutS (strOf z) l h = strOf (cutL z l h) := by
  unfold cutS cutL
  rw [strOf_cps, strOf_len, sIx_eq, sIx_eq]
  rfl
theorem cut_whole {α : Type} {xs : List α} {l h : Option Int} (w : HT.sIx xs.length 0 l = 0 ∧ HT.sIx xs.length xs.length h = xs.length) : cutL xs l h = xs := by
  unfold cutL
  rw [← sIx_eq, ← sIx_eq, w.1, w.2]
  simp
theorem se_sl {e : Expr} {lo hi : Option Expr} {a la ha : E} (he : PE X e (tB T nm X.K cf W a)) (hl : PO X lo (tP X T nm cf W la)) (hu : PO X hi (tP X T nm cf W ha)) : PE X (.Subscript e (.Slice lo hi none p2) pos) (tE T nm X.K cf W (.sl a la ha)) :=
  PE.imp (pe_slice ((sl_tupA (X := X)).or ((sl_list (X := X)).or sl_str)) he hl hu) fun σ H Q ⟨g, ρ, st, m, o⟩ => by
    refine ⟨g, ρ, st, m, Out.imp (Out.bind0 o) fun d st1 g1 H1 l1 m1 q v lk => ?_⟩
    refine ⟨g1, ρ, st1, m1, Out.imp ((Out.bind0 q).le l1) fun l st2 g2 H2 l2 m2 q2 => ?_⟩
    refine ⟨g2, ρ, st2, m2, Out.imp ((Out.bind0 q2).le (l1.trans l2)) fun h st3 g3 H3 l3 m3 q3 => ?_⟩
    have lk3 := (lk.le l2).le l3
    have l03 := (l1.trans l2).trans l3
    have q3' : Out T nm X.K W g ρ σ (fun d _ g' H' => ∀ v, RepR T nm X.K g g' d v → Q v H') (slE d l h st3) := q3
    have lst : ∀ ds, lstS st3 d = some ds → slE d l h st3 = .ok (.own (cutL ds l h)) st3 → (∃ a xs, v = .ref a ∧ SqL X.K H3 a xs ∧ ∀ p, H3 p = none → Q (.ref p) (upd H3 p (.lst (cutV xs l h)))) := fun ds hs e3 => by
      obtain ⟨p, vs, ev, hp, rs⟩ := lstS_ok lk3 m3 hs
      rw [e3] at q3'
      exact ⟨p, vs, ev, .of hp, fun p hp => new_own l03 m3 (cutV_reps rs l h) q3' hp⟩
    have none_ : lstS st3 d = none → (∀ es, d ≠ .tup es) → (∀ z, d ≠ .str z) → False := fun hs n1 n2 => by
      have : slE d l h st3 = .no := by
        unfold slE
        cases d <;> first | exact absurd rfl (n1 _) | exact absurd rfl (n2 _) | (simp only [hs])
      rw [this] at q3'
      exact q3'
    cases d with
    | tup ds =>
      have r0 := lk3.rep m3 rfl
      cases r0 with
      | @tup p _ vs h1 rs =>
        have q4 : Out T nm X.K W g ρ σ (fun d _ g' H' => ∀ v, RepR T nm X.K g g' d v → Q v H') (.ok (.tup (cutL ds l h)) st3) := q3'
        refine .inl ⟨p, vs, rfl, same_seqT (fun a o z => m3.imm a o (of_imH z)) h1, fun w => ?_, fun _ q hq => ?_⟩
        · rw [← rs.len] at w
          rw [cut_whole w] at q4
          exact (q4.le l03).ok m3 _ (.tup h1 rs)
        · have lp : Le g3 (put g3 q (.imm (.tup (cutV vs l h)))) := le_put (m3.fresh hq)
          exact q4 _ _ (l03.trans lp) (m3.new hq (.inl rfl)) (.ref q) (.tup (SqT.of (imH_of put_same)) ((cutV_reps rs l h).mono lp.lim))
    | str z =>
      have q4 : Out T nm X.K W g ρ σ (fun d _ g' H' => ∀ v, RepR T nm X.K g g' d v → Q v H') (if z.length ≤ LINE then .ok (.str (cutL z l h)) st3 else .no) := q3'
      by_cases hz : z.length ≤ LINE
      · rw [if_pos hz] at q4
        refine .inr (.inr ⟨strOf z, lk3.str m3, by rw [strOf_len]; exact line_le hz, ?_⟩)
        rw [cutS_of]
        exact (q4.le l03).ok m3 _ (.str _)
      · rw [if_neg hz] at q4
        exact q4.elim
    | lst ds => exact .inr (.inl (lst ds rfl rfl))
    | own ds => exact .inr (.inl (lst ds rfl rfl))
    | ref r =>
      cases hs : lstS st3 (.ref r) with
      | none => exact (none_ hs (fun _ z => nomatch z) (fun _ z => nomatch z)).elim
      | some ds => exact .inr (.inl (lst ds hs (by show (match lstS st3 (.ref r) with | some ds => R.ok (Ev.D.own (cutL ds l h)) st3 | none => R.no) = _; rw [hs])))
    | _ => exact (none_ rfl (fun _ z => nomatch z) (fun _ z => nomatch z)).elim
end
end Snd
set_option Elab.async false
set_option linter.all false
set_option maxRecDepth 100000
set_option maxHeartbeats 1000000
/-! SndT: calls of instances, while, += , unpacking, insert, pop, dicts made. -/
namespace Snd
open PySem PySem.Spec PyProof.Rows L2 Ev
section
variable {S : Src} {X : Cx} {T : Tab} {nm : Nm} {W : WX} {cf : Nat → List D → Sto → R D} {pos : Pos} {k : Nat}
/-! ### an instance is called -/
theorem isIns_of {d : Ev.D} (h : isIns d = true) : ∃ c ds, d = .ins c ds := by
  cases d <;> first | (cases h; done) | exact ⟨_, _, rfl⟩
theorem run_callC {f np : Nat} {pins : List (Addr × Obj)} {σ : L2.St} {H : Hp} {s : Shared} {Q : VK} {g g0 : Gh} {ρ : Rho} {st : Sto} {ds : List Ev.D} {vs : List V} {us : List Value} (F : FnI (co X) T nm cf k f np) (hr : Room k X.A) (tk : Takes X W)
    (I : Inv X pins σ H s) (rv : Vals vs us) (hn : vs.length = np) (m : Mt T nm X.K g ρ st σ H) (r : Reps T nm X.K g ds vs) (l0 : Le g0 g)
    (o : Out T nm X.K W g0 ρ σ (fun d _ g' H' => ∀ v, RepR T nm X.K g0 g' d v → Q v H') (cf f ds st)) :
    codeAny (model X.prog X.w) X.A (.call (.ref (fad nm X.K f)) ⟨us, []⟩) (fun r s' => match r with
      | .ok (.ret v) => EP X pins σ Q v s'
      | .ok _ => False
      | .error e => X.xe e s') s := by
  obtain ⟨fd, ps, F1, b, e⟩ := F.ok
  have h := sp_of m r l0 hn o
  have hl : us.length = ps.length := by rw [← rv.length]; exact F1.len _ _ _ _ h
  have b2 := b s us I.kIn (by rw [List.append_nil]; exact hl)
  rw [List.append_nil] at b2
  refine codeAny_mono (F1.run X.A X.stack s H ⟨us, []⟩ us vs Q (WE W σ) hr I.env0 b2 rv h) fun r s' hq => ?_
  cases r with
  | error e => exact passAt tk σ pins H s e s' I hq
  | ok fl =>
    cases fl with
    | ret u => exact I.after hq
    | next => exact False.elim hq
    | brk => exact False.elim hq
    | cont => exact False.elim hq
theorem se_inv {me : Option (Addr × Addr)} (hnm : nm = nmE S me) (F : Facts S (co X) nm cf k) (hr : Room (k + 2) X.A) (tk : Takes X W) {fe e : Expr} {a b : E} (ha : PE X fe (tE S.T nm X.K cf W a)) (hb : PE X e (tE S.T nm X.K cf W b))
    (ht : eval (.Call fe [e] [] pos) X.env = (do callWith pos (← eval fe X.env) [] (backTo pos (starEach [e] X.env)) (backToKw pos (keywordEach [] X.env))))
    (he : starEach [e] X.env = (false, eval e X.env) :: starEach [] X.env) : PE X (.Call fe [e] [] pos) (tE S.T nm X.K cf W (.inv a (.cons b .nil))) := by
  subst hnm
  refine ⟨fun pins s σ H Q I ⟨g, ρ, st, mt, o⟩ => ?_⟩
  refine Call_ (thn (val_go ha I mt (Le.refl g) o) fun u s1 ⟨v, H1, d, st1, g1, I1, rv, l1, m1, rr, q⟩ => ?_) ht
  by_cases hh : isIns d = true
  rotate_left
  · have q' : Out S.T (nmE S me) X.K W g ρ σ (fun d _ g' H' => ∀ v, RepR S.T (nmE S me) X.K g g' d v → Q v H') (if isIns d then (evA S.T cf (.cons b .nil) ρ st1).bind fun ds st => invE S.T cf d ds st else .no) := q
    rw [if_neg hh] at q'
    exact q'.elim
  have o1 : Out S.T (nmE S me) X.K W g ρ σ (fun d _ g' H' => ∀ v, RepR S.T (nmE S me) X.K g g' d v → Q v H') ((evA S.T cf (.cons b .nil) ρ st1).bind fun ds st => invE S.T cf d ds st) := by
    have q' : Out S.T (nmE S me) X.K W g ρ σ (fun d _ g' H' => ∀ v, RepR S.T (nmE S me) X.K g g' d v → Q v H') (if isIns d then (evA S.T cf (.cons b .nil) ρ st1).bind fun ds st => invE S.T cf d ds st else .no) := q
    rw [if_pos hh] at q'
    exact q'
  obtain ⟨c, ds, rfl⟩ := isIns_of hh
  have lr : Rep S.T (nmE S me) X.K g1 (.ins c ds) v := rr
  cases lr with
  | @ins p dx _ _ vs e1' e2' r =>
    obtain rfl : u = Value.ref p := rv
    have pa : PA X [e] (tA S.T (nmE S me) X.K cf W (.cons b .nil)) := sa_cons hb sa_nil he
    refine StX.callO_with (thn (args_go pa I1 m1 (o1.le l1) pos) fun us s2 ⟨vs2, H2, ds2, st2, g2, I2, rv2, r2, l2, hn2, m2, q2⟩ => ?_) he rfl
    have hp2 := m2.imm _ _ (l2.lim.1 _ _ e1')
    obtain ⟨ox, od, J, hd⟩ := StX.insC_at I2 (.inr ⟨_, _, hp2⟩)
    refine ⟨⟨_, ox, od, J, hd⟩, ?_⟩
    have q3 : Out S.T (nmE S me) X.K W g1 ρ σ (fun d _ g' H' => ∀ v, RepR S.T (nmE S me) X.K g g' d v → Q v H') (match S.T.inv c with
      | some f => cf f (.ins c ds :: ds2) st2
      | none => .no) := q2
    cases hg : S.T.inv c with
    | none => rw [hg] at q3; exact q3.elim
    | some f =>
      rw [hg] at q3
      have hops := F.ops
      unfold opsB at hops
      have hg' : nameOf c S.inv = some f := hg
      have hq := List.all_eq_true.mp (He.ba (He.ba (He.ba (He.ba (He.ba (He.ba (He.ba (He.ba hops).2).2).2).2).2).2).2).2 _ (nameOf_mem hg')
      obtain ⟨_, hq⟩ := He.ba hq
      obtain ⟨q1, hq⟩ := He.ba hq
      obtain ⟨w1, w2⟩ := He.ba hq
      have own := own_of (me := me) w1
      have n2 : (V.ref p :: vs2).length = 2 := by
        rw [List.length_cons, ← r2.len, hn2]
        rfl
      exact wpAny_call (PySem.W.kco_code I2.kIn J hd own.hs own.hf w2 (run_callC (us := .ref p :: us) (vs := .ref p :: vs2) (fnB_of F q1) ⟨hr.hd, by have := hr.dp; omega, by have := hr.un; omega⟩ tk I2 (.cons rfl rv2) n2 m2 (.cons (.ins (l2.lim.1 _ _ e1') e2' (r.mono l2.lim)) r2) l2 (Out.imp q3 fun d st' g' H' l' m' q' v rv => q' v (rv.back l1))))
/-! ### x += e, unpacking -/
def rAug (o : BO) : V → V → Hp → VK → Prop := fun x y H Q => ∃ i j r, x = .int i ∧ y = .int j ∧ augD o (.int i) (.int j) = some (.int r) ∧ Q (.int r) H
theorem in_aug {o : BO} : PIp X (opOf o) (rAug o) := fun pins s σ H x y v u Q I rx ry ⟨i, j, r, ex, ey, e, q⟩ => by
  cases o with
  | add =>
    cases e
    exact in_add pins s σ H x y v u Q I rx ry ⟨i, j, ex, ey, q⟩
  | sub =>
    cases e
    exact in_sub pins s σ H x y v u Q I rx ry ⟨i, j, ex, ey, q⟩
  | _ => cases e
theorem augD_int {o : BO} {d e r : Ev.D} (h : augD o d e = some r) : ∃ i j n, d = .int i ∧ e = .int j ∧ r = .int n := by
  cases o <;> cases d <;> first | (cases h; done) | (cases e <;> first | (cases h; done) | (cases h; exact ⟨_, _, _, rfl, rfl, rfl⟩))
theorem ss_aug {e : Expr} {a : E} {o : BO} {i : Nat} {x : Str} {p : Pos} (hN : X.N.Nodup) (hi : X.N[i]? = some x) (hx : Loc X.env.scope x) (h : PE X e (tE T nm X.K cf W a)) (hps : ∀ {ti : V → V → Hp → VK → Prop}, PIp X (opOf o) ti → PS X (.AugAssign (.Name x p) (opOf o) e pos) (tAug i (tE T nm X.K cf W a) ti)) :
    PS X (.AugAssign (.Name x p) (opOf o) e pos) (tS T nm X.K cf W (.aug i o a)) :=
  PS.imp (hps in_aug) fun D σ H ⟨gb, g, ρ, st, m, l, n, oo⟩ => by
    have o' : OutS T nm X.K W gb D (match rdV ρ i with
      | some d => (evE T cf a ρ st).f ρ fun e st => (match augD o d e with
        | some r => .nx (ρ.set i (some r)) st
        | none => .no)
      | none => .no) := oo
    cases q : rdV ρ i with
    | none => rw [q] at o'; exact o'.elim
    | some d =>
      rw [q] at o'
      obtain ⟨q1, q2⟩ := rdV_some q
      obtain ⟨v, e1, sr⟩ := m.slots i _ q1
      have o2 : OutS T nm X.K W gb D ((evE T cf a ρ st).f ρ fun e st => (match augD o d e with
        | some r => .nx (ρ.set i (some r)) st
        | none => .no)) := o'
      refine ⟨v, e1, g, ρ, st, m, Out.imp (OutS.go o2 l) fun d2 st1 g1 H1 l1 m1 q3 w rw1 => ?_⟩
      have q3' : OutS T nm X.K W gb D (match augD o d d2 with
        | some r => F.nx (ρ.set i (some r)) st1
        | none => .no) := q3
      cases z : augD o d d2 with
      | none => rw [z] at q3'; exact q3'.elim
      | some r =>
        rw [z] at q3'
        obtain ⟨i1, j1, n1, rfl, rfl, rfl⟩ := augD_int z
        have ev : v = .int i1 := by
          have sr' : Rep T nm X.K g (.int i1) v := sr
          cases sr'
          rfl
        have ew : w = .int j1 := by
          have rr : Rep T nm X.K g1 (.int j1) w := rw1
          cases rr
          rfl
        exact ⟨i1, j1, n1, ev, ew, z, q3' g1 _ H1 (l.trans l1) (m1.set (SlR.rep (.int n1)))⟩
/-- the names of a tuple's items -/
def gsN : List Nat → TGs
  | [] => gNil
  | i :: r => gCons (gName i) (gsN r)
theorem gsN_of {g : Gh} : ∀ {is : List Nat} {ds : List Ev.D} {vs : List V} {ρ ρ' : Rho} {st : Sto} {σ : L2.St} {H : Hp} {Q : L2.St → Hp → Prop}, setAll ρ is ds = some ρ' → Reps T nm X.K g ds vs → Mt T nm X.K g ρ st σ H → (∀ σ', Mt T nm X.K g ρ' st σ' H → Q σ' H) → gsN is vs σ H Q
  | [], [], _, ρ, ρ', st, σ, H, Q, h, .nil, m, q => by
    cases h
    exact ⟨rfl, q σ m⟩
  | i :: is, d :: ds, _, ρ, ρ', st, σ, H, Q, h, .cons r rr, m, q => ⟨_, _, rfl, gsN_of (is := is) h rr (m.set (SlR.rep r)) q⟩
  | [], _ :: _, _, _, _, _, _, _, _, h, _, _, _ => by cases h
  | _ :: _, [], _, _, _, _, _, _, _, h, _, _, _ => by cases h
theorem setAll_len : ∀ {is : List Nat} {ds : List Ev.D} {ρ ρ' : Rho}, setAll ρ is ds = some ρ' → is.length = ds.length
  | [], [], _, _, _ => rfl
  | _ :: is, _ :: ds, _, _, h => by
    have := setAll_len (is := is) (ds := ds) h
    simp [this]
  | [], _ :: _, _, _, h => by cases h
  | _ :: _, [], _, _, h => by cases h
theorem ss_unp {e tg : Expr} {a : E} {is : List Nat} (h : PE X e (tE T nm X.K cf W a)) (hg : PG X tg (gTup X.K is.length (gsN is))) (hps : ∀ {te : TE} {gg : TG}, PE X e te → PG X tg gg → PS X (.Assign [tg] e pos) (tAsg te gg)) : PS X (.Assign [tg] e pos) (tS T nm X.K cf W (.unp is a)) :=
  PS.imp (hps h hg) fun D σ H ⟨gb, g, ρ, st, m, l, n, o⟩ => ⟨g, ρ, st, m, Out.imp (OutS.go o l) fun d st1 g1 H1 l1 m1 q v r => by
    cases d with
    | tup ds =>
      have r0 : Rep T nm X.K g1 (.tup ds) v := r
      cases r0 with
      | @tup p _ vs h1 rs =>
        have q' : OutS T nm X.K W gb D (F.of (setAll ρ is ds) st1) := q
        cases z : setAll ρ is ds with
        | none => rw [z] at q'; exact q'.elim
        | some ρ' =>
          rw [z] at q'
          refine ⟨p, vs, rfl, same_seqT (fun a o e => m1.imm a o (of_imH e)) h1, by rw [← rs.len, setAll_len z], gsN_of z rs m1 fun σ' m' => ?_⟩
          exact q' g1 σ' H1 (l.trans l1) m'
    | _ => exact q.elim⟩
/-! ### while -/
theorem whileL_ok {t : Tt} {b : Ev.S} {gb : Gh} {D : Ends} {n : Nat} {g : Gh} {ρ : Rho} {st : Sto} {σ : L2.St} {H : Hp} (m : Mt T nm X.K g ρ st σ H) (l : Le gb g) (ns : NoSlot gb) (o : OutS T nm X.K W gb D (whileL (evT T cf t) (exS T cf b) n ρ st)) :
    tWhile (tT T nm X.K cf W t) (tS T nm X.K cf W b) D σ H := by
  refine ⟨fun k σ' H' => ∃ g' ρ' st', Mt T nm X.K g' ρ' st' σ' H' ∧ Le gb g' ∧ OutS T nm X.K W gb D (whileL (evT T cf t) (exS T cf b) k ρ' st'), ⟨n, g, ρ, st, m, l, o⟩, ?_⟩
  rintro k σ' H' ⟨g', ρ', st', m', l', o'⟩
  cases k with
  | zero => exact o'.elim
  | succ k =>
    have o2 : OutS T nm X.K W gb D ((evT T cf t ρ' st').f ρ' fun kk st => if kk then (match exS T cf b ρ' st with
      | .nx ρ st => whileL (evT T cf t) (exS T cf b) k ρ st
      | .ct ρ st => whileL (evT T cf t) (exS T cf b) k ρ st
      | .bk ρ st => .nx ρ st
      | r => r) else .nx ρ' st) := o'
    refine ⟨g', ρ', st', m', Out.imp (OutS.go o2 l') fun bb st1 g1 H1 l1 m1 q => ?_⟩
    cases bb with
    | false =>
      simp only [Bool.false_eq_true, if_false] at q ⊢
      exact q g1 σ' H1 (l'.trans l1) m1
    | true =>
      simp only [if_true] at q ⊢
      refine ⟨fun σ2 H2 => ∃ g2 ρ2 st2, Mt T nm X.K g2 ρ2 st2 σ2 H2 ∧ Le gb g2 ∧ OutS T nm X.K W gb D (whileL (evT T cf t) (exS T cf b) k ρ2 st2), fun σ2 H2 z => ⟨k, Nat.lt_succ_self k, z⟩, ?_⟩
      refine ⟨gb, g1, ρ', st1, m1, l'.trans l1, ns, ?_⟩
      cases q2 : exS T cf b ρ' st1 with
      | nx ρ3 st3 =>
        rw [q2] at q
        exact fun g3 σ3 H3 l3 m3 => ⟨g3, ρ3, st3, m3, l3, q⟩
      | ct ρ3 st3 =>
        rw [q2] at q
        exact fun g3 σ3 H3 l3 m3 => ⟨g3, ρ3, st3, m3, l3, q⟩
      | bk ρ3 st3 =>
        rw [q2] at q
        exact fun g3 σ3 H3 l3 m3 => q g3 σ3 H3 l3 m3
      | rt d st3 => rw [q2] at q; exact q
      | er x ρ3 st3 => rw [q2] at q; exact q
      | no => rw [q2] at q; exact q
theorem ss_while {c : Expr} {body : List Stmt} {t : Tt} {b : Ev.S} (hp : PassesOwn (model X.prog X.w) X.A X.env X.xe) (hc : PT X c (tT T nm X.K cf W t)) (hb : PSs X body (tS T nm X.K cf W b)) : PS X (.While c body [] pos) (tS T nm X.K cf W (.while_ t b)) :=
  PS.imp (ps_while hp hc hb) fun D σ H ⟨gb, g, ρ, st, m, l, n, o⟩ => whileL_ok m l n o
/-! ### x.insert(i, e), x of its own -/
theorem ss_insr {e1 e2 : Expr} {a b : E} {i : Nat} {x : Str} {p p2 p3 : Pos}
    (hm : PE X (.Call (.Attribute (.Name x p) "insert" p2) [e1, e2] [] p3) (tBM X.K "list" (fun x vs H Q => ∃ (l : Addr) (xs : List V) (i : Int) (y : V), x = .ref l ∧ vs = [.int i, y] ∧ H l = some (.lst xs) ∧ xs.length < sizeLine ∧ 0 ≤ i ∧ i < 2 ^ 63 ∧ Q .non (upd H l (.lst (xs.take i.toNat ++ [y] ++ xs.drop i.toNat)))) (tVar i) (tCons (tE T nm X.K cf W a) (tCons (tE T nm X.K cf W b) tNil)))) :
    PS X (.Expr (.Call (.Attribute (.Name x p) "insert" p2) [e1, e2] [] p3) pos) (tS T nm X.K cf W (.insr i a b)) :=
  PS.imp (ps_expr hm rfl) fun D σ H ⟨gb, g, ρ, st, m, l, n, o⟩ => by
    have o' : OutS T nm X.K W gb D (match ownAt ρ i with
      | some ds => if ds.length < LINE then (evE T cf a ρ st).f ρ fun y st => (evE T cf b ρ st).f ρ fun d st => (match y with
        | .int k => if 0 ≤ k ∧ k ≤ ds.length then .nx (ρ.set i (some (.own (insAt ds k.toNat (fz d))))) st else .no
        | _ => .no) else .no
      | none => .no) := o
    cases q : ownAt ρ i with
    | none => rw [q] at o'; exact o'.elim
    | some ds =>
      rw [q] at o'
      have o2 : OutS T nm X.K W gb D (if ds.length < LINE then (evE T cf a ρ st).f ρ fun y st => (evE T cf b ρ st).f ρ fun d st => (match y with
        | .int k => if 0 ≤ k ∧ k ≤ ds.length then .nx (ρ.set i (some (.own (insAt ds k.toNat (fz d))))) st else .no
        | _ => .no) else .no) := o'
      by_cases hl : ds.length < LINE
      · rw [if_pos hl] at o2
        have e := ownAt_some q
        obtain ⟨v, e1, p, vs, ev, h1, h2, r⟩ := m.slots i _ e
        subst ev
        refine ⟨.ref p, e1, .inl ⟨rfl, vs, .of h2⟩, g, ρ, st, m, Out.imp (OutS.go o2 l) fun y st1 g1 H1 l1 m1 q1 w rw1 => ⟨g1, ρ, st1, m1, Out.imp (OutS.go q1 (l.trans l1)) fun d st2 g2 H2 l2 m2 q2 w2 rw2 => ?_⟩⟩
        cases y with
        | int j =>
          cases (show Rep T nm X.K g1 (.int j) w from rw1)
          obtain ⟨g3, l3, m3, r3⟩ := kept rw2 m2 l2
          have q3 : OutS T nm X.K W gb D (if 0 ≤ j ∧ j ≤ ds.length then F.nx (ρ.set i (some (.own (insAt ds j.toNat (fz d))))) st2 else .no) := q2
          by_cases hj : 0 ≤ j ∧ j ≤ ds.length
          · rw [if_pos hj] at q3
            obtain ⟨v', e1', p', vs', ev', h1', h2', r'⟩ := m3.slots i _ e
            subst ev'
            rw [e1] at e1'
            cases e1'
            refine ⟨p, vs', j, w2, rfl, rfl, h2', by rw [← r'.len]; exact line_lt hl, hj.1, ?_, ?_⟩
            · have : (LINE : Int) < 2 ^ 63 := by decide
              have : (ds.length : Int) < LINE := by exact_mod_cast hl
              omega
            · have rr : Reps T nm X.K g3 (insAt ds j.toNat (fz d)) (vs'.take j.toNat ++ [w2] ++ vs'.drop j.toNat) := by
                rw [List.append_assoc]
                exact (r'.take _).append (.cons r3 (r'.drop _))
              exact q3 g3 σ _ ((l.trans l1).trans l3) (m3.own_upd e1 h1' rr)
          · rw [if_neg hj] at q3
            exact q3.elim
        | _ => exact q2.elim
      · rw [if_neg hl] at o2
        exact o2.elim
end
end Snd
set_option Elab.async false
set_option linter.all false
set_option maxRecDepth 100000
set_option maxHeartbeats 1000000
/-! SndU: dicts made, two loops in a comprehension, lists of the store. -/
namespace Snd
open PySem PySem.Spec PyProof.Rows L2 Ev
section
variable {X : Cx} {T : Tab} {nm : Nm} {K : PySem.W.Frag} {W : WX} {cf : Nat → List D → Sto → R D} {pos : Pos} {k : Nat} {g g0 g1 g2 gb : Gh} {ρ : Rho} {st st1 st2 : Sto} {σ : L2.St} {H H1 H2 : Hp}
theorem Mt.storedO (m : Mt T nm K g ρ st σ H) {p : Addr} {o : HO} {ob : Ob} (h : g p = some (.held o)) (r : ObR T nm K g ob o) : Mt T nm K (put g p (.sto st.length)) ρ (st ++ [ob]) σ H ∧ Lim g (put g p (.sto st.length)) := by
  have hp := m.held _ _ h
  have lm : Lim g (put g p (.sto st.length)) := ⟨fun a o e => by rw [put_ne (fun z => by rw [z, h] at e; cases e)]; exact e, fun a k e => by rw [put_ne (fun z => by rw [z, h] at e; cases e)]; exact e⟩
  have old : ∀ a u, a ≠ p → put g p (.sto st.length) a = some u → g a = some u := fun a u n e => by rw [put_ne n] at e; exact e
  refine ⟨⟨⟨fun a o' e => ?_, fun a o' e => ?_, fun k ob e => ?_, fun a k e => ?_, fun a b k e1 e2 => ?_, fun a u e => ?_⟩, m.len, fun i d e => ?_⟩, lm⟩
  · by_cases n : a = p
    · subst n
      rw [put_same] at e
      cases e
    · exact m.imm a o' (old a _ n e)
  · by_cases n : a = p
    · subst n
      rw [put_same] at e
      cases e
    · exact m.held a o' (old a _ n e)
  · by_cases n : k < st.length
    · rw [List.getElem?_append_left n] at e
      obtain ⟨a, o', e1, e2, r⟩ := m.sto k ob e
      exact ⟨a, o', lm.2 _ _ e1, e2, r.mono lm⟩
    · rw [List.getElem?_append_right (by omega)] at e
      have hk : k = st.length := by
        cases q : k - st.length with
        | zero => omega
        | succ j => rw [q] at e; simp at e
      subst hk
      simp at e
      subst e
      exact ⟨p, _, put_same, hp, r.mono lm⟩
  · rw [List.length_append]
    by_cases n : a = p
    · subst n
      rw [put_same] at e
      cases e
      exact Nat.lt_succ_self _
    · exact Nat.lt_succ_of_lt (m.stl a k (old a _ n e))
  · by_cases na : a = p
    · by_cases nb : b = p
      · rw [na, nb]
      · subst na
        rw [put_same] at e1
        cases e1
        have z := m.stl b _ (old b _ nb e2)
        exact absurd z (Nat.lt_irrefl _)
    · by_cases nb : b = p
      · subst nb
        rw [put_same] at e2
        cases e2
        have z := m.stl a _ (old a _ na e1)
        exact absurd z (Nat.lt_irrefl _)
      · exact m.uniq a b k (old a _ na e1) (old b _ nb e2)
  · by_cases n : a = p
    · subst n
      exact ⟨_, hp⟩
    · exact m.trk a u (old a _ n e)
  · obtain ⟨v, e1, r⟩ := m.slots i d e
    refine ⟨v, e1, r.mono lm fun q e2 => ⟨?_, rfl⟩⟩
    rw [put_ne (fun z => by rw [z, h] at e2; cases e2)]
    exact e2
theorem Mt.held_updO (m : Mt T nm K g ρ st σ H) {p : Addr} {o : HO} (o2 : HO) (h1 : g p = some (.held o)) : Mt T nm K (put g p (.held o2)) ρ st σ (upd H p o2) ∧ Lim g (put g p (.held o2)) := by
  have pn : ∀ a t, g a = some t → (∀ o, t ≠ .held o) → a ≠ p := fun a t e n z => by
    rw [z, h1] at e
    cases e
    exact n o rfl
  have lm : Lim g (put g p (.held o2)) := ⟨fun a o e => by rw [put_ne (pn a _ e (fun _ z => nomatch z))]; exact e, fun a j e => by rw [put_ne (pn a _ e (fun _ z => nomatch z))]; exact e⟩
  have ob : ∀ a t, put g p (.held o2) a = some t → (∀ o, t ≠ .held o) → a ≠ p ∧ g a = some t := fun a t e n => by
    by_cases z : a = p
    · subst z
      rw [put_same] at e
      cases e
      exact absurd rfl (n _)
    · rw [put_ne z] at e
      exact ⟨z, e⟩
  refine ⟨⟨⟨fun a o e => ?_, fun a o e => ?_, fun j b e => ?_, fun a j e => m.stl a j (ob a _ e (fun _ z => nomatch z)).2, fun a b j e f => m.uniq a b j (ob a _ e (fun _ z => nomatch z)).2 (ob b _ f (fun _ z => nomatch z)).2, fun a t e => ?_⟩, m.len, fun j d z => ?_⟩, lm⟩
  · obtain ⟨n, e'⟩ := ob a _ e (fun _ z => nomatch z)
    rw [upd_ne n]
    exact m.imm a o e'
  · by_cases n : a = p
    · subst n
      rw [put_same] at e
      cases e
      exact upd_same
    · rw [put_ne n] at e
      rw [upd_ne n]
      exact m.held a o e
  · obtain ⟨a, o', e1, e2, rr⟩ := m.sto j b e
    have n := pn a _ e1 (fun _ z => nomatch z)
    exact ⟨a, o', by rw [put_ne n]; exact e1, by rw [upd_ne n]; exact e2, rr.mono lm⟩
  · by_cases n : a = p
    · subst n
      exact ⟨_, upd_same⟩
    · rw [upd_ne n]
      rw [put_ne n] at e
      exact m.trk a t e
  · obtain ⟨w, h3, h4⟩ := m.slots j d z
    exact ⟨w, h3, h4.mono lm fun q e3 => ⟨by rw [put_ne (pn q _ e3 (fun _ z => nomatch z))]; exact e3, upd_ne (pn q _ e3 (fun _ z => nomatch z))⟩⟩
end
section
variable {X : Cx} {T : Tab} {nm : Nm} {W : WX} {cf : Nat → List D → Sto → R D} {pos : Pos} {k : Nat} {g g0 g1 g2 gb : Gh} {ρ : Rho} {st st1 st2 : Sto} {σ : L2.St} {H H1 H2 : Hp}
theorem se_stoG {e : Expr} {a : E} (h : PE X e (tE T nm X.K cf W a)) : PE X e (tE T nm X.K cf W (.sto a)) :=
  PE.imp h fun σ H Q ⟨g, ρ, st, m, o⟩ => ⟨g, ρ, st, m, by
    have o1 := Out.bind0 (r := evE T cf a ρ st) o
    refine Out.imp o1 fun d st1 g1 H1 l1 m1 q v r => ?_
    cases d with
    | own ds =>
      obtain ⟨p, vs, ev, h1, h2, h3⟩ := r
      subst ev
      obtain ⟨m2, lm⟩ := m1.storedO h1 (ob := .lst ds) ⟨vs, rfl, h3⟩
      have l2 : Le g (put g1 p (.sto st1.length)) := fun a t e => by
        rw [put_ne (fun z => by rw [z, h2] at e; cases e)]
        exact l1 a t e
      exact q _ H1 l2 m2 _ (.ref put_same)
    | _ => exact q.elim⟩
theorem se_dnew : PE X (.Dict [] [] pos) (tE T nm X.K cf W .dnew) :=
  PE.imp pe_dnewK fun σ H Q ⟨g, ρ, st, m, o⟩ p hp => by
    have m1 : Mt T nm X.K (put g p (.held (.dK []))) ρ st σ (upd H p (.dK [])) := m.new hp (.inr rfl)
    have l1 : Le g (put g p (.held (.dK []))) := le_put (m.fresh hp)
    obtain ⟨m2, lm⟩ := m1.storedO put_same (ob := .dct []) ⟨[], rfl, trivial⟩
    have o' : Out T nm X.K W g ρ σ (fun d _ g' H' => ∀ v, RepR T nm X.K g g' d v → Q v H') (.ok (.ref st.length) (st ++ [.dct []])) := o
    refine o' _ _ (fun a t e => ?_) m2 (.ref p) (.ref put_same)
    have na : a ≠ p := fun z => by rw [z, m.fresh hp] at e; cases e
    rw [put_ne na]
    exact l1 a t e
/-- r.pop(i) -/
theorem se_pop {e1 e : Expr} {a b : E} {p2 : Pos} (hm : PE X (.Call (.Attribute e1 "pop" p2) [e] [] pos) (tBM X.K "list" rPopAt (tE T nm X.K cf W a) (tCons (tE T nm X.K cf W b) tNil))) : PE X (.Call (.Attribute e1 "pop" p2) [e] [] pos) (tE T nm X.K cf W (.pop a b)) :=
  PE.imp hm fun σ H Q ⟨g, ρ, st, m, o⟩ => by
    refine ⟨g, ρ, st, m, Out.imp (Out.bind0 (r := evE T cf a ρ st) o) fun x st1 g1 H1 l1 m1 q v rx => ?_⟩
    by_cases hr : isLR st1 x = true
    rotate_left
    · rw [if_neg hr] at q
      exact q.elim
    rw [if_pos hr] at q
    obtain ⟨r, ds, ex, h1⟩ := isLR_of hr
    subst ex
    obtain ⟨p, vs, ev, gp, hp, rr⟩ := sto_lst (ρ := ρ) (σ := σ) (.of_rep rx) m1 h1
    subst ev
    refine ⟨.inl ⟨rfl, vs, .of hp⟩, g1, ρ, st1, m1, Out.imp ((Out.bind0 q).le l1) fun d st2 g2 H2 l2 m2 q2 w rw1 => ?_⟩
    have q3 : Out T nm X.K W g ρ σ (fun d _ g' H' => ∀ v, RepR T nm X.K g g' d v → Q v H') (popE (.ref r) d st2) := q2
    cases d with
    | int j =>
      cases (show Rep T nm X.K g2 (.int j) w from rw1)
      cases h2 : st2[r]? with
      | none => simp only [popE, h2] at q3; exact q3.elim
      | some ob =>
        cases ob with
        | lst es =>
          obtain ⟨p', vs', ev', gp', hp', rr'⟩ := sto_lst (ρ := ρ) (σ := σ) ((LkR.of_rep rx).le l2) m2 h2
          cases ev'
          by_cases hb : -(LINE : Int) < j ∧ j < LINE
          rotate_left
          · simp only [popE, h2, if_neg hb] at q3
            exact q3.elim
          cases h3 : Ev.ixN es.length j with
          | none => simp only [popE, h2, if_pos hb, h3] at q3; exact q3.elim
          | some i =>
            cases h4 : es[i]? with
            | none => simp only [popE, h2, if_pos hb, h3, h4] at q3; exact q3.elim
            | some d =>
              simp only [popE, h2, if_pos hb, h3, h4] at q3
              obtain ⟨y, h5, ry⟩ := rr'.at h4
              have er : Reps T nm X.K g2 (es.eraseIdx i) (vs'.eraseIdx i) := by
                rw [List.eraseIdx_eq_take_drop_succ, List.eraseIdx_eq_take_drop_succ]
                exact (rr'.take _).append (rr'.drop _)
              have hz : (LINE : Int) < 2 ^ 63 := by decide
              have h3' : L2.ixN vs'.length j = some i := by rw [← rr'.len]; exact h3
              exact ⟨p, vs', j, i, y, rfl, rfl, hp', by omega, by omega, (ixN_seq h3').1, h5, q3 g2 _ (l1.trans l2) (m2.sto_upd gp' er) y (RepR.plain ry ry.plain)⟩
        | _ => simp only [popE, h2] at q3; exact q3.elim
    | _ => exact (show False from q3).elim
end
end Snd
set_option Elab.async false
set_option linter.all false
set_option maxRecDepth 100000
set_option maxHeartbeats 1000000
/-! SndV: dict comprehensions; two loops in a comprehension. -/
namespace Snd
open PySem PySem.Spec PyProof.Rows L2 Ev
section
variable {X : Cx} {T : Tab} {nm : Nm} {K : PySem.W.Frag} {W : WX} {cf : Nat → List D → Sto → R D} {pos : Pos} {g g2 : Gh} {ρ : Rho} {st st2 : Sto} {σ : L2.St} {H H2 : Hp}
theorem compD_cons {ek ev : Rho → Sto → R Ev.D} {te : Rho → Sto → R Bool} {is : List Nat} {ρ' : Rho} {d0 : List Ev.D} {r : List (List Ev.D)} {acc kvs : List (Ev.D × Ev.D)} {st' : Sto} (hs : setAll ρ is d0 = some ρ') (h : compD ek ev te ρ is (d0 :: r) acc st = .ok kvs st') :
    ∃ b st1, te ρ' st = .ok b st1 ∧ ((b = false ∧ compD ek ev te ρ is r acc st1 = .ok kvs st') ∨ (b = true ∧ ∃ k st2 v st3, ek ρ' st1 = .ok k st2 ∧ ev ρ' st2 = .ok v st3 ∧ (acc.length < LINE ∧ isKey k = true) ∧ compD ek ev te ρ is r (dPut acc k (fz v)) st3 = .ok kvs st')) := by
  rw [compD] at h
  simp only [hs] at h
  cases q : te ρ' st with
  | ok b st1 =>
    rw [q] at h
    refine ⟨b, st1, rfl, ?_⟩
    cases b with
    | false => exact .inl ⟨rfl, h⟩
    | true =>
      refine .inr ⟨rfl, ?_⟩
      simp only [bind_ok, if_true] at h
      cases q2 : ek ρ' st1 with
      | ok k st2 =>
        rw [q2] at h
        simp only [bind_ok] at h
        cases q3 : ev ρ' st2 with
        | ok v st3 =>
          rw [q3] at h
          simp only [bind_ok] at h
          by_cases hl : acc.length < LINE ∧ isKey k = true
          · rw [if_pos hl] at h
            exact ⟨k, st2, v, st3, rfl, q3, hl, h⟩
          · rw [if_neg hl] at h
            cases h
        | er x st3 => rw [q3] at h; cases h
        | no => rw [q3] at h; cases h
      | er x st2 => rw [q2] at h; cases h
      | no => rw [q2] at h; cases h
  | er x st1 => rw [q] at h; cases h
  | no => rw [q] at h; cases h
theorem compD_nil {ek ev : Rho → Sto → R Ev.D} {te : Rho → Sto → R Bool} {is : List Nat} {acc : List (Ev.D × Ev.D)} : compD ek ev te ρ is [] acc st = .ok acc st := by rw [compD]
end
section
variable {X : Cx} {T : Tab} {nm : Nm} {W : WX} {cf : Nat → List D → Sto → R D} {pos : Pos} {g g2 : Gh} {ρ : Rho} {st st2 : Sto} {σ : L2.St} {H H2 : Hp}
/-- what yields items that stay -/
def Src1 (T : Tab) (nm : Nm) (K : PySem.W.Frag) (g1 : Gh) (J : L2.It) (items : List Ev.D) : Prop := ∀ (g' : Gh) (ρ' : Rho) (st' : Sto) (σ' : L2.St) (H' : Hp), Le g1 g' → Mt T nm K g' ρ' st' σ' H' →
  (∀ j, j < items.length → J.go j H') ∧ J.stop items.length H' ∧ ∀ j x H'', j < items.length → J.yld j H' x H'' → H'' = H' ∧ ∃ d, items[j]? = some d ∧ Rep T nm K g' d x
theorem src1_row {g1 : Gh} {ds : List Ev.D} {vs : List V} {p : Addr} {q : Bool} (rs : Reps T nm X.K g1 ds vs) (hs : ∀ (g' : Gh) (ρ' : Rho) (st' : Sto) (σ' : L2.St) (H' : Hp), Le (strip g1) g' → Mt T nm X.K g' ρ' st' σ' H' → SqQ X.K q H' p vs) :
    Src1 T nm X.K g1 (match q with | true => Itl X.K p | false => Itt X.K p) ds := fun g' ρ' st' σ' H' l m => by
  have s := hs g' ρ' st' σ' H' (le_strip.trans l) m
  cases q with
  | true =>
    refine ⟨fun j hj => ⟨vs, vs[j]'(by rw [← rs.len]; exact hj), s, by simp⟩, ⟨vs, s, by rw [rs.len]; exact Nat.le_refl _⟩, fun j x H'' hj ⟨e1, y⟩ => ⟨e1, ?_⟩⟩
    obtain ⟨d, h1, h2⟩ := rs.at2 (y vs s)
    exact ⟨d, h1, h2.mono l.lim⟩
  | false =>
    refine ⟨fun j hj => ⟨vs, vs[j]'(by rw [← rs.len]; exact hj), s, by simp⟩, ⟨vs, s, by rw [rs.len]; exact Nat.le_refl _⟩, fun j x H'' hj ⟨e1, y⟩ => ⟨e1, ?_⟩⟩
    obtain ⟨d, h1, h2⟩ := rs.at2 (y vs s)
    exact ⟨d, h1, h2.mono l.lim⟩
/-- the reading of a row that is walked -/
theorem iseq_of {g1 : Gh} {tl : TE} {d : Ev.D} {ds : List Ev.D} {v : V} {g0 : Gh} {st1 : Sto} {H1 : Hp} {R : L2.It → Hp → Prop} (r : RepR T nm X.K g0 g1 d v) (m1 : Mt T nm X.K g1 ρ st1 σ H1) (h : seqOf d = some ds) (hR : ∀ J, Src1 T nm X.K g1 J ds → R J H1) :
    (∃ a, v = .ref a ∧ (∃ xs, SqL X.K H1 a xs) ∧ R (Itl X.K a) H1) ∨ (∃ a, v = .ref a ∧ (∃ xs, SqT X.K H1 a xs) ∧ R (Itt X.K a) H1) := by
  obtain ⟨p, q, vs, rfl, rs, hs⟩ := row_ok r m1 h
  have s := hs g1 ρ st1 σ H1 le_strip m1
  have z := src1_row rs hs
  cases q with
  | true => exact .inl ⟨p, rfl, ⟨vs, s⟩, hR _ z⟩
  | false => exact .inr ⟨p, rfl, ⟨vs, s⟩, hR _ z⟩
theorem compD_main {J : L2.It} {items : List Ev.D} {g0 g1 : Gh} {st1 : Sto} {H1 : Hp} {i : Nat} {k v : E} {t : Tt} {Q : VK} {D : Addr} {kvs : List (Ev.D × Ev.D)} (m1 : Mt T nm X.K g1 ρ st1 σ H1) (l0 : Le g0 g1) (hD : H1 D = none) (hp : plainO ρ[i]? = true)
    (hJ : Src1 T nm X.K g1 J items) (hc : compD (evE T cf k) (evE T cf v) (evT T cf t) ρ [i] (items.map fun d => [d]) [] st1 = .ok kvs st2)
    (hQ : ∀ g' H', Le g0 g' → Mt T nm X.K g' ρ (st2 ++ [.dct kvs]) σ H' → g' D = some (.sto st2.length) → Q (.ref D) H') :
    ∃ Wv : Nat → Nat → Hp → Prop, (∃ m, Wv 0 m (upd H1 D (.dK []))) ∧ ∀ j m H, Wv j m H →
      (J.stop j H ∧ Q (.ref D) H) ∨ (J.go j H ∧ ∃ Nx : Hp → Prop, (∀ H', Nx H' → ∃ m', m' < m ∧ Wv (j + 1) m' H') ∧ ∀ x H', J.yld j H x H' → gName i x (wipe σ [i]) H' fun σ2 H2 => wipe σ2 [i] = wipe σ [i] ∧ tT T nm X.K cf WN t σ2 H2 fun b H3 =>
        if b = true then tE T nm X.K cf WN k σ2 H3 fun y H4 => tE T nm X.K cf WN v σ2 H4 fun z H5 => ∃ kws q, y = kV q ∧ H5 D = some (.dK kws) ∧ kws.length < sizeLine ∧ Nx (upd H5 D (.dK (putK kws q z))) else Nx H3) := by
  have gD : g1 D = none := m1.fresh hD
  have gD0 : g0 D = none := by
    cases z : g0 D with
    | none => rfl
    | some t => rw [l0 _ _ z] at gD; cases gD
  refine ⟨fun j m H => m = items.length - j ∧ j ≤ items.length ∧ ∃ g' st' acc vacc, Le g1 g' ∧ Mt T nm X.K g' ρ st' σ H ∧ g' D = some (.held (.dK vacc)) ∧ KvR T nm X.K g' acc vacc ∧ compD (evE T cf k) (evE T cf v) (evT T cf t) ρ [i] ((items.drop j).map fun d => [d]) acc st' = .ok kvs st2,
    ⟨_, rfl, Nat.zero_le _, put g1 D (.held (.dK [])), st1, [], [], le_put gD, m1.new hD (.inr rfl), put_same, trivial, by rw [List.drop_zero]; exact hc⟩, ?_⟩
  rintro j m H ⟨rfl, hj, g', st', acc, vacc, l', m', hd, ra, hc'⟩
  obtain ⟨hgo, hstop, hyld⟩ := hJ g' ρ st' σ H l' m'
  by_cases hlt : j < items.length
  · refine .inr ⟨hgo j hlt, fun H' => ∃ g' st' acc vacc, Le g1 g' ∧ Mt T nm X.K g' ρ st' σ H' ∧ g' D = some (.held (.dK vacc)) ∧ KvR T nm X.K g' acc vacc ∧ compD (evE T cf k) (evE T cf v) (evT T cf t) ρ [i] ((items.drop (j + 1)).map fun d => [d]) acc st' = .ok kvs st2,
      fun H' p => ⟨items.length - (j + 1), by omega, rfl, hlt, p⟩, fun x H' hy => ?_⟩
    obtain ⟨eH, d, hi, rd⟩ := hyld j x H' hlt hy
    subst eH
    rw [drop_at hi, List.map_cons] at hc'
    obtain ⟨b, sb, hb, hcase⟩ := compD_cons (ρ' := ρ.set i (some d)) rfl hc'
    have hgn : ∀ k : L2.St → Hp → Prop, k (σ.set i (some x)) H' → gName i x (wipe σ [i]) H' k := fun k h => by
      show k ((wipe σ [i]).set i (some x)) H'
      rw [wipe_set]
      exact h
    refine hgn _ ⟨wipe_again, g', ρ.set i (some d), st', m'.set (SlR.rep rd), ?_⟩
    rw [hb]
    intro g2 H3 l2 m2
    rcases hcase with ⟨rfl, hr⟩ | ⟨rfl, kd, sk, vd, sv, hk, hv, ⟨hl, hkey⟩, hr⟩
    · simp only [Bool.false_eq_true, if_false]
      exact ⟨g2, sb, acc, vacc, l'.trans l2, m'.back l2 hp m2, l2 _ _ hd, ra.mono l2.lim, hr⟩
    · simp only [if_true]
      refine ⟨g2, ρ.set i (some d), sb, m2, ?_⟩
      rw [hk]
      intro g3 H4 l3 m3 y ry
      obtain ⟨q, hq, ey⟩ := key_is hkey (LkR.of_rep ry) m3
      refine ⟨g3, ρ.set i (some d), sk, m3, ?_⟩
      rw [hv]
      intro g4 H5 l4 m4 z rz
      obtain ⟨g5, l5, m5, r5⟩ := kept rz m4 l4
      have l25 := (l2.trans l3).trans l5
      have mb := m'.back l25 hp m5
      have hd5 := l25 _ _ hd
      refine ⟨vacc, q, ey, mb.held _ _ hd5, by rw [kv_len ra]; exact line_lt hl, ?_⟩
      obtain ⟨m6, lm6⟩ := mb.held_updO (.dK (putK vacc q z)) hd5
      refine ⟨_, sv, dPut acc kd (fz vd), putK vacc q z, fun a t w => ?_, m6, put_same, (kv_put hq r5 (ra.mono l25.lim)).mono lm6, hr⟩
      have na : a ≠ D := fun w' => by rw [w', gD] at w; cases w
      rw [put_ne na]
      exact (l'.trans l25) _ _ w
  · have e0 : j = items.length := by omega
    subst e0
    rw [List.drop_eq_nil_of_le (Nat.le_refl _), List.map_nil, compD_nil] at hc'
    cases hc'
    obtain ⟨m6, lm6⟩ := m'.storedO hd (ob := .dct kvs) ⟨vacc, rfl, ra⟩
    refine .inl ⟨hstop, hQ _ H (fun a t w => ?_) m6 put_same⟩
    have na : a ≠ D := fun w' => by rw [w', gD0] at w; cases w
    rw [put_ne na]
    exact (l0.trans l') _ _ w
theorem se_dcompSeq {kx vx iter tgt : Expr} {ifs : List Expr} {scope : Scope} {x : Str} {i : Nat} {a k v : E} {t : Tt} (hc : X.calm = true) (hN : X.N.Nodup) (ha : PE X iter (tE T nm X.K cf W a)) (ok : BlkOk X.N X.env.scope scope [(x, i)])
    (hg : ∀ (s : Shared) (H : Hp) (C : Addr) (cl : List (Str × Addr)) (fp : List Addr), PG (X.blk s H scope (compEnvC scope cl C X.env) fp) tgt (gName i))
    (ht : ∀ (s : Shared) (H : Hp) (C : Addr) (cl : List (Str × Addr)) (fp : List Addr), PTs (X.blk s H scope (compEnvC scope cl C X.env) fp) ifs (tT T nm X.K cf WN t))
    (hk : ∀ (s : Shared) (H : Hp) (C : Addr) (cl : List (Str × Addr)) (fp : List Addr), PE (X.blk s H scope (compEnvC scope cl C X.env) fp) kx (tE T nm X.K cf WN k))
    (hv : ∀ (s : Shared) (H : Hp) (C : Addr) (cl : List (Str × Addr)) (fp : List Addr), PE (X.blk s H scope (compEnvC scope cl C X.env) fp) vx (tE T nm X.K cf WN v)) (hs : ∀ y, foldedSetIterable iter X.env y = pure y) :
    PE X (.DictComp kx vx [⟨tgt, iter, ifs, 0⟩] scope pos) (tE T nm X.K cf W (.dcomp [i] k v (.seq a) t)) :=
  PE.imp (pe_dc hc hN (pi_seq ha) ok hg ht hk hv hs) fun σ H Q ⟨g, ρ, st, m, o⟩ => by
    refine ⟨g, ρ, st, m, Out.imp (Out.bind0 (Out.bind0 o)) fun d st1 g1 H1 l1 m1 q v0 r => ?_⟩
    cases hd : seqOf d with
    | none => rw [hd] at q; exact (show False from q).elim
    | some ds =>
      rw [hd] at q
      have q1 : Out T nm X.K W g ρ σ (fun d _ g' H' => ∀ v, RepR T nm X.K g g' d v → Q v H') (if [i].all fun i => plainO ρ[i]? then (match compD (evE T cf k) (evE T cf v) (evT T cf t) ρ [i] (ds.map fun x => [x]) [] st1 with
        | .ok kvs st => .ok (.ref st.length) (st ++ [.dct kvs])
        | _ => .no) else .no) := q g1 H1 l1 m1
      by_cases hp : ([i].all fun i => plainO ρ[i]?) = true
      rotate_left
      · rw [if_neg hp] at q1
        exact q1.elim
      rw [if_pos hp] at q1
      cases hcl : compD (evE T cf k) (evE T cf v) (evT T cf t) ρ [i] (ds.map fun x => [x]) [] st1 with
      | er x st2 => rw [hcl] at q1; exact q1.elim
      | no => rw [hcl] at q1; exact q1.elim
      | ok kvs st2 =>
        rw [hcl] at q1
        have q2 : Out T nm X.K W g ρ σ (fun d _ g' H' => ∀ v, RepR T nm X.K g g' d v → Q v H') (.ok (.ref st2.length) (st2 ++ [.dct kvs])) := q1
        obtain ⟨p, qq, vs, rfl, rs, hs⟩ := row_ok r m1 hd
        have s := hs g1 ρ st1 σ H1 le_strip m1
        have z := src1_row rs hs
        cases qq with
        | true => exact .inl ⟨p, rfl, ⟨vs, s⟩, fun D hD => compD_main (Q := Q) m1 l1 hD (by simpa using hp) z hcl fun g' H' l m z => q2 g' H' l m (.ref D) (.ref z)⟩
        | false => exact .inr ⟨p, rfl, ⟨vs, s⟩, fun D hD => compD_main (Q := Q) m1 l1 hD (by simpa using hp) z hcl fun g' H' l m z => q2 g' H' l m (.ref D) (.ref z)⟩
end
end Snd
set_option Elab.async false
set_option linter.all false
set_option maxRecDepth 100000
set_option maxHeartbeats 1000000
/-! SndW: two loops in a comprehension. -/
namespace Snd
open PySem PySem.Spec PyProof.Rows L2 Ev
section
variable {X : Cx} {T : Tab} {nm : Nm} {W : WX} {cf : Nat → List D → Sto → R D} {pos : Pos} {g g2 : Gh} {ρ : Rho} {st st2 : Sto} {σ : L2.St} {H H2 : Hp}
theorem compL2_nil {src : Rho → Sto → R (List (List Ev.D))} {el : Rho → Sto → R Ev.D} {te : Rho → Sto → R Bool} {is is2 : List Nat} {acc : List Ev.D} : compL2 src el te ρ is is2 [] acc st = .ok acc st := by rw [compL2]
theorem compL2_cons {src : Rho → Sto → R (List (List Ev.D))} {el : Rho → Sto → R Ev.D} {te : Rho → Sto → R Bool} {is is2 : List Nat} {ρ' : Rho} {d0 : List Ev.D} {r : List (List Ev.D)} {acc ds : List Ev.D} {st' : Sto} (hs : setAll ρ is d0 = some ρ') (h : compL2 src el te ρ is is2 (d0 :: r) acc st = .ok ds st') :
    ∃ dss st1 acc1 st2, src ρ' st = .ok dss st1 ∧ compL el te ρ' is2 dss acc st1 = .ok acc1 st2 ∧ compL2 src el te ρ is is2 r acc1 st2 = .ok ds st' := by
  rw [compL2] at h
  simp only [hs] at h
  cases q : src ρ' st with
  | ok dss st1 =>
    rw [q] at h
    simp only [bind_ok] at h
    cases q2 : compL el te ρ' is2 dss acc st1 with
    | ok acc1 st2 =>
      rw [q2] at h
      exact ⟨dss, st1, acc1, st2, rfl, q2, h⟩
    | er x st2 => rw [q2] at h; cases h
    | no => rw [q2] at h; cases h
  | er x st1 => rw [q] at h; cases h
  | no => rw [q] at h; cases h
theorem Mt.backL (m : Mt T nm X.K g ρ st σ H) {i : Nat} {x : Option Ev.D} {v : Option V} (l : Lim g g2) (hp : plainO ρ[i]? = true) (m2 : Mt T nm X.K g2 (ρ.set i x) st2 (σ.set i v) H2) : Mt T nm X.K g2 ρ st2 σ H2 := by
  refine ⟨m2.toMt0, m.len, fun j d z => ?_⟩
  by_cases e : i = j
  · subst e
    obtain ⟨w, h1, h2⟩ := m.slots i d z
    rw [z] at hp
    refine ⟨w, h1, ?_⟩
    cases d with
    | own ds => cases hp
    | obj c ds => cases hp
    | exc c ds => cases hp
    | _ => exact Rep.mono l h2
  · obtain ⟨w, h1, h2⟩ := m2.slots j d (by rw [List.getElem?_set_ne e]; exact z)
    rw [List.getElem?_set_ne e] at h1
    exact ⟨w, h1, h2⟩
/-- all but one address -/
def del (g : Gh) (D : Addr) : Gh := fun a => if a = D then none else g a
theorem del_ne {D a : Addr} (h : a ≠ D) : del g D a = g a := if_neg h
theorem del_le {D : Addr} : Le (del g D) g := fun a t e => by
  by_cases h : a = D
  · unfold del at e
    rw [if_pos h] at e
    cases e
  · rw [del_ne h] at e
    exact e
/-- what yields items that stay, whatever becomes of D -/
def SrcD (T : Tab) (nm : Nm) (K : PySem.W.Frag) (g1 : Gh) (D : Addr) (J : L2.It) (items : List Ev.D) : Prop := Src1 T nm K (del g1 D) J items
theorem srcD_row {g0 g1 : Gh} {d : Ev.D} {ds : List Ev.D} {v : V} {D : Addr} {o : HO} {tl : TE} {st1 : Sto} {H1 : Hp} {R : L2.It → Hp → Prop} (r : RepR T nm X.K g0 g1 d v) (m1 : Mt T nm X.K g1 ρ st1 σ H1) (h : seqOf d = some ds) (hD : g1 D = some (.held o)) (hD0 : ∃ t, g0 D = some t) (hR : ∀ J, SrcD T nm X.K g1 D J ds → R J H1) :
    (∃ a, v = .ref a ∧ (∃ xs, SqL X.K H1 a xs) ∧ R (Itl X.K a) H1) ∨ (∃ a, v = .ref a ∧ (∃ xs, SqT X.K H1 a xs) ∧ R (Itt X.K a) H1) := by
  have lim : ∀ {g' : Gh}, Le (del g1 D) g' → Lim g1 g' := fun l => ⟨fun a o e => l _ _ (by rw [del_ne (fun z => by rw [z, hD] at e; cases e)]; exact e), fun a k e => l _ _ (by rw [del_ne (fun z => by rw [z, hD] at e; cases e)]; exact e)⟩
  have lst : ∀ {p : Addr} {vs : List V}, Reps T nm X.K g1 ds vs → (∀ g' ρ' st' σ' H', Le (del g1 D) g' → Mt T nm X.K g' ρ' st' σ' H' → SqL X.K H' p vs) → SrcD T nm X.K g1 D (Itl X.K p) ds := fun {p vs} rs hs g' ρ' st' σ' H' l m => by
    have s := hs g' ρ' st' σ' H' l m
    refine ⟨fun j hj => ⟨vs, vs[j]'(by rw [← rs.len]; exact hj), s, by simp⟩, ⟨vs, s, by rw [rs.len]; exact Nat.le_refl _⟩, fun j x H'' hj ⟨e1, y⟩ => ⟨e1, ?_⟩⟩
    obtain ⟨d, h1, h2⟩ := rs.at2 (y vs s)
    exact ⟨d, h1, h2.mono (lim l)⟩
  cases d with
  | own es =>
    cases h
    obtain ⟨p, vs, ev, h1, h2, rs⟩ := r
    have np : p ≠ D := fun z => by
      obtain ⟨t, ht⟩ := hD0
      rw [z, ht] at h2
      cases h2
    exact .inl ⟨p, ev, ⟨vs, .of (m1.held _ _ h1)⟩, hR _ (lst rs fun g' ρ' st' σ' H' l m => .of (m.held _ _ (l _ _ (by rw [del_ne np]; exact h1))))⟩
  | lst es =>
    cases h
    have r0 : Rep T nm X.K g1 (.lst ds) v := r
    cases r0 with
    | @lst p _ vs h1 rs => exact .inl ⟨p, rfl, ⟨vs, .of (m1.imm _ _ h1)⟩, hR _ (lst rs fun g' ρ' st' σ' H' l m => .of (m.imm _ _ ((lim l).1 _ _ h1)))⟩
  | tup es =>
    cases h
    have r0 : Rep T nm X.K g1 (.tup ds) v := r
    cases r0 with
    | @tup p _ vs h1 rs =>
      have sq : ∀ {g' : Gh} {ρ' : Rho} {st' : Sto} {σ' : L2.St} {H' : Hp}, Le (del g1 D) g' → Mt T nm X.K g' ρ' st' σ' H' → SqT X.K H' p vs := fun l m => same_seqT (fun a o e => m.imm a o ((lim l).1 _ _ (of_imH e))) h1
      refine .inr ⟨p, rfl, ⟨vs, sq del_le m1⟩, hR _ fun g' ρ' st' σ' H' l m => ?_⟩
      have s := sq l m
      refine ⟨fun j hj => ⟨vs, vs[j]'(by rw [← rs.len]; exact hj), s, by simp⟩, ⟨vs, s, by rw [rs.len]; exact Nat.le_refl _⟩, fun j x H'' hj ⟨e1, y⟩ => ⟨e1, ?_⟩⟩
      obtain ⟨d, h1, h2⟩ := rs.at2 (y vs s)
      exact ⟨d, h1, h2.mono (lim l)⟩
  | _ => cases h
theorem inner_main {J : L2.It} {items : List Ev.D} {gb g1 : Gh} {st1 : Sto} {H1 : Hp} {i : Nat} {e : E} {t : Tt} {D : Addr} {acc ds : List Ev.D} {vacc : List V} {Nx : Hp → Prop} (m1 : Mt T nm X.K g1 ρ st1 σ H1) (lb : Le gb g1) (gbD : gb D = none) (hd1 : g1 D = some (.held (.lst vacc))) (ra1 : Reps T nm X.K g1 acc vacc) (hp : plainO ρ[i]? = true)
    (hJ : SrcD T nm X.K g1 D J items) (hc : compL (evE T cf e) (evT T cf t) ρ [i] (items.map fun d => [d]) acc st1 = .ok ds st2)
    (hN : ∀ g' H' vacc', Le gb g' → Le (del g1 D) g' → Mt T nm X.K g' ρ st2 σ H' → g' D = some (.held (.lst vacc')) → Reps T nm X.K g' ds vacc' → Nx H') :
    ∃ Wv : Nat → Nat → Hp → Prop, (∃ m, Wv 0 m H1) ∧ ∀ j m H, Wv j m H →
      (J.stop j H ∧ Nx H) ∨ (J.go j H ∧ ∃ Nx1 : Hp → Prop, (∀ H', Nx1 H' → ∃ m', m' < m ∧ Wv (j + 1) m' H') ∧ ∀ x H', J.yld j H x H' → gName i x (wipe σ [i]) H' fun σ2 H2 => wipe σ2 [i] = wipe σ [i] ∧ tT T nm X.K cf WN t σ2 H2 fun b H3 =>
        if b = true then tE T nm X.K cf WN e σ2 H3 fun y H4 => ∃ acc, H4 D = some (.lst acc) ∧ acc.length < sizeLine ∧ Nx1 (upd H4 D (.lst (acc ++ [y]))) else Nx1 H3) := by
  refine ⟨fun j m H => m = items.length - j ∧ j ≤ items.length ∧ ∃ g' st' acc vacc, (Le gb g' ∧ Le (del g1 D) g') ∧ Mt T nm X.K g' ρ st' σ H ∧ g' D = some (.held (.lst vacc)) ∧ Reps T nm X.K g' acc vacc ∧ compL (evE T cf e) (evT T cf t) ρ [i] ((items.drop j).map fun d => [d]) acc st' = .ok ds st2,
    ⟨_, rfl, Nat.zero_le _, g1, st1, acc, vacc, ⟨lb, del_le⟩, m1, hd1, ra1, by rw [List.drop_zero]; exact hc⟩, ?_⟩
  rintro j m H ⟨rfl, hj, g', st', acc, vacc, ⟨lb', ld'⟩, m', hd, ra, hc'⟩
  obtain ⟨hgo, hstop, hyld⟩ := hJ g' ρ st' σ H ld' m'
  by_cases hlt : j < items.length
  · refine .inr ⟨hgo j hlt, fun H' => ∃ g' st' acc vacc, (Le gb g' ∧ Le (del g1 D) g') ∧ Mt T nm X.K g' ρ st' σ H' ∧ g' D = some (.held (.lst vacc)) ∧ Reps T nm X.K g' acc vacc ∧ compL (evE T cf e) (evT T cf t) ρ [i] ((items.drop (j + 1)).map fun d => [d]) acc st' = .ok ds st2,
      fun H' p => ⟨items.length - (j + 1), by omega, rfl, hlt, p⟩, fun x H' hy => ?_⟩
    obtain ⟨eH, d, hi, rd⟩ := hyld j x H' hlt hy
    subst eH
    rw [drop_at hi, List.map_cons] at hc'
    obtain ⟨b, sb, hb, hcase⟩ := compL_cons hc'
    have hgn : ∀ k : L2.St → Hp → Prop, k (σ.set i (some x)) H' → gName i x (wipe σ [i]) H' k := fun k h => by
      show k ((wipe σ [i]).set i (some x)) H'
      rw [wipe_set]
      exact h
    refine hgn _ ⟨wipe_again, g', ρ.set i (some d), st', m'.set (SlR.rep rd), ?_⟩
    rw [hb]
    intro g2 H3 l2 m2
    rcases hcase with ⟨rfl, hr⟩ | ⟨rfl, hl, y, sy, hy2, hr⟩
    · simp only [Bool.false_eq_true, if_false]
      exact ⟨g2, sb, acc, vacc, ⟨lb'.trans l2, ld'.trans l2⟩, m'.back l2 hp m2, l2 _ _ hd, ra.mono l2.lim, hr⟩
    · simp only [if_true]
      refine ⟨g2, ρ.set i (some d), sb, m2, ?_⟩
      rw [hy2]
      intro g3 H4 l3 m3 v r
      obtain ⟨g4, l4, m4, r4⟩ := kept r m3 l3
      have l24 := l2.trans l4
      have mb := m'.back l24 hp m4
      have hd4 := l24 _ _ hd
      refine ⟨vacc, mb.held _ _ hd4, by rw [← ra.len]; exact line_lt hl, ?_⟩
      obtain ⟨m5, lm5⟩ := mb.held_upd (vacc ++ [v]) hd4
      have go : ∀ {gx : Gh}, gx D = none → Le gx g' → Le gx (put g4 D (.held (.lst (vacc ++ [v])))) := fun {gx} n l a t z => by
        have na : a ≠ D := fun q => by rw [q, n] at z; cases z
        rw [put_ne na]
        exact (l.trans l24) _ _ z
      exact ⟨_, sy, acc ++ [fz y], vacc ++ [v], ⟨go gbD lb', go (if_pos rfl) ld'⟩, m5, put_same, ((ra.mono l24.lim).append (.cons r4 .nil)).mono lm5, hr⟩
  · have e0 : j = items.length := by omega
    subst e0
    rw [List.drop_eq_nil_of_le (Nat.le_refl _), List.map_nil, compL_nil] at hc'
    cases hc'
    exact .inl ⟨hstop, hN g' H vacc lb' ld' m' hd ra⟩
/-- what the inner loop walks: its items, and how its reading is come by -/
def InnerOk (T : Tab) (nm : Nm) (K : PySem.W.Frag) (cf : Nat → List Ev.D → Sto → R Ev.D) (src2 : Ev.It) (wi1 : TI) : Prop := ∀ (g : Gh) (ρ : Rho) (st : Sto) (σ : L2.St) (H : Hp) (D : Addr) (o : HO) (dss : List (List Ev.D)) (st1 : Sto) (R : L2.It → Hp → Prop), Mt T nm K g ρ st σ H → g D = some (.held o) → evI T cf src2 ρ st = .ok dss st1 →
  (∀ (g1 : Gh) (H1 : Hp) (J : L2.It) (items : List Ev.D), Le g g1 → Mt T nm K g1 ρ st1 σ H1 → dss = items.map (fun d => [d]) → SrcD T nm K g1 D J items → R J H1) → wi1 σ H R
theorem comp22_main {J : L2.It} {items : List Ev.D} {g0 g1 : Gh} {st1 : Sto} {H1 : Hp} {i i2 : Nat} {e : E} {t : Tt} {src2 : Ev.It} {wi1 : TI} {Q : VK} {D : Addr} {ds : List Ev.D} (m1 : Mt T nm X.K g1 ρ st1 σ H1) (l0 : Le g0 g1) (hD : H1 D = none) (hij : i ≠ i2) (hp : plainO ρ[i]? = true) (hp2 : plainO ρ[i2]? = true)
    (hJ : Src1 T nm X.K g1 J items) (hin : InnerOk T nm X.K cf src2 wi1) (hc : compL2 (evI T cf src2) (evE T cf e) (evT T cf t) (ρ.set i2 none) [i] [i2] (items.map fun d => [d]) [] st1 = .ok ds st2)
    (hQ : ∀ g' H', Le g0 g' → Mt T nm X.K g' ρ st2 σ H' → RepR T nm X.K g0 g' (.own ds) (.ref D) → Q (.ref D) H') :
    ∃ Wv : Nat → Nat → Hp → Prop, (∃ m, Wv 0 m (upd H1 D (.lst []))) ∧ ∀ n m H, Wv n m H →
      (J.stop n H ∧ Q (.ref D) H) ∨ (J.go n H ∧ ∃ Nx : Hp → Prop, (∀ H', Nx H' → ∃ m', m' < m ∧ Wv (n + 1) m' H') ∧ ∀ x H', J.yld n H x H' → gName i x (wipe σ [i, i2]) H' fun σ2 H2 => wipe σ2 [i, i2] = wipe σ [i, i2] ∧ tT T nm X.K cf WN (.e (.bl true)) σ2 H2 fun b H3 =>
        if b = true then wi1 σ2 H3 fun J1 H4 => ∃ W1 : Nat → Nat → Hp → Prop, (∃ m, W1 0 m H4) ∧ ∀ j k H, W1 j k H →
          (J1.stop j H ∧ Nx H) ∨ (J1.go j H ∧ ∃ Nx1 : Hp → Prop, (∀ H', Nx1 H' → ∃ k', k' < k ∧ W1 (j + 1) k' H') ∧ ∀ x H', J1.yld j H x H' → gName i2 x (wipe σ2 [i2]) H' fun σ3 H5 => wipe σ3 [i2] = wipe σ2 [i2] ∧ tT T nm X.K cf WN t σ3 H5 fun b H6 =>
            if b = true then tE T nm X.K cf WN e σ3 H6 fun y H7 => ∃ acc, H7 D = some (.lst acc) ∧ acc.length < sizeLine ∧ Nx1 (upd H7 D (.lst (acc ++ [y]))) else Nx1 H6)
        else Nx H3) := by
  have gD : g1 D = none := m1.fresh hD
  have gD0 : g0 D = none := by
    cases z : g0 D with
    | none => rfl
    | some t => rw [l0 _ _ z] at gD; cases gD
  have w1 : ∀ {x : Option V}, (wipe σ [i, i2]).set i x = (σ.set i2 none).set i x := fun {x} => by
    show ((σ.set i2 none).set i none).set i x = _
    rw [List.set_set]
  have w2 : ∀ {x : Option V}, wipe ((σ.set i2 none).set i x) [i, i2] = wipe σ [i, i2] := fun {x} => by
    show ((((σ.set i2 none).set i x).set i2 none).set i none : L2.St) = (σ.set i2 none).set i none
    rw [List.set_comm x none hij, List.set_set, List.set_set]
  have hpi : plainO (ρ.set i2 none)[i]? = true := by
    rw [List.getElem?_set_ne (Ne.symm hij)]
    exact hp
  have hpj : ∀ {d : Ev.D}, plainO ((ρ.set i2 none).set i (some d))[i2]? = true := fun {d} => by
    rw [List.getElem?_set_ne hij, List.getElem?_set_self']
    cases ρ[i2]? <;> rfl
  refine ⟨fun n m H => m = items.length - n ∧ n ≤ items.length ∧ ∃ g' st' acc vacc, Le g1 g' ∧ Mt T nm X.K g' ρ st' σ H ∧ g' D = some (.held (.lst vacc)) ∧ Reps T nm X.K g' acc vacc ∧ compL2 (evI T cf src2) (evE T cf e) (evT T cf t) (ρ.set i2 none) [i] [i2] ((items.drop n).map fun d => [d]) acc st' = .ok ds st2,
    ⟨_, rfl, Nat.zero_le _, put g1 D (.held (.lst [])), st1, [], [], le_put gD, m1.new hD (.inr rfl), put_same, .nil, by rw [List.drop_zero]; exact hc⟩, ?_⟩
  rintro n m H ⟨rfl, hn, g', st', acc, vacc, l', m', hd, ra, hc'⟩
  obtain ⟨hgo, hstop, hyld⟩ := hJ g' ρ st' σ H l' m'
  by_cases hlt : n < items.length
  · refine .inr ⟨hgo n hlt, fun H' => ∃ g' st' acc vacc, Le g1 g' ∧ Mt T nm X.K g' ρ st' σ H' ∧ g' D = some (.held (.lst vacc)) ∧ Reps T nm X.K g' acc vacc ∧ compL2 (evI T cf src2) (evE T cf e) (evT T cf t) (ρ.set i2 none) [i] [i2] ((items.drop (n + 1)).map fun d => [d]) acc st' = .ok ds st2,
      fun H' p => ⟨items.length - (n + 1), by omega, rfl, hlt, p⟩, fun x H' hy => ?_⟩
    obtain ⟨eH, d, hi, rd⟩ := hyld n x H' hlt hy
    subst eH
    rw [drop_at hi, List.map_cons] at hc'
    obtain ⟨dss, sa, acc1, sb, hs2, hcl, hr⟩ := compL2_cons (ρ' := (ρ.set i2 none).set i (some d)) rfl hc'
    have m0 : Mt T nm X.K g' (ρ.set i2 none) st' (σ.set i2 none) H' := m'.drop
    have mi := m0.set (i := i) (SlR.rep (H := H') rd)
    have hgn : ∀ k : L2.St → Hp → Prop, k ((σ.set i2 none).set i (some x)) H' → gName i x (wipe σ [i, i2]) H' k := fun k h => by
      show k ((wipe σ [i, i2]).set i (some x)) H'
      rw [w1]
      exact h
    refine hgn _ ⟨w2, g', _, st', mi, ?_⟩
    show Out T nm X.K WN g' _ _ _ (.ok true st')
    intro g2 H3 l2 m2
    simp only [if_true]
    refine hin g2 _ st' _ H3 D (.lst vacc) dss sa _ m2 (l2 _ _ hd) hs2 fun g3 H4 J1 items1 l3 m3 ed hJ1 => ?_
    subst ed
    have l13 := (l'.trans l2).trans l3
    refine inner_main (gb := g1) m3 l13 gD ((l2.trans l3) _ _ hd) (ra.mono (l2.trans l3).lim) hpj hJ1 hcl fun g4 H5 vacc' lb ld m4 hd4 ra4 => ⟨g4, sb, acc1, vacc', lb, ?_, hd4, ra4, hr⟩
    have h3D := (l2.trans l3) _ _ hd
    have lm : Lim g' g4 := (l2.trans l3).lim.trans ⟨fun a o z => ld _ _ (by rw [del_ne (fun w => by rw [w, h3D] at z; cases z)]; exact z), fun a k z => ld _ _ (by rw [del_ne (fun w => by rw [w, h3D] at z; cases z)]; exact z)⟩
    exact m'.backL lm hp2 (m0.backL lm hpi m4)
  · have e0 : n = items.length := by omega
    subst e0
    rw [List.drop_eq_nil_of_le (Nat.le_refl _), List.map_nil, compL2_nil] at hc'
    cases hc'
    exact .inl ⟨hstop, hQ g' H (l0.trans l') m' ⟨D, vacc, rfl, hd, gD0, ra⟩⟩
theorem inner_seq {iter : Expr} {a : E} : InnerOk T nm X.K cf (.seq a) (iSeq X.K (tE T nm X.K cf WN a)) := fun g ρ st σ H D o dss st1 RR m hD hs hR => by
  refine ⟨g, ρ, st, m, ?_⟩
  have hs' : ((evE T cf a ρ st).bind fun d st => Ev.R.of ((seqOf d).map fun ds => ds.map fun x => [x]) st) = Ev.R.ok dss st1 := hs
  cases q : evE T cf a ρ st with
  | er x st2 => rw [q] at hs'; cases hs'
  | no => rw [q] at hs'; cases hs'
  | ok d st2 =>
    rw [q] at hs'
    have hs2 : Ev.R.of ((seqOf d).map fun ds => ds.map fun x => [x]) st2 = Ev.R.ok dss st1 := hs'
    cases hd : seqOf d with
    | none => rw [hd] at hs2; cases hs2
    | some ds =>
      rw [hd] at hs2
      cases hs2
      intro g1 H1 l1 m1 v r
      exact srcD_row (tl := tE T nm X.K cf WN a) r m1 hd (l1 _ _ hD) ⟨_, hD⟩ fun J hJ => hR g1 H1 J ds l1 m1 rfl hJ
theorem inner_rng1 {a : E} : InnerOk T nm X.K cf (.rng (.cons a .nil)) (iRng1 (tA T nm X.K cf WN (.cons a .nil))) := fun g ρ st σ H D o dss st1 RR m hD hs hR => by
  refine ⟨g, ρ, st, m, ?_⟩
  have hs' : ((evA T cf (.cons a .nil) ρ st).bind fun ds st => Ev.R.of ((rngI ds).map fun ns => ns.map fun n => [.int n]) st) = Ev.R.ok dss st1 := hs
  cases q : evA T cf (.cons a .nil) ρ st with
  | er x st2 => rw [q] at hs'; cases hs'
  | no => rw [q] at hs'; cases hs'
  | ok es st2 =>
    rw [q] at hs'
    have hl := evA_len q
    have hs2 : Ev.R.of ((rngI es).map fun ns => ns.map fun n => [Ev.D.int n]) st2 = Ev.R.ok dss st1 := hs'
    intro g1 H1 l1 m1 vs r
    match es, vs, r, hl, hs2 with
    | [d], [v], .cons r1 .nil, _, hs2 =>
      cases r1 with
      | int j =>
        by_cases hj : -(LINE : Int) < j ∧ j < LINE
        · simp only [rngI, if_pos hj] at hs2
          cases hs2
          have hb1 : (LINE : Int) < 2 ^ 62 := by decide
          refine ⟨j, rfl, by omega, by omega, ?_⟩
          have z : Src1 T nm X.K (del g1 D) (Itr 0 (j - 0).toNat) ((rangeI 0 j).map Ev.D.int) := fun g' ρ' st' σ' H' l m => rng_J g' st' H' l m
          rw [show (j - 0).toNat = j.toNat by rw [Int.sub_zero]] at z
          exact hR g1 H1 _ _ l1 m1 rng_maps z
        · simp only [rngI, if_neg hj] at hs2
          cases hs2
      | _ => cases hs2
theorem lc22_imp {a e : E} {src2 : Ev.It} {t : Tt} {wi1 : TI} {i j : Nat} (hij : i ≠ j) (hin : InnerOk T nm X.K cf src2 wi1) (σ : L2.St) (H : Hp) (Q : VK) (h : tE T nm X.K cf W (.comp2 [i] (.seq a) [j] src2 e t) σ H Q) :
    tLc2 (iSeq X.K (tE T nm X.K cf W a)) (gName i) (tT T nm X.K cf WN (.e (.bl true))) wi1 (gName j) (tT T nm X.K cf WN t) (tE T nm X.K cf WN e) [i, j] [j] σ H Q := by
    obtain ⟨g, ρ, st, m, o⟩ := h
    refine ⟨g, ρ, st, m, Out.imp (Out.bind0 (Out.bind0 o)) fun d st1 g1 H1 l1 m1 q v0 r => ?_⟩
    cases hd : seqOf d with
    | none => rw [hd] at q; exact (show False from q).elim
    | some ds =>
      rw [hd] at q
      have q1 : Out T nm X.K W g ρ σ (fun d _ g' H' => ∀ v, RepR T nm X.K g g' d v → Q v H') (if ([i] ++ [j]).all fun i => plainO ρ[i]? then (match compL2 (evI T cf src2) (evE T cf e) (evT T cf t) (clr [j] ρ) [i] [j] (ds.map fun x => [x]) [] st1 with
        | .ok ds st => .ok (.own ds) st
        | _ => .no) else .no) := q g1 H1 l1 m1
      by_cases hp : (([i] ++ [j]).all fun i => plainO ρ[i]?) = true
      rotate_left
      · rw [if_neg hp] at q1
        exact q1.elim
      rw [if_pos hp] at q1
      have hp' : plainO ρ[i]? = true ∧ plainO ρ[j]? = true := by simpa using hp
      cases hcl : compL2 (evI T cf src2) (evE T cf e) (evT T cf t) (clr [j] ρ) [i] [j] (ds.map fun x => [x]) [] st1 with
      | er x st2 => rw [hcl] at q1; exact q1.elim
      | no => rw [hcl] at q1; exact q1.elim
      | ok es st2 =>
        rw [hcl] at q1
        have q2 : Out T nm X.K W g ρ σ (fun d _ g' H' => ∀ v, RepR T nm X.K g g' d v → Q v H') (.ok (.own es) st2) := q1
        obtain ⟨p, qq, vs, rfl, rs, hs⟩ := row_ok r m1 hd
        have s := hs g1 ρ st1 σ H1 le_strip m1
        have z := src1_row rs hs
        cases qq with
        | true => exact .inl ⟨p, rfl, ⟨vs, s⟩, fun D hD => comp22_main (Q := Q) m1 l1 hD hij hp'.1 hp'.2 z hin hcl fun g' H' l m r => q2 g' H' l m _ r⟩
        | false => exact .inr ⟨p, rfl, ⟨vs, s⟩, fun D hD => comp22_main (Q := Q) m1 l1 hD hij hp'.1 hp'.2 z hin hcl fun g' H' l m r => q2 g' H' l m _ r⟩
/-- [e for x in a for y in b if t] -/
theorem se_comp2 {elt iter tgt iter1 tgt1 : Expr} {ifs1 : List Expr} {scope : Scope} {x y : Str} {i j : Nat} {a e : E} {src2 : Ev.It} {t : Tt} {wi1 : TI} (hc : X.calm = true) (hN : X.N.Nodup) (ha : PE X iter (tE T nm X.K cf W a)) (ok : BlkOk X.N X.env.scope scope [(x, i), (y, j)]) (hij : i ≠ j) (hin : InnerOk T nm X.K cf src2 wi1)
    (hg : ∀ (s : Shared) (H : Hp) (C : Addr) (cl : List (Str × Addr)) (fp : List Addr), PG (X.blk s H scope (compEnvC scope cl C X.env) fp) tgt (gName i))
    (hi1 : ∀ (s : Shared) (H : Hp) (C : Addr) (cl : List (Str × Addr)) (fp : List Addr), PI (X.blk s H scope (compEnvC scope cl C X.env) fp) tgt1 iter1 wi1)
    (hg1 : ∀ (s : Shared) (H : Hp) (C : Addr) (cl : List (Str × Addr)) (fp : List Addr), PG (X.blk s H scope (compEnvC scope cl C X.env) fp) tgt1 (gName j))
    (ht : ∀ (s : Shared) (H : Hp) (C : Addr) (cl : List (Str × Addr)) (fp : List Addr), PTs (X.blk s H scope (compEnvC scope cl C X.env) fp) ifs1 (tT T nm X.K cf WN t))
    (he : ∀ (s : Shared) (H : Hp) (C : Addr) (cl : List (Str × Addr)) (fp : List Addr), PE (X.blk s H scope (compEnvC scope cl C X.env) fp) elt (tE T nm X.K cf WN e)) (hs : ∀ y, foldedSetIterable iter X.env y = pure y) (hs1 : ∀ env y, foldedSetIterable iter1 env y = pure y) :
    PE X (.ListComp elt [⟨tgt, iter, [], 0⟩, ⟨tgt1, iter1, ifs1, 0⟩] scope pos) (tE T nm X.K cf W (.comp2 [i] (.seq a) [j] src2 e t)) :=
  PE.imp (pe_lc2 (vs1 := [j]) hc hN (pi_seq ha) ok (by intro k hk; simp at hk; simp [hk]) hg (fun _ _ _ _ _ => pts_none) hi1 hg1 ht he hs hs1) fun σ H Q h => lc22_imp hij hin σ H Q h
/-- z = [e for x in a for y in b if t] -/
theorem asg_comp2 {elt iter tgt iter1 tgt1 : Expr} {ifs1 : List Expr} {scope : Scope} {x y z : Str} {i j n : Nat} {a e : E} {src2 : Ev.It} {t : Tt} {wi1 : TI} {pz spos : Pos} (hc : X.calm = true) (hN : X.N.Nodup) (hz : X.N[n]? = some z) (hzl : X.env.scope.names.lookup z = some .local)
    (hsw : swapsWith (.ListComp elt [⟨tgt, iter, [], 0⟩, ⟨tgt1, iter1, ifs1, 0⟩] scope pos) (some (.Name z pz)) spos.line X.env = pure true) (ha : PE X iter (tE T nm X.K cf W a)) (ok : BlkOk X.N X.env.scope scope [(x, i), (y, j)]) (hij : i ≠ j) (hin : InnerOk T nm X.K cf src2 wi1)
    (hg : ∀ (s : Shared) (H : Hp) (C : Addr) (cl : List (Str × Addr)) (fp : List Addr), PG (X.blk s H scope (compEnvC scope cl C X.env) fp) tgt (gName i))
    (hi1 : ∀ (s : Shared) (H : Hp) (C : Addr) (cl : List (Str × Addr)) (fp : List Addr), PI (X.blk s H scope (compEnvC scope cl C X.env) fp) tgt1 iter1 wi1)
    (hg1 : ∀ (s : Shared) (H : Hp) (C : Addr) (cl : List (Str × Addr)) (fp : List Addr), PG (X.blk s H scope (compEnvC scope cl C X.env) fp) tgt1 (gName j))
    (ht : ∀ (s : Shared) (H : Hp) (C : Addr) (cl : List (Str × Addr)) (fp : List Addr), PTs (X.blk s H scope (compEnvC scope cl C X.env) fp) ifs1 (tT T nm X.K cf WN t))
    (he : ∀ (s : Shared) (H : Hp) (C : Addr) (cl : List (Str × Addr)) (fp : List Addr), PE (X.blk s H scope (compEnvC scope cl C X.env) fp) elt (tE T nm X.K cf WN e)) (hs : ∀ y, foldedSetIterable iter X.env y = pure y) (hs1 : ∀ env y, foldedSetIterable iter1 env y = pure y) :
    PS X (.Assign [.Name z pz] (.ListComp elt [⟨tgt, iter, [], 0⟩, ⟨tgt1, iter1, ifs1, 0⟩] scope pos) spos) (tAsg (tE T nm X.K cf W (.comp2 [i] (.seq a) [j] src2 e t)) (gName n)) :=
  PS.imp (ps_setLc2 (vs1 := [j]) hc hN hz hzl hsw (pi_seq ha) ok (by intro k hk; simp at hk; simp [hk]) hg (fun _ _ _ _ _ => pts_none) hi1 hg1 ht he hs hs1) fun D σ H h => lc22_imp hij hin σ H _ h
end
end Snd
set_option Elab.async false
set_option linter.all false
set_option maxRecDepth 100000
/-! SndJ: the rules, as a program's terms use them. -/
namespace Snd
open PySem PySem.Spec PyProof.Rows L2 Ev
/-! ### side conditions -/
def plainX : Expr → Bool
  | .Starred _ _ => false
  | _ => true
def plainXs : List Expr → Bool
  | [] => true
  | e :: r => plainX e && plainXs r
theorem star_of {e : Expr} {es : List Expr} {env : Env} (h : plainX e = true) : starEach (e :: es) env = (false, eval e env) :: starEach es env := by
  cases e <;> first | rfl | cases h
theorem stars_of : ∀ {es : List Expr} {env : Env} {pos : Pos}, plainXs es = true → (backTo pos (starEach es env)).any (·.1) = false
  | [], _, _, _ => rfl
  | e :: es, env, pos, h => by
    obtain ⟨h1, h2⟩ := He.ba h
    rw [star_of h1]
    exact stars_of h2
def noComp : Expr → Bool
  | .ListComp _ _ _ _ => false
  | .SetComp _ _ _ _ => false
  | .DictComp _ _ _ _ _ => false
  | _ => true
theorem swaps_of {e : Expr} {t : Option Expr} {l : Nat} {env : Env} (h : noComp e = true) : swapsWith e t l env = pure false := by
  cases e <;> first | rfl | cases h
def noCall : Expr → Bool
  | .Call (.Name _ _) [] [] _ => false
  | _ => true
theorem abase_of {e : Expr} {x : Str} {env : Env} (h : noCall e = true) : attributeBase e x env (eval e env) = eval e env := by
  cases e with
  | Call f as ks p =>
    cases f with
    | Name i q => cases as with
      | nil => cases ks with
        | nil => cases h
        | cons _ _ => rfl
      | cons _ _ => rfl
    | _ => rfl
  | _ => rfl
def noSet : Expr → Bool
  | .Set _ _ _ => false
  | _ => true
theorem noSet_of {e : Expr} (h : noSet e = true) : ∀ es k p, e ≠ .Set es k p := fun es k p z => by
  subst z
  cases h
def noSlice : Expr → Bool
  | .Slice _ _ _ _ => false
  | _ => true
theorem noSlice_of {e : Expr} (h : noSlice e = true) : ∀ l u s p, e ≠ .Slice l u s p := fun l u s p z => by
  subst z
  cases h
/-- a test that is asked by its value -/
def byVal : Expr → Bool
  | .UnaryOp .Not _ _ => false
  | .BoolOp _ _ _ => false
  | .IfExp _ _ _ _ => false
  | .Compare _ _ _ _ => false
  | .NamedExpr _ _ _ => false
  | _ => true
/-- a name of the def -/
def okLoc (sc : Scope) (x : Str) : Bool := decide (sc.names.lookup x = some .local) && (!(x == ("__debug__" : Str)) && !(x == ("__classdict__" : Str)))
theorem okLoc_vis {sc : Scope} {x : Str} (h : okLoc sc x = true) : Vis sc x ∧ Loc sc x ∧ sc.names.lookup x = some .local ∧ (x == ("__debug__" : Str)) = false ∧ (x == ("__classdict__" : Str)) = false := by
  obtain ⟨h1, h⟩ := He.ba h
  obtain ⟨h2, h3⟩ := He.ba h
  have e := of_decide_eq_true h1
  exact ⟨.inl e, .inl e, e, by simpa using h2, by simpa using h3⟩
/-- .. that is read: it may belong to a cell -/
def okVis (sc : Scope) (x : Str) : Bool := (decide (sc.names.lookup x = some .local) || (decide (sc.names.lookup x = some .cell) || decide (sc.names.lookup x = some .free))) && (!(x == ("__debug__" : Str)) && !(x == ("__classdict__" : Str)))
theorem okVis_of {sc : Scope} {x : Str} (h : okVis sc x = true) : Vis sc x ∧ (x == ("__debug__" : Str)) = false ∧ (x == ("__classdict__" : Str)) = false := by
  obtain ⟨h1, h⟩ := He.ba h
  obtain ⟨h2, h3⟩ := He.ba h
  refine ⟨?_, by simpa using h2, by simpa using h3⟩
  simp only [Bool.or_eq_true, decide_eq_true_eq] at h1
  exact h1
/-- .. that is written -/
def okSet (sc : Scope) (x : Str) : Bool := decide (sc.names.lookup x = some .local) || decide (sc.names.lookup x = some .cell)
theorem okSet_of {sc : Scope} {x : Str} (h : okSet sc x = true) : Loc sc x := by
  unfold okSet at h
  simp only [Bool.or_eq_true, decide_eq_true_eq] at h
  exact h
def okGlo (sc : Scope) (x : Str) : Bool := decide (sc.names.lookup x = some .globalImplicit) && !(x == ("__debug__" : Str))
theorem okGlo_of {X : Cx} {x : Str} (h : okGlo X.env.scope x = true) : Gl X x ∧ (x == ("__debug__" : Str)) = false := by
  obtain ⟨h1, h2⟩ := He.ba h
  exact ⟨show X.env.scope.names.lookup x = some .globalImplicit from of_decide_eq_true h1, by simpa using h2⟩
/-! ### a context -/
structure CtE (S : Src) (X : Cx) (W : WX) (nm : Nm) (cf : Nat → List D → Sto → R D) (k : Nat) : Prop where
  f : Facts S (co X) nm cf k
  me : ∃ m, nm = nmE S m
  r7 : Room (k + 7) X.A
  r : Room (k + 1) X.A
  t : Takes X W
  c : X.calm = true
  ex : nm.ex = none
  nd : X.N.Nodup
structure Ct (S : Src) (X : Cx) (W : WX) (nm : Nm) (cf : Nat → List D → Sto → R D) (k : Nat) : Prop extends CtE S X W nm cf k where
  fn : ∀ x, X.fn x = true
  hs : X.stack = X.env :: X.outer
  hf : X.env.frame = some X.env.locals
  po : PassesOwn (model X.prog X.w) X.A X.env X.xe
section
variable {S : Src} {X : Cx} {W : WX} {nm : Nm} {cf : Nat → List D → Sto → R D} {k : Nat} {pos : Pos}
theorem CtE.clI (c : CtE S X W nm cf k) : ∀ c C, S.T.cls c = some C → C.exc = false → ClI (co X) S.T nm cf k c C := fun i C h e => c.f.cl i C h e
theorem CtE.ops (c : CtE S X W nm cf k) : InsOps X S.T nm W cf := by
  obtain ⟨m, e⟩ := c.me
  exact insOps_of e c.f (c.r.mono (Nat.le_succ _)) c.t
theorem CtE.cmp (c : CtE S X W nm cf k) : InsCmp X S.T nm W cf := by
  obtain ⟨m, e⟩ := c.me
  exact insCmp_of e c.f c.r7 c.t
theorem CtE.ix (c : CtE S X W nm cf k) : InsIx X S.T nm W cf := by
  obtain ⟨m, e⟩ := c.me
  exact insIx_of e c.f (c.r7.mono (by omega)) c.t
theorem CtE.len (c : CtE S X W nm cf k) : InsLen X S.T nm W cf := by
  obtain ⟨m, e⟩ := c.me
  exact insLen_of e c.f (c.r7.mono (by omega)) c.t
theorem CtE.un (c : CtE S X W nm cf k) : X.A.units + 1 < cLine := by have := c.r7.un; omega
/-! ### rules -/
def notVar : E → Bool
  | .var _ => false
  | _ => true
theorem b_of {e : Expr} {a : E} (h : PE X e (tE S.T nm X.K cf W a)) (n : notVar a = true := by rfl) : PE X e (tB S.T nm X.K cf W a) := sb_of h fun i z => by
  subst z
  cases n
theorem x_str {x : Str} {s : List Nat} {j} (h : x = strOf s := by rfl) : PE X (.Constant (.str x) j pos) (tE S.T nm X.K cf W (.str s)) := se_str h
theorem x_var {i : Nat} {x : Str} (hN : X.N[i]? = some x := by rfl) (h : okVis X.env.scope x = true := by rfl) : PE X (.Name x pos) (tE S.T nm X.K cf W (.var i)) := by
  obtain ⟨h1, h4, h5⟩ := okVis_of h
  exact se_var hN h1 h4 h5
theorem b_var {i : Nat} {x : Str} (hN : X.N[i]? = some x := by rfl) (h : okVis X.env.scope x = true := by rfl) : PE X (.Name x pos) (tB S.T nm X.K cf W (.var i)) := by
  obtain ⟨h1, h4, h5⟩ := okVis_of h
  exact sb_var hN h1 h4 h5
theorem x_con (c : CtE S X W nm cf k) {j : Nat} {q : Str × D} {x : Str} (hj : S.coAt j = some q := by rfl) (hx : x = nm.con j := by rfl) (h : okGlo X.env.scope x = true := by rfl) : PE X (.Name x pos) (tE S.T nm X.K cf W (.con j)) := by
  obtain ⟨h1, h2⟩ := okGlo_of h
  exact se_con (c.f.con j q hj) hx h1 h2
theorem xa_nil : PA X [] (tA S.T nm X.K cf W .nil) := sa_nil
theorem xa_cons {e : Expr} {es : List Expr} {a : E} {as : Es} (ha : PE X e (tE S.T nm X.K cf W a)) (hr : PA X es (tA S.T nm X.K cf W as)) (h : plainX e = true := by rfl) : PA X (e :: es) (tA S.T nm X.K cf W (.cons a as)) := sa_cons ha hr (star_of h)
theorem xl_nil : PA X [] (tL S.T nm X.K cf W .nil) := sl_nil
theorem xl_cons {e : Expr} {es : List Expr} {a : E} {as : Es} (ha : PE X e (tB S.T nm X.K cf W a)) (hr : PA X es (tL S.T nm X.K cf W as)) (h : plainX e = true := by rfl) : PA X (e :: es) (tL S.T nm X.K cf W (.cons a as)) := sl_cons ha hr (star_of h)
theorem x_call (c : CtE S X W nm cf k) {f : Nat} {F : FnS} {x : Str} {p : Pos} {e : Expr} {es : List Expr} {as : Es} (hf : S.fnAt f = some F) (ha : PA X (e :: es) (tA S.T nm X.K cf W as)) (he : F.err = false := by rfl) (hi : F.fn.ini = none := by rfl) (hp : F.prop = false := by rfl) (hat : F.d.at_ = (x, none) := by rfl)
    (h : okGlo X.env.scope x = true := by rfl) (hl : as.len = F.fn.np := by rfl) (hp1 : plainX e = true := by rfl) (hp2 : plainXs es = true := by rfl) : PE X (.Call (.Name x p) (e :: es) [] pos) (tE S.T nm X.K cf W (.call f as)) := by
  obtain ⟨h1, h2⟩ := okGlo_of h
  exact se_call (c.f.fn f F hf he hi) ⟨c.r.hd, by have := c.r.dp; omega, by have := c.r.un; omega⟩ c.t h1 (c.f.mgf f F x hf he hp hat) hl ha h2 (star_of hp1) (stars_of hp2)
theorem x_call0 (c : CtE S X W nm cf k) {f : Nat} {F : FnS} {x : Str} {p : Pos} (hf : S.fnAt f = some F) (he : F.err = false := by rfl) (hi : F.fn.ini = none := by rfl) (hp : F.prop = false := by rfl) (hat : F.d.at_ = (x, none) := by rfl)
    (h : okGlo X.env.scope x = true := by rfl) (hl : F.fn.np = 0 := by rfl) : PE X (.Call (.Name x p) [] [] pos) (tE S.T nm X.K cf W (.call f .nil)) := by
  obtain ⟨h1, h2⟩ := okGlo_of h
  have z := c.f.fn f F hf he hi
  rw [hl] at z
  exact se_call0 z ⟨c.r.hd, by have := c.r.dp; omega, by have := c.r.un; omega⟩ c.t h1 (c.f.mgf f F x hf he hp hat) h2
theorem x_make (c : CtE S X W nm cf k) {i : Nat} {C : Ev.Cls} {x : Str} {p : Pos} {e : Expr} {es : List Expr} {as : Es} (hC : S.clAt i = some C) (ha : PA X (e :: es) (tA S.T nm X.K cf W as)) (hx : C.exc = false := by rfl) (hn : x = nm.cls i := by rfl)
    (h : okGlo X.env.scope x = true := by rfl) (hl : as.len + (mis C as.len).length = C.np := by rfl) (hp1 : plainX e = true := by rfl) (hp2 : plainXs es = true := by rfl) : PE X (.Call (.Name x p) (e :: es) [] pos) (tE S.T nm X.K cf W (.make i as)) := by
  obtain ⟨h1, h2⟩ := okGlo_of h
  have hI : clsI S.T i = some C := by
    unfold clsI
    rw [show S.T.cls i = some C from hC]
    show (if C.exc then none else some C) = some C
    rw [hx]
    rfl
  subst hn
  exact se_make hI (c.f.mk_ i C hI) c.r c.t h1 (c.f.mgc i C hC) hl ha h2 (star_of hp1) (stars_of hp2)
theorem x_attr (c : CtE S X W nm cf k) {e : Expr} {a : E} {m : Nat} {x : Str} (ha : PE X e (tB S.T nm X.K cf W a)) (hx : x = nm.attr m := by rfl) (hb : noCall e = true := by rfl) : PE X (.Attribute e x pos) (tE S.T nm X.K cf W (.attr a m)) :=
  se_attr ha hx c.clI c.ex c.r (abase_of hb)
theorem x_bin (c : CtE S X W nm cf k) {op : BO} {e1 e2 : Expr} {a b : E} (ha : PE X e1 (tB S.T nm X.K cf W a)) (hb : PE X e2 (tB S.T nm X.K cf W b)) : PE X (.BinOp e1 (opOf op) e2 pos) (tE S.T nm X.K cf W (.bin op a b)) := se_bin c.ops ha hb
theorem x_cmp (c : CtE S X W nm cf k) {op : CO} {e1 e2 : Expr} {a b : E} (ha : PE X e1 (tB S.T nm X.K cf W a)) (hb : PE X e2 (tB S.T nm X.K cf W b)) (hs : noSet e2 = true := by rfl) : PE X (.Compare e1 [copOf op] [e2] pos) (tE S.T nm X.K cf W (.cmp op a b)) := se_cmp c.cmp ha hb (noSet_of hs)
theorem t_cmp (c : CtE S X W nm cf k) {op : CO} {e1 e2 : Expr} {a b : E} (ha : PE X e1 (tB S.T nm X.K cf W a)) (hb : PE X e2 (tB S.T nm X.K cf W b)) (hs : noSet e2 = true := by rfl) : PT X (.Compare e1 [copOf op] [e2] pos) (tT S.T nm X.K cf W (.e (.cmp op a b))) := st_cmp c.cmp ha hb (noSet_of hs)
theorem x_chain (c : CtE S X W nm cf k) {op op' : CO} {e1 e2 e3 : Expr} {a b d : E} (ha : PE X e1 (tE S.T nm X.K cf W a)) (hb : PE X e2 (tE S.T nm X.K cf W b)) (hd : PE X e3 (tE S.T nm X.K cf W d)) (hs : noSet e3 = true := by rfl) : PE X (.Compare e1 [copOf op, copOf op'] [e2, e3] pos) (tE S.T nm X.K cf W (.chain op op' a b d)) := se_chain c.cmp ha hb hd (noSet_of hs)
theorem t_chain (c : CtE S X W nm cf k) {op op' : CO} {e1 e2 e3 : Expr} {a b d : E} (ha : PE X e1 (tE S.T nm X.K cf W a)) (hb : PE X e2 (tE S.T nm X.K cf W b)) (hd : PE X e3 (tE S.T nm X.K cf W d)) (hs : noSet e3 = true := by rfl) : PT X (.Compare e1 [copOf op, copOf op'] [e2, e3] pos) (tT S.T nm X.K cf W (.e (.chain op op' a b d))) := st_chain c.cmp ha hb hd (noSet_of hs)
theorem t_e {e : Expr} {a : E} (ha : PE X e (tB S.T nm X.K cf W a)) (h : byVal e = true := by rfl) : PT X e (tT S.T nm X.K cf W (.e a)) := st_e ha fun whole => by
  cases e <;> first | rfl | cases h | (rename_i o _ _; cases o <;> first | rfl | cases h)
theorem x_ix (c : CtE S X W nm cf k) {e1 e2 : Expr} {a b : E} (ha : PE X e1 (tB S.T nm X.K cf W a)) (hb : PE X e2 (tE S.T nm X.K cf W b)) (hs : noSlice e2 = true := by rfl) : PE X (.Subscript e1 e2 pos) (tE S.T nm X.K cf W (.ix a b)) := se_ix c.ix ha hb fun l h p => noSlice_of hs l h none p
/-- a class that isinstance is asked of -/
theorem x_ty (c : CtE S X W nm cf k) {x : Str} {id : String} {t : TY} (hv : bootBuiltins x = some (.type id)) (hx : x ∈ S.free) (hn : x ≠ "__name__") (ht : tyW nm X.K t = .ty id) (h : okGlo X.env.scope x = true) : PE X (.Name x pos) (tC (tyW nm X.K t)) := by
  obtain ⟨h1, h2⟩ := okGlo_of h
  rw [ht]
  exact pe_bltn h1 (c.f.free x hx) hv rfl hn h2
theorem x_cls (c : CtE S X W nm cf k) {x : Str} {i : Nat} {C : Ev.Cls} (hC : S.clAt i = some C) (hx : x = nm.cls i := by rfl) (h : okGlo X.env.scope x = true := by rfl) : PE X (.Name x pos) (tC (tyW nm X.K (.cls i))) := by
  obtain ⟨h1, h2⟩ := okGlo_of h
  subst hx
  exact pe_glob h1 (c.f.mgc i C hC) rfl h2
theorem x_isi1 (c : CtE S X W nm cf k) {p : Pos} {e1 e2 : Expr} {a : E} {t : TY} (hx : ("isinstance" : Str) ∈ S.free) (ha : PE X e1 (tB S.T nm X.K cf W a)) (ht : PE X e2 (tC (tyW nm X.K t))) (h : okGlo X.env.scope "isinstance" = true := by rfl) (h1 : plainX e1 = true := by rfl) (h2 : plainX e2 = true := by rfl) :
    PE X (.Call (.Name "isinstance" p) [e1, e2] [] pos) (tE S.T nm X.K cf W (.isi a [t])) := se_isi1 c.clI c.ex c.f.kit (okGlo_of h).1 (c.f.free _ hx) ha ht (star_of h1) (star_of h2)
theorem x_isi2 (c : CtE S X W nm cf k) {p pt : Pos} {e1 e2 e3 : Expr} {a : E} {t u : TY} {kk} (hx : ("isinstance" : Str) ∈ S.free) (ha : PE X e1 (tB S.T nm X.K cf W a)) (ht : PE X e2 (tC (tyW nm X.K t))) (hu : PE X e3 (tC (tyW nm X.K u))) (h : okGlo X.env.scope "isinstance" = true := by rfl) (h1 : plainX e1 = true := by rfl) (h2 : plainX e2 = true := by rfl) (h3 : plainX e3 = true := by rfl) :
    PE X (.Call (.Name "isinstance" p) [e1, .Tuple [e2, e3] kk pt] [] pos) (tE S.T nm X.K cf W (.isi a [t, u])) := se_isi2 c.clI c.ex c.f.kit (okGlo_of h).1 (c.f.free _ hx) ha ht hu (star_of h1) (star_of h2) (star_of h3)
theorem x_len (c : CtE S X W nm cf k) {p : Pos} {e : Expr} {as : Es} (hx : ("len" : Str) ∈ S.free) (ha : PA X [e] (tL S.T nm X.K cf W as)) (h : okGlo X.env.scope "len" = true := by rfl) (h1 : plainX e = true := by rfl) : PE X (.Call (.Name "len" p) [e] [] pos) (tE S.T nm X.K cf W (.bi .len as)) :=
  se_biB boot_len (okGlo_of h).1 (c.f.free _ hx) ha (by decide) (okGlo_of h).2 (star_of h1) rfl (bi_len c.len)
theorem boot_ValueError : bootBuiltins "ValueError" = some (.type "ValueError") := by decide +kernel
theorem boot_int' : bootBuiltins "int" = some (.type "int") := by decide +kernel
theorem boot_list' : bootBuiltins "list" = some (.type "list") := by decide +kernel
theorem boot_tuple' : bootBuiltins "tuple" = some (.type "tuple") := by decide +kernel
theorem x_neg (c : CtE S X W nm cf k) {e : Expr} {a : E} (ha : PE X e (tE S.T nm X.K cf W a)) : PE X (.UnaryOp .USub e pos) (tE S.T nm X.K cf W (.neg a)) := by
  obtain ⟨m, e⟩ := c.me
  exact se_negI e c.f (c.r7.mono (by omega)) c.t ha
theorem boot_abs' : bootBuiltins "abs" = some (.builtin "abs") := by decide +kernel
theorem boot_sum' : bootBuiltins "sum" = some (.builtin "sum") := by decide +kernel
theorem boot_sorted' : bootBuiltins "sorted" = some (.builtin "sorted") := by decide +kernel
theorem boot_str' : bootBuiltins "str" = some (.type "str") := by decide +kernel
theorem x_abs (c : CtE S X W nm cf k) {p : Pos} {e : Expr} {as : Es} (hx : ("abs" : Str) ∈ S.free) (ha : PA X [e] (tL S.T nm X.K cf W as)) (h : okGlo X.env.scope "abs" = true := by rfl) (h1 : plainX e = true := by rfl) : PE X (.Call (.Name "abs" p) [e] [] pos) (tE S.T nm X.K cf W (.bi .abs as)) := by
  obtain ⟨m, e⟩ := c.me
  exact se_biB boot_abs' (okGlo_of h).1 (c.f.free _ hx) ha (by decide) (okGlo_of h).2 (star_of h1) rfl (bi_abs e c.f (c.r7.mono (by omega)) c.t)
theorem x_sum (c : CtE S X W nm cf k) {p : Pos} {e : Expr} {as : Es} (hx : ("sum" : Str) ∈ S.free) (ha : PA X [e] (tL S.T nm X.K cf W as)) (h : okGlo X.env.scope "sum" = true := by rfl) (h1 : plainX e = true := by rfl) : PE X (.Call (.Name "sum" p) [e] [] pos) (tE S.T nm X.K cf W (.bi .sum as)) :=
  se_biB boot_sum' (okGlo_of h).1 (c.f.free _ hx) ha (by decide) (okGlo_of h).2 (star_of h1) rfl (bi_sum c.c)
theorem x_sorted (c : CtE S X W nm cf k) {p : Pos} {e : Expr} {as : Es} (hx : ("sorted" : Str) ∈ S.free) (ha : PA X [e] (tL S.T nm X.K cf W as)) (h : okGlo X.env.scope "sorted" = true := by rfl) (h1 : plainX e = true := by rfl) : PE X (.Call (.Name "sorted" p) [e] [] pos) (tE S.T nm X.K cf W (.bi .sorted as)) :=
  se_biB boot_sorted' (okGlo_of h).1 (c.f.free _ hx) ha (by decide) (okGlo_of h).2 (star_of h1) rfl bi_sorted
theorem x_strf (c : CtE S X W nm cf k) {p : Pos} {e : Expr} {as : Es} (hx : ("str" : Str) ∈ S.free) (ha : PA X [e] (tL S.T nm X.K cf W as)) (h : okGlo X.env.scope "str" = true := by rfl) (h1 : plainX e = true := by rfl) : PE X (.Call (.Name "str" p) [e] [] pos) (tE S.T nm X.K cf W (.bi .str as)) := by
  obtain ⟨m, e⟩ := c.me
  exact se_biT boot_str' (okGlo_of h).1 (c.f.free _ hx) ha (by decide) (okGlo_of h).2 (star_of h1) rfl (bi_str e c.f (c.r7.mono (by omega)) c.t)
theorem x_gcd (c : CtE S X W nm cf k) {x : Str} {p : Pos} {e e2 : Expr} {as : Es} (hx : (x, "math.gcd") ∈ S.imp) (ha : PA X [e, e2] (tL S.T nm X.K cf W as)) (h : okGlo X.env.scope x = true := by rfl) (h1 : plainX e = true := by rfl) (h2 : plainXs [e2] = true := by rfl) : PE X (.Call (.Name x p) [e, e2] [] pos) (tE S.T nm X.K cf W (.bi .gcd as)) :=
  se_biM (okGlo_of h).1 (c.f.imp _ _ hx) ha (okGlo_of h).2 (star_of h1) (stars_of h2) bi_gcd
theorem x_int (c : CtE S X W nm cf k) {p : Pos} {e : Expr} {as : Es} (hx : ("int" : Str) ∈ S.free) (ha : PA X [e] (tL S.T nm X.K cf W as)) (h : okGlo X.env.scope "int" = true := by rfl) (h1 : plainX e = true := by rfl) : PE X (.Call (.Name "int" p) [e] [] pos) (tE S.T nm X.K cf W (.bi .int as)) :=
  se_biT boot_int' (okGlo_of h).1 (c.f.free _ hx) ha (by decide) (okGlo_of h).2 (star_of h1) rfl bi_int
theorem x_list (c : CtE S X W nm cf k) {p : Pos} {e : Expr} {as : Es} (hx : ("list" : Str) ∈ S.free) (ha : PA X [e] (tL S.T nm X.K cf W as)) (h : okGlo X.env.scope "list" = true := by rfl) (h1 : plainX e = true := by rfl) : PE X (.Call (.Name "list" p) [e] [] pos) (tE S.T nm X.K cf W (.bi .list as)) :=
  se_biT boot_list' (okGlo_of h).1 (c.f.free _ hx) ha (by decide) (okGlo_of h).2 (star_of h1) rfl bi_list
theorem x_tuple (c : CtE S X W nm cf k) {p : Pos} {e : Expr} {as : Es} (hx : ("tuple" : Str) ∈ S.free) (ha : PA X [e] (tL S.T nm X.K cf W as)) (h : okGlo X.env.scope "tuple" = true := by rfl) (h1 : plainX e = true := by rfl) : PE X (.Call (.Name "tuple" p) [e] [] pos) (tE S.T nm X.K cf W (.bi .tuple as)) :=
  se_biT boot_tuple' (okGlo_of h).1 (c.f.free _ hx) ha (by decide) (okGlo_of h).2 (star_of h1) rfl bi_tuple
/-! ### statements -/
theorem y_set (c : Ct S X W nm cf k) {e : Expr} {a : E} {i : Nat} {x : Str} {p : Pos} (h : PE X e (tE S.T nm X.K cf W a)) (hi : X.N[i]? = some x := by rfl) (hx : okSet X.env.scope x = true := by rfl) (hs : noComp e = true := by rfl) : PS X (.Assign [.Name x p] e pos) (tS S.T nm X.K cf W (.set i a)) := by
  have h2 := okSet_of hx
  exact ss_set c.nd hi h2 h (swaps_of hs) (.inl (c.fn x))
theorem y_own (c : Ct S X W nm cf k) {e : Expr} {a : E} {i : Nat} {x : Str} {p : Pos} (h : PE X e (tE S.T nm X.K cf W a)) (hi : X.N[i]? = some x := by rfl) (hx : okSet X.env.scope x = true := by rfl) (hs : noComp e = true := by rfl) : PS X (.Assign [.Name x p] e pos) (tS S.T nm X.K cf W (.own i a)) := by
  have h2 := okSet_of hx
  exact ss_own c.nd hi h2 h (swaps_of hs) (.inl (c.fn x))
theorem y_expr {e : Expr} {a : E} (h : PE X e (tE S.T nm X.K cf W a)) (hs : noComp e = true := by rfl) : PS X (.Expr e pos) (tS S.T nm X.K cf W (.expr a)) := ss_expr h (swaps_of hs)
theorem y_retm {i : Nat} {x : Str} {p : Pos} (hN : X.N[i]? = some x := by rfl) (h : okVis X.env.scope x = true := by rfl) : PS X (.Return (some (.Name x p)) pos) (tS S.T nm X.K cf W (.retm i)) := by
  obtain ⟨h1, h4, h5⟩ := okVis_of h
  exact ss_retm hN h1 h4 h5
theorem y_seti (c : Ct S X W nm cf k) {e1 e2 e3 : Expr} {a b d : E} {p : Pos} (ha : PE X e1 (tE S.T nm X.K cf W a)) (hb : PE X e2 (tE S.T nm X.K cf W b)) (hd : PE X e3 (tE S.T nm X.K cf W d)) (hns : noSlice e2 = true := by rfl) (hsw : swapsWithSole [.Subscript e1 e2 p] e3 pos.line X.env = pure false := by rfl) (hst : swappedStores [.Subscript e1 e2 p] e3 X.env = pure none := by rfl) :
    PS X (.Assign [.Subscript e1 e2 p] e3 pos) (tS S.T nm X.K cf W (.seti a b d)) := ss_seti c.un ha hb hd (noSlice_of hns) hsw hst
theorem y_setf (c : Ct S X W nm cf k) {e : Expr} {a : E} {m : Nat} {x f : Str} {p p' : Pos} (h : PE X e (tE S.T nm X.K cf W a)) (hN : X.N[0]? = some x := by rfl) (hx : okVis X.env.scope x = true := by rfl) (hf : f = nm.attr m := by rfl) (hs : noComp e = true := by rfl) :
    PS X (.Assign [.Attribute (.Name x p) f p'] e pos) (tS S.T nm X.K cf W (.setf m a)) := by
  obtain ⟨h1, h4, h5⟩ := okVis_of hx
  exact ss_setf hN h1 h4 h5 hf c.clI h (swaps_of hs)
theorem x_lrng1 (c : CtE S X W nm cf k) {p p2 pos2 : Pos} {e1 : Expr} {a : E} (hx : ("list" : Str) ∈ S.free) (hx2 : ("range" : Str) ∈ S.free) (ha : PE X e1 (tB S.T nm X.K cf W a)) (h : okGlo X.env.scope "list" = true := by rfl) (h2 : okGlo X.env.scope "range" = true := by rfl) (h1 : plainX e1 = true := by rfl) :
    PE X (.Call (.Name "list" p) [.Call (.Name "range" p2) [e1] [] pos2] [] pos) (tE S.T nm X.K cf W (.bi .range1 (.cons a .nil))) :=
  se_lrng1 c.c (okGlo_of h).1 (c.f.free _ hx) (okGlo_of h2).1 (c.f.free _ hx2) ha (star_of h1) (star_of rfl)
theorem x_lrng2 (c : CtE S X W nm cf k) {p p2 pos2 : Pos} {e1 e2 : Expr} {a b : E} (hx : ("list" : Str) ∈ S.free) (hx2 : ("range" : Str) ∈ S.free) (ha : PE X e1 (tB S.T nm X.K cf W a)) (hb : PE X e2 (tB S.T nm X.K cf W b)) (h : okGlo X.env.scope "list" = true := by rfl) (h2 : okGlo X.env.scope "range" = true := by rfl) (h1 : plainX e1 = true := by rfl) (h3 : plainX e2 = true := by rfl)
    (h4 : (backTo pos2 (starEach [e2] X.env)).any (·.1) = false := by rfl) :
    PE X (.Call (.Name "list" p) [.Call (.Name "range" p2) [e1, e2] [] pos2] [] pos) (tE S.T nm X.K cf W (.bi .range2 (.cons a (.cons b .nil)))) :=
  se_lrng2 c.c (okGlo_of h).1 (c.f.free _ hx) (okGlo_of h2).1 (c.f.free _ hx2) ha hb (star_of h1) (star_of h3) h4 (star_of rfl)
theorem x_fst {v1 v2 : Expr} {rest : List Expr} {as : Es} {ts : List TE} (h : FJ X S.T nm W cf (v1 :: v2 :: rest) as ts) : PE X (.JoinedStr (v1 :: v2 :: rest) pos) (tE S.T nm X.K cf W (.fst as)) := se_fst h
theorem y_app {e : Expr} {a : E} {i : Nat} {x : Str} {p p2 p3 : Pos} (h : PE X e (tE S.T nm X.K cf W a)) (hN : X.N[i]? = some x := by rfl) (hx : okVis X.env.scope x = true := by rfl) (h1 : plainX e = true := by rfl)
    (hfew : ((backTo p3 (starEach [e] X.env)).all (fun x => !x.1) && (backToKw p3 (keywordEach [] X.env)).all (fun x => x.1.isSome) && decide (([e] : List Expr).length + ([] : List Keyword).length + (if ([] : List Keyword).isEmpty then 0 else 1) < 30)) = true := by rfl)
    (hline : (p2.endLine == p3.line) = true := by rfl) : PS X (.Expr (.Call (.Attribute (.Name x p) "append" p2) [e] [] p3) pos) (tS S.T nm X.K cf W (.app i a)) := by
  obtain ⟨g1, g4, g5⟩ := okVis_of hx
  exact ss_app hN g1 g4 g5 h (star_of h1) (pe_bm PySem.F.plainAttrs_list PySem.F.slot_list_append PySem.F.type_list_append mt_append (pe_var hN g1 g4 g5) (pa_cons h pa_nil (star_of h1)) rfl hfew hline (star_of h1) rfl)
/-! ### methods, loops -/
theorem x_meth (c : CtE S X W nm cf k) {m : Nat} {x : Str} {apos : Pos} {e1 e : Expr} {es : List Expr} {a : E} {as : Es} (he : PE X e1 (tE S.T nm X.K cf W a)) (ha : PA X (e :: es) (tA S.T nm X.K cf W as)) (hx : x = nm.attr m := by rfl) (hb : noCall e1 = true := by rfl) (hl : (apos.endLine == pos.line) = true := by rfl) (hn : es.length < 29 := by decide)
    (hp1 : plainX e = true := by rfl) (hp2 : plainXs es = true := by rfl) : PE X (.Call (.Attribute e1 x apos) (e :: es) [] pos) (tE S.T nm X.K cf W (.meth m a as)) :=
  se_meth he hx c.clI ⟨c.r.hd, by have := c.r.dp; omega, by have := c.r.un; omega⟩ c.t ha (star_of hp1) (stars_of hp2) hl (abase_of hb) hn
theorem x_meth0 (c : CtE S X W nm cf k) {m : Nat} {x : Str} {apos : Pos} {e1 : Expr} {a : E} (he : PE X e1 (tE S.T nm X.K cf W a)) (hx : x = nm.attr m := by rfl) (hb : noCall e1 = true := by rfl) (hl : (apos.endLine == pos.line) = true := by rfl) : PE X (.Call (.Attribute e1 x apos) [] [] pos) (tE S.T nm X.K cf W (.meth m a .nil)) :=
  se_meth0 he hx c.clI ⟨c.r.hd, by have := c.r.dp; omega, by have := c.r.un; omega⟩ c.t hl (abase_of hb)
theorem folded_of {e : Expr} (h : noSet e = true) {env : Env} : ∀ y, foldedSetIterable e env y = pure y := fun y => by
  cases e <;> first | rfl | cases h
theorem y_forR1 (c : Ct S X W nm cf k) {e : Expr} {a : E} {i : Nat} {x : Str} {p p1 p2 : Pos} {body : List Stmt} {b : Ev.S} (hr : ("range" : Str) ∈ S.free) (ha : PA X [e] (tA S.T nm X.K cf W (.cons a .nil))) (hb : PSs X body (tS S.T nm X.K cf W b)) (hi : X.N[i]? = some x := by rfl) (hx : okSet X.env.scope x = true := by rfl) (h : okGlo X.env.scope "range" = true := by rfl) (h1 : plainX e = true := by rfl) : PS X (.For (.Name x p) (.Call (.Name "range" p1) [e] [] p2) body [] pos) (tS S.T nm X.K cf W (.for_ [i] (.rng (.cons a .nil)) b)) := by
  have h2 := okSet_of hx
  exact ss_forRng1 c.po c.c (okGlo_of h).1 (c.f.free _ hr) ha c.nd hi h2 (.inl (c.fn x)) hb (star_of h1)
theorem y_forR2 (c : Ct S X W nm cf k) {e e2 : Expr} {a a2 : E} {i : Nat} {x : Str} {p p1 p2 : Pos} {body : List Stmt} {b : Ev.S} (hr : ("range" : Str) ∈ S.free) (ha : PA X [e, e2] (tA S.T nm X.K cf W (.cons a (.cons a2 .nil)))) (hb : PSs X body (tS S.T nm X.K cf W b)) (hi : X.N[i]? = some x := by rfl) (hx : okSet X.env.scope x = true := by rfl) (h : okGlo X.env.scope "range" = true := by rfl) (h1 : plainX e = true := by rfl) (hh : plainX e2 = true := by rfl) : PS X (.For (.Name x p) (.Call (.Name "range" p1) [e, e2] [] p2) body [] pos) (tS S.T nm X.K cf W (.for_ [i] (.rng (.cons a (.cons a2 .nil))) b)) := by
  have h2 := okSet_of hx
  exact ss_forRng2 c.po c.c (okGlo_of h).1 (c.f.free _ hr) ha c.nd hi h2 (.inl (c.fn x)) hb (star_of h1) (star_of hh)
theorem y_for (c : Ct S X W nm cf k) {e : Expr} {a : E} {i : Nat} {x : Str} {p : Pos} {body : List Stmt} {b : Ev.S} (he : PE X e (tE S.T nm X.K cf W a)) (hb : PSs X body (tS S.T nm X.K cf W b)) (hi : X.N[i]? = some x := by rfl) (hx : okSet X.env.scope x = true := by rfl) (hs : noSet e = true := by rfl) : PS X (.For (.Name x p) e body [] pos) (tS S.T nm X.K cf W (.for_ [i] (.seq a) b)) := by
  have h2 := okSet_of hx
  exact ss_forSeq c.po c.c he c.nd hi h2 (.inl (c.fn x)) hb (folded_of hs)
/-! ### raise, try -/
theorem y_raise (c : Ct S X W nm cf k) {i : Nat} {C : Ev.Cls} {x : Str} {p p2 : Pos} {e : Expr} {es : List Expr} {as : Es} (hC : S.clAt i = some C) (ha : PA X (e :: es) (tA S.T nm X.K cf W as)) (hx : C.exc = true := by rfl) (hf : C.fields ≠ [] := by exact List.cons_ne_nil _ _) (hn : x = nm.cls i := by rfl) (h : okGlo X.env.scope x = true := by rfl)
    (hp1 : plainX e = true := by rfl) (hp2 : plainXs es = true := by rfl) : PS X (.Raise (some (.Call (.Name x p) (e :: es) [] p2)) none pos) (tS S.T nm X.K cf W (.raise i as)) := by
  obtain ⟨h1, h2⟩ := okGlo_of h
  subst hn
  exact ss_raise hC c.c c.t (mk_own hC (c.f.er i C hC hx) hf c.r h1 (c.f.mgc i C hC) ha h2 (star_of hp1) (stars_of hp2))
theorem y_raise0 (c : Ct S X W nm cf k) {i : Nat} {C : Ev.Cls} {x : Str} {p p2 : Pos} (hC : S.clAt i = some C) (hx : C.exc = true := by rfl) (hf : C.fields = [] := by rfl) (hcat : C.cat = false := by rfl) (hn : x = nm.cls i := by rfl) (h : okGlo X.env.scope x = true := by rfl) :
    PS X (.Raise (some (.Call (.Name x p) [] [] p2)) none pos) (tS S.T nm X.K cf W (.raise i .nil)) := by
  obtain ⟨h1, h2⟩ := okGlo_of h
  subst hn
  exact ss_raise hC c.c c.t (mk_pass0 (c.f.er i C hC hx) hf hcat hx h1 (c.f.mgc i C hC) h2)
theorem y_raise1 (c : Ct S X W nm cf k) {i : Nat} {C : Ev.Cls} {x y : Str} {j : Nat} {p p2 p3 : Pos} (hC : S.clAt i = some C) (hx : C.exc = true := by rfl) (hf : C.fields = [] := by rfl) (hn : x = nm.cls i := by rfl) (h : okGlo X.env.scope x = true := by rfl) :
    PS X (.Raise (some (.Call (.Name x p) [.Constant (.str y) j p3] [] p2)) none pos) (tS S.T nm X.K cf W (.raise i .nil)) := by
  obtain ⟨h1, h2⟩ := okGlo_of h
  subst hn
  exact ss_raise hC c.c c.t (mk_pass1 (c.f.er i C hC hx) hf h1 (c.f.mgc i C hC) h2)
theorem Ct.tr (c : Ct S X W nm cf k) {pn : List (Addr × Obj)} {xe : Value → Shared → Prop} {W' : WX} (t : Takes (X.tr pn xe) W') (po : PassesOwn (model X.prog X.w) X.A X.env xe) : Ct S (X.tr pn xe) W' nm cf k :=
  ⟨⟨c.f, c.me, c.r7, c.r, t, c.c, c.ex, c.nd⟩, c.fn, c.hs, c.hf, po⟩
theorem Ct.of {Y : Core} {N : List Str} {qual : Str} {scope : Scope} {fa : Addr} {cdv : Value} {A : Around} {outer : List Env} {s : Shared} {H : Hp} {E : XK} {me : Option (Addr × Addr)} (f : Facts S Y (nmE S me) cf k) (r : Room (k + 7) (A.deeper (envOfC qual scope s.heap.objs.size fa cdv))) (nd : N.Nodup) :
    Ct S (cxF Y N qual scope fa cdv A outer s H E) (wF E) (nmE S me) cf k := by
  have t : Takes (cxF Y N qual scope fa cdv A outer s H E) (wF E) := takes_of rfl rfl rfl rfl
  exact ⟨⟨f, ⟨me, rfl⟩, r, r.mono (by omega), t, rfl, rfl, nd⟩, fun _ => rfl, rfl, rfl, passes_of (K := fun e s'' => L2.CX Y.prog Y.w outer H s E e s'') (E₁ := fun e' s'' => L2.CX Y.prog Y.w outer H s E e' s'') rfl⟩
/-! ### comprehensions -/
theorem CtE.blk (c : CtE S X W nm cf k) (s : Shared) (H : Hp) (scope : Scope) (C : Addr) (cl : List (Str × Addr)) (fp : List Addr) : CtE S (X.blk s H scope (compEnvC scope cl C X.env) fp) WN nm cf k :=
  ⟨c.f, c.me, c.r7, c.r, fun u s' ⟨_, _, _, _, _, _, _, _, _, _, _, _, _, _, _, _, z⟩ => z.elim, c.c, c.ex, c.nd⟩
/-- a block's own name -/
def okTgt (sc scope : Scope) (x : Str) : Bool := decide ((relS scope sc).names.lookup x = some .local)
theorem tgt_of {X : Cx} {scope : Scope} {x : Str} {i : Nat} {px : Pos} (nd : X.N.Nodup) (hi : X.N[i]? = some x) (h : okTgt X.env.scope scope x = true) (s : Shared) (H : Hp) (C : Addr) (cl : List (Str × Addr)) (fp : List Addr) : PG (X.blk s H scope (compEnvC scope cl C X.env) fp) (.Name x px) (gName i) := by
  have h2 := of_decide_eq_true h
  exact pg_name (X := X.blk s H scope (compEnvC scope cl C X.env) fp) nd hi (.inl h2) (.inr h2)
theorem x_compS (c : CtE S X W nm cf k) {elt iter : Expr} {ifs : List Expr} {scope : Scope} {x : Str} {i : Nat} {px : Pos} {a e : E} {t : Tt} (ha : PE X iter (tE S.T nm X.K cf W a))
    (ht : ∀ (s : Shared) (H : Hp) (C : Addr) (cl : List (Str × Addr)) (fp : List Addr), CtE S (X.blk s H scope (compEnvC scope cl C X.env) fp) WN nm cf k → PTs (X.blk s H scope (compEnvC scope cl C X.env) fp) ifs (tT S.T nm X.K cf WN t))
    (he : ∀ (s : Shared) (H : Hp) (C : Addr) (cl : List (Str × Addr)) (fp : List Addr), CtE S (X.blk s H scope (compEnvC scope cl C X.env) fp) WN nm cf k → PE (X.blk s H scope (compEnvC scope cl C X.env) fp) elt (tE S.T nm X.K cf WN e))
    (hi : X.N[i]? = some x := by rfl) (ok : blkC X.N X.env.scope scope [(x, i)] = true := by rfl) (hx : okTgt X.env.scope scope x = true := by rfl) (hs : noSet iter = true := by rfl) :
    PE X (.ListComp elt [⟨.Name x px, iter, ifs, 0⟩] scope pos) (tE S.T nm X.K cf W (.comp [i] e (.seq a) t)) :=
  se_compSeq c.c c.nd ha (blkOk_by ok) (tgt_of c.nd hi hx) (fun s H C cl fp => ht s H C cl fp (c.blk s H scope C cl fp)) (fun s H C cl fp => he s H C cl fp (c.blk s H scope C cl fp)) fun y => by
    cases iter <;> first | rfl | cases hs
theorem x_compR1 (c : CtE S X W nm cf k) {elt : Expr} {ifs : List Expr} {scope : Scope} {x : Str} {i : Nat} {px : Pos} {e : E} {t : Tt} {e1 : Expr} {p1 p2 : Pos} {a : E} (hr : ("range" : Str) ∈ S.free) (ha : PA X [e1] (tA S.T nm X.K cf W (.cons a .nil)))
    (ht : ∀ (s : Shared) (H : Hp) (C : Addr) (cl : List (Str × Addr)) (fp : List Addr), CtE S (X.blk s H scope (compEnvC scope cl C X.env) fp) WN nm cf k → PTs (X.blk s H scope (compEnvC scope cl C X.env) fp) ifs (tT S.T nm X.K cf WN t))
    (he : ∀ (s : Shared) (H : Hp) (C : Addr) (cl : List (Str × Addr)) (fp : List Addr), CtE S (X.blk s H scope (compEnvC scope cl C X.env) fp) WN nm cf k → PE (X.blk s H scope (compEnvC scope cl C X.env) fp) elt (tE S.T nm X.K cf WN e))
    (hi : X.N[i]? = some x := by rfl) (ok : blkC X.N X.env.scope scope [(x, i)] = true := by rfl) (hx : okTgt X.env.scope scope x = true := by rfl) (h : okGlo X.env.scope "range" = true := by rfl) (h1 : plainX e1 = true := by rfl) :
    PE X (.ListComp elt [⟨.Name x px, .Call (.Name "range" p1) [e1] [] p2, ifs, 0⟩] scope pos) (tE S.T nm X.K cf W (.comp [i] e (.rng (.cons a .nil)) t)) :=
  se_compR1 c.c c.nd (okGlo_of h).1 (c.f.free _ hr) ha (blkOk_by ok) (tgt_of c.nd hi hx) (fun s H C cl fp => ht s H C cl fp (c.blk s H scope C cl fp)) (fun s H C cl fp => he s H C cl fp (c.blk s H scope C cl fp)) (star_of h1)
theorem a_compR1 (c : Ct S X W nm cf k) {elt : Expr} {ifs : List Expr} {scope : Scope} {x : Str} {i : Nat} {px : Pos} {e : E} {t : Tt} {e1 : Expr} {p1 p2 : Pos} {a : E} {j : Nat} {y : Str} {py spos : Pos} (hr : ("range" : Str) ∈ S.free) (ha : PA X [e1] (tA S.T nm X.K cf W (.cons a .nil)))
    (ht : ∀ (s : Shared) (H : Hp) (C : Addr) (cl : List (Str × Addr)) (fp : List Addr), CtE S (X.blk s H scope (compEnvC scope cl C X.env) fp) WN nm cf k → PTs (X.blk s H scope (compEnvC scope cl C X.env) fp) ifs (tT S.T nm X.K cf WN t))
    (he : ∀ (s : Shared) (H : Hp) (C : Addr) (cl : List (Str × Addr)) (fp : List Addr), CtE S (X.blk s H scope (compEnvC scope cl C X.env) fp) WN nm cf k → PE (X.blk s H scope (compEnvC scope cl C X.env) fp) elt (tE S.T nm X.K cf WN e))
    (hi : X.N[i]? = some x := by rfl) (ok : blkC X.N X.env.scope scope [(x, i)] = true := by rfl) (hx : okTgt X.env.scope scope x = true := by rfl) (h : okGlo X.env.scope "range" = true := by rfl) (h1 : plainX e1 = true := by rfl)
    (hy : X.N[j]? = some y := by rfl) (hyl : okLoc X.env.scope y = true := by rfl) (hk : X.env.scope.kind = .function := by rfl) (hl : (py.line == pos.line) = true := by rfl) (hn : (scope.names.any fun (n, k) => n == y && (k == .local || k == .cell)) = false := by rfl) :
    PS X (.Assign [.Name y py] (.ListComp elt [⟨.Name x px, .Call (.Name "range" p1) [e1] [] p2, ifs, 0⟩] scope pos) spos) (tAsg (tE S.T nm X.K cf W (.comp [i] e (.rng (.cons a .nil)) t)) (gName j)) :=
  asg_lc c.c c.nd hy (okLoc_vis hyl).2.2.1 hk hl hn (pi_range1 (okGlo_of h).1 (c.f.free _ hr) ha (star_of h1)) (fun σ H Q h => lcR1_imp σ H Q h) (blkOk_by ok) (tgt_of c.nd hi hx) (fun s H C cl fp => ht s H C cl fp (c.blk s H scope C cl fp)) (fun s H C cl fp => he s H C cl fp (c.blk s H scope C cl fp)) fun y => rfl
theorem x_compR2 (c : CtE S X W nm cf k) {elt : Expr} {ifs : List Expr} {scope : Scope} {x : Str} {i : Nat} {px : Pos} {e : E} {t : Tt} {e1 e2 : Expr} {p1 p2 : Pos} {a a2 : E} (hr : ("range" : Str) ∈ S.free) (ha : PA X [e1, e2] (tA S.T nm X.K cf W (.cons a (.cons a2 .nil))))
    (ht : ∀ (s : Shared) (H : Hp) (C : Addr) (cl : List (Str × Addr)) (fp : List Addr), CtE S (X.blk s H scope (compEnvC scope cl C X.env) fp) WN nm cf k → PTs (X.blk s H scope (compEnvC scope cl C X.env) fp) ifs (tT S.T nm X.K cf WN t))
    (he : ∀ (s : Shared) (H : Hp) (C : Addr) (cl : List (Str × Addr)) (fp : List Addr), CtE S (X.blk s H scope (compEnvC scope cl C X.env) fp) WN nm cf k → PE (X.blk s H scope (compEnvC scope cl C X.env) fp) elt (tE S.T nm X.K cf WN e))
    (hi : X.N[i]? = some x := by rfl) (ok : blkC X.N X.env.scope scope [(x, i)] = true := by rfl) (hx : okTgt X.env.scope scope x = true := by rfl) (h : okGlo X.env.scope "range" = true := by rfl) (h1 : plainX e1 = true := by rfl) (h2 : plainX e2 = true := by rfl) :
    PE X (.ListComp elt [⟨.Name x px, .Call (.Name "range" p1) [e1, e2] [] p2, ifs, 0⟩] scope pos) (tE S.T nm X.K cf W (.comp [i] e (.rng (.cons a (.cons a2 .nil))) t)) :=
  se_compR2 c.c c.nd (okGlo_of h).1 (c.f.free _ hr) ha (blkOk_by ok) (tgt_of c.nd hi hx) (fun s H C cl fp => ht s H C cl fp (c.blk s H scope C cl fp)) (fun s H C cl fp => he s H C cl fp (c.blk s H scope C cl fp)) (star_of h1) (star_of h2)
theorem a_compR2 (c : Ct S X W nm cf k) {elt : Expr} {ifs : List Expr} {scope : Scope} {x : Str} {i : Nat} {px : Pos} {e : E} {t : Tt} {e1 e2 : Expr} {p1 p2 : Pos} {a a2 : E} {j : Nat} {y : Str} {py spos : Pos} (hr : ("range" : Str) ∈ S.free) (ha : PA X [e1, e2] (tA S.T nm X.K cf W (.cons a (.cons a2 .nil))))
    (ht : ∀ (s : Shared) (H : Hp) (C : Addr) (cl : List (Str × Addr)) (fp : List Addr), CtE S (X.blk s H scope (compEnvC scope cl C X.env) fp) WN nm cf k → PTs (X.blk s H scope (compEnvC scope cl C X.env) fp) ifs (tT S.T nm X.K cf WN t))
    (he : ∀ (s : Shared) (H : Hp) (C : Addr) (cl : List (Str × Addr)) (fp : List Addr), CtE S (X.blk s H scope (compEnvC scope cl C X.env) fp) WN nm cf k → PE (X.blk s H scope (compEnvC scope cl C X.env) fp) elt (tE S.T nm X.K cf WN e))
    (hi : X.N[i]? = some x := by rfl) (ok : blkC X.N X.env.scope scope [(x, i)] = true := by rfl) (hx : okTgt X.env.scope scope x = true := by rfl) (h : okGlo X.env.scope "range" = true := by rfl) (h1 : plainX e1 = true := by rfl) (h2 : plainX e2 = true := by rfl)
    (hy : X.N[j]? = some y := by rfl) (hyl : okLoc X.env.scope y = true := by rfl) (hk : X.env.scope.kind = .function := by rfl) (hl : (py.line == pos.line) = true := by rfl) (hn : (scope.names.any fun (n, k) => n == y && (k == .local || k == .cell)) = false := by rfl) :
    PS X (.Assign [.Name y py] (.ListComp elt [⟨.Name x px, .Call (.Name "range" p1) [e1, e2] [] p2, ifs, 0⟩] scope pos) spos) (tAsg (tE S.T nm X.K cf W (.comp [i] e (.rng (.cons a (.cons a2 .nil))) t)) (gName j)) :=
  asg_lc c.c c.nd hy (okLoc_vis hyl).2.2.1 hk hl hn (pi_range2 (okGlo_of h).1 (c.f.free _ hr) ha (by rw [star_of h1, star_of h2]; rfl) (by rw [star_of h2]; rfl)) (fun σ H Q h => lcR2_imp σ H Q h) (blkOk_by ok) (tgt_of c.nd hi hx) (fun s H C cl fp => ht s H C cl fp (c.blk s H scope C cl fp)) (fun s H C cl fp => he s H C cl fp (c.blk s H scope C cl fp)) fun y => rfl
theorem a_compS (c : Ct S X W nm cf k) {elt : Expr} {ifs : List Expr} {scope : Scope} {x : Str} {i : Nat} {px : Pos} {e : E} {t : Tt} {iter : Expr} {a : E} {j : Nat} {y : Str} {py spos : Pos} (ha : PE X iter (tE S.T nm X.K cf W a))
    (ht : ∀ (s : Shared) (H : Hp) (C : Addr) (cl : List (Str × Addr)) (fp : List Addr), CtE S (X.blk s H scope (compEnvC scope cl C X.env) fp) WN nm cf k → PTs (X.blk s H scope (compEnvC scope cl C X.env) fp) ifs (tT S.T nm X.K cf WN t))
    (he : ∀ (s : Shared) (H : Hp) (C : Addr) (cl : List (Str × Addr)) (fp : List Addr), CtE S (X.blk s H scope (compEnvC scope cl C X.env) fp) WN nm cf k → PE (X.blk s H scope (compEnvC scope cl C X.env) fp) elt (tE S.T nm X.K cf WN e))
    (hi : X.N[i]? = some x := by rfl) (ok : blkC X.N X.env.scope scope [(x, i)] = true := by rfl) (hx : okTgt X.env.scope scope x = true := by rfl) (hs : noSet iter = true := by rfl)
    (hy : X.N[j]? = some y := by rfl) (hyl : okLoc X.env.scope y = true := by rfl) (hk : X.env.scope.kind = .function := by rfl) (hl : (py.line == pos.line) = true := by rfl) (hn : (scope.names.any fun (n, k) => n == y && (k == .local || k == .cell)) = false := by rfl) :
    PS X (.Assign [.Name y py] (.ListComp elt [⟨.Name x px, iter, ifs, 0⟩] scope pos) spos) (tAsg (tE S.T nm X.K cf W (.comp [i] e (.seq a) t)) (gName j)) :=
  asg_lc c.c c.nd hy (okLoc_vis hyl).2.2.1 hk hl hn (pi_seq ha) (fun σ H Q h => lcSeq_imp σ H Q h) (blkOk_by ok) (tgt_of c.nd hi hx) (fun s H C cl fp => ht s H C cl fp (c.blk s H scope C cl fp)) (fun s H C cl fp => he s H C cl fp (c.blk s H scope C cl fp)) fun y => by
    cases iter <;> first | rfl | cases hs
theorem y_setW (c : Ct S X W nm cf k) {e : Expr} {a : E} {i : Nat} {x : Str} {p : Pos} (h : PE X e (tE S.T nm X.K cf W a)) (hi : X.N[i]? = some x := by rfl) (hx : okSet X.env.scope x = true := by rfl) (hs : swapsWith e (some (.Name x p)) pos.line X.env = pure false := by rfl) : PS X (.Assign [.Name x p] e pos) (tS S.T nm X.K cf W (.set i a)) :=
  ss_set c.nd hi (okSet_of hx) h hs (.inl (c.fn x))
theorem y_ownW (c : Ct S X W nm cf k) {e : Expr} {a : E} {i : Nat} {x : Str} {p : Pos} (h : PE X e (tE S.T nm X.K cf W a)) (hi : X.N[i]? = some x := by rfl) (hx : okSet X.env.scope x = true := by rfl) (hs : swapsWith e (some (.Name x p)) pos.line X.env = pure false := by rfl) : PS X (.Assign [.Name x p] e pos) (tS S.T nm X.K cf W (.own i a)) :=
  ss_own c.nd hi (okSet_of hx) h hs (.inl (c.fn x))
/-- within a suite -/
structure Cs (S : Src) (X : Cx) (nm : Nm) (cf : Nat → List D → Sto → R D) (k : Nat) (a : Addr) (oe : Obj) (cls : Value) (d : Option Addr) : Prop where
  f : Facts S (co X) nm cf k
  nd : X.N.Nodup
  z : Zc cls d oe
  v : ∃ vs, oe.data = .fields vs
theorem y_tryAs (c : Ct S X W nm cf k) {i j : Nat} {C : Ev.Cls} {x n : Str} {np pos' : Pos} {body suite : List Stmt} {b₀ : Stmt} {b h : Ev.S} (hC : S.clAt j = some C) (hj : j ∈ S.caught)
    (hb : ∀ (W : WX) (pn : List (Addr × Obj)) (xe : Value → Shared → Prop), Ct S (X.tr pn xe) W nm cf k → PSs (X.tr pn xe) body (tS S.T nm X.K cf W b))
    (hsu : ∀ (a : Addr) (oe : Obj) (cls : Value) (d : Option Addr) (pn : List (Addr × Obj)), Cs S X nm cf k a oe cls d → PSs (X.suite a ((a, oe) :: pn)) (b₀ :: suite) (tS S.T (nmX nm a cls d) X.K cf WF h))
    (hi : X.N[i]? = some n := by rfl) (hx : okLoc X.env.scope n = true := by rfl) (hn : x = nm.cls j := by rfl) (hg : okGlo X.env.scope x = true := by rfl) :
    PS X (.Try body [.ExceptHandler (some (.Name x np)) (some n) (b₀ :: suite) pos'] [] [] pos) (tS S.T nm X.K cf W (.try_ b (.hnd j (some i) h .skip))) := by
  obtain ⟨h1, h2⟩ := okGlo_of hg
  subst hn
  exact ss_tryAs c.hs c.hf c.nd hi (okLoc_vis hx).2.2.1 c.t c.ex h1 h2 (c.f.mgc j C hC) (c.f.eri j hj) (fun W pn xe t po => hb W pn xe (c.tr t po)) (fun a oe cls d pn z v => hsu a oe cls d pn ⟨c.f, c.nd, z, v⟩)
theorem y_tryOnly (c : Ct S X W nm cf k) {j : Nat} {C : Ev.Cls} {x : Str} {np pos' : Pos} {body suite : List Stmt} {b₀ : Stmt} {b h : Ev.S} (hC : S.clAt j = some C) (hj : j ∈ S.caught)
    (hb : ∀ (W : WX) (pn : List (Addr × Obj)) (xe : Value → Shared → Prop), Ct S (X.tr pn xe) W nm cf k → PSs (X.tr pn xe) body (tS S.T nm X.K cf W b))
    (hsu : ∀ (a : Addr) (oe : Obj) (cls : Value) (d : Option Addr) (pn : List (Addr × Obj)), Cs S X nm cf k a oe cls d → PSs (X.suite a ((a, oe) :: pn)) (b₀ :: suite) (tS S.T (nmX nm a cls d) X.K cf WF h))
    (hn : x = nm.cls j := by rfl) (hg : okGlo X.env.scope x = true := by rfl) :
    PS X (.Try body [.ExceptHandler (some (.Name x np)) none (b₀ :: suite) pos'] [] [] pos) (tS S.T nm X.K cf W (.try_ b (.hnd j none h .skip))) := by
  obtain ⟨h1, h2⟩ := okGlo_of hg
  subst hn
  exact ss_tryOnly c.hs c.hf c.t c.ex h1 h2 (c.f.mgc j C hC) (c.f.eri j hj) (fun W pn xe t po => hb W pn xe (c.tr t po)) (fun a oe cls d pn z v => hsu a oe cls d pn ⟨c.f, c.nd, z, v⟩)
section
variable {a : Addr} {oe : Obj} {cls : Value} {d : Option Addr} {pn : List (Addr × Obj)}
theorem z_xat (c : Cs S X nm cf k a oe cls d) {i m : Nat} {x n : Str} {p : Pos} (hN : X.N[i]? = some n := by rfl) (h : okLoc X.env.scope n = true := by rfl) (hx : x = nm.attr m := by rfl) : PE (X.suite a ((a, oe) :: pn)) (.Attribute (.Name n p) x pos) (tE S.T (nmX nm a cls d) X.K cf W (.xat i m)) := by
  obtain ⟨h1, _, _, h4, h5⟩ := okLoc_vis h
  exact se_xat c.z c.v hN h1 h4 h5 hx (fun i C hC he => c.f.xc i C hC he) rfl
theorem z_xis (c : Cs S X nm cf k a oe cls d) {i : Nat} {t : TY} {n : Str} {p p2 : Pos} {e2 : Expr} (hx : ("isinstance" : Str) ∈ S.free) (ht : PE (X.suite a ((a, oe) :: pn)) e2 (tC (tyW nm X.K t))) (hN : X.N[i]? = some n := by rfl) (h : okLoc X.env.scope n = true := by rfl) (hg : okGlo X.env.scope "isinstance" = true := by rfl) (h2 : plainX e2 = true := by rfl) :
    PE (X.suite a ((a, oe) :: pn)) (.Call (.Name "isinstance" p2) [.Name n p, e2] [] pos) (tE S.T (nmX nm a cls d) X.K cf W (.xis i t)) := by
  obtain ⟨h1, _, _, h4, h5⟩ := okLoc_vis h
  exact se_xis c.z c.v hN h1 h4 h5 (fun i C hC he => c.f.xc i C hC he) c.f.kit (okGlo_of hg).1 (c.f.free _ hx) ht (star_of rfl) (star_of h2)
theorem z_ty (c : Cs S X nm cf k a oe cls d) {x : Str} {id : String} {t : TY} (hv : bootBuiltins x = some (.type id)) (hx : x ∈ S.free) (hn : x ≠ "__name__") (ht : tyW nm X.K t = .ty id) (h : okGlo X.env.scope x = true) : PE (X.suite a ((a, oe) :: pn)) (.Name x pos) (tC (tyW nm X.K t)) := by
  obtain ⟨h1, h2⟩ := okGlo_of h
  rw [ht]
  exact pe_bltn h1 (c.f.free x hx) hv rfl hn h2
theorem z_cls (c : Cs S X nm cf k a oe cls d) {x : Str} {i : Nat} {C : Ev.Cls} (hC : S.clAt i = some C) (hx : x = nm.cls i := by rfl) (h : okGlo X.env.scope x = true := by rfl) : PE (X.suite a ((a, oe) :: pn)) (.Name x pos) (tC (tyW nm X.K (.cls i))) := by
  obtain ⟨h1, h2⟩ := okGlo_of h
  subst hx
  exact pe_glob h1 (c.f.mgc i C hC) rfl h2
theorem z_set (c : Cs S X nm cf k a oe cls d) {e : Expr} {b : E} {i : Nat} {x : Str} {p : Pos} (h : PE (X.suite a ((a, oe) :: pn)) e (tE S.T (nmX nm a cls d) X.K cf W b)) (hi : X.N[i]? = some x := by rfl) (hx : okLoc X.env.scope x = true := by rfl) (hs : noComp e = true := by rfl) : PS (X.suite a ((a, oe) :: pn)) (.Assign [.Name x p] e pos) (tS S.T (nmX nm a cls d) X.K cf W (.set i b)) := by
  obtain ⟨_, h2, h3, _, _⟩ := okLoc_vis hx
  exact ss_set (X := X.suite a ((a, oe) :: pn)) c.nd hi h2 h (swaps_of hs) (.inr h3)
end
end
end Snd
set_option Elab.async false
set_option linter.all false
set_option maxRecDepth 100000
set_option maxHeartbeats 1000000
/-! SndX: more rules, as a program's terms use them. -/
namespace Snd
open PySem PySem.Spec PyProof.Rows L2 Ev
section
variable {X : Cx} {T : Tab} {nm : Nm} {W : WX} {cf : Nat → List D → Sto → R D} {pos : Pos} {k : Nat}
/-! ### range with a step -/
theorem rangeC_len {a b c : Int} : (rangeC a b c).length = (if a < b then ((b - a - 1).fdiv c + 1).toNat else 0) := by
  unfold rangeC
  rw [List.length_map, List.length_range]
theorem rangeC_at {a b c : Int} {i : Nat} (h : i < (rangeC a b c).length) : (rangeC a b c)[i]? = some (a + (i : Int) * c) := by
  rw [rangeC_len] at h
  unfold rangeC
  rw [List.getElem?_map, List.getElem?_range h]
  rfl
theorem rgC_of {a b c : Int} (h1 : -(LINE : Int) < a ∧ a < LINE) (h2 : -(LINE : Int) < b ∧ b < LINE) (h3 : 0 < c ∧ c < LINE) : RgC a b c (rangeC a b c).length := by
  have hL : (LINE : Int) = 1000000 := rfl
  refine ⟨by omega, by omega, ?_, ?_⟩
  · have e1 : 0 ≤ Builtin.Range.rangeSize a b c ∧ Builtin.Range.rangeSize a b c ≤ 2000000 := by
      unfold Builtin.Range.rangeSize
      rw [if_pos h3.1]
      by_cases h : a < b
      · rw [if_pos h]
        have u1 := Int.ediv_nonneg (show 0 ≤ b - a - 1 by omega) (show 0 ≤ c by omega)
        have u2 := Int.ediv_le_self c (show 0 ≤ b - a - 1 by omega)
        omega
      · rw [if_neg h]
        omega
    unfold Builtin.Range.small
    generalize Builtin.Range.rangeSize a b c = z at *
    simp only [Builtin.Range.rangeFitsLong, Bool.and_eq_true, Bool.or_eq_true, decide_eq_true_eq, beq_iff_eq, show c > 0 from h3.1, if_true]
    omega
  · unfold Builtin.Range.rangeSize
    rw [if_pos h3.1, rangeC_len]
    have e : (b - a - 1).fdiv c = (b - a - 1) / c := Int.fdiv_eq_ediv_of_nonneg _ (by omega)
    rw [e]
    by_cases h : a < b
    · rw [if_pos h, if_pos h]
      have := Int.ediv_nonneg (show 0 ≤ b - a - 1 by omega) (show 0 ≤ c by omega)
      omega
    · rw [if_neg h, if_neg h]
      rfl
theorem ss_forRng3 {e e2 e3 : Expr} {a a2 a3 : E} {i : Nat} {x : Str} {p p1 p2 : Pos} {body : List Stmt} {b : Ev.S} (hp : PassesOwn (model X.prog X.w) X.A X.env X.xe) (hc : X.calm = true) (hg : Gl X "range") (hm : X.mg "range" = none) (ha : PA X [e, e2, e3] (tA T nm X.K cf W (.cons a (.cons a2 (.cons a3 .nil))))) (hN : X.N.Nodup) (hi : X.N[i]? = some x) (hx : Loc X.env.scope x) (hf : X.fn x = true ∨ X.env.scope.names.lookup x = some .local)
    (hb : PSs X body (tS T nm X.K cf W b)) (hpi : ∀ {ta : TA}, PA X [e, e2, e3] ta → PI X (.Name x p) (.Call (.Name "range" p1) [e, e2, e3] [] p2) (iRng3 ta)) : PS X (.For (.Name x p) (.Call (.Name "range" p1) [e, e2, e3] [] p2) body [] pos) (tS T nm X.K cf W (.for_ [i] (.rng (.cons a (.cons a2 (.cons a3 .nil)))) b)) := by
  refine PS.imp (ps_for hp hc (hpi ha) (pg_name hN hi hx hf) hb (fun _ => rfl)) fun D σ H ⟨gb, g, ρ, st, m, l, n, o⟩ => ⟨g, ρ, st, m, ?_⟩
  refine Out.imp (out_len (OutS.go (rng_f o) l)) fun ds st1 g1 H1 l1 m1 ⟨hl, q⟩ vs r => ?_
  match ds, vs, r, hl with
  | [d, d2, d3], [v, v2, v3], .cons r1 (.cons r2 (.cons r3 .nil)), _ =>
    cases r1 with
    | int lo =>
      cases r2 with
      | int hi =>
        cases r3 with
        | int c =>
          by_cases hj : (-(LINE : Int) < lo ∧ lo < LINE) ∧ (-(LINE : Int) < hi ∧ hi < LINE) ∧ 0 < c ∧ c < LINE
          · simp only [rngI, if_pos hj] at q
            refine ⟨lo, hi, c, (rangeC lo hi c).length, rfl, rgC_of hj.1 hj.2.1 hj.2.2, ?_⟩
            refine for_rangeC (fun j σ' H' => ∃ g' ρ' st', Le (strip g1) g' ∧ Mt T nm X.K g' ρ' st' σ' H' ∧ OutS T nm X.K W (strip g1) D (forL (exS T cf b) [i] (((rangeC lo hi c).map fun n => [Ev.D.int n]).drop j) ρ' st')) ⟨g1, ρ, st1, le_strip, m1, (q.base (le_to_strip n (l.trans l1)))⟩ (fun j σ' H' hj' ⟨g', ρ', st', l', m', o'⟩ => ?_) (fun σ' H' ⟨g', ρ', st', l', m', o'⟩ => ?_)
            · have hjj : ((rangeC lo hi c).map fun n => [Ev.D.int n])[j]? = some [.int (lo + (j : Int) * c)] := by rw [List.getElem?_map, rangeC_at hj']; rfl
              rw [drop_at hjj] at o'
              have m2 := m'.set (i := i) (SlR.rep (H := H') (.int (lo + (j : Int) * c)))
              exact turn_out m2 l' noSlot_strip (fun g2 ρ2 st2 σ2 H2 l2 m2 o2 => ⟨g2, ρ2, st2, l2, m2, o2⟩) o'
            · rw [List.drop_eq_nil_of_le (by rw [List.length_map]; exact Nat.le_refl _)] at o'
              exact o' g' σ' H' l' m'
          · simp only [rngI, if_neg hj] at q
            exact (show False from q).elim
        | _ => exact (show False from q).elim
      | _ => exact (show False from q).elim
    | _ => exact (show False from q).elim
/-- x[i] = v, x of its own -/
theorem ss_ownseti {e2 e3 : Expr} {b c : E} {i : Nat} {x : Str} {p pn : Pos} (hN : X.N[i]? = some x) (hv : Vis X.env.scope x) (hd : (x == ("__debug__" : Str)) = false) (hcd : (x == ("__classdict__" : Str)) = false) (hb : PE X e2 (tE T nm X.K cf W b)) (hc : PE X e3 (tE T nm X.K cf W c)) (hns : ∀ l h s q, e2 ≠ .Slice l h s q) (hsw : swapsWithSole [.Subscript (.Name x pn) e2 p] e3 pos.line X.env = pure false) (hst : swappedStores [.Subscript (.Name x pn) e2 p] e3 X.env = pure none) :
    PS X (.Assign [.Subscript (.Name x pn) e2 p] e3 pos) (tS T nm X.K cf W (.ownseti i b c)) :=
  PS.imp (ps_asg hc (pg_sub (pe_var hN hv hd hcd) hb set_list (by cases e2 <;> first | (intro v; rfl) | exact absurd rfl (hns _ _ _ _))) hsw hst) fun D σ H ⟨gb, g, ρ, st, m, l, n, o⟩ => by
    have o' : OutS T nm X.K W gb D (match ownAt ρ i with
      | some ds => (evE T cf c ρ st).f ρ fun d st => (evE T cf b ρ st).f ρ fun y st => (match y with
        | .int k => (match Ev.ixN ds.length k with
          | some j => F.nx (ρ.set i (some (.own (ds.set j (fz d))))) st
          | none => .no)
        | _ => .no)
      | none => .no) := o
    cases q : ownAt ρ i with
    | none => rw [q] at o'; exact o'.elim
    | some ds =>
      rw [q] at o'
      have e := ownAt_some q
      obtain ⟨v, e1, p, vs, ev, h1, h2, r⟩ := m.slots i _ e
      subst ev
      refine ⟨g, ρ, st, m, Out.imp (OutS.go o' l) fun d st1 g1 H1 l1 m1 q1 w rw1 => ?_⟩
      obtain ⟨g2, l2, m2, r2⟩ := kept rw1 m1 l1
      refine ⟨.ref p, e1, g2, ρ, st1, m2, Out.imp (OutS.go q1 (l.trans l2)) fun y st3 g3 H3 l3 m3 q3 z rz => ?_⟩
      cases y with
      | int k =>
        cases (show Rep T nm X.K g3 (.int k) z from rz)
        have q4 : OutS T nm X.K W gb D (match Ev.ixN ds.length k with
          | some j => F.nx (ρ.set i (some (.own (ds.set j (fz d))))) st3
          | none => .no) := q3
        cases hk : Ev.ixN ds.length k with
        | none => rw [hk] at q4; exact q4.elim
        | some j =>
          rw [hk] at q4
          obtain ⟨v', e1', p', vs', ev', h1', h2', r'⟩ := m3.slots i _ e
          subst ev'
          rw [e1] at e1'
          cases e1'
          refine ⟨p, vs', k, j, rfl, rfl, h2', by rw [← r'.len, ← ixN_eq]; exact hk, ?_⟩
          exact q4 g3 σ _ ((l.trans l2).trans l3) (m3.own_upd e1 h1' (Reps.set (r2.mono l3.lim) j r'))
      | _ => exact q3.elim
end
section
variable {S : Src} {X : Cx} {W : WX} {nm : Nm} {cf : Nat → List D → Sto → R D} {k : Nat} {pos : Pos}
/-! ### loops -/
theorem y_forE (c : Ct S X W nm cf k) {e : Expr} {a : E} {i j : Nat} {x y : Str} {p p' p1 p2 tp : Pos} {kk : Nat} {body : List Stmt} {b : Ev.S} (hr : ("enumerate" : Str) ∈ S.free) (he : PE X e (tE S.T nm X.K cf W a)) (hb : PSs X body (tS S.T nm X.K cf W b)) (hi : X.N[i]? = some x := by rfl) (hj : X.N[j]? = some y := by rfl) (hx : okSet X.env.scope x = true := by rfl) (hy : okSet X.env.scope y = true := by rfl) (h : okGlo X.env.scope "enumerate" = true := by rfl) (h1 : plainX e = true := by rfl) :
    PS X (.For (.Tuple [.Name x p, .Name y p'] kk tp) (.Call (.Name "enumerate" p1) [e] [] p2) body [] pos) (tS S.T nm X.K cf W (.for_ [i, j] (.enum a) b)) :=
  ss_forEnum c.po c.c (okGlo_of h).1 (c.f.free _ hr) he c.nd hi hj (okSet_of hx) (okSet_of hy) (c.fn x) (c.fn y) hb (star_of h1)
theorem y_forZ (c : Ct S X W nm cf k) {e e2 : Expr} {a a2 : E} {i j : Nat} {x y : Str} {p p' p1 p2 tp : Pos} {kk : Nat} {body : List Stmt} {b : Ev.S} (hr : ("zip" : Str) ∈ S.free) (he : PE X e (tE S.T nm X.K cf W a)) (he2 : PE X e2 (tE S.T nm X.K cf W a2)) (hb : PSs X body (tS S.T nm X.K cf W b)) (hi : X.N[i]? = some x := by rfl) (hj : X.N[j]? = some y := by rfl) (hx : okSet X.env.scope x = true := by rfl) (hy : okSet X.env.scope y = true := by rfl) (h : okGlo X.env.scope "zip" = true := by rfl) (h1 : plainX e = true := by rfl) (h2 : plainX e2 = true := by rfl) :
    PS X (.For (.Tuple [.Name x p, .Name y p'] kk tp) (.Call (.Name "zip" p1) [e, e2] [] p2) body [] pos) (tS S.T nm X.K cf W (.for_ [i, j] (.zip a a2) b)) :=
  ss_forZip c.po c.c (okGlo_of h).1 (c.f.free _ hr) he he2 c.nd hi hj (okSet_of hx) (okSet_of hy) (c.fn x) (c.fn y) hb (star_of h1) (star_of h2)
theorem y_forR3 (c : Ct S X W nm cf k) {e e2 e3 : Expr} {a a2 a3 : E} {i : Nat} {x : Str} {p p1 p2 : Pos} {body : List Stmt} {b : Ev.S} (hr : ("range" : Str) ∈ S.free) (ha : PA X [e, e2, e3] (tA S.T nm X.K cf W (.cons a (.cons a2 (.cons a3 .nil))))) (hb : PSs X body (tS S.T nm X.K cf W b)) (hi : X.N[i]? = some x := by rfl) (hx : okSet X.env.scope x = true := by rfl) (h : okGlo X.env.scope "range" = true := by rfl)
    (hs : starEach [e, e2, e3] X.env = (false, eval e X.env) :: starEach [e2, e3] X.env := by rfl) (hpl : (backTo p2 (starEach [e2, e3] X.env)).any (·.1) = false := by rfl) : PS X (.For (.Name x p) (.Call (.Name "range" p1) [e, e2, e3] [] p2) body [] pos) (tS S.T nm X.K cf W (.for_ [i] (.rng (.cons a (.cons a2 (.cons a3 .nil)))) b)) :=
  ss_forRng3 c.po c.c (okGlo_of h).1 (c.f.free _ hr) ha c.nd hi (okSet_of hx) (.inl (c.fn x)) hb fun ha => pi_range3 (okGlo_of h).1 (c.f.free _ hr) ha hs hpl
theorem y_while (c : Ct S X W nm cf k) {e : Expr} {body : List Stmt} {t : Tt} {b : Ev.S} (hc : PT X e (tT S.T nm X.K cf W t)) (hb : PSs X body (tS S.T nm X.K cf W b)) : PS X (.While e body [] pos) (tS S.T nm X.K cf W (.while_ t b)) := ss_while c.po hc hb
theorem y_aug (c : Ct S X W nm cf k) {e : Expr} {a : E} {o : BO} {i : Nat} {x : Str} {p : Pos} (h : PE X e (tE S.T nm X.K cf W a)) (hi : X.N[i]? = some x := by rfl) (hx : okSet X.env.scope x = true := by rfl) : PS X (.AugAssign (.Name x p) (opOf o) e pos) (tS S.T nm X.K cf W (.aug i o a)) :=
  ss_aug c.nd hi (okSet_of hx) h fun ho => ps_aug c.nd hi (okSet_of hx) h ho (.inl (c.fn x))
/-- targets that are names -/
inductive GN (X : Cx) : List Expr → List Nat → Prop where
  | nil : GN X [] []
  | cons {x : Str} {p : Pos} {i : Nat} {es : List Expr} {is : List Nat} (hi : X.N[i]? = some x := by rfl) (hx : okSet X.env.scope x = true := by rfl) (r : GN X es is) : GN X (.Name x p :: es) (i :: is)
theorem gn_len {es : List Expr} {is : List Nat} (h : GN X es is) : es.length = is.length := by
  induction h with
  | nil => rfl
  | cons _ _ _ ih => simp [ih]
theorem gn_of {es : List Expr} {is : List Nat} (nd : X.N.Nodup) (hf : ∀ x, X.fn x = true) (h : GN X es is) : PGs X es (gsN is) := by
  induction h with
  | nil => exact pgs_nil
  | cons hi hx r ih => exact pgs_cons (pg_name nd hi (okSet_of hx) (.inl (hf _))) ih
theorem y_unp (c : Ct S X W nm cf k) {e : Expr} {es : List Expr} {a : E} {is : List Nat} {kk : Nat} {tp : Pos} (h : PE X e (tE S.T nm X.K cf W a)) (hg : GN X es is) (hn : (assignEach es X.env).length = is.length := by rfl) (hst : (assignEach es X.env).findIdx? (·.1) = none := by rfl)
    (hs : swapsWithSole [.Tuple es kk tp] e pos.line X.env = pure false := by rfl) (hw : swappedStores [.Tuple es kk tp] e X.env = pure none := by rfl) (h1 : (assignEach [.Tuple es kk tp] X.env).map (·.2) = [assign (.Tuple es kk tp) X.env] := by rfl) :
    PS X (.Assign [.Tuple es kk tp] e pos) (tS S.T nm X.K cf W (.unp is a)) :=
  ss_unp h (pg_tup c.c (gn_of c.nd c.fn hg) hn hst) fun he hgg => ps_asg he hgg hs hw h1
theorem y_insr (c : Ct S X W nm cf k) {e1 e2 : Expr} {a b : E} {i : Nat} {x : Str} {p p2 p3 : Pos} (ha : PE X e1 (tE S.T nm X.K cf W a)) (hb : PE X e2 (tE S.T nm X.K cf W b)) (hN : X.N[i]? = some x := by rfl) (hx : okVis X.env.scope x = true := by rfl) (h1 : plainX e1 = true := by rfl) (h2 : plainX e2 = true := by rfl)
    (hfew : ((backTo p3 (starEach [e1, e2] X.env)).all (fun x => !x.1) && (backToKw p3 (keywordEach [] X.env)).all (fun x => x.1.isSome) && decide (([e1, e2] : List Expr).length + ([] : List Keyword).length + (if ([] : List Keyword).isEmpty then 0 else 1) < 30)) = true := by rfl)
    (hline : (p2.endLine == p3.line) = true := by rfl) (hpl : (backTo p3 (starEach [e2] X.env)).any (·.1) = false := by rfl) : PS X (.Expr (.Call (.Attribute (.Name x p) "insert" p2) [e1, e2] [] p3) pos) (tS S.T nm X.K cf W (.insr i a b)) := by
  obtain ⟨g1, g4, g5⟩ := okVis_of hx
  exact ss_insr (pe_bm PySem.F.plainAttrs_list PySem.F.slot_list_insert PySem.F.type_list_insert mt_insert (pe_var hN g1 g4 g5) (pa_cons ha (pa_cons hb pa_nil (star_of h2)) (star_of h1)) rfl hfew hline (star_of h1) hpl)
theorem y_ownseti (c : Ct S X W nm cf k) {e2 e3 : Expr} {b d : E} {i : Nat} {x : Str} {p pn : Pos} (hb : PE X e2 (tE S.T nm X.K cf W b)) (hd : PE X e3 (tE S.T nm X.K cf W d)) (hN : X.N[i]? = some x := by rfl) (hx : okVis X.env.scope x = true := by rfl) (hns : noSlice e2 = true := by rfl) (hsw : swapsWithSole [.Subscript (.Name x pn) e2 p] e3 pos.line X.env = pure false := by rfl) (hst : swappedStores [.Subscript (.Name x pn) e2 p] e3 X.env = pure none := by rfl) :
    PS X (.Assign [.Subscript (.Name x pn) e2 p] e3 pos) (tS S.T nm X.K cf W (.ownseti i b d)) := by
  obtain ⟨g1, g4, g5⟩ := okVis_of hx
  refine ss_ownseti hN g1 g4 g5 hb hd (fun l h s q z => ?_) hsw hst
  subst z
  cases hns
theorem y_appr (c : Ct S X W nm cf k) {e1 e : Expr} {a b : E} {p2 p3 : Pos} (ha : PE X e1 (tE S.T nm X.K cf W a)) (hb : PE X e (tE S.T nm X.K cf W b)) (hbase : attributeBase e1 "append" X.env (eval e1 X.env) = eval e1 X.env := by rfl) (h1 : plainX e = true := by rfl)
    (hfew : ((backTo p3 (starEach [e] X.env)).all (fun x => !x.1) && (backToKw p3 (keywordEach [] X.env)).all (fun x => x.1.isSome) && decide (([e] : List Expr).length + ([] : List Keyword).length + (if ([] : List Keyword).isEmpty then 0 else 1) < 30)) = true := by rfl)
    (hline : (p2.endLine == p3.line) = true := by rfl) : PS X (.Expr (.Call (.Attribute e1 "append" p2) [e] [] p3) pos) (tS S.T nm X.K cf W (.appr a b)) :=
  ss_appr (pe_bm PySem.F.plainAttrs_list PySem.F.slot_list_append PySem.F.type_list_append mt_append ha (pa_cons hb pa_nil (star_of h1)) hbase hfew hline (star_of h1) rfl)
/-! ### expressions -/
theorem x_sl {e : Expr} {lo hi : Option Expr} {a la ha : E} {p2 : Pos} (he : PE X e (tB S.T nm X.K cf W a)) (hl : PO X lo (tP X S.T nm cf W la)) (hu : PO X hi (tP X S.T nm cf W ha)) : PE X (.Subscript e (.Slice lo hi none p2) pos) (tE S.T nm X.K cf W (.sl a la ha)) := se_sl he hl hu
theorem x_inv (c : CtE S X W nm cf k) {fe e : Expr} {a b : E} (ha : PE X fe (tE S.T nm X.K cf W a)) (hb : PE X e (tE S.T nm X.K cf W b))
    (ht : eval (.Call fe [e] [] pos) X.env = (do callWith pos (← eval fe X.env) [] (backTo pos (starEach [e] X.env)) (backToKw pos (keywordEach [] X.env))) := by rfl) (h1 : plainX e = true := by rfl) : PE X (.Call fe [e] [] pos) (tE S.T nm X.K cf W (.inv a (.cons b .nil))) := by
  obtain ⟨m, em⟩ := c.me
  exact se_inv em c.f (c.r7.mono (by omega)) c.t ha hb ht (star_of h1)
theorem x_dnew : PE X (.Dict [] [] pos) (tE S.T nm X.K cf W .dnew) := se_dnew
theorem x_sto {e : Expr} {a : E} (h : PE X e (tE S.T nm X.K cf W a)) : PE X e (tE S.T nm X.K cf W (.sto a)) := se_stoG h
theorem x_pop {e1 e : Expr} {a b : E} {p2 : Pos} (ha : PE X e1 (tE S.T nm X.K cf W a)) (hb : PE X e (tE S.T nm X.K cf W b)) (hbase : attributeBase e1 "pop" X.env (eval e1 X.env) = eval e1 X.env := by rfl) (h1 : plainX e = true := by rfl)
    (hfew : ((backTo pos (starEach [e] X.env)).all (fun x => !x.1) && (backToKw pos (keywordEach [] X.env)).all (fun x => x.1.isSome) && decide (([e] : List Expr).length + ([] : List Keyword).length + (if ([] : List Keyword).isEmpty then 0 else 1) < 30)) = true := by rfl)
    (hline : (p2.endLine == pos.line) = true := by rfl) : PE X (.Call (.Attribute e1 "pop" p2) [e] [] pos) (tE S.T nm X.K cf W (.pop a b)) :=
  se_pop (pe_bm PySem.F.plainAttrs_list PySem.F.slot_list_pop PySem.F.type_list_pop mt_popAt ha (pa_cons hb pa_nil (star_of h1)) hbase hfew hline (star_of h1) rfl)
/-! ### comprehensions -/
/-- two names within a block -/
theorem tgt2_of (nd : X.N.Nodup) (hc : X.calm = true) {scope : Scope} {x y : Str} {i j : Nat} {px py tp : Pos} {kk : Nat} (hi : X.N[i]? = some x) (hj : X.N[j]? = some y) (hx : okTgt X.env.scope scope x = true) (hy : okTgt X.env.scope scope y = true) (s : Shared) (H : Hp) (C : Addr) (cl : List (Str × Addr)) (fp : List Addr) :
    PG (X.blk s H scope (compEnvC scope cl C X.env) fp) (.Tuple [.Name x px, .Name y py] kk tp) (g2N X.K i j) :=
  pg_tup (X := X.blk s H scope (compEnvC scope cl C X.env) fp) hc (pgs_cons (tgt_of nd hi hx s H C cl fp) (pgs_cons (tgt_of nd hj hy s H C cl fp) pgs_nil))
section
variable {elt : Expr} {ifs : List Expr} {scope : Scope} {x y : Str} {i j : Nat} {px py tp : Pos} {kk : Nat} {e : E} {t : Tt} {e1 e2 : Expr} {p1 p2 : Pos} {a a2 : E}
theorem x_compZ (c : CtE S X W nm cf k) (hr : ("zip" : Str) ∈ S.free) (ha : PE X e1 (tE S.T nm X.K cf W a)) (ha2 : PE X e2 (tE S.T nm X.K cf W a2))
    (ht : ∀ (s : Shared) (H : Hp) (C : Addr) (cl : List (Str × Addr)) (fp : List Addr), CtE S (X.blk s H scope (compEnvC scope cl C X.env) fp) WN nm cf k → PTs (X.blk s H scope (compEnvC scope cl C X.env) fp) ifs (tT S.T nm X.K cf WN t))
    (he : ∀ (s : Shared) (H : Hp) (C : Addr) (cl : List (Str × Addr)) (fp : List Addr), CtE S (X.blk s H scope (compEnvC scope cl C X.env) fp) WN nm cf k → PE (X.blk s H scope (compEnvC scope cl C X.env) fp) elt (tE S.T nm X.K cf WN e))
    (hi : X.N[i]? = some x := by rfl) (hj : X.N[j]? = some y := by rfl) (ok : blkC X.N X.env.scope scope [(x, i), (y, j)] = true := by rfl) (hx : okTgt X.env.scope scope x = true := by rfl) (hy : okTgt X.env.scope scope y = true := by rfl) (hij : i ≠ j := by decide) (h : okGlo X.env.scope "zip" = true := by rfl) (h1 : plainX e1 = true := by rfl) (h2 : plainX e2 = true := by rfl) :
    PE X (.ListComp elt [⟨.Tuple [.Name x px, .Name y py] kk tp, .Call (.Name "zip" p1) [e1, e2] [] p2, ifs, 0⟩] scope pos) (tE S.T nm X.K cf W (.comp [i, j] e (.zip a a2) t)) :=
  PE.imp (pe_lc c.c c.nd (pi_Z (okGlo_of h).1 (c.f.free _ hr) (pa_cons ha (pa_cons ha2 pa_nil (star_of h2)) (star_of h1)) (star_of h1) (by rw [star_of h2]; rfl)) (blkOk_by ok) (tgt2_of c.nd c.c hi hj hx hy) (fun s H C cl fp => ht s H C cl fp (c.blk s H scope C cl fp)) (fun s H C cl fp => he s H C cl fp (c.blk s H scope C cl fp))) fun σ H Q h => lcZip_imp hij σ H Q h
theorem x_compE (c : CtE S X W nm cf k) (hr : ("enumerate" : Str) ∈ S.free) (ha : PE X e1 (tE S.T nm X.K cf W a))
    (ht : ∀ (s : Shared) (H : Hp) (C : Addr) (cl : List (Str × Addr)) (fp : List Addr), CtE S (X.blk s H scope (compEnvC scope cl C X.env) fp) WN nm cf k → PTs (X.blk s H scope (compEnvC scope cl C X.env) fp) ifs (tT S.T nm X.K cf WN t))
    (he : ∀ (s : Shared) (H : Hp) (C : Addr) (cl : List (Str × Addr)) (fp : List Addr), CtE S (X.blk s H scope (compEnvC scope cl C X.env) fp) WN nm cf k → PE (X.blk s H scope (compEnvC scope cl C X.env) fp) elt (tE S.T nm X.K cf WN e))
    (hi : X.N[i]? = some x := by rfl) (hj : X.N[j]? = some y := by rfl) (ok : blkC X.N X.env.scope scope [(x, i), (y, j)] = true := by rfl) (hx : okTgt X.env.scope scope x = true := by rfl) (hy : okTgt X.env.scope scope y = true := by rfl) (hij : i ≠ j := by decide) (h : okGlo X.env.scope "enumerate" = true := by rfl) (h1 : plainX e1 = true := by rfl) :
    PE X (.ListComp elt [⟨.Tuple [.Name x px, .Name y py] kk tp, .Call (.Name "enumerate" p1) [e1] [] p2, ifs, 0⟩] scope pos) (tE S.T nm X.K cf W (.comp [i, j] e (.enum a) t)) :=
  PE.imp (pe_lc c.c c.nd (pi_E (okGlo_of h).1 (c.f.free _ hr) (pa_cons ha pa_nil (star_of h1)) (star_of h1)) (blkOk_by ok) (tgt2_of c.nd c.c hi hj hx hy) (fun s H C cl fp => ht s H C cl fp (c.blk s H scope C cl fp)) (fun s H C cl fp => he s H C cl fp (c.blk s H scope C cl fp))) fun σ H Q h => lcEnum_imp hij σ H Q h
theorem a_compZ (c : Ct S X W nm cf k) {n : Nat} {z : Str} {pz spos : Pos} (hr : ("zip" : Str) ∈ S.free) (ha : PE X e1 (tE S.T nm X.K cf W a)) (ha2 : PE X e2 (tE S.T nm X.K cf W a2))
    (ht : ∀ (s : Shared) (H : Hp) (C : Addr) (cl : List (Str × Addr)) (fp : List Addr), CtE S (X.blk s H scope (compEnvC scope cl C X.env) fp) WN nm cf k → PTs (X.blk s H scope (compEnvC scope cl C X.env) fp) ifs (tT S.T nm X.K cf WN t))
    (he : ∀ (s : Shared) (H : Hp) (C : Addr) (cl : List (Str × Addr)) (fp : List Addr), CtE S (X.blk s H scope (compEnvC scope cl C X.env) fp) WN nm cf k → PE (X.blk s H scope (compEnvC scope cl C X.env) fp) elt (tE S.T nm X.K cf WN e))
    (hi : X.N[i]? = some x := by rfl) (hj : X.N[j]? = some y := by rfl) (ok : blkC X.N X.env.scope scope [(x, i), (y, j)] = true := by rfl) (hx : okTgt X.env.scope scope x = true := by rfl) (hy : okTgt X.env.scope scope y = true := by rfl) (hij : i ≠ j := by decide) (h : okGlo X.env.scope "zip" = true := by rfl) (h1 : plainX e1 = true := by rfl) (h2 : plainX e2 = true := by rfl)
    (hz : X.N[n]? = some z := by rfl) (hzl : okLoc X.env.scope z = true := by rfl) (hk : X.env.scope.kind = .function := by rfl) (hl : (pz.line == pos.line) = true := by rfl) (hn : (scope.names.any fun (n, k) => n == z && (k == .local || k == .cell)) = false := by rfl) :
    PS X (.Assign [.Name z pz] (.ListComp elt [⟨.Tuple [.Name x px, .Name y py] kk tp, .Call (.Name "zip" p1) [e1, e2] [] p2, ifs, 0⟩] scope pos) spos) (tAsg (tE S.T nm X.K cf W (.comp [i, j] e (.zip a a2) t)) (gName n)) :=
  PS.imp (ps_setLc c.c c.nd hz (okLoc_vis hzl).2.2.1 (sw_true hk (okLoc_vis hzl).2.2.1 hl hn) (pi_Z (okGlo_of h).1 (c.f.free _ hr) (pa_cons ha (pa_cons ha2 pa_nil (star_of h2)) (star_of h1)) (star_of h1) (by rw [star_of h2]; rfl)) (blkOk_by ok) (tgt2_of c.nd c.c hi hj hx hy) (fun s H C cl fp => ht s H C cl fp (c.blk s H scope C cl fp)) (fun s H C cl fp => he s H C cl fp (c.blk s H scope C cl fp))) fun D σ H h => lcZip_imp hij σ H _ h
theorem x_dcompS (c : CtE S X W nm cf k) {kx vx iter : Expr} {ka va : E} (ha : PE X iter (tE S.T nm X.K cf W a))
    (ht : ∀ (s : Shared) (H : Hp) (C : Addr) (cl : List (Str × Addr)) (fp : List Addr), CtE S (X.blk s H scope (compEnvC scope cl C X.env) fp) WN nm cf k → PTs (X.blk s H scope (compEnvC scope cl C X.env) fp) ifs (tT S.T nm X.K cf WN t))
    (hkx : ∀ (s : Shared) (H : Hp) (C : Addr) (cl : List (Str × Addr)) (fp : List Addr), CtE S (X.blk s H scope (compEnvC scope cl C X.env) fp) WN nm cf k → PE (X.blk s H scope (compEnvC scope cl C X.env) fp) kx (tE S.T nm X.K cf WN ka))
    (hvx : ∀ (s : Shared) (H : Hp) (C : Addr) (cl : List (Str × Addr)) (fp : List Addr), CtE S (X.blk s H scope (compEnvC scope cl C X.env) fp) WN nm cf k → PE (X.blk s H scope (compEnvC scope cl C X.env) fp) vx (tE S.T nm X.K cf WN va))
    (hi : X.N[i]? = some x := by rfl) (ok : blkC X.N X.env.scope scope [(x, i)] = true := by rfl) (hx : okTgt X.env.scope scope x = true := by rfl) (hs : noSet iter = true := by rfl) :
    PE X (.DictComp kx vx [⟨.Name x px, iter, ifs, 0⟩] scope pos) (tE S.T nm X.K cf W (.dcomp [i] ka va (.seq a) t)) :=
  se_dcompSeq c.c c.nd ha (blkOk_by ok) (tgt_of c.nd hi hx) (fun s H C cl fp => ht s H C cl fp (c.blk s H scope C cl fp)) (fun s H C cl fp => hkx s H C cl fp (c.blk s H scope C cl fp)) (fun s H C cl fp => hvx s H C cl fp (c.blk s H scope C cl fp)) fun y => by
    cases iter <;> first | rfl | cases hs
theorem asg_sto {st_ : Stmt} {n : Nat} {b : E} (h : PS X st_ (tAsg (tE S.T nm X.K cf W b) (gName n))) : PS X st_ (tAsg (tE S.T nm X.K cf W (.sto b)) (gName n)) :=
  PS.imp h fun D σ H ⟨g, ρ, st, m, o⟩ => ⟨g, ρ, st, m, by
    have o1 := Out.bind0 (r := evE S.T cf b ρ st) o
    refine Out.imp o1 fun d st1 g1 H1 l1 m1 q v r => ?_
    cases d with
    | own ds =>
      obtain ⟨p, vs, ev, h1, h2, h3⟩ := r
      subst ev
      obtain ⟨m2, lm⟩ := m1.storedO h1 (ob := .lst ds) ⟨vs, rfl, h3⟩
      have l2 : Le g (put g1 p (.sto st1.length)) := fun a t e => by
        rw [put_ne (fun z => by rw [z, h2] at e; cases e)]
        exact l1 a t e
      exact q _ H1 l2 m2 _ (.ref put_same)
    | _ => exact q.elim⟩
theorem x_comp2S (c : CtE S X W nm cf k) {iter iter1 : Expr} {a1 : E} (ha : PE X iter (tE S.T nm X.K cf W a))
    (ha1 : ∀ (s : Shared) (H : Hp) (C : Addr) (cl : List (Str × Addr)) (fp : List Addr), CtE S (X.blk s H scope (compEnvC scope cl C X.env) fp) WN nm cf k → PE (X.blk s H scope (compEnvC scope cl C X.env) fp) iter1 (tE S.T nm X.K cf WN a1))
    (ht : ∀ (s : Shared) (H : Hp) (C : Addr) (cl : List (Str × Addr)) (fp : List Addr), CtE S (X.blk s H scope (compEnvC scope cl C X.env) fp) WN nm cf k → PTs (X.blk s H scope (compEnvC scope cl C X.env) fp) ifs (tT S.T nm X.K cf WN t))
    (he : ∀ (s : Shared) (H : Hp) (C : Addr) (cl : List (Str × Addr)) (fp : List Addr), CtE S (X.blk s H scope (compEnvC scope cl C X.env) fp) WN nm cf k → PE (X.blk s H scope (compEnvC scope cl C X.env) fp) elt (tE S.T nm X.K cf WN e))
    (hi : X.N[i]? = some x := by rfl) (hj : X.N[j]? = some y := by rfl) (ok : blkC X.N X.env.scope scope [(x, i), (y, j)] = true := by rfl) (hx : okTgt X.env.scope scope x = true := by rfl) (hy : okTgt X.env.scope scope y = true := by rfl) (hij : i ≠ j := by decide) (hs : noSet iter = true := by rfl) (hs1 : noSet iter1 = true := by rfl) :
    PE X (.ListComp elt [⟨.Name x px, iter, [], 0⟩, ⟨.Name y py, iter1, ifs, 0⟩] scope pos) (tE S.T nm X.K cf W (.comp2 [i] (.seq a) [j] (.seq a1) e t)) :=
  se_comp2 c.c c.nd ha (blkOk_by ok) hij (inner_seq (iter := iter1)) (tgt_of c.nd hi hx) (fun s H C cl fp => pi_seq (ha1 s H C cl fp (c.blk s H scope C cl fp))) (tgt_of c.nd hj hy) (fun s H C cl fp => ht s H C cl fp (c.blk s H scope C cl fp)) (fun s H C cl fp => he s H C cl fp (c.blk s H scope C cl fp)) (fun y => by cases iter <;> first | rfl | cases hs) (fun _ y => by cases iter1 <;> first | rfl | cases hs1)
theorem a_comp2S (c : Ct S X W nm cf k) {iter iter1 : Expr} {a1 : E} {n : Nat} {z : Str} {pz spos : Pos} (ha : PE X iter (tE S.T nm X.K cf W a))
    (ha1 : ∀ (s : Shared) (H : Hp) (C : Addr) (cl : List (Str × Addr)) (fp : List Addr), CtE S (X.blk s H scope (compEnvC scope cl C X.env) fp) WN nm cf k → PE (X.blk s H scope (compEnvC scope cl C X.env) fp) iter1 (tE S.T nm X.K cf WN a1))
    (ht : ∀ (s : Shared) (H : Hp) (C : Addr) (cl : List (Str × Addr)) (fp : List Addr), CtE S (X.blk s H scope (compEnvC scope cl C X.env) fp) WN nm cf k → PTs (X.blk s H scope (compEnvC scope cl C X.env) fp) ifs (tT S.T nm X.K cf WN t))
    (he : ∀ (s : Shared) (H : Hp) (C : Addr) (cl : List (Str × Addr)) (fp : List Addr), CtE S (X.blk s H scope (compEnvC scope cl C X.env) fp) WN nm cf k → PE (X.blk s H scope (compEnvC scope cl C X.env) fp) elt (tE S.T nm X.K cf WN e))
    (hi : X.N[i]? = some x := by rfl) (hj : X.N[j]? = some y := by rfl) (ok : blkC X.N X.env.scope scope [(x, i), (y, j)] = true := by rfl) (hx : okTgt X.env.scope scope x = true := by rfl) (hy : okTgt X.env.scope scope y = true := by rfl) (hij : i ≠ j := by decide) (hs : noSet iter = true := by rfl) (hs1 : noSet iter1 = true := by rfl)
    (hz : X.N[n]? = some z := by rfl) (hzl : okLoc X.env.scope z = true := by rfl) (hk : X.env.scope.kind = .function := by rfl) (hl : (pz.line == pos.line) = true := by rfl) (hn : (scope.names.any fun (n, k) => n == z && (k == .local || k == .cell)) = false := by rfl) :
    PS X (.Assign [.Name z pz] (.ListComp elt [⟨.Name x px, iter, [], 0⟩, ⟨.Name y py, iter1, ifs, 0⟩] scope pos) spos) (tAsg (tE S.T nm X.K cf W (.comp2 [i] (.seq a) [j] (.seq a1) e t)) (gName n)) :=
  asg_comp2 c.c c.nd hz (okLoc_vis hzl).2.2.1 (sw_true hk (okLoc_vis hzl).2.2.1 hl hn) ha (blkOk_by ok) hij (inner_seq (iter := iter1)) (tgt_of c.nd hi hx) (fun s H C cl fp => pi_seq (ha1 s H C cl fp (c.blk s H scope C cl fp))) (tgt_of c.nd hj hy) (fun s H C cl fp => ht s H C cl fp (c.blk s H scope C cl fp)) (fun s H C cl fp => he s H C cl fp (c.blk s H scope C cl fp)) (fun y => by cases iter <;> first | rfl | cases hs) (fun _ y => by cases iter1 <;> first | rfl | cases hs1)
end
end
end Snd
set_option Elab.async false
set_option linter.all false
set_option maxRecDepth 100000
/-! SndY: a try with several clauses, named or not. -/
namespace Snd
open PySem PySem.Spec PyProof.Rows L2 Ev
def endO (o : Option Nat) (D : Ends) : Ends := match o with
  | none => D
  | some i => { nx := fun σ' H' => D.nx (σ'.set i none) H', rt := D.rt, bk := fun σ' H' => D.bk (σ'.set i none) H', ct := fun σ' H' => D.ct (σ'.set i none) H' }
def setA (o : Option Nat) (σ : L2.St) (a : Addr) : L2.St := match o with
  | none => σ
  | some i => σ.set i (some (.ref a))
abbrev Cl : Type := Value × Option Nat × (Addr → Value → Option Addr → TS)
/-- what the clauses wish of an error of the body, one after the other -/
def wN (K : PySem.W.Frag) (W : WX) (D : Ends) : List Cl → WX
  | [] => W
  | (c, o, ts) :: r => fun cls d σ H => ∃ b, PySem.W.exmOne K cls c = some b ∧ (b = true → ∀ a, H a = none → ts a cls d (endO o D) (setA o σ a) H) ∧ (b = false → wN K W D r cls d σ H)
inductive HdsN (X : Cx) : List ExceptHandler → List Cl → Prop
  | nil : HdsN X [] []
  | only {x : Str} {c : Value} {ts : Addr → Value → Option Addr → TS} {b₀ : Stmt} {suite : List Stmt} {np pos' : Pos} {hds : List ExceptHandler} {l : List Cl} (hc : Names X x c)
      (hsu : ∀ (a : Addr) (oe : Obj) (cls : Value) (d : Option Addr) (pn : List (Addr × Obj)), Zc cls d oe → (∃ vs, oe.data = .fields vs) → PSs (X.suite a ((a, oe) :: pn)) (b₀ :: suite) (ts a cls d)) (r : HdsN X hds l) :
      HdsN X (.ExceptHandler (some (.Name x np)) none (b₀ :: suite) pos' :: hds) ((c, none, ts) :: l)
  | as_ {x n : Str} {i : Nat} {c : Value} {ts : Addr → Value → Option Addr → TS} {b₀ : Stmt} {suite : List Stmt} {np pos' : Pos} {hds : List ExceptHandler} {l : List Cl} (hc : Names X x c) (hN : X.N.Nodup) (hi : X.N[i]? = some n) (hln : X.env.kindOf n = some .local)
      (hsu : ∀ (a : Addr) (oe : Obj) (cls : Value) (d : Option Addr) (pn : List (Addr × Obj)), Zc cls d oe → (∃ vs, oe.data = .fields vs) → PSs (X.suite a ((a, oe) :: pn)) (b₀ :: suite) (ts a cls d)) (r : HdsN X hds l) :
      HdsN X (.ExceptHandler (some (.Name x np)) (some n) (b₀ :: suite) pos' :: hds) ((c, some i, ts) :: l)
section
variable {X : Cx} {body : List Stmt} {h₀ : ExceptHandler} {hds : List ExceptHandler} {l : List Cl} {pos : Pos} {tb : WX → TS} {Wout : WX}
theorem ps_tryN (hs : X.stack = X.env :: X.outer) (hf : X.env.frame = some X.env.locals) (tk : Takes X Wout)
    (hb : ∀ (W : WX) (pn : List (Addr × Obj)) (xe : Value → Shared → Prop), Takes (X.tr pn xe) W → PassesOwn (model X.prog X.w) X.A X.env xe → PSs (X.tr pn xe) body (tb W))
    (hh : HdsN X (h₀ :: hds) l) : PS X (.Try body (h₀ :: hds) [] [] pos) (fun D σ H => tb (wN X.K Wout D l) D σ H) := by
  refine ⟨fun pins s σ H D I h => ?_⟩
  have ok := I.ok
  have hfr : X.A.frames = some (X.env :: X.outer) := by rw [ok.frames, hs]
  refine wpAny_Try_except ?_
  refine wpAny_mono ((hb (wN X.K Wout D l) (X.pn ++ pins) (fun e s₁ => wpAny (model X.prog X.w) X.A (noteFrame e X.env) (fun _ s₂ => wpAny (model X.prog X.w) X.A (setFlight e none) (fun _ s₃ =>
    wpAny (model X.prog X.w) X.A (handleBy e X.env (h₀ :: hds)) (L2.SP X pins D) X.xe s₃) X.xe s₂) X.xe s₁) (fun u s' xx => ?_) PassesOwn.looking).run [] s σ H D (I.toTry _) h) (fun f s1 hsp => ?_) (fun e s1 he => he)
  · obtain ⟨a, B, sI, pins', σ', H', cls, d, rfl, J', nb, up, sky, na, os, ag, w⟩ := xx
    have J : Inv X pins σ' H' sI := J'.ofTry ok
    have sky' : Sky B (X.env :: X.outer) a (Zc cls d) X.env.locals s'.heap := by rw [← hs]; exact sky
    show wpAny (model X.prog X.w) X.A (noteFrame (.ref a) X.env) _ _ _
    refine Sky.land Zc.steady hfr hf sky' fun h3 fl3 up3 => ?_
    have J3 : Inv X pins σ' H' { s' with heap := h3 } := J.landed nb fl3.1 (up.trans up3) os ag
    obtain ⟨oe3, vs3, he3, hz3, hd3⟩ := fl3.there
    have nfr : a ∉ frs (X.env :: X.outer) := fun hm => by
      obtain ⟨_, o', e', hnf⟩ := fl3.2.2.1.mem hm
      rw [he3] at e'
      cases e'
      exact hnf _ hd3
    have nL : a ≠ X.env.locals := fun z => nfr (List.mem_filterMap.mpr ⟨X.env, List.mem_cons_self, by rw [hf, z]⟩)
    have nF : a ∉ X.fs := fun hm => by
      obtain ⟨e, he, q⟩ := List.mem_filterMap.mp hm
      exact nfr (List.mem_filterMap.mpr ⟨e, List.mem_cons_of_mem _ he, q⟩)
    have S3 := J3.suite he3 hd3 na nL nF
    have test : ∀ {x : Str} {np : Pos} {c : Value} (hc : Names X x c) {Q : Value → Shared → Prop} {E : Value → Shared → Prop}, Q c { s' with heap := h3 } → wpAny (model X.prog X.w) (X.A.mark (some (.ref a))) (eval (.Name x np) X.env) Q E { s' with heap := h3 } := fun {x np c} hc {Q E} q => by
      obtain ⟨hg, hdbg, hm | ⟨hm, hv, hnn⟩⟩ := hc
      · exact ld_glob (X := X.suite a ((a, oe3) :: (X.pn ++ pins))) S3 hg hm q hdbg
      · exact ld_blt (X := X.suite a ((a, oe3) :: (X.pn ++ pins))) S3 hg hm hv q hnn hdbg
    have LT : PySem.W.Looks (model X.prog X.w) h3 (typeOf (.ref a)) cls := fun A Q E s k q => wpAny_typeOf_ref (k _ _ he3) (by rw [hz3.1]; exact q)
    have go : ∀ {hds' : List ExceptHandler} {l' : List Cl}, HdsN X hds' l' → wN X.K Wout D l' cls d σ' H' →
        wpAny (model X.prog X.w) X.A (handleBy (.ref a) X.env hds') (L2.SP X pins D) X.xe { s' with heap := h3 } := by
      intro hds' l' hk
      induction hk with
      | nil =>
        intro w
        refine wpAny_handleBy_nil ?_
        obtain ⟨k1, k2, k3, oe, vs, T, oT, ts', he, hz, hd, h1, hr⟩ := id fl3
        unfold PySem.passOn
        refine wpAny_bind (wpAny_field he hd h1 ?_)
        rw [if_neg (show ¬ ((Value.ref T == Value.none) = true) from by simp)]
        have fin : wpAny (model X.prog X.w) X.A (setFlight (.ref a) X.env.frame) (fun _ s4 => wpAny (model X.prog X.w) X.A (throw (.ref a) : Sem Flow) (L2.SP X pins D) X.xe s4) X.xe { s' with heap := h3 } := by
          rw [hf]
          refine HandSPX.setFlight_upZ fl3 fun h4 hh4 up4 => wpAny_throw (tk _ _ ?_)
          exact ⟨a, B, sI, pins, σ', H', cls, d, rfl, J, nb, (up.trans up3).trans up4, .inr (.inr (by rw [hs]; exact hh4)), na, os, ag, w⟩
        first
          | exact wpAny_bind (wpAny_pure (wpAny_bind fin))
          | exact wpAny_bind fin
      | @only x c ts b₀ suite np pos' hds2 l2 hc hsu r ih =>
        intro w
        obtain ⟨b, hb1, hyes, hno⟩ := w
        refine wpAny_handleBy_cons (codeAny_handlers_test ?_) (by intro q; cases q)
        have LM := PySem.W.exm_one (M := model X.prog X.w) (J3.kIn) LT hb1
        refine test hc (LM.here ?_)
        cases b with
        | true =>
          refine codeAny_handlers_suite ?_
          refine HandSPX.lands_againZ fl3 fun h4 fl4 up4 => ?_
          have J4 : Inv X pins σ' H' { s' with heap := h4 } := J.landed nb fl4.1 ((up.trans up3).trans up4) os ag
          obtain ⟨oe4, vs4, he4, hz4, hd4⟩ := fl4.there
          have S4 := J4.suite he4 hd4 na nL nF
          refine wpAny_mono ((hsu a oe4 cls d (X.pn ++ pins) hz4 ⟨_, hd4⟩).run [] _ _ H' _ S4 (hyes rfl a na)) (fun f s6 hsp => ?_) (fun _ _ z => False.elim z)
          cases f with
          | next =>
            obtain ⟨σ6, H6, S6, q6⟩ := hsp
            exact ⟨_, _, S6.unsuite ok, q6⟩
          | brk =>
            obtain ⟨σ6, H6, S6, q6⟩ := hsp
            exact ⟨_, _, S6.unsuite ok, q6⟩
          | cont =>
            obtain ⟨σ6, H6, S6, q6⟩ := hsp
            exact ⟨_, _, S6.unsuite ok, q6⟩
          | ret u =>
            obtain ⟨v6, σ6, H6, S6, r6, q6⟩ := hsp
            exact ⟨_, _, _, S6.unsuite ok, r6, q6⟩
        | false =>
          show wpAny _ X.A (handleBy (.ref a) X.env hds2) _ _ _
          exact ih (hno rfl)
      | @as_ x n i c ts b₀ suite np pos' hds2 l2 hc hN hi hln hsu r ih =>
        intro w
        obtain ⟨b, hb1, hyes, hno⟩ := w
        refine wpAny_handleBy_cons (codeAny_handlers_test ?_) (by intro q; cases q)
        have LM := PySem.W.exm_one (M := model X.prog X.w) (J3.kIn) LT hb1
        refine test hc (LM.here ?_)
        cases b with
        | true =>
          refine codeAny_handlers_suite_as ?_
          refine HandSPX.lands_againZ fl3 fun h4 fl4 up4 => ?_
          have J4 : Inv X pins σ' H' { s' with heap := h4 } := J.landed nb fl4.1 ((up.trans up3).trans up4) os ag
          obtain ⟨oe4, vs4, he4, hz4, hd4⟩ := fl4.there
          have S4 := J4.suite he4 hd4 na nL nF
          refine store_ok (X := X.suite a ((a, oe4) :: (X.pn ++ pins))) (v := .ref a) S4 hN hi (.inl hln) rfl (fun s5 S5 => ?_) (.inr hln)
          refine wpAny_mono ((hsu a oe4 cls d (X.pn ++ pins) hz4 ⟨_, hd4⟩).run [] s5 _ H' _ S5 (hyes rfl a na)) (fun f s6 hsp => ?_) (fun _ _ z => False.elim z)
          have end_ : ∀ {σ6 : L2.St} {H6 : Hp} {Q : Shared → Prop}, Inv (X.suite a ((a, oe4) :: (X.pn ++ pins))) [] σ6 H6 s6 → (∀ s7, Inv X pins (σ6.set i none) H6 s7 → Q s7) →
              wpAny (model X.prog X.w) X.A (do bindName X.env n .none; unbindBehindTheSuite X.env n pos') (fun _ s7 => Q s7) X.xe s6 := fun {σ6 H6 Q} S6 hq => gone_ok (S6.unsuite ok) hN hi hln hq
          cases f with
          | next =>
            obtain ⟨σ6, H6, S6, q6⟩ := hsp
            exact end_ S6 fun s7 J7 => ⟨_, _, J7, q6⟩
          | brk =>
            obtain ⟨σ6, H6, S6, q6⟩ := hsp
            exact end_ S6 fun s7 J7 => ⟨_, _, J7, q6⟩
          | cont =>
            obtain ⟨σ6, H6, S6, q6⟩ := hsp
            exact end_ S6 fun s7 J7 => ⟨_, _, J7, q6⟩
          | ret u =>
            obtain ⟨v6, σ6, H6, S6, r6, q6⟩ := hsp
            exact end_ S6 fun s7 J7 => ⟨_, _, _, J7, r6, q6⟩
        | false =>
          show wpAny _ X.A (handleBy (.ref a) X.env hds2) _ _ _
          exact ih (hno rfl)
    exact go hh w
  · cases f with
    | next =>
      obtain ⟨σ', H', J', q⟩ := hsp
      exact wpAny_execs_nil ⟨σ', H', J'.ofTry ok, q⟩
    | brk =>
      obtain ⟨σ', H', J', q⟩ := hsp
      exact ⟨σ', H', J'.ofTry ok, q⟩
    | cont =>
      obtain ⟨σ', H', J', q⟩ := hsp
      exact ⟨σ', H', J'.ofTry ok, q⟩
    | ret u =>
      obtain ⟨v, σ', H', J', r, q⟩ := hsp
      exact ⟨v, σ', H', J'.ofTry ok, r, q⟩
end
section
variable {X : Cx} {T : Tab} {nm : Nm} {W : WX} {cf : Nat → List D → Sto → R D} {pos : Pos} {k : Nat}
/-- the clauses and their text in small -/
inductive ClE (X : Cx) (T : Tab) (nm : Nm) (cf : Nat → List D → Sto → R D) : List ExceptHandler → Ev.S → Prop
  | nil : ClE X T nm cf [] .skip
  | only {c : Nat} {x : Str} {np pos' : Pos} {b₀ : Stmt} {suite : List Stmt} {hds : List ExceptHandler} {h r : Ev.S} (hg : Gl X x) (hdb : (x == ("__debug__" : Str)) = false) (hm : X.mg x = some (.ref (cad nm X.K c))) (hE : ErI (co X) T nm c)
      (hsu : ∀ (a : Addr) (oe : Obj) (cls : Value) (d : Option Addr) (pn : List (Addr × Obj)), Zc cls d oe → (∃ vs, oe.data = .fields vs) → PSs (X.suite a ((a, oe) :: pn)) (b₀ :: suite) (tS T (nmX nm a cls d) X.K cf WF h)) (hr : ClE X T nm cf hds r) :
      ClE X T nm cf (.ExceptHandler (some (.Name x np)) none (b₀ :: suite) pos' :: hds) (.hnd c none h r)
  | as_ {c i : Nat} {x n : Str} {np pos' : Pos} {b₀ : Stmt} {suite : List Stmt} {hds : List ExceptHandler} {h r : Ev.S} (hN : X.N.Nodup) (hi : X.N[i]? = some n) (hln : X.env.kindOf n = some .local) (hg : Gl X x) (hdb : (x == ("__debug__" : Str)) = false) (hm : X.mg x = some (.ref (cad nm X.K c))) (hE : ErI (co X) T nm c)
      (hsu : ∀ (a : Addr) (oe : Obj) (cls : Value) (d : Option Addr) (pn : List (Addr × Obj)), Zc cls d oe → (∃ vs, oe.data = .fields vs) → PSs (X.suite a ((a, oe) :: pn)) (b₀ :: suite) (tS T (nmX nm a cls d) X.K cf WF h)) (hr : ClE X T nm cf hds r) :
      ClE X T nm cf (.ExceptHandler (some (.Name x np)) (some n) (b₀ :: suite) pos' :: hds) (.hnd c (some i) h r)
theorem clE_go (hex : nm.ex = none) {hds : List ExceptHandler} {s : Ev.S} (hh : ClE X T nm cf hds s) : ∃ l, HdsN X hds l ∧ ∀ {gb : Gh} {D : Ends} {xx : Xn} {ρ1 : Rho} {st1 : Sto}, NoSlot gb → OutS T nm X.K W gb D (exS.hdS T cf xx s ρ1 st1) → OutS T nm X.K (wN X.K W D l) gb D (.er xx ρ1 st1) := by
  induction hh with
  | nil => exact ⟨[], .nil, fun _ o => o⟩
  | @only c x np pos' b₀ suite hds h r hg hdb hm hE hsu hr ih =>
    obtain ⟨l, hl, q⟩ := ih
    refine ⟨(.ref (cad nm X.K c), none, fun a cls d => tS T (nmX nm a cls d) X.K cf WF h) :: l, .only ⟨hg, hdb, .inl hm⟩ hsu hl, fun {gb D xx ρ1 st1} hgb o => ?_⟩
    have o2 : OutS T nm X.K W gb D (if isErr T xx.c then (if under T xx.c c then (exS T cf h ρ1 st1).unset none else exS.hdS T cf xx r ρ1 st1) else .no) := o
    cases e1 : isErr T xx.c with
    | false =>
      rw [e1] at o2
      exact o2.elim
    | true =>
      rw [e1] at o2
      have o3 : OutS T nm X.K W gb D (if under T xx.c c then (exS T cf h ρ1 st1).unset none else exS.hdS T cf xx r ρ1 st1) := o2
      intro g1 cv dd σ1 H1 l1 m1 xr
      refine ⟨under T xx.c c, by rw [xr.1]; exact hE xx.c e1, fun e2 a na => ?_, fun e2 => ?_⟩
      · rw [e2] at o3
        have o4 : OutS T nm X.K W gb D ((exS T cf h ρ1 st1).unset none) := o3
        have sx := sameX nm a cv dd
        exact ⟨gb, g1, _, st1, m1.cast sx rfl (m1.noExc hex), l1, hgb, out_suite0 sx rfl o4⟩
      · rw [e2] at o3
        exact q hgb o3 g1 cv dd σ1 H1 l1 m1 xr
  | @as_ c i x n np pos' b₀ suite hds h r hN hi hln hg hdb hm hE hsu hr ih =>
    obtain ⟨l, hl, q⟩ := ih
    refine ⟨(.ref (cad nm X.K c), some i, fun a cls d => tS T (nmX nm a cls d) X.K cf WF h) :: l, .as_ ⟨hg, hdb, .inl hm⟩ hN hi hln hsu hl, fun {gb D xx ρ1 st1} hgb o => ?_⟩
    have o2 : OutS T nm X.K W gb D (if isErr T xx.c then (if under T xx.c c then (exS T cf h (ρ1.set i (some (.exc xx.c xx.ds))) st1).unset (some i) else exS.hdS T cf xx r ρ1 st1) else .no) := o
    cases e1 : isErr T xx.c with
    | false =>
      rw [e1] at o2
      exact o2.elim
    | true =>
      rw [e1] at o2
      have o3 : OutS T nm X.K W gb D (if under T xx.c c then (exS T cf h (ρ1.set i (some (.exc xx.c xx.ds))) st1).unset (some i) else exS.hdS T cf xx r ρ1 st1) := o2
      intro g1 cv dd σ1 H1 l1 m1 xr
      refine ⟨under T xx.c c, by rw [xr.1]; exact hE xx.c e1, fun e2 a na => ?_, fun e2 => ?_⟩
      · rw [e2] at o3
        have o4 : OutS T nm X.K W gb D ((exS T cf h (ρ1.set i (some (.exc xx.c xx.ds))) st1).unset (some i)) := o3
        have sx := sameX nm a cv dd
        have m2 : Mt T (nmX nm a cv dd) X.K g1 ρ1 st1 σ1 H1 := m1.cast sx rfl (m1.noExc hex)
        have m3 : Mt T (nmX nm a cv dd) X.K g1 (ρ1.set i (some (.exc xx.c xx.ds))) st1 (σ1.set i (some (.ref a))) H1 := m2.set (d := .exc xx.c xx.ds) ⟨a, cv, dd, rfl, rfl, xr.cast sx⟩
        exact ⟨gb, g1, _, st1, m3, l1, hgb, out_suite sx rfl o4⟩
      · rw [e2] at o3
        exact q hgb o3 g1 cv dd σ1 H1 l1 m1 xr
theorem ss_tryN {body : List Stmt} {h₀ : ExceptHandler} {hds : List ExceptHandler} {b s : Ev.S} (hs : X.stack = X.env :: X.outer) (hf : X.env.frame = some X.env.locals) (tk : Takes X W) (hex : nm.ex = none)
    (hb : ∀ (W : WX) (pn : List (Addr × Obj)) (xe : Value → Shared → Prop), Takes (X.tr pn xe) W → PassesOwn (model X.prog X.w) X.A X.env xe → PSs (X.tr pn xe) body (tS T nm X.K cf W b))
    (hh : ClE X T nm cf (h₀ :: hds) s) : PS X (.Try body (h₀ :: hds) [] [] pos) (tS T nm X.K cf W (.try_ b s)) := by
  obtain ⟨l, hl, q⟩ := clE_go (W := W) hex hh
  refine PS.imp (ps_tryN hs hf tk (tb := fun W => tS T nm X.K cf W b) (fun W pn xe t po => hb W pn xe t po) hl) fun D σ H ⟨gb, g, ρ, st, m, l, n, o⟩ => ⟨gb, g, ρ, st, m, l, n, ?_⟩
  have o' : OutS T nm X.K W gb D (match exS T cf b ρ st with
    | .er x ρ st => exS.hdS T cf x s ρ st
    | r => r) := o
  cases e : exS T cf b ρ st with
  | er xx ρ1 st1 => rw [e] at o'; exact q n o'
  | nx ρ1 st1 => rw [e] at o'; exact o'
  | rt d st1 => rw [e] at o'; exact o'
  | bk ρ1 st1 => rw [e] at o'; exact o'
  | ct ρ1 st1 => rw [e] at o'; exact o'
  | no => rw [e] at o'; exact o'
end
section
variable {X : Cx} {T : Tab} {nm : Nm} {W : WX} {cf : Nat → List D → Sto → R D} {pos : Pos} {k : Nat}
/-! ### for x in a list, also one of the store -/
theorem turn_outG {gb' : Gh} {D : Ends} {kx : Rho → Sto → F} {b : Ev.S} {ρ1 : Rho} {st1 : Sto} {N : L2.St → Hp → Prop} {g2 : Gh} {σ2 : L2.St} {H2 : Hp} (m : Mt T nm X.K g2 ρ1 st1 σ2 H2) (l : Le gb' g2) (n : NoSlot gb')
    (hN : ∀ g' ρ' st' σ' H', Le gb' g' → Mt T nm X.K g' ρ' st' σ' H' → OutS T nm X.K W gb' D (kx ρ' st') → N σ' H')
    (o : OutS T nm X.K W gb' D (match exS T cf b ρ1 st1 with
      | .nx ρ st => kx ρ st
      | .ct ρ st => kx ρ st
      | .bk ρ st => .nx ρ st
      | r => r)) : tS T nm X.K cf W b { D with nx := N, ct := N, bk := D.nx } σ2 H2 := by
  refine ⟨gb', g2, ρ1, st1, m, l, n, ?_⟩
  cases q : exS T cf b ρ1 st1 with
  | nx ρ st =>
    rw [q] at o
    exact fun g' σ' H' l' m' => hN g' ρ st σ' H' l' m' o
  | ct ρ st =>
    rw [q] at o
    exact fun g' σ' H' l' m' => hN g' ρ st σ' H' l' m' o
  | bk ρ st =>
    rw [q] at o
    exact fun g' σ' H' l' m' => o g' σ' H' l' m'
  | rt d st =>
    rw [q] at o
    exact o
  | er x ρ st =>
    rw [q] at o
    exact o
  | no =>
    rw [q] at o
    exact o
theorem Reps.at_none : ∀ {g : Gh} {ds : List Ev.D} {vs : List V} {i : Nat}, Reps T nm X.K g ds vs → ds[i]? = none → vs.length ≤ i
  | _, ds, vs, i, r, e => by
    rw [← r.len]
    exact List.getElem?_eq_none_iff.mp e
theorem Reps.at3 : ∀ {g : Gh} {ds : List Ev.D} {vs : List V} {i : Nat} {d : Ev.D}, Reps T nm X.K g ds vs → ds[i]? = some d → ∃ v, vs[i]? = some v ∧ Rep T nm X.K g d v
  | _, _, _, _, _, .nil, e => by simp at e
  | _, _, _, 0, _, .cons r _, e => by simp at e; subst e; exact ⟨_, rfl, r⟩
  | _, _, _, i + 1, _, .cons _ t, e => by
    obtain ⟨d, h1, h2⟩ := Reps.at3 (i := i) t (by simpa using e)
    exact ⟨d, by simpa using h1, h2⟩
theorem forRef_W {D : Ends} {g1 : Gh} {i r n0 : Nat} {b : Ev.S} {p : Addr} {ρ : Rho} {st1 : Sto} {σ : L2.St} {H1 : Hp} (h1 : g1 p = some (.sto r)) (m1 : Mt T nm X.K g1 ρ st1 σ H1) (q : OutS T nm X.K W (strip g1) D (forRef (exS T cf b) i r 0 n0 ρ st1)) :
    ∃ Wv : Nat → Nat → L2.St → Hp → Prop, (∃ m, Wv 0 m σ H1) ∧ ∀ j m σ H, Wv j m σ H →
      ((Itl X.K p).stop j H ∧ D.nx σ H) ∨ ((Itl X.K p).go j H ∧ ∃ N : L2.St → Hp → Prop, (∀ σ' H', N σ' H' → ∃ m', m' < m ∧ Wv (j + 1) m' σ' H') ∧ ∀ x H', (Itl X.K p).yld j H x H' → gName i x σ H' fun σ2 H2 => tS T nm X.K cf W b { D with nx := N, ct := N, bk := D.nx } σ2 H2) := by
  refine ⟨fun j m σ' H' => ∃ g' ρ' st', Le (strip g1) g' ∧ Mt T nm X.K g' ρ' st' σ' H' ∧ OutS T nm X.K W (strip g1) D (forRef (exS T cf b) i r j m ρ' st'), ⟨n0, g1, ρ, st1, le_strip, m1, q⟩, ?_⟩
  rintro j m σ' H' ⟨g', ρ', st', l', m', o'⟩
  have gp : g' p = some (.sto r) := l' _ _ (strip_of h1 fun i y => nomatch y)
  cases m with
  | zero => exact o'.elim
  | succ m =>
    have o2 : OutS T nm X.K W (strip g1) D (match st'[r]? with
      | some (.lst ds) => (match ds[j]? with
        | none => .nx ρ' st'
        | some d => (match exS T cf b (ρ'.set i (some d)) st' with
          | .nx ρ st => forRef (exS T cf b) i r (j + 1) m ρ st
          | .ct ρ st => forRef (exS T cf b) i r (j + 1) m ρ st
          | .bk ρ st => .nx ρ st
          | r => r))
      | _ => .no) := o'
    cases e : st'[r]? with
    | none => rw [e] at o2; exact o2.elim
    | some ob =>
      rw [e] at o2
      obtain ⟨a, o, ga, ha, rr⟩ := m'.sto r _ e
      have z := m'.uniq _ _ _ ga gp
      subst z
      cases ob with
      | lst ds =>
        obtain ⟨vs, eo, rs⟩ := rr
        subst eo
        have sq : SqL X.K H' a vs := .of ha
        have o3 : OutS T nm X.K W (strip g1) D (match ds[j]? with
          | none => .nx ρ' st'
          | some d => (match exS T cf b (ρ'.set i (some d)) st' with
            | .nx ρ st => forRef (exS T cf b) i r (j + 1) m ρ st
            | .ct ρ st => forRef (exS T cf b) i r (j + 1) m ρ st
            | .bk ρ st => .nx ρ st
            | r => r)) := o2
        cases ej : ds[j]? with
        | none =>
          rw [ej] at o3
          exact .inl ⟨⟨vs, sq, rs.at_none ej⟩, o3 g' σ' H' l' m'⟩
        | some d =>
          rw [ej] at o3
          obtain ⟨v, ev, rv⟩ := rs.at3 ej
          refine .inr ⟨⟨vs, v, sq, ev⟩, fun σ' H' => ∃ g' ρ' st', Le (strip g1) g' ∧ Mt T nm X.K g' ρ' st' σ' H' ∧ OutS T nm X.K W (strip g1) D (forRef (exS T cf b) i r (j + 1) m ρ' st'), fun σ' H' z => ⟨m, Nat.lt_succ_self m, z⟩, fun x H'' y => ?_⟩
          obtain ⟨eH, y⟩ := y
          subst eH
          have ex := y vs sq
          rw [ev] at ex
          cases ex
          have m2 := m'.set (i := i) (SlR.rep (H := _) rv)
          exact turn_outG (kx := fun ρ st => forRef (exS T cf b) i r (j + 1) m ρ st) m2 l' noSlot_strip (fun g2 ρ2 st2 σ2 H2 l2 m2 o2 => ⟨g2, ρ2, st2, l2, m2, o2⟩) o3
      | _ => exact o2.elim
theorem ss_forS {e : Expr} {a : E} {i : Nat} {x : Str} {p : Pos} {body : List Stmt} {b : Ev.S} (hp : PassesOwn (model X.prog X.w) X.A X.env X.xe) (hc : X.calm = true) (he : PE X e (tE T nm X.K cf W a)) (hN : X.N.Nodup) (hi : X.N[i]? = some x) (hx : Loc X.env.scope x) (hf : X.fn x = true ∨ X.env.scope.names.lookup x = some .local)
    (hb : PSs X body (tS T nm X.K cf W b)) (hs : ∀ y, foldedSetIterable e X.env y = pure y) : PS X (.For (.Name x p) e body [] pos) (tS T nm X.K cf W (.forS i a b)) := by
  refine PS.imp (ps_for hp hc (pi_seq he) (pg_name hN hi hx hf) hb hs) fun D σ H ⟨gb, g, ρ, st, m, l, n, o⟩ => ⟨g, ρ, st, m, ?_⟩
  have o1 : OutS T nm X.K W gb D ((evE T cf a ρ st).f ρ fun d st => (match refOf d with
    | some r => (match st[r]? with
      | some (.lst ds) => forRef (exS T cf b) i r 0 (ds.length + 1) ρ st
      | _ => .no)
    | none => (match seqOf d with
      | some ds => forL (exS T cf b) [i] (ds.map fun x => [x]) ρ st
      | none => .no))) := o
  refine Out.imp (OutS.go o1 l) fun d st1 g1 H1 l1 m1 q v r => ?_
  have lg : Le gb g1 := l.trans l1
  by_cases hr : ∃ rr, refOf d = some rr
  · obtain ⟨rr, hr⟩ := hr
    cases d with
    | ref rr' =>
      have rw_ : Rep T nm X.K g1 (.ref rr') v := r
      cases rw_ with
      | @ref p' _ gp =>
        have q1 : OutS T nm X.K W gb D (match st1[rr']? with
          | some (.lst ds) => forRef (exS T cf b) i rr' 0 (ds.length + 1) ρ st1
          | _ => .no) := q
        cases e : st1[rr']? with
        | none => rw [e] at q1; exact q1.elim
        | some ob =>
          rw [e] at q1
          obtain ⟨a', o', ga, ha, ro⟩ := m1.sto rr' _ e
          have z := m1.uniq _ _ _ ga gp
          subst z
          cases ob with
          | lst ds =>
            obtain ⟨vs, eo, rs⟩ := ro
            subst eo
            exact .inl ⟨a', rfl, ⟨vs, .of ha⟩, forRef_W gp m1 (OutS.base q1 (le_to_strip n lg))⟩
          | _ => exact q1.elim
    | _ => cases hr
  · have hn : refOf d = none := by
      cases h : refOf d with
      | none => rfl
      | some x => exact absurd ⟨x, h⟩ hr
    rw [hn] at q
    cases hd : seqOf d with
    | none =>
      simp only [hd] at q
      exact q.elim
    | some ds =>
      simp only [hd] at q
      have main : ∀ (vs : List V), Reps T nm X.K g1 ds vs → ∀ (Pv : Nat → L2.St → Hp → Prop), (Pv = fun j σ' H' => ∃ g' ρ' st', Le (strip g1) g' ∧ Mt T nm X.K g' ρ' st' σ' H' ∧ OutS T nm X.K W (strip g1) D (forL (exS T cf b) [i] ((ds.map fun x => [x]).drop j) ρ' st')) →
          Pv 0 σ H1 ∧ (∀ j y σ' H', vs[j]? = some y → Pv j σ' H' → gName i y σ' H' fun σ2 H2 => tS T nm X.K cf W b { D with nx := Pv (j + 1), ct := Pv (j + 1), bk := D.nx } σ2 H2) ∧ (∀ σ' H', Pv vs.length σ' H' → D.nx σ' H') := fun vs rs Pv eP => by
        subst eP
        refine ⟨⟨g1, ρ, st1, le_strip, m1, (q.base (le_to_strip n lg))⟩, fun j y σ' H' hy ⟨g', ρ', st', l', m', o'⟩ => ?_, fun σ' H' ⟨g', ρ', st', l', m', o'⟩ => ?_⟩
        · obtain ⟨dj, h1, rj⟩ := rs.at2 hy
          have hj : (ds.map fun x => [x])[j]? = some [dj] := by rw [List.getElem?_map, h1]; rfl
          rw [drop_at hj] at o'
          have rj' : Rep T nm X.K g' dj y := (rj.mono lim_strip).mono l'.lim
          have m2 := m'.set (i := i) (SlR.rep (H := H') rj')
          exact turn_out m2 l' noSlot_strip (fun g2 ρ2 st2 σ2 H2 l2 m2 o2 => ⟨g2, ρ2, st2, l2, m2, o2⟩) o'
        · rw [← rs.len, List.drop_eq_nil_of_le (by rw [List.length_map]; exact Nat.le_refl _)] at o'
          exact o' g' σ' H' l' m'
      cases d with
      | own es =>
        cases hd
        obtain ⟨p', vs, ev, h1, h2, rs⟩ := r
        obtain ⟨z1, z2, z3⟩ := main vs rs _ rfl
        refine .inl ⟨p', ev, ⟨vs, .of (m1.held _ _ h1)⟩, for_list _ z1 (fun j σ' H' _ ⟨g', ρ', st', l', m', _⟩ => .of (m'.held _ _ (l' _ _ (strip_of h1 fun i y => nomatch y)))) z2 z3⟩
      | lst es =>
        cases hd
        have r0 : Rep T nm X.K g1 (.lst ds) v := r
        cases r0 with
        | @lst p' _ vs h1 rs =>
          obtain ⟨z1, z2, z3⟩ := main vs rs _ rfl
          refine .inl ⟨p', rfl, ⟨vs, .of (m1.imm _ _ h1)⟩, for_list _ z1 (fun j σ' H' _ ⟨g', ρ', st', l', m', _⟩ => .of (m'.imm _ _ (l' _ _ (strip_of h1 fun i y => nomatch y)))) z2 z3⟩
      | tup es =>
        cases hd
        have r0 : Rep T nm X.K g1 (.tup ds) v := r
        cases r0 with
        | @tup p' _ vs h1 rs =>
          obtain ⟨z1, z2, z3⟩ := main vs rs _ rfl
          have st_ : ∀ {g' : Gh} {ρ' : Rho} {st' : Sto} {σ' : L2.St} {H' : Hp}, Le (strip g1) g' → Mt T nm X.K g' ρ' st' σ' H' → SqT X.K H' p' vs := fun l' m' => same_seqT (fun a o e => m'.imm a o (l' _ _ (strip_of (of_imH e) fun i y => nomatch y))) h1
          refine .inr ⟨p', rfl, ⟨vs, st_ le_strip m1⟩, for_tup _ z1 (fun j σ' H' _ ⟨g', ρ', st', l', m', _⟩ => st_ l' m') z2 z3⟩
      | _ => cases hd
end
section
variable {S : Src} {X : Cx} {nm : Nm} {W : WX} {cf : Nat → List D → Sto → R D} {pos : Pos} {k : Nat}
theorem y_forS (c : Ct S X W nm cf k) {e : Expr} {a : E} {i : Nat} {x : Str} {p : Pos} {body : List Stmt} {b : Ev.S} (he : PE X e (tE S.T nm X.K cf W a)) (hb : PSs X body (tS S.T nm X.K cf W b)) (hi : X.N[i]? = some x := by rfl) (hx : okSet X.env.scope x = true := by rfl) (hs : noSet e = true := by rfl) : PS X (.For (.Name x p) e body [] pos) (tS S.T nm X.K cf W (.forS i a b)) := by
  have h2 := okSet_of hx
  exact ss_forS c.po c.c he c.nd hi h2 (.inl (c.fn x)) hb (folded_of hs)
theorem y_clNil : ClE X S.T nm cf [] .skip := .nil
theorem y_clAs (c : Ct S X W nm cf k) {i j : Nat} {C : Ev.Cls} {x n : Str} {np pos' : Pos} {suite : List Stmt} {b₀ : Stmt} {h r : Ev.S} {hds : List ExceptHandler} (hC : S.clAt j = some C) (hj : j ∈ S.caught)
    (hsu : ∀ (a : Addr) (oe : Obj) (cls : Value) (d : Option Addr) (pn : List (Addr × Obj)), Cs S X nm cf k a oe cls d → PSs (X.suite a ((a, oe) :: pn)) (b₀ :: suite) (tS S.T (nmX nm a cls d) X.K cf WF h))
    (hr : ClE X S.T nm cf hds r)
    (hi : X.N[i]? = some n := by rfl) (hx : okLoc X.env.scope n = true := by rfl) (hn : x = nm.cls j := by rfl) (hg : okGlo X.env.scope x = true := by rfl) :
    ClE X S.T nm cf (.ExceptHandler (some (.Name x np)) (some n) (b₀ :: suite) pos' :: hds) (.hnd j (some i) h r) := by
  obtain ⟨h1, h2⟩ := okGlo_of hg
  subst hn
  exact .as_ c.nd hi (okLoc_vis hx).2.2.1 h1 h2 (c.f.mgc j C hC) (c.f.eri j hj) (fun a oe cls d pn z v => hsu a oe cls d pn ⟨c.f, c.nd, z, v⟩) hr
theorem y_clOnly (c : Ct S X W nm cf k) {j : Nat} {C : Ev.Cls} {x : Str} {np pos' : Pos} {suite : List Stmt} {b₀ : Stmt} {h r : Ev.S} {hds : List ExceptHandler} (hC : S.clAt j = some C) (hj : j ∈ S.caught)
    (hsu : ∀ (a : Addr) (oe : Obj) (cls : Value) (d : Option Addr) (pn : List (Addr × Obj)), Cs S X nm cf k a oe cls d → PSs (X.suite a ((a, oe) :: pn)) (b₀ :: suite) (tS S.T (nmX nm a cls d) X.K cf WF h))
    (hr : ClE X S.T nm cf hds r)
    (hn : x = nm.cls j := by rfl) (hg : okGlo X.env.scope x = true := by rfl) :
    ClE X S.T nm cf (.ExceptHandler (some (.Name x np)) none (b₀ :: suite) pos' :: hds) (.hnd j none h r) := by
  obtain ⟨h1, h2⟩ := okGlo_of hg
  subst hn
  exact .only h1 h2 (c.f.mgc j C hC) (c.f.eri j hj) (fun a oe cls d pn z v => hsu a oe cls d pn ⟨c.f, c.nd, z, v⟩) hr
theorem y_tryN (c : Ct S X W nm cf k) {body : List Stmt} {h₀ : ExceptHandler} {hds : List ExceptHandler} {b s : Ev.S}
    (hb : ∀ (W : WX) (pn : List (Addr × Obj)) (xe : Value → Shared → Prop), Ct S (X.tr pn xe) W nm cf k → PSs (X.tr pn xe) body (tS S.T nm X.K cf W b))
    (hh : ClE X S.T nm cf (h₀ :: hds) s) : PS X (.Try body (h₀ :: hds) [] [] pos) (tS S.T nm X.K cf W (.try_ b s)) :=
  ss_tryN c.hs c.hf c.t c.ex (fun W pn xe t po => hb W pn xe (c.tr t po)) hh
end
end Snd
set_option Elab.async false
set_option linter.all false
/-! EvS: the evaluator by simp (printed by mkEvS.py). -/
namespace Ev
section
variable {T : Tab} {cf : Nat → List D → Sto → R D} {ρ : Rho} {st : Sto}
@[simp] theorem bor_non {r : R D}  : bor (.non ) ρ st r = r := (rfl)
@[simp] theorem bor_bl {r : R D} {b} : bor (.bl b) ρ st r = r := (rfl)
@[simp] theorem bor_int {r : R D} {i} : bor (.int i) ρ st r = r := (rfl)
@[simp] theorem bor_str {r : R D} {s} : bor (.str s) ρ st r = r := (rfl)
@[simp] theorem bor_con {r : R D} {j} : bor (.con j) ρ st r = r := (rfl)
@[simp] theorem bor_neg {r : R D} {a} : bor (.neg a) ρ st r = r := (rfl)
@[simp] theorem bor_not {r : R D} {a} : bor (.not a) ρ st r = r := (rfl)
@[simp] theorem bor_bin {r : R D} {o a b} : bor (.bin o a b) ρ st r = r := (rfl)
@[simp] theorem bor_cmp {r : R D} {o a b} : bor (.cmp o a b) ρ st r = r := (rfl)
@[simp] theorem bor_chain {r : R D} {o p a b c} : bor (.chain o p a b c) ρ st r = r := (rfl)
@[simp] theorem bor_and {r : R D} {a b} : bor (.and a b) ρ st r = r := (rfl)
@[simp] theorem bor_or {r : R D} {a b} : bor (.or a b) ρ st r = r := (rfl)
@[simp] theorem bor_ite {r : R D} {t a b} : bor (.ite t a b) ρ st r = r := (rfl)
@[simp] theorem bor_call {r : R D} {f as} : bor (.call f as) ρ st r = r := (rfl)
@[simp] theorem bor_make {r : R D} {c as} : bor (.make c as) ρ st r = r := (rfl)
@[simp] theorem bor_meth {r : R D} {m a as} : bor (.meth m a as) ρ st r = r := (rfl)
@[simp] theorem bor_attr {r : R D} {a m} : bor (.attr a m) ρ st r = r := (rfl)
@[simp] theorem bor_bi {r : R D} {b as} : bor (.bi b as) ρ st r = r := (rfl)
@[simp] theorem bor_isi {r : R D} {a ts} : bor (.isi a ts) ρ st r = r := (rfl)
@[simp] theorem bor_tup {r : R D} {as} : bor (.tup as) ρ st r = r := (rfl)
@[simp] theorem bor_lst {r : R D} {as} : bor (.lst as) ρ st r = r := (rfl)
@[simp] theorem bor_ix {r : R D} {a i} : bor (.ix a i) ρ st r = r := (rfl)
@[simp] theorem bor_sl {r : R D} {a l h} : bor (.sl a l h) ρ st r = r := (rfl)
@[simp] theorem bor_nop {r : R D}  : bor (.nop ) ρ st r = r := (rfl)
@[simp] theorem bor_dcomp {r : R D} {i k v s t} : bor (.dcomp i k v s t) ρ st r = r := (rfl)
@[simp] theorem bor_comp2 {r : R D} {i s i2 s2 e t} : bor (.comp2 i s i2 s2 e t) ρ st r = r := (rfl)
@[simp] theorem bor_comp {r : R D} {i e s t} : bor (.comp i e s t) ρ st r = r := (rfl)
@[simp] theorem bor_fst {r : R D} {as} : bor (.fst as) ρ st r = r := (rfl)
@[simp] theorem bor_sto {r : R D} {a} : bor (.sto a) ρ st r = r := (rfl)
@[simp] theorem bor_xat {r : R D} {i m} : bor (.xat i m) ρ st r = r := (rfl)
@[simp] theorem bor_xis {r : R D} {i t} : bor (.xis i t) ρ st r = r := (rfl)
@[simp] theorem bor_stuck {r : R D}  : bor (.stuck ) ρ st r = r := (rfl)
@[simp] theorem bor_frz {r : R D} {a} : bor (.frz a) ρ st r = r := (rfl)
@[simp] theorem bor_inv {r : R D} {a as} : bor (.inv a as) ρ st r = r := (rfl)
@[simp] theorem bor_dnew {r : R D}  : bor (.dnew ) ρ st r = r := (rfl)
@[simp] theorem bor_pop {r : R D} {a i} : bor (.pop a i) ρ st r = r := (rfl)
@[simp] theorem bor_var {r : R D} {i : Nat} : bor (.var i) ρ st r = R.of (rdB ρ i) st := (rfl)
def pkB : Option (Option D) → Option D
  | some (some d) => some d
  | _ => none
def pkV : Option (Option D) → Option D
  | some (some (.own _)) => none
  | some (some (.obj _ _)) => none
  | some (some (.exc _ _)) => none
  | some (some d) => some d
  | _ => none
@[simp] theorem pkB_some {d : D} : pkB (some (some d)) = some d := (rfl)
@[simp] theorem rdB_pk {i : Nat} : rdB ρ i = pkB ρ[i]? := by
  unfold rdB pkB
  split <;> simp_all
@[simp] theorem rdV_pk {i : Nat} : rdV ρ i = pkV ρ[i]? := by
  unfold rdV pkV
  split <;> simp_all
@[simp] theorem pkV_non  : pkV (some (some (.non ))) = some (.non ) := (rfl)
@[simp] theorem pkV_bl {b} : pkV (some (some (.bl b))) = some (.bl b) := (rfl)
@[simp] theorem pkV_int {i} : pkV (some (some (.int i))) = some (.int i) := (rfl)
@[simp] theorem pkV_str {s} : pkV (some (some (.str s))) = some (.str s) := (rfl)
@[simp] theorem pkV_tup {ds} : pkV (some (some (.tup ds))) = some (.tup ds) := (rfl)
@[simp] theorem pkV_lst {ds} : pkV (some (some (.lst ds))) = some (.lst ds) := (rfl)
@[simp] theorem pkV_scr {ns} : pkV (some (some (.scr ns))) = some (.scr ns) := (rfl)
@[simp] theorem pkV_ins {c ds} : pkV (some (some (.ins c ds))) = some (.ins c ds) := (rfl)
@[simp] theorem pkV_ref {k} : pkV (some (some (.ref k))) = some (.ref k) := (rfl)
@[simp] theorem evE_non  : evE T cf (.non ) ρ st = .ok (.non) st := (rfl)
@[simp] theorem evE_bl {b : Bool} : evE T cf (.bl b) ρ st = .ok (.bl b) st := (rfl)
@[simp] theorem evE_int {i : Int} : evE T cf (.int i) ρ st = .ok (.int i) st := (rfl)
@[simp] theorem evE_str {s : List Nat} : evE T cf (.str s) ρ st = .ok (.str s) st := (rfl)
@[simp] theorem evE_var {i : Nat} : evE T cf (.var i) ρ st = R.of (rdV ρ i) st := (rfl)
@[simp] theorem evE_con {i : Nat} : evE T cf (.con i) ρ st = .ok (T.con i) st := (rfl)
def kNeg (T : Tab) (cf : Nat → List D → Sto → R D)  (r : R D) : R D := r.bind fun x st => negE T cf x st
@[simp] theorem kNeg_ok  {x : D} {st : Sto} : kNeg T cf  (.ok x st) = negE T cf x st := (rfl)
@[simp] theorem kNeg_er  {x : Xn} {st : Sto} : kNeg T cf  (.er x st) = .er x st := (rfl)
@[simp] theorem kNeg_no  : kNeg T cf  .no = .no := (rfl)
@[simp] theorem evE_neg {a : E} : evE T cf (.neg a) ρ st = kNeg T cf (evE T cf a ρ st) := (rfl)
def kNot  (r : R D) : R D := r.bind fun x st => R.of ((truthS st x).map fun b => .bl (!b)) st
@[simp] theorem kNot_ok  {x : D} {st : Sto} : kNot  (.ok x st) = R.of ((truthS st x).map fun b => .bl (!b)) st := (rfl)
@[simp] theorem kNot_er  {x : Xn} {st : Sto} : kNot  (.er x st) = .er x st := (rfl)
@[simp] theorem kNot_no  : kNot  .no = .no := (rfl)
@[simp] theorem evE_not {a : E} : evE T cf (.not a) ρ st = kNot (bor a ρ st (evE T cf a ρ st)) := (rfl)
def kBin2 (T : Tab) (cf : Nat → List D → Sto → R D) (o : BO) (z : D) (r : R D) : R D := r.bind fun x st => binE T cf o z x st
@[simp] theorem kBin2_ok {o : BO} {z : D} {x : D} {st : Sto} : kBin2 T cf o z (.ok x st) = binE T cf o z x st := (rfl)
@[simp] theorem kBin2_er {o : BO} {z : D} {x : Xn} {st : Sto} : kBin2 T cf o z (.er x st) = .er x st := (rfl)
@[simp] theorem kBin2_no {o : BO} {z : D} : kBin2 T cf o z .no = .no := (rfl)
def kBin1 (T : Tab) (cf : Nat → List D → Sto → R D) (o : BO) (b : E) (ρ : Rho) (r : R D) : R D := r.bind fun x st => kBin2 T cf o x (bor b ρ st (evE T cf b ρ st))
@[simp] theorem kBin1_ok {o : BO} {b : E} {ρ : Rho} {x : D} {st : Sto} : kBin1 T cf o b ρ (.ok x st) = kBin2 T cf o x (bor b ρ st (evE T cf b ρ st)) := (rfl)
@[simp] theorem kBin1_er {o : BO} {b : E} {ρ : Rho} {x : Xn} {st : Sto} : kBin1 T cf o b ρ (.er x st) = .er x st := (rfl)
@[simp] theorem kBin1_no {o : BO} {b : E} {ρ : Rho} : kBin1 T cf o b ρ .no = .no := (rfl)
@[simp] theorem evE_bin {o : BO} {a b : E} : evE T cf (.bin o a b) ρ st = kBin1 T cf o b ρ (bor a ρ st (evE T cf a ρ st)) := (rfl)
def kBl  (r : R Bool) : R D := r.bind fun x st => .ok (.bl x) st
@[simp] theorem kBl_ok  {x : Bool} {st : Sto} : kBl  (.ok x st) = .ok (.bl x) st := (rfl)
@[simp] theorem kBl_er  {x : Xn} {st : Sto} : kBl  (.er x st) = .er x st := (rfl)
@[simp] theorem kBl_no  : kBl  .no = .no := (rfl)
def kCmp2 (T : Tab) (cf : Nat → List D → Sto → R D) (o : CO) (z : D) (r : R D) : R D := r.bind fun x st => kBl (cmpE T cf o z x st)
@[simp] theorem kCmp2_ok {o : CO} {z : D} {x : D} {st : Sto} : kCmp2 T cf o z (.ok x st) = kBl (cmpE T cf o z x st) := (rfl)
@[simp] theorem kCmp2_er {o : CO} {z : D} {x : Xn} {st : Sto} : kCmp2 T cf o z (.er x st) = .er x st := (rfl)
@[simp] theorem kCmp2_no {o : CO} {z : D} : kCmp2 T cf o z .no = .no := (rfl)
def kCmp1 (T : Tab) (cf : Nat → List D → Sto → R D) (o : CO) (b : E) (ρ : Rho) (r : R D) : R D := r.bind fun x st => kCmp2 T cf o x (bor b ρ st (evE T cf b ρ st))
@[simp] theorem kCmp1_ok {o : CO} {b : E} {ρ : Rho} {x : D} {st : Sto} : kCmp1 T cf o b ρ (.ok x st) = kCmp2 T cf o x (bor b ρ st (evE T cf b ρ st)) := (rfl)
@[simp] theorem kCmp1_er {o : CO} {b : E} {ρ : Rho} {x : Xn} {st : Sto} : kCmp1 T cf o b ρ (.er x st) = .er x st := (rfl)
@[simp] theorem kCmp1_no {o : CO} {b : E} {ρ : Rho} : kCmp1 T cf o b ρ .no = .no := (rfl)
@[simp] theorem evE_cmp {o : CO} {a b : E} : evE T cf (.cmp o a b) ρ st = kCmp1 T cf o b ρ (bor a ρ st (evE T cf a ρ st)) := (rfl)
def kCh4 (T : Tab) (cf : Nat → List D → Sto → R D) (p : CO) (y : D) (r : R D) : R D := r.bind fun x st => kBl (cmpE T cf p y x st)
@[simp] theorem kCh4_ok {p : CO} {y : D} {x : D} {st : Sto} : kCh4 T cf p y (.ok x st) = kBl (cmpE T cf p y x st) := (rfl)
@[simp] theorem kCh4_er {p : CO} {y : D} {x : Xn} {st : Sto} : kCh4 T cf p y (.er x st) = .er x st := (rfl)
@[simp] theorem kCh4_no {p : CO} {y : D} : kCh4 T cf p y .no = .no := (rfl)
def kCh3 (T : Tab) (cf : Nat → List D → Sto → R D) (p : CO) (y : D) (c : E) (ρ : Rho) (r : R Bool) : R D := r.bind fun x st => if x then kCh4 T cf p y (evE T cf c ρ st) else .ok (.bl false) st
@[simp] theorem kCh3_ok {p : CO} {y : D} {c : E} {ρ : Rho} {x : Bool} {st : Sto} : kCh3 T cf p y c ρ (.ok x st) = if x then kCh4 T cf p y (evE T cf c ρ st) else .ok (.bl false) st := (rfl)
@[simp] theorem kCh3_er {p : CO} {y : D} {c : E} {ρ : Rho} {x : Xn} {st : Sto} : kCh3 T cf p y c ρ (.er x st) = .er x st := (rfl)
@[simp] theorem kCh3_no {p : CO} {y : D} {c : E} {ρ : Rho} : kCh3 T cf p y c ρ .no = .no := (rfl)
def kCh2 (T : Tab) (cf : Nat → List D → Sto → R D) (o : CO) (p : CO) (z : D) (c : E) (ρ : Rho) (r : R D) : R D := r.bind fun x st => kCh3 T cf p x c ρ (cmpE T cf o z x st)
@[simp] theorem kCh2_ok {o : CO} {p : CO} {z : D} {c : E} {ρ : Rho} {x : D} {st : Sto} : kCh2 T cf o p z c ρ (.ok x st) = kCh3 T cf p x c ρ (cmpE T cf o z x st) := (rfl)
@[simp] theorem kCh2_er {o : CO} {p : CO} {z : D} {c : E} {ρ : Rho} {x : Xn} {st : Sto} : kCh2 T cf o p z c ρ (.er x st) = .er x st := (rfl)
@[simp] theorem kCh2_no {o : CO} {p : CO} {z : D} {c : E} {ρ : Rho} : kCh2 T cf o p z c ρ .no = .no := (rfl)
def kCh1 (T : Tab) (cf : Nat → List D → Sto → R D) (o : CO) (p : CO) (b : E) (c : E) (ρ : Rho) (r : R D) : R D := r.bind fun x st => kCh2 T cf o p x c ρ (evE T cf b ρ st)
@[simp] theorem kCh1_ok {o : CO} {p : CO} {b : E} {c : E} {ρ : Rho} {x : D} {st : Sto} : kCh1 T cf o p b c ρ (.ok x st) = kCh2 T cf o p x c ρ (evE T cf b ρ st) := (rfl)
@[simp] theorem kCh1_er {o : CO} {p : CO} {b : E} {c : E} {ρ : Rho} {x : Xn} {st : Sto} : kCh1 T cf o p b c ρ (.er x st) = .er x st := (rfl)
@[simp] theorem kCh1_no {o : CO} {p : CO} {b : E} {c : E} {ρ : Rho} : kCh1 T cf o p b c ρ .no = .no := (rfl)
@[simp] theorem evE_chain {o p : CO} {a b c : E} : evE T cf (.chain o p a b c) ρ st = kCh1 T cf o p b c ρ (evE T cf a ρ st) := (rfl)
def kAnd2 (T : Tab) (cf : Nat → List D → Sto → R D) (b : E) (ρ : Rho) (st : Sto) : D → R D
  | .bl true => evE T cf b ρ st
  | .bl false => .ok (.bl false) st
  | _ => .no
@[simp] theorem kAnd2_bl {b : E} {k : Bool} : kAnd2 T cf b ρ st (.bl k) = if k then evE T cf b ρ st else .ok (.bl false) st := by cases k <;> rfl
def kOr2 (T : Tab) (cf : Nat → List D → Sto → R D) (b : E) (ρ : Rho) (st : Sto) : D → R D
  | .bl true => .ok (.bl true) st
  | .bl false => evE T cf b ρ st
  | _ => .no
@[simp] theorem kOr2_bl {b : E} {k : Bool} : kOr2 T cf b ρ st (.bl k) = if k then .ok (.bl true) st else evE T cf b ρ st := by cases k <;> rfl
def kAnd1 (T : Tab) (cf : Nat → List D → Sto → R D) (b : E) (ρ : Rho) (r : R D) : R D := r.bind fun x st => kAnd2 T cf b ρ st x
@[simp] theorem kAnd1_ok {b : E} {ρ : Rho} {x : D} {st : Sto} : kAnd1 T cf b ρ (.ok x st) = kAnd2 T cf b ρ st x := (rfl)
@[simp] theorem kAnd1_er {b : E} {ρ : Rho} {x : Xn} {st : Sto} : kAnd1 T cf b ρ (.er x st) = .er x st := (rfl)
@[simp] theorem kAnd1_no {b : E} {ρ : Rho} : kAnd1 T cf b ρ .no = .no := (rfl)
@[simp] theorem evE_and {a b : E} : evE T cf (.and a b) ρ st = kAnd1 T cf b ρ (evE T cf a ρ st) := (rfl)
def kOr1 (T : Tab) (cf : Nat → List D → Sto → R D) (b : E) (ρ : Rho) (r : R D) : R D := r.bind fun x st => kOr2 T cf b ρ st x
@[simp] theorem kOr1_ok {b : E} {ρ : Rho} {x : D} {st : Sto} : kOr1 T cf b ρ (.ok x st) = kOr2 T cf b ρ st x := (rfl)
@[simp] theorem kOr1_er {b : E} {ρ : Rho} {x : Xn} {st : Sto} : kOr1 T cf b ρ (.er x st) = .er x st := (rfl)
@[simp] theorem kOr1_no {b : E} {ρ : Rho} : kOr1 T cf b ρ .no = .no := (rfl)
@[simp] theorem evE_or {a b : E} : evE T cf (.or a b) ρ st = kOr1 T cf b ρ (evE T cf a ρ st) := (rfl)
def kIte (T : Tab) (cf : Nat → List D → Sto → R D) (a : E) (b : E) (ρ : Rho) (r : R Bool) : R D := r.bind fun x st => if x then evE T cf a ρ st else evE T cf b ρ st
@[simp] theorem kIte_ok {a : E} {b : E} {ρ : Rho} {x : Bool} {st : Sto} : kIte T cf a b ρ (.ok x st) = if x then evE T cf a ρ st else evE T cf b ρ st := (rfl)
@[simp] theorem kIte_er {a : E} {b : E} {ρ : Rho} {x : Xn} {st : Sto} : kIte T cf a b ρ (.er x st) = .er x st := (rfl)
@[simp] theorem kIte_no {a : E} {b : E} {ρ : Rho} : kIte T cf a b ρ .no = .no := (rfl)
@[simp] theorem evE_ite {t : Tt} {a b : E} : evE T cf (.ite t a b) ρ st = kIte T cf a b ρ (evT T cf t ρ st) := (rfl)
def kCall (T : Tab) (cf : Nat → List D → Sto → R D) (f : Nat) (r : R (List D)) : R D := r.bind fun x st => cf f x st
@[simp] theorem kCall_ok {f : Nat} {x : List D} {st : Sto} : kCall T cf f (.ok x st) = cf f x st := (rfl)
@[simp] theorem kCall_er {f : Nat} {x : Xn} {st : Sto} : kCall T cf f (.er x st) = .er x st := (rfl)
@[simp] theorem kCall_no {f : Nat} : kCall T cf f .no = .no := (rfl)
@[simp] theorem evE_call {f : Nat} {as : Es} : evE T cf (.call f as) ρ st = kCall T cf f (evA T cf as ρ st) := (rfl)
def kMake (T : Tab) (cf : Nat → List D → Sto → R D) (c : Nat) (r : R (List D)) : R D := r.bind fun x st => makeE T cf c x st
@[simp] theorem kMake_ok {c : Nat} {x : List D} {st : Sto} : kMake T cf c (.ok x st) = makeE T cf c x st := (rfl)
@[simp] theorem kMake_er {c : Nat} {x : Xn} {st : Sto} : kMake T cf c (.er x st) = .er x st := (rfl)
@[simp] theorem kMake_no {c : Nat} : kMake T cf c .no = .no := (rfl)
@[simp] theorem evE_make {c : Nat} {as : Es} : evE T cf (.make c as) ρ st = kMake T cf c (evA T cf as ρ st) := (rfl)
def kMeth2 (T : Tab) (cf : Nat → List D → Sto → R D) (m : Nat) (z : D) (r : R (List D)) : R D := r.bind fun x st => methE T cf m z x st
@[simp] theorem kMeth2_ok {m : Nat} {z : D} {x : List D} {st : Sto} : kMeth2 T cf m z (.ok x st) = methE T cf m z x st := (rfl)
@[simp] theorem kMeth2_er {m : Nat} {z : D} {x : Xn} {st : Sto} : kMeth2 T cf m z (.er x st) = .er x st := (rfl)
@[simp] theorem kMeth2_no {m : Nat} {z : D} : kMeth2 T cf m z .no = .no := (rfl)
def kMeth1 (T : Tab) (cf : Nat → List D → Sto → R D) (m : Nat) (as : Es) (ρ : Rho) (r : R D) : R D := r.bind fun x st => if hasM T m x then kMeth2 T cf m x (evA T cf as ρ st) else .no
@[simp] theorem kMeth1_ok {m : Nat} {as : Es} {ρ : Rho} {x : D} {st : Sto} : kMeth1 T cf m as ρ (.ok x st) = if hasM T m x then kMeth2 T cf m x (evA T cf as ρ st) else .no := (rfl)
@[simp] theorem kMeth1_er {m : Nat} {as : Es} {ρ : Rho} {x : Xn} {st : Sto} : kMeth1 T cf m as ρ (.er x st) = .er x st := (rfl)
@[simp] theorem kMeth1_no {m : Nat} {as : Es} {ρ : Rho} : kMeth1 T cf m as ρ .no = .no := (rfl)
@[simp] theorem evE_meth {m : Nat} {a : E} {as : Es} : evE T cf (.meth m a as) ρ st = kMeth1 T cf m as ρ (evE T cf a ρ st) := (rfl)
def kAttr (T : Tab) (cf : Nat → List D → Sto → R D) (m : Nat) (r : R D) : R D := r.bind fun x st => attrE T cf x m st
@[simp] theorem kAttr_ok {m : Nat} {x : D} {st : Sto} : kAttr T cf m (.ok x st) = attrE T cf x m st := (rfl)
@[simp] theorem kAttr_er {m : Nat} {x : Xn} {st : Sto} : kAttr T cf m (.er x st) = .er x st := (rfl)
@[simp] theorem kAttr_no {m : Nat} : kAttr T cf m .no = .no := (rfl)
@[simp] theorem evE_attr {a : E} {m : Nat} : evE T cf (.attr a m) ρ st = kAttr T cf m (bor a ρ st (evE T cf a ρ st)) := (rfl)
def kBi (T : Tab) (cf : Nat → List D → Sto → R D) (b : BI) (r : R (List D)) : R D := r.bind fun x st => biE T cf b x st
@[simp] theorem kBi_ok {b : BI} {x : List D} {st : Sto} : kBi T cf b (.ok x st) = biE T cf b x st := (rfl)
@[simp] theorem kBi_er {b : BI} {x : Xn} {st : Sto} : kBi T cf b (.er x st) = .er x st := (rfl)
@[simp] theorem kBi_no {b : BI} : kBi T cf b .no = .no := (rfl)
@[simp] theorem evE_bi {b : BI} {as : Es} : evE T cf (.bi b as) ρ st = kBi T cf b (evL T cf as ρ st) := (rfl)
def kIsi (T : Tab) (cf : Nat → List D → Sto → R D) (ts : List TY) (r : R D) : R D := r.bind fun x st => R.of (((kdS st x).bind fun k => isAny T k ts).map D.bl) st
@[simp] theorem kIsi_ok {ts : List TY} {x : D} {st : Sto} : kIsi T cf ts (.ok x st) = R.of (((kdS st x).bind fun k => isAny T k ts).map D.bl) st := (rfl)
@[simp] theorem kIsi_er {ts : List TY} {x : Xn} {st : Sto} : kIsi T cf ts (.er x st) = .er x st := (rfl)
@[simp] theorem kIsi_no {ts : List TY} : kIsi T cf ts .no = .no := (rfl)
@[simp] theorem evE_isi {a : E} {ts : List TY} : evE T cf (.isi a ts) ρ st = kIsi T cf ts (bor a ρ st (evE T cf a ρ st)) := (rfl)
def kTup  (r : R (List D)) : R D := r.bind fun x st => if x.length ≤ LINE then .ok (.tup x) st else .no
@[simp] theorem kTup_ok  {x : List D} {st : Sto} : kTup  (.ok x st) = if x.length ≤ LINE then .ok (.tup x) st else .no := (rfl)
@[simp] theorem kTup_er  {x : Xn} {st : Sto} : kTup  (.er x st) = .er x st := (rfl)
@[simp] theorem kTup_no  : kTup  .no = .no := (rfl)
@[simp] theorem evE_tup {as : Es} : evE T cf (.tup as) ρ st = kTup (evA T cf as ρ st) := (rfl)
def kLst  (r : R (List D)) : R D := r.bind fun x st => if x.length ≤ LINE then .ok (.own x) st else .no
@[simp] theorem kLst_ok  {x : List D} {st : Sto} : kLst  (.ok x st) = if x.length ≤ LINE then .ok (.own x) st else .no := (rfl)
@[simp] theorem kLst_er  {x : Xn} {st : Sto} : kLst  (.er x st) = .er x st := (rfl)
@[simp] theorem kLst_no  : kLst  .no = .no := (rfl)
@[simp] theorem evE_lst {as : Es} : evE T cf (.lst as) ρ st = kLst (evA T cf as ρ st) := (rfl)
def kIx2 (T : Tab) (cf : Nat → List D → Sto → R D) (z : D) (r : R D) : R D := r.bind fun x st => ixE T cf z x st
@[simp] theorem kIx2_ok {z : D} {x : D} {st : Sto} : kIx2 T cf z (.ok x st) = ixE T cf z x st := (rfl)
@[simp] theorem kIx2_er {z : D} {x : Xn} {st : Sto} : kIx2 T cf z (.er x st) = .er x st := (rfl)
@[simp] theorem kIx2_no {z : D} : kIx2 T cf z .no = .no := (rfl)
def kIx1 (T : Tab) (cf : Nat → List D → Sto → R D) (i : E) (ρ : Rho) (r : R D) : R D := r.bind fun x st => kIx2 T cf x (evE T cf i ρ st)
@[simp] theorem kIx1_ok {i : E} {ρ : Rho} {x : D} {st : Sto} : kIx1 T cf i ρ (.ok x st) = kIx2 T cf x (evE T cf i ρ st) := (rfl)
@[simp] theorem kIx1_er {i : E} {ρ : Rho} {x : Xn} {st : Sto} : kIx1 T cf i ρ (.er x st) = .er x st := (rfl)
@[simp] theorem kIx1_no {i : E} {ρ : Rho} : kIx1 T cf i ρ .no = .no := (rfl)
@[simp] theorem evE_ix {a i : E} : evE T cf (.ix a i) ρ st = kIx1 T cf i ρ (bor a ρ st (evE T cf a ρ st)) := (rfl)
@[simp] theorem ptE_bl {b} {k : Int} : ptE (.bl b) (.ok (.int k) st) = .ok (some k) st := (rfl)
@[simp] theorem ptE_int {i} {k : Int} : ptE (.int i) (.ok (.int k) st) = .ok (some k) st := (rfl)
@[simp] theorem ptE_var {j} {k : Int} : ptE (.var j) (.ok (.int k) st) = .ok (some k) st := (rfl)
@[simp] theorem ptE_con {j} {k : Int} : ptE (.con j) (.ok (.int k) st) = .ok (some k) st := (rfl)
@[simp] theorem ptE_neg {a} {k : Int} : ptE (.neg a) (.ok (.int k) st) = .ok (some k) st := (rfl)
@[simp] theorem ptE_bin {o a b} {k : Int} : ptE (.bin o a b) (.ok (.int k) st) = .ok (some k) st := (rfl)
@[simp] theorem ptE_ite {t a b} {k : Int} : ptE (.ite t a b) (.ok (.int k) st) = .ok (some k) st := (rfl)
@[simp] theorem ptE_call {f as} {k : Int} : ptE (.call f as) (.ok (.int k) st) = .ok (some k) st := (rfl)
@[simp] theorem ptE_attr {a m} {k : Int} : ptE (.attr a m) (.ok (.int k) st) = .ok (some k) st := (rfl)
@[simp] theorem ptE_bi {b as} {k : Int} : ptE (.bi b as) (.ok (.int k) st) = .ok (some k) st := (rfl)
@[simp] theorem ptE_ix {a i} {k : Int} : ptE (.ix a i) (.ok (.int k) st) = .ok (some k) st := (rfl)
@[simp] theorem ptE_nop {d : D} : ptE .nop (.ok d st) = .ok none st := (rfl)
def kSl3 (a : D) (l : Option Int) (r : R (Option Int)) : R D := r.bind fun x st => slE a l x st
@[simp] theorem kSl3_ok {a : D} {l : Option Int} {x : Option Int} {st : Sto} : kSl3 a l (.ok x st) = slE a l x st := (rfl)
@[simp] theorem kSl3_er {a : D} {l : Option Int} {x : Xn} {st : Sto} : kSl3 a l (.er x st) = .er x st := (rfl)
@[simp] theorem kSl3_no {a : D} {l : Option Int} : kSl3 a l .no = .no := (rfl)
def kSl2 (T : Tab) (cf : Nat → List D → Sto → R D) (a : D) (h : E) (ρ : Rho) (r : R (Option Int)) : R D := r.bind fun x st => kSl3 a x (ptE h (evE T cf h ρ st))
@[simp] theorem kSl2_ok {a : D} {h : E} {ρ : Rho} {x : Option Int} {st : Sto} : kSl2 T cf a h ρ (.ok x st) = kSl3 a x (ptE h (evE T cf h ρ st)) := (rfl)
@[simp] theorem kSl2_er {a : D} {h : E} {ρ : Rho} {x : Xn} {st : Sto} : kSl2 T cf a h ρ (.er x st) = .er x st := (rfl)
@[simp] theorem kSl2_no {a : D} {h : E} {ρ : Rho} : kSl2 T cf a h ρ .no = .no := (rfl)
def kSl1 (T : Tab) (cf : Nat → List D → Sto → R D) (l : E) (h : E) (ρ : Rho) (r : R D) : R D := r.bind fun x st => kSl2 T cf x h ρ (ptE l (evE T cf l ρ st))
@[simp] theorem kSl1_ok {l : E} {h : E} {ρ : Rho} {x : D} {st : Sto} : kSl1 T cf l h ρ (.ok x st) = kSl2 T cf x h ρ (ptE l (evE T cf l ρ st)) := (rfl)
@[simp] theorem kSl1_er {l : E} {h : E} {ρ : Rho} {x : Xn} {st : Sto} : kSl1 T cf l h ρ (.er x st) = .er x st := (rfl)
@[simp] theorem kSl1_no {l : E} {h : E} {ρ : Rho} : kSl1 T cf l h ρ .no = .no := (rfl)
@[simp] theorem evE_sl {a l h : E} : evE T cf (.sl a l h) ρ st = kSl1 T cf l h ρ (bor a ρ st (evE T cf a ρ st)) := (rfl)
@[simp] theorem evE_nop  : evE T cf .nop ρ st = .ok .non st := (rfl)
@[simp] theorem evE_fst {as : Es} : evE T cf (.fst as) ρ st = evF T cf as [] ρ st := (rfl)
def kFs (T : Tab) (cf : Nat → List D → Sto → R D) (as : Es) (acc : List Nat) (ρ : Rho) (r : R D) : R D := r.bind fun x st => (match fmtD x with | some s => if acc.length + s.length ≤ LINE then evF T cf as (acc ++ s) ρ st else .no | none => .no)
@[simp] theorem kFs_ok {as : Es} {acc : List Nat} {ρ : Rho} {x : D} {st : Sto} : kFs T cf as acc ρ (.ok x st) = (match fmtD x with | some s => if acc.length + s.length ≤ LINE then evF T cf as (acc ++ s) ρ st else .no | none => .no) := (rfl)
@[simp] theorem kFs_er {as : Es} {acc : List Nat} {ρ : Rho} {x : Xn} {st : Sto} : kFs T cf as acc ρ (.er x st) = .er x st := (rfl)
@[simp] theorem kFs_no {as : Es} {acc : List Nat} {ρ : Rho} : kFs T cf as acc ρ .no = .no := (rfl)
@[simp] theorem evF_nil {acc : List Nat} : evF T cf .nil acc ρ st = .ok (.str acc) st := (rfl)
@[simp] theorem evF_cons {a : E} {as : Es} {acc : List Nat} : evF T cf (.cons a as) acc ρ st = kFs T cf as acc ρ (evE T cf a ρ st) := (rfl)
def kSto2 (st : Sto) : D → R D
  | .own ds => .ok (.ref st.length) (st ++ [.lst ds])
  | _ => .no
@[simp] theorem kSto2_own {ds : List D} : kSto2 st (.own ds) = .ok (.ref st.length) (st ++ [.lst ds]) := (rfl)
def kSto  (r : R D) : R D := r.bind fun x st => kSto2 st x
@[simp] theorem kSto_ok  {x : D} {st : Sto} : kSto  (.ok x st) = kSto2 st x := (rfl)
@[simp] theorem kSto_er  {x : Xn} {st : Sto} : kSto  (.er x st) = .er x st := (rfl)
@[simp] theorem kSto_no  : kSto  .no = .no := (rfl)
@[simp] theorem evE_sto {a : E} : evE T cf (.sto a) ρ st = kSto (evE T cf a ρ st) := (rfl)
@[simp] theorem evE_xat {i m : Nat} : evE T cf (.xat i m) ρ st = R.of (xatD T ρ i m) st := (rfl)
@[simp] theorem evE_xis {i : Nat} {t : TY} : evE T cf (.xis i t) ρ st = R.of (xisD T ρ i t) st := (rfl)
def kOwn  (r : R (List D)) : R D := r.bind fun x st => .ok (.own x) st
@[simp] theorem kOwn_ok  {x : List D} {st : Sto} : kOwn  (.ok x st) = .ok (.own x) st := (rfl)
@[simp] theorem kOwn_er  {x : Xn} {st : Sto} : kOwn  (.er x st) = .er x st := (rfl)
@[simp] theorem kOwn_no  : kOwn  .no = .no := (rfl)
def cOwn : R (List D) → R D
  | .ok ds st => .ok (.own ds) st
  | _ => .no
@[simp] theorem cOwn_ok {ds : List D} : cOwn (.ok ds st) = .ok (.own ds) st := (rfl)
def kComp (T : Tab) (cf : Nat → List D → Sto → R D) (i : List Nat) (e : E) (t : Tt) (ρ : Rho) (r : R (List (List D))) : R D := r.bind fun x st => if (i.all fun j => plainO ρ[j]?) then cOwn (compL (evE T cf e) (evT T cf t) ρ i x [] st) else .no
@[simp] theorem kComp_ok {i : List Nat} {e : E} {t : Tt} {ρ : Rho} {x : List (List D)} {st : Sto} : kComp T cf i e t ρ (.ok x st) = if (i.all fun j => plainO ρ[j]?) then cOwn (compL (evE T cf e) (evT T cf t) ρ i x [] st) else .no := (rfl)
@[simp] theorem kComp_er {i : List Nat} {e : E} {t : Tt} {ρ : Rho} {x : Xn} {st : Sto} : kComp T cf i e t ρ (.er x st) = .er x st := (rfl)
@[simp] theorem kComp_no {i : List Nat} {e : E} {t : Tt} {ρ : Rho} : kComp T cf i e t ρ .no = .no := (rfl)
@[simp] theorem evE_comp {i : List Nat} {e : E} {s : It} {t : Tt} : evE T cf (.comp i e s t) ρ st = kComp T cf i e t ρ (evI T cf s ρ st) := (rfl)
def kFrz  (r : R D) : R D := r.bind fun x st => .ok (fz x) st
@[simp] theorem kFrz_ok  {x : D} {st : Sto} : kFrz  (.ok x st) = .ok (fz x) st := (rfl)
@[simp] theorem kFrz_er  {x : Xn} {st : Sto} : kFrz  (.er x st) = .er x st := (rfl)
@[simp] theorem kFrz_no  : kFrz  .no = .no := (rfl)
@[simp] theorem evE_frz {a : E} : evE T cf (.frz a) ρ st = kFrz (evE T cf a ρ st) := (rfl)
@[simp] theorem evE_stuck  : evE T cf .stuck ρ st = .no := (rfl)
@[simp] theorem evE_dnew  : evE T cf .dnew ρ st = .ok (.ref st.length) (st ++ [.dct []]) := (rfl)
def cDct : R (List (D × D)) → R D
  | .ok kvs st => .ok (.ref st.length) (st ++ [.dct kvs])
  | _ => .no
@[simp] theorem cDct_ok {kvs : List (D × D)} : cDct (.ok kvs st) = .ok (.ref st.length) (st ++ [.dct kvs]) := (rfl)
def kDcomp (T : Tab) (cf : Nat → List D → Sto → R D) (i : List Nat) (k : E) (v : E) (t : Tt) (ρ : Rho) (r : R (List (List D))) : R D := r.bind fun x st => if (i.all fun j => plainO ρ[j]?) then cDct (compD (evE T cf k) (evE T cf v) (evT T cf t) ρ i x [] st) else .no
@[simp] theorem kDcomp_ok {i : List Nat} {k : E} {v : E} {t : Tt} {ρ : Rho} {x : List (List D)} {st : Sto} : kDcomp T cf i k v t ρ (.ok x st) = if (i.all fun j => plainO ρ[j]?) then cDct (compD (evE T cf k) (evE T cf v) (evT T cf t) ρ i x [] st) else .no := (rfl)
@[simp] theorem kDcomp_er {i : List Nat} {k : E} {v : E} {t : Tt} {ρ : Rho} {x : Xn} {st : Sto} : kDcomp T cf i k v t ρ (.er x st) = .er x st := (rfl)
@[simp] theorem kDcomp_no {i : List Nat} {k : E} {v : E} {t : Tt} {ρ : Rho} : kDcomp T cf i k v t ρ .no = .no := (rfl)
@[simp] theorem evE_dcomp {i : List Nat} {k v : E} {s : It} {t : Tt} : evE T cf (.dcomp i k v s t) ρ st = kDcomp T cf i k v t ρ (evI T cf s ρ st) := (rfl)
def kComp2 (T : Tab) (cf : Nat → List D → Sto → R D) (i : List Nat) (i2 : List Nat) (s2 : It) (e : E) (t : Tt) (ρ : Rho) (r : R (List (List D))) : R D := r.bind fun x st => if ((i ++ i2).all fun j => plainO ρ[j]?) then cOwn (compL2 (evI T cf s2) (evE T cf e) (evT T cf t) (clr i2 ρ) i i2 x [] st) else .no
@[simp] theorem kComp2_ok {i : List Nat} {i2 : List Nat} {s2 : It} {e : E} {t : Tt} {ρ : Rho} {x : List (List D)} {st : Sto} : kComp2 T cf i i2 s2 e t ρ (.ok x st) = if ((i ++ i2).all fun j => plainO ρ[j]?) then cOwn (compL2 (evI T cf s2) (evE T cf e) (evT T cf t) (clr i2 ρ) i i2 x [] st) else .no := (rfl)
@[simp] theorem kComp2_er {i : List Nat} {i2 : List Nat} {s2 : It} {e : E} {t : Tt} {ρ : Rho} {x : Xn} {st : Sto} : kComp2 T cf i i2 s2 e t ρ (.er x st) = .er x st := (rfl)
@[simp] theorem kComp2_no {i : List Nat} {i2 : List Nat} {s2 : It} {e : E} {t : Tt} {ρ : Rho} : kComp2 T cf i i2 s2 e t ρ .no = .no := (rfl)
@[simp] theorem evE_comp2 {i i2 : List Nat} {e : E} {s s2 : It} {t : Tt} : evE T cf (.comp2 i s i2 s2 e t) ρ st = kComp2 T cf i i2 s2 e t ρ (evI T cf s ρ st) := (rfl)
def kInv2 (T : Tab) (cf : Nat → List D → Sto → R D) (z : D) (r : R (List D)) : R D := r.bind fun x st => invE T cf z x st
@[simp] theorem kInv2_ok {z : D} {x : List D} {st : Sto} : kInv2 T cf z (.ok x st) = invE T cf z x st := (rfl)
@[simp] theorem kInv2_er {z : D} {x : Xn} {st : Sto} : kInv2 T cf z (.er x st) = .er x st := (rfl)
@[simp] theorem kInv2_no {z : D} : kInv2 T cf z .no = .no := (rfl)
def kInv1 (T : Tab) (cf : Nat → List D → Sto → R D) (as : Es) (ρ : Rho) (r : R D) : R D := r.bind fun x st => if isIns x then kInv2 T cf x (evA T cf as ρ st) else .no
@[simp] theorem kInv1_ok {as : Es} {ρ : Rho} {x : D} {st : Sto} : kInv1 T cf as ρ (.ok x st) = if isIns x then kInv2 T cf x (evA T cf as ρ st) else .no := (rfl)
@[simp] theorem kInv1_er {as : Es} {ρ : Rho} {x : Xn} {st : Sto} : kInv1 T cf as ρ (.er x st) = .er x st := (rfl)
@[simp] theorem kInv1_no {as : Es} {ρ : Rho} : kInv1 T cf as ρ .no = .no := (rfl)
@[simp] theorem evE_inv {a : E} {as : Es} : evE T cf (.inv a as) ρ st = kInv1 T cf as ρ (evE T cf a ρ st) := (rfl)
def kPop2 (z : D) (r : R D) : R D := r.bind fun x st => popE z x st
@[simp] theorem kPop2_ok {z : D} {x : D} {st : Sto} : kPop2 z (.ok x st) = popE z x st := (rfl)
@[simp] theorem kPop2_er {z : D} {x : Xn} {st : Sto} : kPop2 z (.er x st) = .er x st := (rfl)
@[simp] theorem kPop2_no {z : D} : kPop2 z .no = .no := (rfl)
def kPop1 (T : Tab) (cf : Nat → List D → Sto → R D) (i : E) (ρ : Rho) (r : R D) : R D := r.bind fun x st => if isLR st x then kPop2 x (evE T cf i ρ st) else .no
@[simp] theorem kPop1_ok {i : E} {ρ : Rho} {x : D} {st : Sto} : kPop1 T cf i ρ (.ok x st) = if isLR st x then kPop2 x (evE T cf i ρ st) else .no := (rfl)
@[simp] theorem kPop1_er {i : E} {ρ : Rho} {x : Xn} {st : Sto} : kPop1 T cf i ρ (.er x st) = .er x st := (rfl)
@[simp] theorem kPop1_no {i : E} {ρ : Rho} : kPop1 T cf i ρ .no = .no := (rfl)
@[simp] theorem evE_pop {a i : E} : evE T cf (.pop a i) ρ st = kPop1 T cf i ρ (evE T cf a ρ st) := (rfl)
def kT  (r : R D) : R Bool := r.bind fun x st => R.of (truthS st x) st
@[simp] theorem kT_ok  {x : D} {st : Sto} : kT  (.ok x st) = R.of (truthS st x) st := (rfl)
@[simp] theorem kT_er  {x : Xn} {st : Sto} : kT  (.er x st) = .er x st := (rfl)
@[simp] theorem kT_no  : kT  .no = .no := (rfl)
@[simp] theorem evT_e {a : E} : evT T cf (.e a) ρ st = kT (bor a ρ st (evE T cf a ρ st)) := (rfl)
def kTn  (r : R Bool) : R Bool := r.bind fun x st => .ok (!x) st
@[simp] theorem kTn_ok  {x : Bool} {st : Sto} : kTn  (.ok x st) = .ok (!x) st := (rfl)
@[simp] theorem kTn_er  {x : Xn} {st : Sto} : kTn  (.er x st) = .er x st := (rfl)
@[simp] theorem kTn_no  : kTn  .no = .no := (rfl)
@[simp] theorem evT_not {a : Tt} : evT T cf (.not a) ρ st = kTn (evT T cf a ρ st) := (rfl)
def kTa (T : Tab) (cf : Nat → List D → Sto → R D) (b : Tt) (ρ : Rho) (r : R Bool) : R Bool := r.bind fun x st => if x then evT T cf b ρ st else .ok false st
@[simp] theorem kTa_ok {b : Tt} {ρ : Rho} {x : Bool} {st : Sto} : kTa T cf b ρ (.ok x st) = if x then evT T cf b ρ st else .ok false st := (rfl)
@[simp] theorem kTa_er {b : Tt} {ρ : Rho} {x : Xn} {st : Sto} : kTa T cf b ρ (.er x st) = .er x st := (rfl)
@[simp] theorem kTa_no {b : Tt} {ρ : Rho} : kTa T cf b ρ .no = .no := (rfl)
@[simp] theorem evT_and {a b : Tt} : evT T cf (.and a b) ρ st = kTa T cf b ρ (evT T cf a ρ st) := (rfl)
def kTo (T : Tab) (cf : Nat → List D → Sto → R D) (b : Tt) (ρ : Rho) (r : R Bool) : R Bool := r.bind fun x st => if x then .ok true st else evT T cf b ρ st
@[simp] theorem kTo_ok {b : Tt} {ρ : Rho} {x : Bool} {st : Sto} : kTo T cf b ρ (.ok x st) = if x then .ok true st else evT T cf b ρ st := (rfl)
@[simp] theorem kTo_er {b : Tt} {ρ : Rho} {x : Xn} {st : Sto} : kTo T cf b ρ (.er x st) = .er x st := (rfl)
@[simp] theorem kTo_no {b : Tt} {ρ : Rho} : kTo T cf b ρ .no = .no := (rfl)
@[simp] theorem evT_or {a b : Tt} : evT T cf (.or a b) ρ st = kTo T cf b ρ (evT T cf a ρ st) := (rfl)
def kA2 (d : D) (r : R (List D)) : R (List D) := r.bind fun x st => .ok (fz d :: x) st
@[simp] theorem kA2_ok {d : D} {x : List D} {st : Sto} : kA2 d (.ok x st) = .ok (fz d :: x) st := (rfl)
@[simp] theorem kA2_er {d : D} {x : Xn} {st : Sto} : kA2 d (.er x st) = .er x st := (rfl)
@[simp] theorem kA2_no {d : D} : kA2 d .no = .no := (rfl)
def kA1 (T : Tab) (cf : Nat → List D → Sto → R D) (as : Es) (ρ : Rho) (r : R D) : R (List D) := r.bind fun x st => kA2 x (evA T cf as ρ st)
@[simp] theorem kA1_ok {as : Es} {ρ : Rho} {x : D} {st : Sto} : kA1 T cf as ρ (.ok x st) = kA2 x (evA T cf as ρ st) := (rfl)
@[simp] theorem kA1_er {as : Es} {ρ : Rho} {x : Xn} {st : Sto} : kA1 T cf as ρ (.er x st) = .er x st := (rfl)
@[simp] theorem kA1_no {as : Es} {ρ : Rho} : kA1 T cf as ρ .no = .no := (rfl)
@[simp] theorem evA_nil  : evA T cf .nil ρ st = .ok [] st := (rfl)
@[simp] theorem evA_cons {a : E} {as : Es} : evA T cf (.cons a as) ρ st = kA1 T cf as ρ (evE T cf a ρ st) := (rfl)
def kL2 (d : D) (r : R (List D)) : R (List D) := r.bind fun x st => .ok (d :: x) st
@[simp] theorem kL2_ok {d : D} {x : List D} {st : Sto} : kL2 d (.ok x st) = .ok (d :: x) st := (rfl)
@[simp] theorem kL2_er {d : D} {x : Xn} {st : Sto} : kL2 d (.er x st) = .er x st := (rfl)
@[simp] theorem kL2_no {d : D} : kL2 d .no = .no := (rfl)
def kL1 (T : Tab) (cf : Nat → List D → Sto → R D) (as : Es) (ρ : Rho) (r : R D) : R (List D) := r.bind fun x st => kL2 x (evL T cf as ρ st)
@[simp] theorem kL1_ok {as : Es} {ρ : Rho} {x : D} {st : Sto} : kL1 T cf as ρ (.ok x st) = kL2 x (evL T cf as ρ st) := (rfl)
@[simp] theorem kL1_er {as : Es} {ρ : Rho} {x : Xn} {st : Sto} : kL1 T cf as ρ (.er x st) = .er x st := (rfl)
@[simp] theorem kL1_no {as : Es} {ρ : Rho} : kL1 T cf as ρ .no = .no := (rfl)
@[simp] theorem evL_nil  : evL T cf .nil ρ st = .ok [] st := (rfl)
@[simp] theorem evL_cons {a : E} {as : Es} : evL T cf (.cons a as) ρ st = kL1 T cf as ρ (bor a ρ st (evE T cf a ρ st)) := (rfl)
def kevIseq  (r : R D) : R (List (List D)) := r.bind fun x st => R.of ((seqOf x).map fun ds => ds.map fun x => [x]) st
@[simp] theorem kevIseq_ok  {x : D} {st : Sto} : kevIseq  (.ok x st) = R.of ((seqOf x).map fun ds => ds.map fun x => [x]) st := (rfl)
@[simp] theorem kevIseq_er  {x : Xn} {st : Sto} : kevIseq  (.er x st) = .er x st := (rfl)
@[simp] theorem kevIseq_no  : kevIseq  .no = .no := (rfl)
@[simp] theorem evI_seq {a : E} : evI T cf (.seq a) ρ st = kevIseq (evE T cf a ρ st) := (rfl)
def kevIrev  (r : R D) : R (List (List D)) := r.bind fun x st => R.of ((seqOf x).map fun ds => ds.reverse.map fun x => [x]) st
@[simp] theorem kevIrev_ok  {x : D} {st : Sto} : kevIrev  (.ok x st) = R.of ((seqOf x).map fun ds => ds.reverse.map fun x => [x]) st := (rfl)
@[simp] theorem kevIrev_er  {x : Xn} {st : Sto} : kevIrev  (.er x st) = .er x st := (rfl)
@[simp] theorem kevIrev_no  : kevIrev  .no = .no := (rfl)
@[simp] theorem evI_rev {a : E} : evI T cf (.rev a) ρ st = kevIrev (evE T cf a ρ st) := (rfl)
def kevIrng  (r : R (List D)) : R (List (List D)) := r.bind fun x st => R.of ((rngI x).map fun ns => ns.map fun n => [.int n]) st
@[simp] theorem kevIrng_ok  {x : List D} {st : Sto} : kevIrng  (.ok x st) = R.of ((rngI x).map fun ns => ns.map fun n => [.int n]) st := (rfl)
@[simp] theorem kevIrng_er  {x : Xn} {st : Sto} : kevIrng  (.er x st) = .er x st := (rfl)
@[simp] theorem kevIrng_no  : kevIrng  .no = .no := (rfl)
@[simp] theorem evI_rng {as : Es} : evI T cf (.rng as) ρ st = kevIrng (evA T cf as ρ st) := (rfl)
def kevIenum  (r : R D) : R (List (List D)) := r.bind fun x st => R.of ((seqOf x).map (enumD 0)) st
@[simp] theorem kevIenum_ok  {x : D} {st : Sto} : kevIenum  (.ok x st) = R.of ((seqOf x).map (enumD 0)) st := (rfl)
@[simp] theorem kevIenum_er  {x : Xn} {st : Sto} : kevIenum  (.er x st) = .er x st := (rfl)
@[simp] theorem kevIenum_no  : kevIenum  .no = .no := (rfl)
@[simp] theorem evI_enum {a : E} : evI T cf (.enum a) ρ st = kevIenum (evE T cf a ρ st) := (rfl)
def kevIzip2 (d : D) (r : R D) : R (List (List D)) := r.bind fun x st => R.of ((seqOf d).bind fun ds => (seqOf x).map fun es => zipD ds es) st
@[simp] theorem kevIzip2_ok {d : D} {x : D} {st : Sto} : kevIzip2 d (.ok x st) = R.of ((seqOf d).bind fun ds => (seqOf x).map fun es => zipD ds es) st := (rfl)
@[simp] theorem kevIzip2_er {d : D} {x : Xn} {st : Sto} : kevIzip2 d (.er x st) = .er x st := (rfl)
@[simp] theorem kevIzip2_no {d : D} : kevIzip2 d .no = .no := (rfl)
def kevIzip1 (T : Tab) (cf : Nat → List D → Sto → R D) (b : E) (ρ : Rho) (r : R D) : R (List (List D)) := r.bind fun x st => kevIzip2 x (evE T cf b ρ st)
@[simp] theorem kevIzip1_ok {b : E} {ρ : Rho} {x : D} {st : Sto} : kevIzip1 T cf b ρ (.ok x st) = kevIzip2 x (evE T cf b ρ st) := (rfl)
@[simp] theorem kevIzip1_er {b : E} {ρ : Rho} {x : Xn} {st : Sto} : kevIzip1 T cf b ρ (.er x st) = .er x st := (rfl)
@[simp] theorem kevIzip1_no {b : E} {ρ : Rho} : kevIzip1 T cf b ρ .no = .no := (rfl)
@[simp] theorem evI_zip {a b : E} : evI T cf (.zip a b) ρ st = kevIzip1 T cf b ρ (evE T cf a ρ st) := (rfl)
def kSeq (T : Tab) (cf : Nat → List D → Sto → R D) (b : S) (r : F) : F := r.then fun ρ st => exS T cf b ρ st
@[simp] theorem kSeq_nx {b : S} : kSeq T cf b (.nx ρ st) = exS T cf b ρ st := (rfl)
@[simp] theorem kSeq_rt {b : S} {d : D} : kSeq T cf b (.rt d st) = .rt d st := (rfl)
@[simp] theorem kSeq_bk {b : S} : kSeq T cf b (.bk ρ st) = .bk ρ st := (rfl)
@[simp] theorem kSeq_ct {b : S} : kSeq T cf b (.ct ρ st) = .ct ρ st := (rfl)
@[simp] theorem kSeq_er {b : S} {x : Xn} : kSeq T cf b (.er x ρ st) = .er x ρ st := (rfl)
@[simp] theorem kSeq_no {b : S} : kSeq T cf b .no = .no := (rfl)
@[simp] theorem exS_seq {a b : S} : exS T cf (.seq a b) ρ st = kSeq T cf b (exS T cf a ρ st) := (rfl)
@[simp] theorem exS_skip : exS T cf .skip ρ st = .nx ρ st := (rfl)
@[simp] theorem exS_stuck : exS T cf .stuck ρ st = .no := (rfl)
def kExpr  (ρ : Rho) (r : R D) : F := r.f ρ fun x st => .nx ρ st
@[simp] theorem kExpr_ok  {x : D} {st : Sto} : kExpr  ρ (.ok x st) = .nx ρ st := (rfl)
@[simp] theorem kExpr_er  {x : Xn} {st : Sto} : kExpr  ρ (.er x st) = .er x ρ st := (rfl)
@[simp] theorem kExpr_no  : kExpr  ρ .no = .no := (rfl)
@[simp] theorem exS_expr {a : E} : exS T cf (.expr a) ρ st = kExpr ρ (evE T cf a ρ st) := (rfl)
def kSet (i : Nat) (ρ : Rho) (r : R D) : F := r.f ρ fun x st => .nx (ρ.set i (some (fz x))) st
@[simp] theorem kSet_ok {i : Nat} {x : D} {st : Sto} : kSet i ρ (.ok x st) = .nx (ρ.set i (some (fz x))) st := (rfl)
@[simp] theorem kSet_er {i : Nat} {x : Xn} {st : Sto} : kSet i ρ (.er x st) = .er x ρ st := (rfl)
@[simp] theorem kSet_no {i : Nat} : kSet i ρ .no = .no := (rfl)
@[simp] theorem exS_set {i : Nat} {a : E} : exS T cf (.set i a) ρ st = kSet i ρ (evE T cf a ρ st) := (rfl)
def kOwn2 (i : Nat) (ρ : Rho) (st : Sto) : D → F
  | .own ds => .nx (ρ.set i (some (.own ds))) st
  | _ => .no
@[simp] theorem kOwn2_own {i : Nat} {ds : List D} : kOwn2 i ρ st (.own ds) = .nx (ρ.set i (some (.own ds))) st := (rfl)
def kUnp2 (is : List Nat) (ρ : Rho) (st : Sto) : D → F
  | .tup ds => F.of (setAll ρ is ds) st
  | _ => .no
@[simp] theorem kUnp2_tup {is : List Nat} {ds : List D} : kUnp2 is ρ st (.tup ds) = F.of (setAll ρ is ds) st := (rfl)
def kStF (ρ : Rho) : Option Sto → F
  | some st => .nx ρ st
  | none => .no
@[simp] theorem kStF_some : kStF ρ (some st) = .nx ρ st := (rfl)
def kOwn1 (i : Nat) (ρ : Rho) (r : R D) : F := r.f ρ fun x st => kOwn2 i ρ st x
@[simp] theorem kOwn1_ok {i : Nat} {x : D} {st : Sto} : kOwn1 i ρ (.ok x st) = kOwn2 i ρ st x := (rfl)
@[simp] theorem kOwn1_er {i : Nat} {x : Xn} {st : Sto} : kOwn1 i ρ (.er x st) = .er x ρ st := (rfl)
@[simp] theorem kOwn1_no {i : Nat} : kOwn1 i ρ .no = .no := (rfl)
@[simp] theorem exS_own {i : Nat} {a : E} : exS T cf (.own i a) ρ st = kOwn1 i ρ (evE T cf a ρ st) := (rfl)
def kUnp (is : List Nat) (ρ : Rho) (r : R D) : F := r.f ρ fun x st => kUnp2 is ρ st x
@[simp] theorem kUnp_ok {is : List Nat} {x : D} {st : Sto} : kUnp is ρ (.ok x st) = kUnp2 is ρ st x := (rfl)
@[simp] theorem kUnp_er {is : List Nat} {x : Xn} {st : Sto} : kUnp is ρ (.er x st) = .er x ρ st := (rfl)
@[simp] theorem kUnp_no {is : List Nat} : kUnp is ρ .no = .no := (rfl)
@[simp] theorem exS_unp {is : List Nat} {a : E} : exS T cf (.unp is a) ρ st = kUnp is ρ (evE T cf a ρ st) := (rfl)
def kAug2 (i : Nat) (ρ : Rho) (st : Sto) : Option D → F
  | some d => .nx (ρ.set i (some d)) st
  | none => .no
@[simp] theorem kAug2_some {i : Nat} {d : D} : kAug2 i ρ st (some d) = .nx (ρ.set i (some d)) st := (rfl)
def kAug1 (i : Nat) (o : BO) (d : D) (ρ : Rho) (r : R D) : F := r.f ρ fun x st => kAug2 i ρ st (augD o d x)
@[simp] theorem kAug1_ok {i : Nat} {o : BO} {d : D} {x : D} {st : Sto} : kAug1 i o d ρ (.ok x st) = kAug2 i ρ st (augD o d x) := (rfl)
@[simp] theorem kAug1_er {i : Nat} {o : BO} {d : D} {x : Xn} {st : Sto} : kAug1 i o d ρ (.er x st) = .er x ρ st := (rfl)
@[simp] theorem kAug1_no {i : Nat} {o : BO} {d : D} : kAug1 i o d ρ .no = .no := (rfl)
def kAug0 (T : Tab) (cf : Nat → List D → Sto → R D) (i : Nat) (o : BO) (a : E) (ρ : Rho) (st : Sto) : Option D → F
  | some d => kAug1 i o d ρ (evE T cf a ρ st)
  | none => .no
@[simp] theorem kAug0_some {i : Nat} {o : BO} {a : E} {d : D} : kAug0 T cf i o a ρ st (some d) = kAug1 i o d ρ (evE T cf a ρ st) := (rfl)
@[simp] theorem exS_aug {i : Nat} {o : BO} {a : E} : exS T cf (.aug i o a) ρ st = kAug0 T cf i o a ρ st (rdV ρ i) := (rfl)
theorem exS_insr {x : Nat} {i a : E} {ds : List D} (h : ownAt ρ x = some ds) (l : ds.length < LINE) {k : Int} {st1 st2 : Sto} {d : D} (e1 : evE T cf i ρ st = .ok (.int k) st1) (e2 : evE T cf a ρ st1 = .ok d st2) (hk : 0 ≤ k ∧ k ≤ ds.length) : exS T cf (.insr x i a) ρ st = .nx (ρ.set x (some (.own (insAt ds k.toNat (fz d))))) st2 := by
  show (match ownAt ρ x with
    | some ds => if ds.length < LINE then (evE T cf i ρ st).f ρ fun y st => (evE T cf a ρ st).f ρ fun d st => (match y with
      | .int k => if 0 ≤ k ∧ k ≤ ds.length then F.nx (ρ.set x (some (.own (insAt ds k.toNat (fz d))))) st else .no
      | _ => .no) else .no
    | none => .no) = _
  rw [h]
  simp only [if_pos l, e1, f_ok, e2, if_pos hk]
theorem exS_ownseti {x : Nat} {i v : E} {ds : List D} (h : ownAt ρ x = some ds) {k : Int} {st1 st2 : Sto} {d : D} {j : Nat} (e1 : evE T cf v ρ st = .ok d st1) (e2 : evE T cf i ρ st1 = .ok (.int k) st2) (hk : ixN ds.length k = some j) : exS T cf (.ownseti x i v) ρ st = .nx (ρ.set x (some (.own (ds.set j (fz d))))) st2 := by
  show (match ownAt ρ x with
    | some ds => (evE T cf v ρ st).f ρ fun d st => (evE T cf i ρ st).f ρ fun y st => (match y with
      | .int k => (match ixN ds.length k with
        | some j => F.nx (ρ.set x (some (.own (ds.set j (fz d))))) st
        | none => .no)
      | _ => .no)
    | none => .no) = _
  rw [h]
  simp only [e1, f_ok, e2, hk]
def kSetf (T : Tab) (cf : Nat → List D → Sto → R D) (m : Nat) (ρ : Rho) (r : R D) : F := r.f ρ fun x st => F.of (setfD T m ρ (fz x)) st
@[simp] theorem kSetf_ok {m : Nat} {x : D} {st : Sto} : kSetf T cf m ρ (.ok x st) = F.of (setfD T m ρ (fz x)) st := (rfl)
@[simp] theorem kSetf_er {m : Nat} {x : Xn} {st : Sto} : kSetf T cf m ρ (.er x st) = .er x ρ st := (rfl)
@[simp] theorem kSetf_no {m : Nat} : kSetf T cf m ρ .no = .no := (rfl)
@[simp] theorem exS_setf {m : Nat} {a : E} : exS T cf (.setf m a) ρ st = kSetf T cf m ρ (evE T cf a ρ st) := (rfl)
def kSeti3 (d : D) (z : D) (ρ : Rho) (r : R D) : F := r.f ρ fun x st => kStF ρ (setiD z x (fz d) st)
@[simp] theorem kSeti3_ok {d : D} {z : D} {x : D} {st : Sto} : kSeti3 d z ρ (.ok x st) = kStF ρ (setiD z x (fz d) st) := (rfl)
@[simp] theorem kSeti3_er {d : D} {z : D} {x : Xn} {st : Sto} : kSeti3 d z ρ (.er x st) = .er x ρ st := (rfl)
@[simp] theorem kSeti3_no {d : D} {z : D} : kSeti3 d z ρ .no = .no := (rfl)
def kSeti2 (T : Tab) (cf : Nat → List D → Sto → R D) (d : D) (i : E) (ρ : Rho) (r : R D) : F := r.f ρ fun x st => kSeti3 d x ρ (evE T cf i ρ st)
@[simp] theorem kSeti2_ok {d : D} {i : E} {x : D} {st : Sto} : kSeti2 T cf d i ρ (.ok x st) = kSeti3 d x ρ (evE T cf i ρ st) := (rfl)
@[simp] theorem kSeti2_er {d : D} {i : E} {x : Xn} {st : Sto} : kSeti2 T cf d i ρ (.er x st) = .er x ρ st := (rfl)
@[simp] theorem kSeti2_no {d : D} {i : E} : kSeti2 T cf d i ρ .no = .no := (rfl)
def kSeti1 (T : Tab) (cf : Nat → List D → Sto → R D) (a : E) (i : E) (ρ : Rho) (r : R D) : F := r.f ρ fun x st => kSeti2 T cf x i ρ (evE T cf a ρ st)
@[simp] theorem kSeti1_ok {a : E} {i : E} {x : D} {st : Sto} : kSeti1 T cf a i ρ (.ok x st) = kSeti2 T cf x i ρ (evE T cf a ρ st) := (rfl)
@[simp] theorem kSeti1_er {a : E} {i : E} {x : Xn} {st : Sto} : kSeti1 T cf a i ρ (.er x st) = .er x ρ st := (rfl)
@[simp] theorem kSeti1_no {a : E} {i : E} : kSeti1 T cf a i ρ .no = .no := (rfl)
@[simp] theorem exS_seti {a i v : E} : exS T cf (.seti a i v) ρ st = kSeti1 T cf a i ρ (evE T cf v ρ st) := by
  show (evE T cf v ρ st).f ρ _ = _
  cases evE T cf v ρ st with
  | er x st => rfl
  | no => rfl
  | ok d st =>
    show (evE T cf a ρ st).f ρ _ = (evE T cf a ρ st).f ρ _
    cases evE T cf a ρ st with
    | er x st => rfl
    | no => rfl
    | ok x st =>
      show (evE T cf i ρ st).f ρ _ = (evE T cf i ρ st).f ρ _
      cases evE T cf i ρ st with
      | er x st => rfl
      | no => rfl
      | ok y st =>
        show (match setiD x y (fz d) st with | some st => F.nx ρ st | none => .no) = kStF ρ (setiD x y (fz d) st)
        cases setiD x y (fz d) st <;> rfl
def kAppr2 (d : D) (ρ : Rho) (r : R D) : F := r.f ρ fun x st => kStF ρ (apprD d (fz x) st)
@[simp] theorem kAppr2_ok {d : D} {x : D} {st : Sto} : kAppr2 d ρ (.ok x st) = kStF ρ (apprD d (fz x) st) := (rfl)
@[simp] theorem kAppr2_er {d : D} {x : Xn} {st : Sto} : kAppr2 d ρ (.er x st) = .er x ρ st := (rfl)
@[simp] theorem kAppr2_no {d : D} : kAppr2 d ρ .no = .no := (rfl)
def kAppr1 (T : Tab) (cf : Nat → List D → Sto → R D) (v : E) (ρ : Rho) (r : R D) : F := r.f ρ fun x st => if isLR st x then kAppr2 x ρ (evE T cf v ρ st) else .no
@[simp] theorem kAppr1_ok {v : E} {x : D} {st : Sto} : kAppr1 T cf v ρ (.ok x st) = if isLR st x then kAppr2 x ρ (evE T cf v ρ st) else .no := (rfl)
@[simp] theorem kAppr1_er {v : E} {x : Xn} {st : Sto} : kAppr1 T cf v ρ (.er x st) = .er x ρ st := (rfl)
@[simp] theorem kAppr1_no {v : E} : kAppr1 T cf v ρ .no = .no := (rfl)
@[simp] theorem exS_appr {a v : E} : exS T cf (.appr a v) ρ st = kAppr1 T cf v ρ (evE T cf a ρ st) := by
  show (evE T cf a ρ st).f ρ _ = (evE T cf a ρ st).f ρ _
  cases evE T cf a ρ st with
  | er x st => rfl
  | no => rfl
  | ok x st =>
    show (if isLR st x then (evE T cf v ρ st).f ρ _ else F.no) = (if isLR st x then kAppr2 x ρ (evE T cf v ρ st) else .no)
    by_cases h : isLR st x = true
    · rw [if_pos h, if_pos h]
      show (evE T cf v ρ st).f ρ _ = (evE T cf v ρ st).f ρ _
      cases evE T cf v ρ st with
      | er x st => rfl
      | no => rfl
      | ok d st =>
        show (match apprD x (fz d) st with | some st => F.nx ρ st | none => .no) = kStF ρ (apprD x (fz d) st)
        cases apprD x (fz d) st <;> rfl
    · rw [if_neg h, if_neg h]
def kRet  (ρ : Rho) (r : R D) : F := r.f ρ fun x st => .rt x st
@[simp] theorem kRet_ok  {x : D} {st : Sto} : kRet  ρ (.ok x st) = .rt x st := (rfl)
@[simp] theorem kRet_er  {x : Xn} {st : Sto} : kRet  ρ (.er x st) = .er x ρ st := (rfl)
@[simp] theorem kRet_no  : kRet  ρ .no = .no := (rfl)
@[simp] theorem exS_ret {a : E} : exS T cf (.ret a) ρ st = kRet ρ (evE T cf a ρ st) := (rfl)
@[simp] theorem exS_ret0  : exS T cf .ret0 ρ st = .rt .non st := (rfl)
@[simp] theorem exS_brk  : exS T cf .brk ρ st = .bk ρ st := (rfl)
@[simp] theorem exS_cnt  : exS T cf .cnt ρ st = .ct ρ st := (rfl)
def kIf (T : Tab) (cf : Nat → List D → Sto → R D) (a : S) (b : S) (ρ : Rho) (r : R Bool) : F := r.f ρ fun x st => if x then exS T cf a ρ st else exS T cf b ρ st
@[simp] theorem kIf_ok {a : S} {b : S} {x : Bool} {st : Sto} : kIf T cf a b ρ (.ok x st) = if x then exS T cf a ρ st else exS T cf b ρ st := (rfl)
@[simp] theorem kIf_er {a : S} {b : S} {x : Xn} {st : Sto} : kIf T cf a b ρ (.er x st) = .er x ρ st := (rfl)
@[simp] theorem kIf_no {a : S} {b : S} : kIf T cf a b ρ .no = .no := (rfl)
@[simp] theorem exS_ifs {t : Tt} {a b : S} : exS T cf (.ifs t a b) ρ st = kIf T cf a b ρ (evT T cf t ρ st) := (rfl)
def kRz (c : Nat) (ρ : Rho) (ds : List D) (st : Sto) : Option Cls → F
  | some C => if raisable C ds then .er ⟨c, ds⟩ ρ st else .no
  | none => .no
@[simp] theorem kRz_some {c : Nat} {ds : List D} {C : Cls} : kRz c ρ ds st (some C) = if raisable C ds then .er ⟨c, ds⟩ ρ st else .no := (rfl)
def kRaise (T : Tab) (cf : Nat → List D → Sto → R D) (c : Nat) (ρ : Rho) (r : R (List D)) : F := r.f ρ fun x st => kRz c ρ x st (T.cls c)
@[simp] theorem kRaise_ok {c : Nat} {x : List D} {st : Sto} : kRaise T cf c ρ (.ok x st) = kRz c ρ x st (T.cls c) := (rfl)
@[simp] theorem kRaise_er {c : Nat} {x : Xn} {st : Sto} : kRaise T cf c ρ (.er x st) = .er x ρ st := (rfl)
@[simp] theorem kRaise_no {c : Nat} : kRaise T cf c ρ .no = .no := (rfl)
@[simp] theorem exS_raise {c : Nat} {as : Es} : exS T cf (.raise c as) ρ st = kRaise T cf c ρ (evA T cf as ρ st) := by
  show (evA T cf as ρ st).f ρ _ = (evA T cf as ρ st).f ρ _
  cases evA T cf as ρ st with
  | ok ds st =>
    show (match T.cls c with | some C => if raisable C ds then F.er ⟨c, ds⟩ ρ st else .no | none => .no) = kRz c ρ ds st (T.cls c)
    cases T.cls c <;> rfl
  | er x st => rfl
  | no => rfl
def kTry (T : Tab) (cf : Nat → List D → Sto → R D) (hs : S) : F → F
  | .er x ρ st => exS.hdS T cf x hs ρ st
  | r => r
@[simp] theorem kTry_nx {hs : S} : kTry T cf hs (.nx ρ st) = .nx ρ st := (rfl)
@[simp] theorem kTry_rt {hs : S} {d : D} : kTry T cf hs (.rt d st) = .rt d st := (rfl)
@[simp] theorem kTry_bk {hs : S} : kTry T cf hs (.bk ρ st) = .bk ρ st := (rfl)
@[simp] theorem kTry_ct {hs : S} : kTry T cf hs (.ct ρ st) = .ct ρ st := (rfl)
@[simp] theorem kTry_er {hs : S} {x : Xn} : kTry T cf hs (.er x ρ st) = exS.hdS T cf x hs ρ st := (rfl)
@[simp] theorem exS_try {b hs : S} : exS T cf (.try_ b hs) ρ st = kTry T cf hs (exS T cf b ρ st) := by
  show (match exS T cf b ρ st with | .er x ρ st => exS.hdS T cf x hs ρ st | r => r) = _
  cases exS T cf b ρ st <;> rfl
@[simp] theorem hdS_hnd {c : Nat} {o : Option Nat} {h r : S} {x : Xn} : exS.hdS T cf x (.hnd c o h r) ρ st = if isErr T x.c then (if under T x.c c then (exS T cf h (setO ρ o (some (.exc x.c x.ds))) st).unset o else exS.hdS T cf x r ρ st) else .no := (rfl)
@[simp] theorem hdS_skip {x : Xn} : exS.hdS T cf x .skip ρ st = .er x ρ st := (rfl)
@[simp] theorem un_nx {o : Option Nat} : (F.nx ρ st).unset o = if (setO ρ o none).all notExc then .nx (setO ρ o none) st else .no := (rfl)
@[simp] theorem un_rt {o : Option Nat} {d : D} : (F.rt d st).unset o = .rt d st := (rfl)
@[simp] theorem setO_none' {d : Option D} : setO ρ none d = ρ := (rfl)
@[simp] theorem setO_some' {i : Nat} {d : Option D} : setO ρ (some i) d = ρ.set i d := (rfl)
@[simp] theorem fin_nx0 : fin T none (.nx ρ st) = .ok .non st := (rfl)
@[simp] theorem fin_rt0 {d : D} : fin T none (.rt d st) = .ok d st := (rfl)
@[simp] theorem fin_er {x : Xn} {i : Option Nat} : fin T i (.er x ρ st) = .er x st := (rfl)
def kFin (c : Nat) (st : Sto) : Option (Option D) → Option Cls → R D
  | some (some (.obj k ds)), some C => if k = c ∧ ds.length = C.fields.length then .ok (.ins c ds) st else .no
  | _, _ => .no
@[simp] theorem kFin_obj {c k : Nat} {ds : List D} {C : Cls} : kFin c st (some (some (.obj k ds))) (some C) = if k = c ∧ ds.length = C.fields.length then .ok (.ins c ds) st else .no := (rfl)
@[simp] theorem fin_nx1 {c : Nat} : fin T (some c) (.nx ρ st) = kFin c st ρ[0]? (T.cls c) := by
  first
    | (unfold fin kFin; split <;> simp_all; done)
    | (unfold fin kFin; split <;> simp_all; split <;> simp_all)

def kFor (T : Tab) (cf : Nat → List D → Sto → R D) (ts : List Nat) (b : S) (ρ : Rho) (r : R (List (List D))) : F := r.f ρ fun dss st => forL (exS T cf b) ts dss ρ st
@[simp] theorem kFor_ok {ts : List Nat} {b : S} {dss : List (List D)} : kFor T cf ts b ρ (.ok dss st) = forL (exS T cf b) ts dss ρ st := (rfl)
@[simp] theorem kFor_er {ts : List Nat} {b : S} {x : Xn} : kFor T cf ts b ρ (.er x st) = .er x ρ st := (rfl)
@[simp] theorem exS_for {ts : List Nat} {src : It} {b : S} : exS T cf (.for_ ts src b) ρ st = kFor T cf ts b ρ (evI T cf src ρ st) := (rfl)
def kForS (T : Tab) (cf : Nat → List D → Sto → R D) (i : Nat) (b : S) (ρ : Rho) (r : R D) : F := r.f ρ fun d st => (match refOf d with
    | some r => (match st[r]? with
      | some (.lst ds) => forRef (exS T cf b) i r 0 (ds.length + 1) ρ st
      | _ => .no)
    | none => (match seqOf d with
      | some ds => forL (exS T cf b) [i] (ds.map fun x => [x]) ρ st
      | none => .no))
theorem kForS_ok {i : Nat} {b : S} {d : D} : kForS T cf i b ρ (.ok d st) = (match refOf d with
    | some r => (match st[r]? with
      | some (.lst ds) => forRef (exS T cf b) i r 0 (ds.length + 1) ρ st
      | _ => .no)
    | none => (match seqOf d with
      | some ds => forL (exS T cf b) [i] (ds.map fun x => [x]) ρ st
      | none => .no)) := (rfl)
theorem kForS_seq {i : Nat} {b : S} {d : D} {ds : List D} (h : seqOf d = some ds) : kForS T cf i b ρ (.ok d st) = forL (exS T cf b) [i] (ds.map fun x => [x]) ρ st := by
  have e : refOf d = none := by cases d <;> first | rfl | (exact absurd h (by simp [seqOf]))
  rw [kForS_ok, e, h]
@[simp] theorem kForS_er {i : Nat} {b : S} {x : Xn} : kForS T cf i b ρ (.er x st) = .er x ρ st := (rfl)
@[simp] theorem kForS_own {i : Nat} {b : S} {ds : List D} : kForS T cf i b ρ (.ok (.own ds) st) = forL (exS T cf b) [i] (ds.map fun x => [x]) ρ st := (rfl)
@[simp] theorem kForS_lst {i : Nat} {b : S} {ds : List D} : kForS T cf i b ρ (.ok (.lst ds) st) = forL (exS T cf b) [i] (ds.map fun x => [x]) ρ st := (rfl)
@[simp] theorem kForS_tup {i : Nat} {b : S} {ds : List D} : kForS T cf i b ρ (.ok (.tup ds) st) = forL (exS T cf b) [i] (ds.map fun x => [x]) ρ st := (rfl)
@[simp] theorem exS_forS {i : Nat} {a : E} {b : S} : exS T cf (.forS i a b) ρ st = kForS T cf i b ρ (evE T cf a ρ st) := (rfl)
@[simp] theorem exS_while {t : Tt} {b : S} : exS T cf (.while_ t b) ρ st = whileL (evT T cf t) (exS T cf b) LINE ρ st := (rfl)
def kApp (x : Nat) (ds : List D) (ρ : Rho) (r : R D) : F := r.f ρ fun d st => .nx (ρ.set x (some (.own (ds ++ [fz d])))) st
@[simp] theorem kApp_ok {x : Nat} {ds : List D} {d : D} : kApp x ds ρ (.ok d st) = .nx (ρ.set x (some (.own (ds ++ [fz d])))) st := (rfl)
@[simp] theorem kApp_er {x : Nat} {ds : List D} {e : Xn} : kApp x ds ρ (.er e st) = .er e ρ st := (rfl)
theorem exS_app {x : Nat} {a : E} {ds : List D} (h : ownAt ρ x = some ds) (l : ds.length < LINE) : exS T cf (.app x a) ρ st = kApp x ds ρ (evE T cf a ρ st) := by
  show (match ownAt ρ x with
    | some ds => if ds.length < LINE then (evE T cf a ρ st).f ρ fun d st => .nx (ρ.set x (some (.own (ds ++ [fz d])))) st else .no
    | none => .no) = _
  rw [h]
  exact if_pos l
theorem exS_retm {i : Nat} {ds : List D} (h : ownAt ρ i = some ds) : exS T cf (.retm i) ρ st = .rt (.own ds) st := by
  show (match ownAt ρ i with
    | some ds => F.rt (.own ds) st
    | none => .no) = _
  rw [h]
theorem forL_inv {b : Rho → Sto → F} {ts : List Nat} (P : Rho → Sto → Prop) : ∀ {dss : List (List D)}, (∀ ds, ds ∈ dss → ∀ ρ st, P ρ st → ∃ ρ1 ρ' st', setAll ρ ts ds = some ρ1 ∧ b ρ1 st = .nx ρ' st' ∧ P ρ' st') → ∀ {ρ : Rho} {st : Sto}, P ρ st → ∃ ρ' st', forL b ts dss ρ st = .nx ρ' st' ∧ P ρ' st'
  | [], _, ρ, st, h => ⟨ρ, st, rfl, h⟩
  | ds :: r, hb, ρ, st, h => by
    obtain ⟨ρ1, ρ', st', h1, h2, h3⟩ := hb ds (List.mem_cons_self ..) ρ st h
    obtain ⟨ρ2, st2, h4, h5⟩ := forL_inv P (dss := r) (fun d hd => hb d (List.mem_cons_of_mem _ hd)) h3
    refine ⟨ρ2, st2, ?_, h5⟩
    unfold forL
    rw [h1]
    simp only [h2]
    exact h4
theorem forL_cons {b : Rho → Sto → F} {ts : List Nat} {ds : List D} {r : List (List D)} {ρ1 ρ2 : Rho} {st2 : Sto} (h1 : setAll ρ ts ds = some ρ1) (h2 : b ρ1 st = .nx ρ2 st2) : forL b ts (ds :: r) ρ st = forL b ts r ρ2 st2 := by
  rw [forL, h1]
  simp only [h2]
theorem forL_nil {b : Rho → Sto → F} {ts : List Nat} : forL b ts [] ρ st = .nx ρ st := by rw [forL]

end
@[simp] theorem ty_beq (a b : TY) : (a == b) = decide (a = b) := (rfl)
@[simp] theorem int_bne (a b : Int) : (a != b) = !decide (a = b) := rfl
end Ev
set_option Elab.async false
set_option linter.all false
/-! Draw: what _law_draw answers (plain Lean). -/
namespace Ev
def drawB : S := (.seq (.ifs (.and (.e (.cmp .eq (.ix (.var 1) (.int 0)) (.int 0))) (.e (.cmp .lt (.ix (.var 1) (.int 1)) (.bi .len (.cons (.var 0) .nil))))) (.seq (.set 3 (.ix (.var 0) (.ix (.var 1) (.int 1)))) (.seq (.seti (.var 1) (.int 1) (.bin .add (.ix (.var 1) (.int 1)) (.int 1))) (.seq (.ifs (.e (.cmp .ge (.var 3) (.bin .pow (.int 10) (.int 18)))) (.seq (.seti (.var 1) (.int 0) (.var 3)) .skip) (.seq (.seti (.var 1) (.int 2) (.bin .mod (.bi .int (.cons (.bin .add (.bin .mul (.ix (.var 1) (.int 2)) (.int 69621)) (.var 3)) .nil)) (.int 2147483647))) .skip)) .skip))) .skip) (.seq (.ifs (.e (.cmp .gt (.ix (.var 1) (.int 0)) (.int 0))) (.seq (.set 4 (.bin .mod (.bi .int (.cons (.ix (.var 1) (.int 0)) .nil)) (.var 2))) (.seq (.seti (.var 1) (.int 0) (.bin .fdv (.ix (.var 1) (.int 0)) (.var 2))) (.seq (.ret (.var 4)) .skip))) .skip) (.seq (.seti (.var 1) (.int 3) (.bin .add (.ix (.var 1) (.int 3)) (.int 1))) (.seq (.seti (.var 1) (.int 2) (.bin .mod (.bi .int (.cons (.bin .add (.bin .add (.bin .mul (.ix (.var 1) (.int 2)) (.int 48271)) (.bin .mul (.ix (.var 1) (.int 3)) (.int 7919))) (.int 30103)) .nil)) (.int 2147483647))) (.seq (.set 5 (.bin .mod (.bi .int (.cons (.bin .mul (.ix (.var 1) (.int 2)) (.bin .add (.bin .fdv (.ix (.var 1) (.int 2)) (.int 1009)) (.int 69621))) .nil)) (.int 2147483647))) (.seq (.ret (.bin .mod (.bin .mod (.bi .int (.cons (.bin .mul (.var 5) (.bin .add (.bin .fdv (.var 5) (.int 2003)) (.int 40692))) .nil)) (.int 2147483399)) (.var 2))) .skip))))))
def drawFn (lv : Nat) : Fn := { np := 3, nl := 6, body := drawB, ini := none, lv := lv }
def st4 (a b c d : Int) : Sto := [.lst [.int a, .int b, .int c, .int d]]
def Draws (s : Sto) : Prop := ∃ a b c d, s = st4 a b c d ∧ 0 ≤ a ∧ 0 ≤ b ∧ 0 ≤ c ∧ c < 2147483647 ∧ 0 ≤ d
section
variable {T : Tab} {cf : Nat → List D → Sto → R D}
theorem mulOk_r {i j : Int} (h : small j = true) : mulOk i j = true := by
  unfold mulOk
  rw [h]
  simp
theorem mulOk_l {i j : Int} (h : small i = true) : mulOk i j = true := by
  unfold mulOk
  rw [h]
  simp
theorem small_of {i : Int} (h1 : -18446744073709551616 < i) (h2 : i < 18446744073709551616) : small i = true := by
  unfold small
  simp [h1, h2]
theorem fmod_lo {a m : Int} (h : 0 < m) : 0 ≤ a.fmod m := Int.fmod_nonneg_of_pos a h
theorem fmod_hi {a m : Int} (h : 0 < m) : a.fmod m < m := Int.fmod_lt_of_pos a h
/-- the second half of the draw -/
def drawT (many a b c d : Int) : Int × Sto :=
  let d1 := d + 1
  let c1 := (c * 48271 + d1 * 7919 + 30103).fmod 2147483647
  let n := (c1 * (c1.fdiv 1009 + 69621)).fmod 2147483647
  (((n * (n.fdiv 2003 + 40692)).fmod 2147483399).fmod many, st4 a b c1 d1)
def drawQ : S := (.seq (.ifs (.e (.cmp .gt (.ix (.var 1) (.int 0)) (.int 0))) (.seq (.set 4 (.bin .mod (.bi .int (.cons (.ix (.var 1) (.int 0)) .nil)) (.var 2))) (.seq (.seti (.var 1) (.int 0) (.bin .fdv (.ix (.var 1) (.int 0)) (.var 2))) (.seq (.ret (.var 4)) .skip))) .skip) (.seq (.seti (.var 1) (.int 3) (.bin .add (.ix (.var 1) (.int 3)) (.int 1))) (.seq (.seti (.var 1) (.int 2) (.bin .mod (.bi .int (.cons (.bin .add (.bin .add (.bin .mul (.ix (.var 1) (.int 2)) (.int 48271)) (.bin .mul (.ix (.var 1) (.int 3)) (.int 7919))) (.int 30103)) .nil)) (.int 2147483647))) (.seq (.set 5 (.bin .mod (.bi .int (.cons (.bin .mul (.ix (.var 1) (.int 2)) (.bin .add (.bin .fdv (.ix (.var 1) (.int 2)) (.int 1009)) (.int 69621))) .nil)) (.int 2147483647))) (.seq (.ret (.bin .mod (.bin .mod (.bi .int (.cons (.bin .mul (.var 5) (.bin .add (.bin .fdv (.var 5) (.int 2003)) (.int 40692))) .nil)) (.int 2147483399)) (.var 2))) .skip)))))
theorem small_lit (n : Nat) (h : n < 18446744073709551616) : small (n : Int) = true := small_of (by omega) (by omega)
theorem drawQ_pos {many a b c d : Int} {x : Option D} {ns : List Int} (ha : 0 < a) (hm : 0 < many) (hm2 : many < 1073741824) :
    exS T cf drawQ [some (.scr ns), some (.ref 0), some (.int many), x, none, none] (st4 a b c d) = .rt (.int (a.fmod many)) (st4 (a.fdiv many) b c d) := by
  have h1 : divOk many = true := by
    unfold divOk
    have : many.natAbs.log2 < 9000 := by
      have h3 : many.natAbs < 2 ^ 30 := by omega
      have := (Nat.log2_lt (by omega)).mpr h3
      omega
    simp [this]
    omega
  have h0 : many ≠ 0 := by omega
  simp [drawQ, st4, binE, binD, cmpE, cmpD, eqF, biE, biD, ixE, atI, ixN, truth, fz, setiD, seqOf, inF, noBl, leafEq, isNon, attrE, fieldD, posOf, clsI, makeE, mis, methE, methOf, nameOf, prop, noEr, asBl, isErr, xatD, xisD, kdOf, kdIs, isInst, isAny, under, raisable, isTxt, setfD, setAll, notExc, slE, strE, negE, rngI, enumD, zipD, ownAt, insAt, pkB, LINE, small, spec, isRel, isEq, isIns, isRow, isLst, rowB, lstS, seqS, kdS, truthS, cmpS, cmpI, cmpG, insC, mayR, mayL, flipC, isKey, keyEq, dGet, dPut, inD, invE, popE, isLR, apprD, ha, h1, h0, fz]
theorem drawQ_zero {many a b c d : Int} {x : Option D} {ns : List Int} (ha : ¬ 0 < a) (hm : 0 < many) (hm2 : many < 1073741824) (hc : 0 ≤ c) (hc2 : c < 2147483647) (hd : 0 ≤ d) :
    exS T cf drawQ [some (.scr ns), some (.ref 0), some (.int many), x, none, none] (st4 a b c d) = .rt (.int (drawT many a b c d).1) (drawT many a b c d).2 := by
  have h0 : many ≠ 0 := by omega
  have m1 : mulOk c 48271 = true := mulOk_r (by decide)
  have m2 : ∀ z, mulOk z 7919 = true := fun z => mulOk_r (by decide)
  have m3 : ∀ z y, mulOk (Int.fmod z 2147483647) y = true := fun z y => mulOk_l (small_of (by have := fmod_lo (a := z) (m := 2147483647) (by decide); omega) (by have := fmod_hi (a := z) (m := 2147483647) (by decide); omega))
  have d1 : divOk 1009 = true := by decide
  have d2 : divOk 2003 = true := by decide
  simp [drawQ, st4, binE, binD, cmpE, cmpD, eqF, biE, biD, ixE, atI, ixN, truth, fz, setiD, seqOf, inF, noBl, leafEq, isNon, attrE, fieldD, posOf, clsI, makeE, mis, methE, methOf, nameOf, prop, noEr, asBl, isErr, xatD, xisD, kdOf, kdIs, isInst, isAny, under, raisable, isTxt, setfD, setAll, notExc, slE, strE, negE, rngI, enumD, zipD, ownAt, insAt, pkB, LINE, small, spec, isRel, isEq, isIns, isRow, isLst, rowB, lstS, seqS, kdS, truthS, cmpS, cmpI, cmpG, insC, mayR, mayL, flipC, isKey, keyEq, dGet, dPut, inD, invE, popE, isLR, apprD, ha, m1, m2, m3, d1, d2, h0, fz, drawT]
def drawH : S := (.ifs (.and (.e (.cmp .eq (.ix (.var 1) (.int 0)) (.int 0))) (.e (.cmp .lt (.ix (.var 1) (.int 1)) (.bi .len (.cons (.var 0) .nil))))) (.seq (.set 3 (.ix (.var 0) (.ix (.var 1) (.int 1)))) (.seq (.seti (.var 1) (.int 1) (.bin .add (.ix (.var 1) (.int 1)) (.int 1))) (.seq (.ifs (.e (.cmp .ge (.var 3) (.bin .pow (.int 10) (.int 18)))) (.seq (.seti (.var 1) (.int 0) (.var 3)) .skip) (.seq (.seti (.var 1) (.int 2) (.bin .mod (.bi .int (.cons (.bin .add (.bin .mul (.ix (.var 1) (.int 2)) (.int 69621)) (.var 3)) .nil)) (.int 2147483647))) .skip)) .skip))) .skip)
theorem drawH_ok {many a b c d : Int} {ns : List Int} (h : 0 ≤ a ∧ 0 ≤ b ∧ 0 ≤ c ∧ c < 2147483647 ∧ 0 ≤ d) :
    ∃ x a' b' c', (0 ≤ a' ∧ 0 ≤ b' ∧ 0 ≤ c' ∧ c' < 2147483647) ∧ exS T cf drawH [some (.scr ns), some (.ref 0), some (.int many), none, none, none] (st4 a b c d) = .nx [some (.scr ns), some (.ref 0), some (.int many), x, none, none] (st4 a' b' c' d) := by
  obtain ⟨h1, h2, h3, h4, h5⟩ := h
  by_cases ha : a = 0
  · by_cases hb : b < (ns.length : Int)
    · subst ha
      have hb' : b.toNat < ns.length := by omega
      by_cases hx : 1000000000000000000 ≤ ns[b.toNat]
      · refine ⟨some (.int ns[b.toNat]), ns[b.toNat], b + 1, c, ⟨by omega, by omega, h3, h4⟩, ?_⟩
        simp [drawH, st4, binE, binD, cmpE, cmpD, eqF, biE, biD, ixE, atI, ixN, truth, fz, setiD, seqOf, inF, noBl, leafEq, isNon, attrE, fieldD, posOf, clsI, makeE, mis, methE, methOf, nameOf, prop, noEr, asBl, isErr, xatD, xisD, kdOf, kdIs, isInst, isAny, under, raisable, isTxt, setfD, setAll, notExc, slE, strE, negE, rngI, enumD, zipD, ownAt, insAt, pkB, LINE, small, spec, isRel, isEq, isIns, isRow, isLst, rowB, lstS, seqS, kdS, truthS, cmpS, cmpI, cmpG, insC, mayR, mayL, flipC, isKey, keyEq, dGet, dPut, inD, invE, popE, isLR, apprD, fz, eqF, hb, h2, hb', small, hx]
      · refine ⟨some (.int ns[b.toNat]), 0, b + 1, (c * 69621 + ns[b.toNat]).fmod 2147483647, ⟨by omega, by omega, fmod_lo (by decide), fmod_hi (by decide)⟩, ?_⟩
        have m1 : mulOk c 69621 = true := mulOk_r (by decide)
        simp [drawH, st4, binE, binD, cmpE, cmpD, eqF, biE, biD, ixE, atI, ixN, truth, fz, setiD, seqOf, inF, noBl, leafEq, isNon, attrE, fieldD, posOf, clsI, makeE, mis, methE, methOf, nameOf, prop, noEr, asBl, isErr, xatD, xisD, kdOf, kdIs, isInst, isAny, under, raisable, isTxt, setfD, setAll, notExc, slE, strE, negE, rngI, enumD, zipD, ownAt, insAt, pkB, LINE, small, spec, isRel, isEq, isIns, isRow, isLst, rowB, lstS, seqS, kdS, truthS, cmpS, cmpI, cmpG, insC, mayR, mayL, flipC, isKey, keyEq, dGet, dPut, inD, invE, popE, isLR, apprD, fz, eqF, hb, h2, hb', small, hx, m1]
    · refine ⟨none, a, b, c, ⟨h1, h2, h3, h4⟩, ?_⟩
      simp [drawH, st4, binE, binD, cmpE, cmpD, eqF, biE, biD, ixE, atI, ixN, truth, fz, setiD, seqOf, inF, noBl, leafEq, isNon, attrE, fieldD, posOf, clsI, makeE, mis, methE, methOf, nameOf, prop, noEr, asBl, isErr, xatD, xisD, kdOf, kdIs, isInst, isAny, under, raisable, isTxt, setfD, setAll, notExc, slE, strE, negE, rngI, enumD, zipD, ownAt, insAt, pkB, LINE, small, spec, isRel, isEq, isIns, isRow, isLst, rowB, lstS, seqS, kdS, truthS, cmpS, cmpI, cmpG, insC, mayR, mayL, flipC, isKey, keyEq, dGet, dPut, inD, invE, popE, isLR, apprD, fz, eqF, hb, ha]
  · refine ⟨none, a, b, c, ⟨h1, h2, h3, h4⟩, ?_⟩
    simp [drawH, st4, binE, binD, cmpE, cmpD, eqF, biE, biD, ixE, atI, ixN, truth, fz, setiD, seqOf, inF, noBl, leafEq, isNon, attrE, fieldD, posOf, clsI, makeE, mis, methE, methOf, nameOf, prop, noEr, asBl, isErr, xatD, xisD, kdOf, kdIs, isInst, isAny, under, raisable, isTxt, setfD, setAll, notExc, slE, strE, negE, rngI, enumD, zipD, ownAt, insAt, pkB, LINE, small, spec, isRel, isEq, isIns, isRow, isLst, rowB, lstS, seqS, kdS, truthS, cmpS, cmpI, cmpG, insC, mayR, mayL, flipC, isKey, keyEq, dGet, dPut, inD, invE, popE, isLR, apprD, fz, eqF, ha]
theorem draw_run {many : Int} {ns : List Int} {s : Sto} (h : Draws s) (hm : 0 < many) (hm2 : many < 1073741824) (lv : Nat) : ∃ n s', 0 ≤ n ∧ n < many ∧ Draws s' ∧ runB T cf (drawFn lv) [.scr ns, .ref 0, .int many] s = .ok (.int n) s' := by
  obtain ⟨a, b, c, d, rfl, h⟩ := h
  obtain ⟨x, a', b', c', ⟨q1, q2, q3, q4⟩, e⟩ := drawH_ok (T := T) (cf := cf) (many := many) (ns := ns) h
  have h5 := h.2.2.2.2
  have key : runB T cf (drawFn lv) [.scr ns, .ref 0, .int many] (st4 a b c d) = fin T none ((exS T cf drawH [some (.scr ns), some (.ref 0), some (.int many), none, none, none] (st4 a b c d)).then fun ρ st => exS T cf drawQ ρ st) := rfl
  rw [key, e]
  by_cases ha : 0 < a'
  · refine ⟨a'.fmod many, st4 (a'.fdiv many) b' c' d, fmod_lo hm, fmod_hi hm, ⟨_, _, _, _, rfl, Int.fdiv_nonneg (by omega) (by omega), q2, q3, q4, h5⟩, ?_⟩
    rw [then_nx, drawQ_pos ha hm hm2]
    rfl
  · refine ⟨(drawT many a' b' c' d).1, (drawT many a' b' c' d).2, fmod_lo hm, fmod_hi hm, ⟨_, _, _, _, rfl, q1, q2, fmod_lo (by decide), fmod_hi (by decide), by omega⟩, ?_⟩
    rw [then_nx, drawQ_zero ha hm hm2 q3 q4 h5]
    rfl
end
end Ev
set_option Elab.async false
set_option linter.all false
/-! LibA: the erased texts (printed by genlib.py). -/
namespace Lib
open Ev
/-! _law_draw -/
def B0 : Ev.S := (.seq (.ifs (.and (.e (.cmp .eq (.ix (.var 1) (.int 0)) (.int 0))) (.e (.cmp .lt (.ix (.var 1) (.int 1)) (.bi .len (.cons (.var 0) .nil))))) (.seq (.set 3 (.ix (.var 0) (.ix (.var 1) (.int 1)))) (.seq (.seti (.var 1) (.int 1) (.bin .add (.ix (.var 1) (.int 1)) (.int 1))) (.seq (.ifs (.e (.cmp .ge (.var 3) (.bin .pow (.int 10) (.int 18)))) (.seq (.seti (.var 1) (.int 0) (.var 3)) .skip) (.seq (.seti (.var 1) (.int 2) (.bin .mod (.bi .int (.cons (.bin .add (.bin .mul (.ix (.var 1) (.int 2)) (.int 69621)) (.var 3)) .nil)) (.int 2147483647))) .skip)) .skip))) .skip) (.seq (.ifs (.e (.cmp .gt (.ix (.var 1) (.int 0)) (.int 0))) (.seq (.set 4 (.bin .mod (.bi .int (.cons (.ix (.var 1) (.int 0)) .nil)) (.var 2))) (.seq (.seti (.var 1) (.int 0) (.bin .fdv (.ix (.var 1) (.int 0)) (.var 2))) (.seq (.ret (.var 4)) .skip))) .skip) (.seq (.seti (.var 1) (.int 3) (.bin .add (.ix (.var 1) (.int 3)) (.int 1))) (.seq (.seti (.var 1) (.int 2) (.bin .mod (.bi .int (.cons (.bin .add (.bin .add (.bin .mul (.ix (.var 1) (.int 2)) (.int 48271)) (.bin .mul (.ix (.var 1) (.int 3)) (.int 7919))) (.int 30103)) .nil)) (.int 2147483647))) (.seq (.set 5 (.bin .mod (.bi .int (.cons (.bin .mul (.ix (.var 1) (.int 2)) (.bin .add (.bin .fdv (.ix (.var 1) (.int 2)) (.int 1009)) (.int 69621))) .nil)) (.int 2147483647))) (.seq (.ret (.bin .mod (.bin .mod (.bi .int (.cons (.bin .mul (.var 5) (.bin .add (.bin .fdv (.var 5) (.int 2003)) (.int 40692))) .nil)) (.int 2147483399)) (.var 2))) .skip))))))
def A0 : Fn := { np := 3, nl := 6, body := B0, ini := none, lv := 4 }
/-! _law_number -/
def B1 : Ev.S := (.seq (.ifs (.e (.cmp .lt (.var 2) (.bin .pow (.int 10) (.int 8)))) (.seq (.ret (.bin .sub (.call 0 (.cons (.var 0) (.cons (.var 1) (.cons (.bin .add (.bin .mul (.int 2) (.var 2)) (.int 1)) .nil)))) (.var 2))) .skip) .skip) (.seq (.set 3 (.int 0)) (.seq (.for_ [4] (.rng (.cons (.int 6) .nil)) (.seq (.set 3 (.bin .add (.bin .mul (.var 3) (.bin .pow (.int 10) (.int 9))) (.call 0 (.cons (.var 0) (.cons (.var 1) (.cons (.bin .pow (.int 10) (.int 9)) .nil)))))) .skip)) (.seq (.ret (.bin .sub (.bin .mod (.bi .int (.cons (.var 3) .nil)) (.bin .add (.bin .mul (.int 2) (.var 2)) (.int 1))) (.var 2))) .skip))))
def A1 : Fn := { np := 3, nl := 5, body := B1, ini := none, lv := 5 }
/-! is_integer -/
def B2 : Ev.S := (.seq (.ret (.and (.isi (.var 0) [.int]) (.not (.isi (.var 0) [.bool])))) .skip)
def A2 : Fn := { np := 1, nl := 1, body := B2, ini := none, lv := 0 }
/-! Share.__init__ -/
def B4 : Ev.S := (.seq (.ifs (.not (.e (.call 2 (.cons (.var 1) .nil)))) (.seq (.raise 2 (.cons (.str [116, 111, 112]) .nil)) .skip) .skip) (.seq (.ifs (.or (.not (.e (.call 2 (.cons (.var 2) .nil)))) (.e (.cmp .eq (.var 2) (.int 0)))) (.seq (.raise 2 (.cons (.str [98, 111, 116, 116, 111, 109]) .nil)) .skip) .skip) (.seq (.set 3 (.bi .gcd (.cons (.var 1) (.cons (.var 2) .nil)))) (.seq (.ifs (.e (.cmp .lt (.var 2) (.int 0))) (.seq (.set 3 (.neg (.var 3))) .skip) .skip) (.seq (.setf 0 (.bin .fdv (.var 1) (.var 3))) (.seq (.setf 1 (.bin .fdv (.var 2) (.var 3))) .skip))))))
def A4 : Fn := { np := 2, nl := 4, body := B4, ini := some 0, lv := 1 }
/-! as_share -/
def B5 : Ev.S := (.seq (.ifs (.e (.isi (.var 0) [(.cls 0)])) (.seq (.ret (.var 0)) .skip) .skip) (.seq (.ifs (.not (.e (.call 2 (.cons (.var 0) .nil)))) (.seq (.raise 3 .nil) .skip) .skip) (.seq (.ret (.make 0 (.cons (.var 0) .nil))) .skip)))
def A5 : Fn := { np := 1, nl := 1, body := B5, ini := none, lv := 2 }
/-! is_number -/
def B6 : Ev.S := (.seq (.ret (.or (.call 2 (.cons (.var 0) .nil)) (.isi (.var 0) [(.cls 0)]))) .skip)
def A6 : Fn := { np := 1, nl := 1, body := B6, ini := none, lv := 2 }
/-! Share.__add__ -/
def B7 : Ev.S := (.seq (.ifs (.not (.e (.call 6 (.cons (.var 1) .nil)))) (.seq .stuck .skip) .skip) (.seq (.set 2 (.call 5 (.cons (.var 1) .nil))) (.seq (.ret (.make 0 (.cons (.bin .add (.bin .mul (.attr (.var 0) 0) (.attr (.var 2) 1)) (.bin .mul (.attr (.var 2) 0) (.attr (.var 0) 1))) (.cons (.bin .mul (.attr (.var 0) 1) (.attr (.var 2) 1)) .nil)))) .skip)))
def A7 : Fn := { np := 2, nl := 3, body := B7, ini := none, lv := 3 }
/-! Share.__radd__ -/
def B8 : Ev.S := (.seq (.ifs (.not (.e (.call 2 (.cons (.var 1) .nil)))) (.seq .stuck .skip) .skip) (.seq (.ret (.make 0 (.cons (.bin .add (.attr (.var 0) 0) (.bin .mul (.var 1) (.attr (.var 0) 1))) (.cons (.attr (.var 0) 1) .nil)))) .skip))
def A8 : Fn := { np := 2, nl := 2, body := B8, ini := none, lv := 2 }
/-! Share.__sub__ -/
def B9 : Ev.S := (.seq (.ifs (.not (.e (.call 6 (.cons (.var 1) .nil)))) (.seq .stuck .skip) .skip) (.seq (.set 2 (.call 5 (.cons (.var 1) .nil))) (.seq (.ret (.make 0 (.cons (.bin .sub (.bin .mul (.attr (.var 0) 0) (.attr (.var 2) 1)) (.bin .mul (.attr (.var 2) 0) (.attr (.var 0) 1))) (.cons (.bin .mul (.attr (.var 0) 1) (.attr (.var 2) 1)) .nil)))) .skip)))
def A9 : Fn := { np := 2, nl := 3, body := B9, ini := none, lv := 3 }
/-! Share.__rsub__ -/
def B10 : Ev.S := (.seq (.ifs (.not (.e (.call 2 (.cons (.var 1) .nil)))) (.seq .stuck .skip) .skip) (.seq (.ret (.make 0 (.cons (.bin .sub (.bin .mul (.var 1) (.attr (.var 0) 1)) (.attr (.var 0) 0)) (.cons (.attr (.var 0) 1) .nil)))) .skip))
def A10 : Fn := { np := 2, nl := 2, body := B10, ini := none, lv := 2 }
/-! Share.__mul__ -/
def B11 : Ev.S := (.seq (.ifs (.not (.e (.call 6 (.cons (.var 1) .nil)))) (.seq .stuck .skip) .skip) (.seq (.set 2 (.call 5 (.cons (.var 1) .nil))) (.seq (.ret (.make 0 (.cons (.bin .mul (.attr (.var 0) 0) (.attr (.var 2) 0)) (.cons (.bin .mul (.attr (.var 0) 1) (.attr (.var 2) 1)) .nil)))) .skip)))
def A11 : Fn := { np := 2, nl := 3, body := B11, ini := none, lv := 3 }
/-! Share.__rmul__ -/
def B12 : Ev.S := (.seq (.ifs (.not (.e (.call 2 (.cons (.var 1) .nil)))) (.seq .stuck .skip) .skip) (.seq (.ret (.make 0 (.cons (.bin .mul (.attr (.var 0) 0) (.var 1)) (.cons (.attr (.var 0) 1) .nil)))) .skip))
def A12 : Fn := { np := 2, nl := 2, body := B12, ini := none, lv := 2 }
/-! floor_quotient -/
def B13 : Ev.S := (.seq (.ifs (.e (.cmp .eq (.attr (.var 1) 0) (.int 0))) (.seq (.raise 4 .nil) .skip) .skip) (.seq (.ret (.bin .fdv (.bin .mul (.attr (.var 0) 0) (.attr (.var 1) 1)) (.bin .mul (.attr (.var 0) 1) (.attr (.var 1) 0)))) .skip))
def A13 : Fn := { np := 2, nl := 2, body := B13, ini := none, lv := 0 }
/-! Share.__floordiv__ -/
def B14 : Ev.S := (.seq (.ifs (.not (.e (.call 6 (.cons (.var 1) .nil)))) (.seq .stuck .skip) .skip) (.seq (.ret (.call 13 (.cons (.var 0) (.cons (.call 5 (.cons (.var 1) .nil)) .nil)))) .skip))
def A14 : Fn := { np := 2, nl := 2, body := B14, ini := none, lv := 3 }
/-! Share.__rfloordiv__ -/
def B15 : Ev.S := (.seq (.ifs (.not (.e (.call 2 (.cons (.var 1) .nil)))) (.seq .stuck .skip) .skip) (.seq (.ret (.call 13 (.cons (.make 0 (.cons (.var 1) .nil)) (.cons (.var 0) .nil)))) .skip))
def A15 : Fn := { np := 2, nl := 2, body := B15, ini := none, lv := 2 }
/-! remainder -/
def B16 : Ev.S := (.seq (.set 2 (.call 13 (.cons (.var 0) (.cons (.var 1) .nil)))) (.seq (.ret (.make 0 (.cons (.bin .sub (.bin .mul (.attr (.var 0) 0) (.attr (.var 1) 1)) (.bin .mul (.bin .mul (.var 2) (.attr (.var 1) 0)) (.attr (.var 0) 1))) (.cons (.bin .mul (.attr (.var 0) 1) (.attr (.var 1) 1)) .nil)))) .skip))
def A16 : Fn := { np := 2, nl := 3, body := B16, ini := none, lv := 2 }
/-! Share.__mod__ -/
def B17 : Ev.S := (.seq (.ifs (.not (.e (.call 6 (.cons (.var 1) .nil)))) (.seq .stuck .skip) .skip) (.seq (.ret (.call 16 (.cons (.var 0) (.cons (.call 5 (.cons (.var 1) .nil)) .nil)))) .skip))
def A17 : Fn := { np := 2, nl := 2, body := B17, ini := none, lv := 3 }
/-! Share.__rmod__ -/
def B18 : Ev.S := (.seq (.ifs (.not (.e (.call 2 (.cons (.var 1) .nil)))) (.seq .stuck .skip) .skip) (.seq (.ret (.call 16 (.cons (.make 0 (.cons (.var 1) .nil)) (.cons (.var 0) .nil)))) .skip))
def A18 : Fn := { np := 2, nl := 2, body := B18, ini := none, lv := 3 }
/-! Share.__neg__ -/
def B19 : Ev.S := (.seq (.ret (.make 0 (.cons (.neg (.attr (.var 0) 0)) (.cons (.attr (.var 0) 1) .nil)))) .skip)
def A19 : Fn := { np := 1, nl := 1, body := B19, ini := none, lv := 2 }
/-! Share.__abs__ -/
def B20 : Ev.S := (.seq (.ifs (.e (.cmp .lt (.attr (.var 0) 0) (.int 0))) (.seq (.ret (.make 0 (.cons (.neg (.attr (.var 0) 0)) (.cons (.attr (.var 0) 1) .nil)))) .skip) .skip) (.seq (.ret (.make 0 (.cons (.attr (.var 0) 0) (.cons (.attr (.var 0) 1) .nil)))) .skip))
def A20 : Fn := { np := 1, nl := 1, body := B20, ini := none, lv := 2 }
/-! Share.__eq__ -/
def B21 : Ev.S := (.seq (.ifs (.e (.isi (.var 1) [(.cls 0)])) (.seq (.ret (.and (.cmp .eq (.attr (.var 0) 0) (.attr (.var 1) 0)) (.cmp .eq (.attr (.var 0) 1) (.attr (.var 1) 1)))) .skip) .skip) (.seq (.ifs (.e (.call 2 (.cons (.var 1) .nil))) (.seq (.ret (.and (.cmp .eq (.attr (.var 0) 1) (.int 1)) (.cmp .eq (.attr (.var 0) 0) (.var 1)))) .skip) .skip) (.seq (.ret (.bl false)) .skip)))
def A21 : Fn := { np := 2, nl := 2, body := B21, ini := none, lv := 2 }
/-! compare -/
def B22 : Ev.S := (.seq (.ret (.bin .sub (.bin .mul (.attr (.var 0) 0) (.attr (.var 1) 1)) (.bin .mul (.attr (.var 1) 0) (.attr (.var 0) 1)))) .skip)
def A22 : Fn := { np := 2, nl := 2, body := B22, ini := none, lv := 0 }
/-! Share.__lt__ -/
def B23 : Ev.S := (.seq (.ifs (.not (.e (.call 6 (.cons (.var 1) .nil)))) (.seq .stuck .skip) .skip) (.seq (.ret (.cmp .lt (.call 22 (.cons (.var 0) (.cons (.call 5 (.cons (.var 1) .nil)) .nil))) (.int 0))) .skip))
def A23 : Fn := { np := 2, nl := 2, body := B23, ini := none, lv := 3 }
/-! Share.__le__ -/
def B24 : Ev.S := (.seq (.ifs (.not (.e (.call 6 (.cons (.var 1) .nil)))) (.seq .stuck .skip) .skip) (.seq (.ret (.cmp .le (.call 22 (.cons (.var 0) (.cons (.call 5 (.cons (.var 1) .nil)) .nil))) (.int 0))) .skip))
def A24 : Fn := { np := 2, nl := 2, body := B24, ini := none, lv := 3 }
/-! Share.__gt__ -/
def B25 : Ev.S := (.seq (.ifs (.not (.e (.call 6 (.cons (.var 1) .nil)))) (.seq .stuck .skip) .skip) (.seq (.ret (.cmp .gt (.call 22 (.cons (.var 0) (.cons (.call 5 (.cons (.var 1) .nil)) .nil))) (.int 0))) .skip))
def A25 : Fn := { np := 2, nl := 2, body := B25, ini := none, lv := 3 }
/-! Share.__ge__ -/
def B26 : Ev.S := (.seq (.ifs (.not (.e (.call 6 (.cons (.var 1) .nil)))) (.seq .stuck .skip) .skip) (.seq (.ret (.cmp .ge (.call 22 (.cons (.var 0) (.cons (.call 5 (.cons (.var 1) .nil)) .nil))) (.int 0))) .skip))
def A26 : Fn := { np := 2, nl := 2, body := B26, ini := none, lv := 3 }
/-! Share.__str__ -/
def B27 : Ev.S := (.seq (.ifs (.e (.cmp .eq (.attr (.var 0) 1) (.int 1))) (.seq (.ret (.bi .str (.cons (.attr (.var 0) 0) .nil))) .skip) .skip) (.seq (.ret (.fst (.cons (.attr (.var 0) 0) (.cons (.str [47]) (.cons (.attr (.var 0) 1) .nil))))) .skip))
def A27 : Fn := { np := 1, nl := 1, body := B27, ini := none, lv := 0 }
/-! _law_is_integer -/
def B28 : Ev.S := (.seq (.ret (.and (.isi (.var 0) [.int]) (.not (.isi (.var 0) [.bool])))) .skip)
def A28 : Fn := { np := 1, nl := 1, body := B28, ini := none, lv := 4 }
/-! _law_is_share -/
def B29 : Ev.S := (.seq (.ifs (.not (.e (.isi (.var 0) [(.cls 0)]))) (.seq (.ret (.bl false)) .skip) .skip) (.seq (.ifs (.or (.not (.e (.call 28 (.cons (.attr (.var 0) 0) .nil)))) (.or (.not (.e (.call 28 (.cons (.attr (.var 0) 1) .nil)))) (.e (.cmp .lt (.attr (.var 0) 1) (.int 1))))) (.seq (.ret (.bl false)) .skip) .skip) (.seq (.ret (.cmp .eq (.bin .mul (.attr (.var 0) 0) (.var 2)) (.bin .mul (.var 1) (.attr (.var 0) 1)))) .skip)))
def A29 : Fn := { np := 3, nl := 3, body := B29, ini := none, lv := 5 }
/-! law -/
def B30 : Ev.S := (.seq (.set 1 (.sto (.lst (.cons (.int 0) (.cons (.int 0) (.cons (.int 0) (.cons (.int 0) .nil))))))) (.seq (.set 2 (.ix (.frz (.lst (.cons (.int 9) (.cons (.bin .pow (.int 10) (.int 40)) .nil)))) (.call 0 (.cons (.var 0) (.cons (.var 1) (.cons (.int 2) .nil)))))) (.seq (.set 3 (.call 1 (.cons (.var 0) (.cons (.var 1) (.cons (.var 2) .nil))))) (.seq (.set 4 (.bin .add (.int 1) (.bi .abs (.cons (.call 1 (.cons (.var 0) (.cons (.var 1) (.cons (.var 2) .nil)))) .nil)))) (.seq (.set 5 (.call 1 (.cons (.var 0) (.cons (.var 1) (.cons (.var 2) .nil))))) (.seq (.set 6 (.bin .add (.int 1) (.bi .abs (.cons (.call 1 (.cons (.var 0) (.cons (.var 1) (.cons (.var 2) .nil)))) .nil)))) (.seq (.set 7 (.call 1 (.cons (.var 0) (.cons (.var 1) (.cons (.var 2) .nil))))) (.seq (.set 8 (.make 0 (.cons (.var 3) (.cons (.var 4) .nil)))) (.seq (.set 9 (.make 0 (.cons (.var 5) (.cons (.var 6) .nil)))) (.seq (.ifs (.not (.e (.call 29 (.cons (.bin .add (.var 8) (.var 9)) (.cons (.bin .add (.bin .mul (.var 3) (.var 6)) (.bin .mul (.var 5) (.var 4))) (.cons (.bin .mul (.var 4) (.var 6)) .nil)))))) (.seq (.ret (.bl false)) .skip) .skip) (.seq (.ifs (.not (.e (.call 29 (.cons (.bin .sub (.var 8) (.var 9)) (.cons (.bin .sub (.bin .mul (.var 3) (.var 6)) (.bin .mul (.var 5) (.var 4))) (.cons (.bin .mul (.var 4) (.var 6)) .nil)))))) (.seq (.ret (.bl false)) .skip) .skip) (.seq (.ifs (.not (.e (.call 29 (.cons (.bin .mul (.var 8) (.var 9)) (.cons (.bin .mul (.var 3) (.var 5)) (.cons (.bin .mul (.var 4) (.var 6)) .nil)))))) (.seq (.ret (.bl false)) .skip) .skip) (.seq (.ifs (.or (.not (.e (.call 29 (.cons (.bin .add (.var 8) (.var 7)) (.cons (.bin .add (.var 3) (.bin .mul (.var 7) (.var 4))) (.cons (.var 4) .nil)))))) (.not (.e (.call 29 (.cons (.bin .add (.var 7) (.var 8)) (.cons (.bin .add (.var 3) (.bin .mul (.var 7) (.var 4))) (.cons (.var 4) .nil))))))) (.seq (.ret (.bl false)) .skip) .skip) (.seq (.ifs (.or (.not (.e (.call 29 (.cons (.bin .sub (.var 8) (.var 7)) (.cons (.bin .sub (.var 3) (.bin .mul (.var 7) (.var 4))) (.cons (.var 4) .nil)))))) (.not (.e (.call 29 (.cons (.bin .sub (.var 7) (.var 8)) (.cons (.bin .sub (.bin .mul (.var 7) (.var 4)) (.var 3)) (.cons (.var 4) .nil))))))) (.seq (.ret (.bl false)) .skip) .skip) (.seq (.ifs (.or (.not (.e (.call 29 (.cons (.bin .mul (.var 8) (.var 7)) (.cons (.bin .mul (.var 3) (.var 7)) (.cons (.var 4) .nil)))))) (.not (.e (.call 29 (.cons (.bin .mul (.var 7) (.var 8)) (.cons (.bin .mul (.var 3) (.var 7)) (.cons (.var 4) .nil))))))) (.seq (.ret (.bl false)) .skip) .skip) (.seq (.ifs (.or (.not (.e (.call 29 (.cons (.bin .sub (.var 8) (.var 8)) (.cons (.int 0) (.cons (.int 1) .nil)))))) (.not (.e (.call 29 (.cons (.bin .mul (.var 8) (.var 8)) (.cons (.bin .mul (.var 3) (.var 3)) (.cons (.bin .mul (.var 4) (.var 4)) .nil))))))) (.seq (.ret (.bl false)) .skip) .skip) (.seq (.ifs (.or (.not (.e (.call 29 (.cons (.neg (.var 8)) (.cons (.neg (.var 3)) (.cons (.var 4) .nil)))))) (.not (.e (.call 29 (.cons (.bi .abs (.cons (.var 8) .nil)) (.cons (.bi .abs (.cons (.var 3) .nil)) (.cons (.var 4) .nil))))))) (.seq (.ret (.bl false)) .skip) .skip) (.seq (.ret (.and (.call 29 (.cons (.var 8) (.cons (.var 3) (.cons (.var 4) .nil)))) (.call 29 (.cons (.var 9) (.cons (.var 5) (.cons (.var 6) .nil)))))) .skip))))))))))))))))))
def A30 : Fn := { np := 1, nl := 10, body := B30, ini := none, lv := 6 }
/-! _law_common -/
def B31 : Ev.S := (.seq (.set 0 (.bi .abs (.cons (.var 0) .nil))) (.seq (.set 1 (.bi .abs (.cons (.var 1) .nil))) (.seq (.for_ [2] (.rng (.cons (.int 600) .nil)) (.seq (.ifs (.e (.cmp .gt (.var 1) (.int 0))) (.seq (.set 3 (.bin .mod (.bi .int (.cons (.var 0) .nil)) (.var 1))) (.seq (.set 0 (.var 1)) (.seq (.set 1 (.var 3)) .skip))) .skip) .skip)) (.seq (.ret (.var 0)) .skip))))
def A31 : Fn := { np := 2, nl := 4, body := B31, ini := none, lv := 4 }
/-! _law_refused -/
def B32 : Ev.S := (.seq (.try_ (.seq (.expr (.make 0 (.cons (.var 0) (.cons (.var 1) .nil)))) .skip) (.hnd 2 (some 2) (.seq (.ifs (.or (.not (.e (.xis 2 (.cls 1)))) (.not (.e (.xis 2 .verr)))) (.seq (.ret (.str [99, 108, 97, 115, 115])) .skip) .skip) (.seq (.ret (.xat 2 2)) .skip)) .skip)) (.seq (.ret (.str [110, 111, 110, 101])) .skip))
def A32 : Fn := { np := 2, nl := 3, body := B32, ini := none, lv := 4 }
/-! _law_odd -/
def B33 : Ev.S := (.seq (.set 2 (.lst (.cons .non (.cons (.str [51]) (.cons (.bl true) (.cons (.bl false) (.cons (.lst (.cons (.int 1) .nil)) (.cons (.tup (.cons (.int 2) .nil)) (.cons (.make 0 (.cons (.int 1) .nil)) .nil))))))))) (.seq (.ret (.ix (.var 2) (.call 0 (.cons (.var 0) (.cons (.var 1) (.cons (.int 7) .nil)))))) .skip))
def A33 : Fn := { np := 2, nl := 3, body := B33, ini := none, lv := 5 }
/-! law -/
def B34 : Ev.S := (.seq (.set 1 (.sto (.lst (.cons (.int 0) (.cons (.int 0) (.cons (.int 0) (.cons (.int 0) .nil))))))) (.seq (.set 2 (.call 0 (.cons (.var 0) (.cons (.var 1) (.cons (.int 8) .nil))))) (.seq (.set 3 (.ix (.frz (.lst (.cons (.int 9) (.cons (.bin .pow (.int 10) (.int 40)) .nil)))) (.call 0 (.cons (.var 0) (.cons (.var 1) (.cons (.int 2) .nil)))))) (.seq (.set 4 (.bin .add (.int 1) (.call 0 (.cons (.var 0) (.cons (.var 1) (.cons (.bin .pow (.int 10) (.int 6)) .nil)))))) (.seq (.set 5 (.bin .mul (.call 1 (.cons (.var 0) (.cons (.var 1) (.cons (.var 3) .nil)))) (.var 4))) (.seq (.set 6 (.bin .mul (.call 1 (.cons (.var 0) (.cons (.var 1) (.cons (.var 3) .nil)))) (.var 4))) (.seq (.ifs (.e (.cmp .eq (.var 2) (.int 1))) (.seq (.ret (.cmp .eq (.call 32 (.cons (.call 33 (.cons (.var 0) (.cons (.var 1) .nil))) (.cons (.var 6) .nil))) (.str [116, 111, 112]))) .skip) .skip) (.seq (.ifs (.e (.cmp .eq (.var 2) (.int 2))) (.seq (.ret (.cmp .eq (.call 32 (.cons (.call 33 (.cons (.var 0) (.cons (.var 1) .nil))) (.cons (.call 33 (.cons (.var 0) (.cons (.var 1) .nil))) .nil))) (.str [116, 111, 112]))) .skip) .skip) (.seq (.ifs (.e (.cmp .eq (.var 2) (.int 3))) (.seq (.ret (.cmp .eq (.call 32 (.cons (.var 5) (.cons (.call 33 (.cons (.var 0) (.cons (.var 1) .nil))) .nil))) (.str [98, 111, 116, 116, 111, 109]))) .skip) .skip) (.seq (.ifs (.or (.e (.cmp .eq (.var 2) (.int 4))) (.e (.cmp .eq (.var 6) (.int 0)))) (.seq (.ret (.and (.cmp .eq (.call 32 (.cons (.var 5) (.cons (.int 0) .nil))) (.str [98, 111, 116, 116, 111, 109])) (.cmp .eq (.call 32 (.cons (.str [51]) (.cons (.int 0) .nil))) (.str [116, 111, 112])))) .skip) .skip) (.seq (.set 7 (.make 0 (.cons (.var 5) (.cons (.var 6) .nil)))) (.seq (.ifs (.or (.not (.e (.call 28 (.cons (.attr (.var 7) 0) .nil)))) (.not (.e (.call 28 (.cons (.attr (.var 7) 1) .nil))))) (.seq (.ret (.bl false)) .skip) .skip) (.seq (.ifs (.or (.e (.cmp .lt (.attr (.var 7) 1) (.int 1))) (.e (.cmp .ne (.bin .mul (.attr (.var 7) 0) (.var 6)) (.bin .mul (.var 5) (.attr (.var 7) 1))))) (.seq (.ret (.bl false)) .skip) .skip) (.seq (.ifs (.e (.cmp .ne (.call 31 (.cons (.attr (.var 7) 0) (.cons (.attr (.var 7) 1) .nil))) (.int 1))) (.seq (.ret (.bl false)) .skip) .skip) (.seq (.ret (.and (.call 29 (.cons (.make 0 (.cons (.var 5) .nil)) (.cons (.var 5) (.cons (.int 1) .nil)))) (.cmp .eq (.attr (.make 0 (.cons (.var 5) .nil)) 1) (.int 1)))) .skip)))))))))))))))
def A34 : Fn := { np := 1, nl := 8, body := B34, ini := none, lv := 6 }
/-! _law_truth -/
def B35 : Ev.S := (.seq (.ifs (.e (.var 1)) (.seq (.ret (.cmp .is_ (.var 0) (.bl true))) .skip) .skip) (.seq (.ret (.cmp .is_ (.var 0) (.bl false))) .skip))
def A35 : Fn := { np := 2, nl := 2, body := B35, ini := none, lv := 4 }
/-! _law_told -/
def B36 : Ev.S := (.seq (.ifs (.or (.not (.e (.call 35 (.cons (.cmp .eq (.var 0) (.var 1)) (.cons (.cmp .eq (.var 2) (.int 0)) .nil))))) (.not (.e (.call 35 (.cons (.cmp .ne (.var 0) (.var 1)) (.cons (.cmp .ne (.var 2) (.int 0)) .nil)))))) (.seq (.ret (.bl false)) .skip) .skip) (.seq (.ifs (.or (.not (.e (.call 35 (.cons (.cmp .lt (.var 0) (.var 1)) (.cons (.cmp .lt (.var 2) (.int 0)) .nil))))) (.not (.e (.call 35 (.cons (.cmp .le (.var 0) (.var 1)) (.cons (.cmp .le (.var 2) (.int 0)) .nil)))))) (.seq (.ret (.bl false)) .skip) .skip) (.seq (.ret (.and (.call 35 (.cons (.cmp .gt (.var 0) (.var 1)) (.cons (.cmp .gt (.var 2) (.int 0)) .nil))) (.call 35 (.cons (.cmp .ge (.var 0) (.var 1)) (.cons (.cmp .ge (.var 2) (.int 0)) .nil))))) .skip)))
def A36 : Fn := { np := 3, nl := 3, body := B36, ini := none, lv := 5 }
/-! law -/
def B37 : Ev.S := (.seq (.set 1 (.sto (.lst (.cons (.int 0) (.cons (.int 0) (.cons (.int 0) (.cons (.int 0) .nil))))))) (.seq (.set 2 (.call 0 (.cons (.var 0) (.cons (.var 1) (.cons (.int 4) .nil))))) (.seq (.set 3 (.ix (.frz (.lst (.cons (.int 9) (.cons (.bin .pow (.int 10) (.int 40)) .nil)))) (.call 0 (.cons (.var 0) (.cons (.var 1) (.cons (.int 2) .nil)))))) (.seq (.set 4 (.call 1 (.cons (.var 0) (.cons (.var 1) (.cons (.var 3) .nil))))) (.seq (.set 5 (.bin .add (.int 1) (.bi .abs (.cons (.call 1 (.cons (.var 0) (.cons (.var 1) (.cons (.var 3) .nil)))) .nil)))) (.seq (.set 6 (.call 1 (.cons (.var 0) (.cons (.var 1) (.cons (.var 3) .nil))))) (.seq (.set 7 (.bin .add (.int 1) (.bi .abs (.cons (.call 1 (.cons (.var 0) (.cons (.var 1) (.cons (.var 3) .nil)))) .nil)))) (.seq (.set 8 (.call 1 (.cons (.var 0) (.cons (.var 1) (.cons (.var 3) .nil))))) (.seq (.ifs (.e (.cmp .eq (.var 2) (.int 1))) (.seq (.set 6 (.bin .mul (.var 4) (.var 7))) (.seq (.set 7 (.bin .mul (.var 5) (.var 7))) .skip)) .skip) (.seq (.ifs (.e (.cmp .eq (.var 2) (.int 2))) (.seq (.set 6 (.bin .add (.bin .mul (.var 4) (.var 7)) (.int 1))) (.seq (.set 7 (.bin .mul (.var 5) (.var 7))) .skip)) .skip) (.seq (.ifs (.e (.cmp .gt (.var 2) (.int 1))) (.seq (.set 8 (.bin .fdv (.var 4) (.var 5))) .skip) .skip) (.seq (.set 9 (.make 0 (.cons (.var 4) (.cons (.var 5) .nil)))) (.seq (.set 10 (.make 0 (.cons (.var 6) (.cons (.var 7) .nil)))) (.seq (.ifs (.or (.not (.e (.call 36 (.cons (.var 9) (.cons (.var 10) (.cons (.bin .sub (.bin .mul (.var 4) (.var 7)) (.bin .mul (.var 6) (.var 5))) .nil)))))) (.not (.e (.call 36 (.cons (.var 10) (.cons (.var 9) (.cons (.bin .sub (.bin .mul (.var 6) (.var 5)) (.bin .mul (.var 4) (.var 7))) .nil))))))) (.seq (.ret (.bl false)) .skip) .skip) (.seq (.ifs (.or (.not (.e (.call 36 (.cons (.var 9) (.cons (.var 8) (.cons (.bin .sub (.var 4) (.bin .mul (.var 8) (.var 5))) .nil)))))) (.not (.e (.call 36 (.cons (.var 8) (.cons (.var 9) (.cons (.bin .sub (.bin .mul (.var 8) (.var 5)) (.var 4)) .nil))))))) (.seq (.ret (.bl false)) .skip) .skip) (.seq (.forS 11 (.lst (.cons (.str [49]) (.cons (.str []) (.cons .non (.cons (.lst (.cons (.var 4) .nil)) (.cons (.tup (.cons (.var 4) (.cons (.var 5) .nil))) (.cons (.lst .nil) .nil))))))) (.seq (.ifs (.or (.not (.e (.call 35 (.cons (.cmp .eq (.var 9) (.var 11)) (.cons (.bl false) .nil))))) (.not (.e (.call 35 (.cons (.cmp .ne (.var 9) (.var 11)) (.cons (.bl true) .nil)))))) (.seq (.ret (.bl false)) .skip) .skip) .skip)) (.seq (.ret (.bl true)) .skip)))))))))))))))))
def A37 : Fn := { np := 1, nl := 12, body := B37, ini := none, lv := 6 }
/-! Share.over -/
def B38 : Ev.S := (.seq (.set 2 (.call 5 (.cons (.var 1) .nil))) (.seq (.ifs (.e (.cmp .eq (.attr (.var 2) 0) (.int 0))) (.seq (.raise 4 .nil) .skip) .skip) (.seq (.ret (.make 0 (.cons (.bin .mul (.attr (.var 0) 0) (.attr (.var 2) 1)) (.cons (.bin .mul (.attr (.var 0) 1) (.attr (.var 2) 0)) .nil)))) .skip)))
def A38 : Fn := { np := 2, nl := 3, body := B38, ini := none, lv := 3 }
/-! _law_zero -/
def B39 : Ev.S := (.seq (.try_ (.seq (.ifs (.e (.cmp .eq (.var 2) (.int 0))) (.seq (.set 3 (.bin .fdv (.var 0) (.var 1))) .skip) (.seq (.ifs (.e (.cmp .eq (.var 2) (.int 1))) (.seq (.set 3 (.bin .mod (.var 0) (.var 1))) .skip) (.seq (.set 3 (.meth 3 (.var 0) (.cons (.var 1) .nil))) .skip)) .skip)) .skip) (.hnd 4 (some 4) (.seq (.ret (.xis 4 (.cls 1))) .skip) .skip)) (.seq (.ret (.bl false)) .skip))
def A39 : Fn := { np := 3, nl := 5, body := B39, ini := none, lv := 4 }
/-! _law_divided -/
def B40 : Ev.S := (.seq (.ifs (.e (.cmp .eq (.var 4) (.int 0))) (.seq (.ret (.and (.call 39 (.cons (.var 0) (.cons (.var 1) (.cons (.int 0) .nil)))) (.call 39 (.cons (.var 0) (.cons (.var 1) (.cons (.int 1) .nil)))))) .skip) .skip) (.seq (.set 6 (.bin .fdv (.var 0) (.var 1))) (.seq (.set 7 (.bin .mod (.var 0) (.var 1))) (.seq (.ifs (.or (.not (.e (.call 28 (.cons (.var 6) .nil)))) (.not (.e (.isi (.var 7) [(.cls 0)])))) (.seq (.ret (.bl false)) .skip) .skip) (.seq (.ifs (.not (.e (.call 29 (.cons (.var 7) (.cons (.bin .sub (.bin .mul (.var 2) (.var 5)) (.bin .mul (.bin .mul (.var 6) (.var 4)) (.var 3))) (.cons (.bin .mul (.var 3) (.var 5)) .nil)))))) (.seq (.ret (.bl false)) .skip) .skip) (.seq (.ifs (.e (.cmp .gt (.var 4) (.int 0))) (.seq (.ret (.and (.cmp .ge (.attr (.var 7) 0) (.int 0)) (.cmp .lt (.bin .mul (.attr (.var 7) 0) (.var 5)) (.bin .mul (.var 4) (.attr (.var 7) 1))))) .skip) .skip) (.seq (.ret (.and (.cmp .le (.attr (.var 7) 0) (.int 0)) (.cmp .gt (.bin .mul (.attr (.var 7) 0) (.var 5)) (.bin .mul (.var 4) (.attr (.var 7) 1))))) .skip)))))))
def A40 : Fn := { np := 6, nl := 8, body := B40, ini := none, lv := 6 }
/-! law -/
def B41 : Ev.S := (.seq (.set 1 (.sto (.lst (.cons (.int 0) (.cons (.int 0) (.cons (.int 0) (.cons (.int 0) .nil))))))) (.seq (.set 2 (.ix (.frz (.lst (.cons (.int 9) (.cons (.bin .pow (.int 10) (.int 40)) .nil)))) (.call 0 (.cons (.var 0) (.cons (.var 1) (.cons (.int 2) .nil)))))) (.seq (.set 3 (.call 1 (.cons (.var 0) (.cons (.var 1) (.cons (.var 2) .nil))))) (.seq (.set 4 (.bin .add (.int 1) (.bi .abs (.cons (.call 1 (.cons (.var 0) (.cons (.var 1) (.cons (.var 2) .nil)))) .nil)))) (.seq (.set 5 (.call 1 (.cons (.var 0) (.cons (.var 1) (.cons (.ix (.frz (.lst (.cons (.int 1) (.cons (.int 9) (.cons (.var 2) .nil))))) (.call 0 (.cons (.var 0) (.cons (.var 1) (.cons (.int 3) .nil))))) .nil))))) (.seq (.set 6 (.bin .add (.int 1) (.bi .abs (.cons (.call 1 (.cons (.var 0) (.cons (.var 1) (.cons (.var 2) .nil)))) .nil)))) (.seq (.set 7 (.call 1 (.cons (.var 0) (.cons (.var 1) (.cons (.ix (.frz (.lst (.cons (.int 1) (.cons (.var 2) .nil)))) (.call 0 (.cons (.var 0) (.cons (.var 1) (.cons (.int 2) .nil))))) .nil))))) (.seq (.set 8 (.make 0 (.cons (.var 3) (.cons (.var 4) .nil)))) (.seq (.set 9 (.make 0 (.cons (.var 5) (.cons (.var 6) .nil)))) (.seq (.ifs (.or (.not (.e (.call 40 (.cons (.var 8) (.cons (.var 9) (.cons (.var 3) (.cons (.var 4) (.cons (.var 5) (.cons (.var 6) .nil))))))))) (.not (.e (.call 40 (.cons (.var 8) (.cons (.var 7) (.cons (.var 3) (.cons (.var 4) (.cons (.var 7) (.cons (.int 1) .nil)))))))))) (.seq (.ret (.bl false)) .skip) .skip) (.seq (.ifs (.not (.e (.call 40 (.cons (.var 7) (.cons (.var 8) (.cons (.var 7) (.cons (.int 1) (.cons (.var 3) (.cons (.var 4) .nil))))))))) (.seq (.ret (.bl false)) .skip) .skip) (.seq (.ifs (.e (.cmp .eq (.var 5) (.int 0))) (.seq (.ret (.and (.call 39 (.cons (.var 8) (.cons (.var 9) (.cons (.int 2) .nil)))) (.call 39 (.cons (.var 8) (.cons (.int 0) (.cons (.int 2) .nil)))))) .skip) .skip) (.seq (.ifs (.and (.e (.cmp .ne (.var 7) (.int 0))) (.not (.e (.call 29 (.cons (.meth 3 (.var 8) (.cons (.var 7) .nil)) (.cons (.var 3) (.cons (.bin .mul (.var 4) (.var 7)) .nil))))))) (.seq (.ret (.bl false)) .skip) .skip) (.seq (.ret (.call 29 (.cons (.meth 3 (.var 8) (.cons (.var 9) .nil)) (.cons (.bin .mul (.var 3) (.var 6)) (.cons (.bin .mul (.var 4) (.var 5)) .nil))))) .skip))))))))))))))
def A41 : Fn := { np := 1, nl := 10, body := B41, ini := none, lv := 7 }
/-! _law_setting -/
def B43 : Ev.S := (.seq (.set 2 (.ix (.frz (.lst (.cons (.str [108, 105, 101, 115]) (.cons (.str [108, 97, 116, 101]) (.cons (.str [108, 97, 116, 101, 108, 105, 101, 115]) (.cons (.str [102, 97, 108, 108, 115]) .nil)))))) (.call 0 (.cons (.var 0) (.cons (.var 1) (.cons (.int 4) .nil)))))) (.seq (.set 3 (.bin .add (.int 2) (.call 0 (.cons (.var 0) (.cons (.var 1) (.cons (.int 8) .nil)))))) (.seq (.ret (.tup (.cons (.var 3) (.cons (.call 0 (.cons (.var 0) (.cons (.var 1) (.cons (.bin .sub (.var 3) (.int 1)) .nil)))) (.cons (.var 2) .nil))))) .skip)))
def A43 : Fn := { np := 2, nl := 4, body := B43, ini := none, lv := 5 }
/-! Setting.__init__ -/
def B45 : Ev.S := (.seq (.ifs (.or (.not (.e (.call 2 (.cons (.var 1) .nil)))) (.not (.e (.chain .le .le (.int 2) (.var 1) (.int 9))))) (.seq (.raise 6 (.cons (.str [104, 111, 117, 115, 101, 115]) .nil)) .skip) .skip) (.seq (.ifs (.or (.not (.e (.isi (.var 3) [.str]))) (.e (.cmp .nin (.var 3) (.con 0)))) (.seq (.raise 6 (.cons (.str [107, 105, 110, 100]) .nil)) .skip) .skip) (.seq (.ifs (.or (.not (.e (.call 2 (.cons (.var 2) .nil)))) (.not (.e (.chain .le .le (.int 0) (.var 2) (.bin .sub (.var 1) (.int 2)))))) (.seq (.raise 6 (.cons (.str [102, 97, 117, 108, 116, 115]) .nil)) .skip) .skip) (.seq (.setf 4 (.var 1)) (.seq (.setf 5 (.var 2)) (.seq (.setf 6 (.var 3)) .skip))))))
def A45 : Fn := { np := 3, nl := 4, body := B45, ini := some 5, lv := 1 }
/-! Setting.__eq__ -/
def B46 : Ev.S := (.seq (.ifs (.not (.e (.isi (.var 1) [(.cls 5)]))) (.seq (.ret (.bl false)) .skip) .skip) (.seq (.ret (.and (.cmp .eq (.attr (.var 0) 6) (.attr (.var 1) 6)) (.and (.cmp .eq (.attr (.var 0) 4) (.attr (.var 1) 4)) (.cmp .eq (.attr (.var 0) 5) (.attr (.var 1) 5))))) .skip))
def A46 : Fn := { np := 2, nl := 2, body := B46, ini := none, lv := 2 }
/-! Setting.__str__ -/
def B47 : Ev.S := (.seq (.ret (.fst (.cons (.attr (.var 0) 6) (.cons (.str [32]) (.cons (.attr (.var 0) 4) (.cons (.str [32]) (.cons (.attr (.var 0) 5) .nil))))))) .skip)
def A47 : Fn := { np := 1, nl := 1, body := B47, ini := none, lv := 0 }
/-! Setting.size -/
def B48 : Ev.S := (.seq (.ifs (.e (.cmp .eq (.attr (.var 0) 6) (.str [102, 97, 108, 108, 115]))) (.seq (.ret .non) .skip) .skip) (.seq (.ifs (.e (.cmp .eq (.attr (.var 0) 6) (.str [108, 105, 101, 115]))) (.seq (.ret (.attr (.var 0) 4)) .skip) .skip) (.seq (.ret (.bin .sub (.attr (.var 0) 4) (.attr (.var 0) 5))) .skip)))
def A48 : Fn := { np := 1, nl := 1, body := B48, ini := none, lv := 0 }
/-! Setting.sizes -/
def B49 : Ev.S := (.seq (.ifs (.e (.cmp .eq (.attr (.var 0) 6) (.str [102, 97, 108, 108, 115]))) (.seq (.ret (.bi .range2 (.cons (.bin .sub (.attr (.var 0) 4) (.attr (.var 0) 5)) (.cons (.bin .add (.attr (.var 0) 4) (.int 1)) .nil)))) .skip) .skip) (.seq (.ret (.lst (.cons (.attr (.var 0) 7) .nil))) .skip))
def A49 : Fn := { np := 1, nl := 1, body := B49, ini := none, lv := 1 }
/-! _law_same_integer -/
def B50 : Ev.S := (.seq (.ret (.and (.isi (.var 0) [.int]) (.and (.not (.isi (.var 0) [.bool])) (.cmp .eq (.var 0) (.var 1))))) .skip)
def A50 : Fn := { np := 2, nl := 2, body := B50, ini := none, lv := 4 }
/-! Setting.true_count -/
def B51 : Ev.S := (.seq (.ifs (.e (.cmp .eq (.attr (.var 0) 6) (.str [108, 97, 116, 101]))) (.seq (.ret (.attr (.var 0) 4)) .skip) .skip) (.seq (.ret (.bin .sub (.attr (.var 0) 4) (.attr (.var 0) 5))) .skip))
def A51 : Fn := { np := 1, nl := 1, body := B51, ini := none, lv := 0 }
/-! _law_sizes -/
def B52 : Ev.S := (.seq (.ifs (.e (.cmp .eq (.ix (.var 0) (.int 2)) (.str [108, 105, 101, 115]))) (.seq (.ret (.lst (.cons (.ix (.var 0) (.int 0)) .nil))) .skip) .skip) (.seq (.ifs (.e (.cmp .eq (.ix (.var 0) (.int 2)) (.str [102, 97, 108, 108, 115]))) (.seq (.ret (.bi .range2 (.cons (.bin .sub (.ix (.var 0) (.int 0)) (.ix (.var 0) (.int 1))) (.cons (.bin .add (.ix (.var 0) (.int 0)) (.int 1)) .nil)))) .skip) .skip) (.seq (.ret (.lst (.cons (.bin .sub (.ix (.var 0) (.int 0)) (.ix (.var 0) (.int 1))) .nil))) .skip)))
def A52 : Fn := { np := 1, nl := 1, body := B52, ini := none, lv := 4 }
/-! Setting.first_kept -/
def B53 : Ev.S := (.seq (.ifs (.e (.cmp .eq (.attr (.var 0) 6) (.str [102, 97, 108, 108, 115]))) (.seq (.ret .non) .skip) .skip) (.seq (.ifs (.e (.cmp .eq (.attr (.var 0) 6) (.str [108, 97, 116, 101]))) (.seq (.ret (.int 0)) .skip) .skip) (.seq (.ret (.attr (.var 0) 5)) .skip)))
def A53 : Fn := { np := 1, nl := 1, body := B53, ini := none, lv := 0 }
/-! Setting.kept -/
def B54 : Ev.S := (.seq (.ifs (.e (.cmp .eq (.attr (.var 0) 6) (.str [102, 97, 108, 108, 115]))) (.seq (.ret .non) .skip) .skip) (.seq (.ifs (.e (.cmp .eq (.attr (.var 0) 6) (.str [108, 97, 116, 101]))) (.seq (.ret (.bin .sub (.attr (.var 0) 4) (.attr (.var 0) 5))) .skip) .skip) (.seq (.ifs (.e (.cmp .eq (.attr (.var 0) 6) (.str [108, 105, 101, 115]))) (.seq (.ret (.bin .sub (.attr (.var 0) 4) (.bin .mul (.int 2) (.attr (.var 0) 5)))) .skip) .skip) (.seq (.ret (.bin .sub (.attr (.var 0) 4) (.bin .mul (.int 3) (.attr (.var 0) 5)))) .skip))))
def A54 : Fn := { np := 1, nl := 1, body := B54, ini := none, lv := 0 }
/-! Setting.reach -/
def B55 : Ev.S := (.seq (.ifs (.e (.cmp .eq (.attr (.var 0) 6) (.str [102, 97, 108, 108, 115]))) (.seq (.ret .non) .skip) .skip) (.seq (.ifs (.e (.cmp .eq (.attr (.var 0) 6) (.str [108, 97, 116, 101, 108, 105, 101, 115]))) (.seq (.ret (.bin .mul (.int 2) (.attr (.var 0) 5))) .skip) .skip) (.seq (.ret (.attr (.var 0) 5)) .skip)))
def A55 : Fn := { np := 1, nl := 1, body := B55, ini := none, lv := 0 }
/-! _law_first -/
def B56 : Ev.S := (.seq (.ifs (.or (.e (.cmp .eq (.ix (.var 0) (.int 2)) (.str [108, 105, 101, 115]))) (.e (.cmp .eq (.ix (.var 0) (.int 2)) (.str [108, 97, 116, 101, 108, 105, 101, 115])))) (.seq (.ret (.ix (.var 0) (.int 1))) .skip) .skip) (.seq (.ret (.int 0)) .skip))
def A56 : Fn := { np := 1, nl := 1, body := B56, ini := none, lv := 4 }
/-! _law_kept -/
def B57 : Ev.S := (.seq (.ifs (.e (.cmp .eq (.ix (.var 0) (.int 2)) (.str [108, 105, 101, 115]))) (.seq (.ret (.bin .sub (.ix (.var 0) (.int 0)) (.bin .mul (.int 2) (.ix (.var 0) (.int 1))))) .skip) .skip) (.seq (.ifs (.e (.cmp .eq (.ix (.var 0) (.int 2)) (.str [108, 97, 116, 101, 108, 105, 101, 115]))) (.seq (.ret (.bin .sub (.ix (.var 0) (.int 0)) (.bin .mul (.int 3) (.ix (.var 0) (.int 1))))) .skip) .skip) (.seq (.ret (.bin .sub (.ix (.var 0) (.int 0)) (.ix (.var 0) (.int 1)))) .skip)))
def A57 : Fn := { np := 1, nl := 1, body := B57, ini := none, lv := 4 }
/-! _law_table -/
def B58 : Ev.S := (.seq (.ifs (.e (.cmp .eq (.ix (.var 1) (.int 2)) (.str [102, 97, 108, 108, 115]))) (.seq (.ifs (.or (.e (.cmp .isn (.attr (.var 0) 7) .non)) (.e (.cmp .isn (.attr (.var 0) 8) .non))) (.seq (.ret (.bl false)) .skip) .skip) (.seq (.ret (.and (.cmp .is_ (.attr (.var 0) 9) .non) (.cmp .is_ (.attr (.var 0) 10) .non))) .skip)) .skip) (.seq (.set 2 (.ix (.var 1) (.int 1))) (.seq (.ifs (.e (.cmp .eq (.ix (.var 1) (.int 2)) (.str [108, 97, 116, 101, 108, 105, 101, 115]))) (.seq (.set 2 (.bin .mul (.int 2) (.ix (.var 1) (.int 1)))) .skip) .skip) (.seq (.ifs (.not (.e (.call 50 (.cons (.attr (.var 0) 7) (.cons (.ix (.call 52 (.cons (.var 1) .nil)) (.int 0)) .nil))))) (.seq (.ret (.bl false)) .skip) .skip) (.seq (.ifs (.not (.e (.call 50 (.cons (.attr (.var 0) 8) (.cons (.call 56 (.cons (.var 1) .nil)) .nil))))) (.seq (.ret (.bl false)) .skip) .skip) (.seq (.ret (.and (.call 50 (.cons (.attr (.var 0) 9) (.cons (.call 57 (.cons (.var 1) .nil)) .nil))) (.call 50 (.cons (.attr (.var 0) 10) (.cons (.var 2) .nil))))) .skip))))))
def A58 : Fn := { np := 2, nl := 3, body := B58, ini := none, lv := 5 }
/-! _law_true_count -/
def B59 : Ev.S := (.seq (.ifs (.e (.cmp .eq (.ix (.var 0) (.int 2)) (.str [108, 97, 116, 101]))) (.seq (.ret (.ix (.var 0) (.int 0))) .skip) .skip) (.seq (.ret (.bin .sub (.ix (.var 0) (.int 0)) (.ix (.var 0) (.int 1)))) .skip))
def A59 : Fn := { np := 1, nl := 1, body := B59, ini := none, lv := 4 }
/-! Setting.can_agree -/
def B60 : Ev.S := (.seq (.ret (.or (.cmp .eq (.attr (.var 0) 6) (.str [102, 97, 108, 108, 115])) (.cmp .ge (.attr (.var 0) 9) (.int 1)))) .skip)
def A60 : Fn := { np := 1, nl := 1, body := B60, ini := none, lv := 1 }
/-! law -/
def B61 : Ev.S := (.seq (.set 1 (.sto (.lst (.cons (.int 0) (.cons (.int 0) (.cons (.int 0) (.cons (.int 0) .nil))))))) (.seq (.set 2 (.call 0 (.cons (.var 0) (.cons (.var 1) (.cons (.int 3) .nil))))) (.seq (.set 3 (.call 43 (.cons (.var 0) (.cons (.var 1) .nil)))) (.seq (.set 4 (.call 43 (.cons (.var 0) (.cons (.var 1) .nil)))) (.seq (.ifs (.e (.cmp .eq (.var 2) (.int 0))) (.seq (.set 4 (.var 3)) .skip) .skip) (.seq (.ifs (.e (.cmp .eq (.var 2) (.int 1))) (.seq (.set 4 (.tup (.cons (.ix (.var 3) (.int 0)) (.cons (.ix (.var 3) (.int 1)) (.cons (.ix (.var 4) (.int 2)) .nil))))) .skip) .skip) (.seq (.set 5 (.make 5 (.cons (.ix (.var 3) (.int 0)) (.cons (.ix (.var 3) (.int 1)) (.cons (.ix (.var 3) (.int 2)) .nil))))) (.seq (.ifs (.or (.not (.e (.call 50 (.cons (.attr (.var 5) 4) (.cons (.ix (.var 3) (.int 0)) .nil))))) (.not (.e (.call 50 (.cons (.attr (.var 5) 5) (.cons (.ix (.var 3) (.int 1)) .nil)))))) (.seq (.ret (.bl false)) .skip) .skip) (.seq (.ifs (.or (.e (.cmp .ne (.attr (.var 5) 6) (.ix (.var 3) (.int 2)))) (.not (.e (.call 58 (.cons (.var 5) (.cons (.var 3) .nil)))))) (.seq (.ret (.bl false)) .skip) .skip) (.seq (.ifs (.not (.e (.call 50 (.cons (.attr (.var 5) 11) (.cons (.call 59 (.cons (.var 3) .nil)) .nil))))) (.seq (.ret (.bl false)) .skip) .skip) (.seq (.own 6 (.meth 12 (.var 5) .nil)) (.seq (.ifs (.or (.not (.e (.isi (.var 6) [.list]))) (.e (.cmp .ne (.var 6) (.call 52 (.cons (.var 3) .nil))))) (.seq (.ret (.bl false)) .skip) .skip) (.seq (.app 6 (.int 0)) (.seq (.ifs (.e (.cmp .ne (.meth 12 (.var 5) .nil) (.call 52 (.cons (.var 3) .nil)))) (.seq (.ret (.bl false)) .skip) .skip) (.seq (.ifs (.not (.e (.call 35 (.cons (.meth 13 (.var 5) .nil) (.cons (.or (.cmp .eq (.ix (.var 3) (.int 2)) (.str [102, 97, 108, 108, 115])) (.cmp .ge (.call 57 (.cons (.var 3) .nil)) (.int 1))) .nil))))) (.seq (.ret (.bl false)) .skip) .skip) (.seq (.set 7 (.bin .add (.bin .add (.bin .add (.bin .add (.ix (.var 3) (.int 2)) (.str [32])) (.bi .str (.cons (.ix (.var 3) (.int 0)) .nil))) (.str [32])) (.bi .str (.cons (.ix (.var 3) (.int 1)) .nil)))) (.seq (.ifs (.e (.cmp .ne (.bi .str (.cons (.var 5) .nil)) (.var 7))) (.seq (.ret (.bl false)) .skip) .skip) (.seq (.set 8 (.make 5 (.cons (.ix (.var 4) (.int 0)) (.cons (.ix (.var 4) (.int 1)) (.cons (.ix (.var 4) (.int 2)) .nil))))) (.seq (.ifs (.or (.not (.e (.call 35 (.cons (.cmp .eq (.var 5) (.var 8)) (.cons (.cmp .eq (.var 3) (.var 4)) .nil))))) (.not (.e (.call 35 (.cons (.cmp .ne (.var 5) (.var 8)) (.cons (.cmp .ne (.var 3) (.var 4)) .nil)))))) (.seq (.ret (.bl false)) .skip) .skip) (.seq (.forS 9 (.lst (.cons (.var 7) (.cons .non (.cons (.var 3) (.cons (.lst (.cons (.ix (.var 3) (.int 0)) (.cons (.ix (.var 3) (.int 1)) .nil))) (.cons (.ix (.var 3) (.int 0)) .nil)))))) (.seq (.ifs (.not (.e (.call 35 (.cons (.cmp .eq (.var 5) (.var 9)) (.cons (.bl false) .nil))))) (.seq (.ret (.bl false)) .skip) .skip) .skip)) (.seq (.ret (.bl true)) .skip)))))))))))))))))))))
def A61 : Fn := { np := 1, nl := 10, body := B61, ini := none, lv := 6 }
end Lib
set_option Elab.async false
set_option linter.all false
/-! Ops: operators on integers, as simp lemmas. -/
namespace Ev
section
variable {T : Tab} {st : Sto} {cf : Nat → List D → Sto → R D} {a b : Int}
@[simp] theorem bin_add : binE T cf .add (.int a) (.int b) st = .ok (.int (a + b)) st := (rfl)
@[simp] theorem bin_sub : binE T cf .sub (.int a) (.int b) st = .ok (.int (a - b)) st := (rfl)
@[simp] theorem bin_mul (h : mulOk a b = true) : binE T cf .mul (.int a) (.int b) st = .ok (.int (a * b)) st := by
  show R.of (binD .mul (.int a) (.int b)) st = _
  simp only [binD, h]
  rfl
@[simp] theorem bin_fdv (h : divOk b = true) : binE T cf .fdv (.int a) (.int b) st = .ok (.int (a.fdiv b)) st := by
  show R.of (binD .fdv (.int a) (.int b)) st = _
  simp only [binD, h]
  rfl
@[simp] theorem bin_mod (h : b ≠ 0) : binE T cf .mod (.int a) (.int b) st = .ok (.int (a.fmod b)) st := by
  show R.of (binD .mod (.int a) (.int b)) st = _
  simp only [binD, if_pos h]
  rfl
theorem bin_pow (h : 0 ≤ b ∧ b ≤ 1000000 ∧ small a = true) : binE T cf .pow (.int a) (.int b) st = .ok (.int (a ^ b.toNat)) st := by
  show R.of (binD .pow (.int a) (.int b)) st = _
  simp only [binD, if_pos h]
  rfl
@[simp] theorem pow10_8 : binE T cf .pow (.int 10) (.int 8) st = .ok (.int 100000000) st := bin_pow (by decide)
@[simp] theorem pow10_9 : binE T cf .pow (.int 10) (.int 9) st = .ok (.int 1000000000) st := bin_pow (by decide)
@[simp] theorem pow10_6 : binE T cf .pow (.int 10) (.int 6) st = .ok (.int 1000000) st := bin_pow (by decide)
@[simp] theorem pow10_18 : binE T cf .pow (.int 10) (.int 18) st = .ok (.int 1000000000000000000) st := bin_pow (by decide)
@[simp] theorem pow10_40 : binE T cf .pow (.int 10) (.int 40) st = .ok (.int 10000000000000000000000000000000000000000) st := bin_pow (by decide)
@[simp] theorem pow10_20 : binE T cf .pow (.int 10) (.int 20) st = .ok (.int 100000000000000000000) st := bin_pow (by decide)
@[simp] theorem pow10_98 : binE T cf .pow (.int 10) (.int 98) st = .ok (.int (10 ^ 98)) st := bin_pow (by decide)
@[simp] theorem cmp_eq : cmpE T cf .eq (.int a) (.int b) st = .ok (decide (a = b)) st := (rfl)
@[simp] theorem cmp_ne : cmpE T cf .ne (.int a) (.int b) st = .ok (!decide (a = b)) st := (rfl)
@[simp] theorem cmp_lt : cmpE T cf .lt (.int a) (.int b) st = .ok (decide (a < b)) st := (rfl)
@[simp] theorem cmp_le : cmpE T cf .le (.int a) (.int b) st = .ok (decide (a ≤ b)) st := (rfl)
@[simp] theorem cmp_gt : cmpE T cf .gt (.int a) (.int b) st = .ok (decide (b < a)) st := by
  show R.of (cmpD .gt (.int a) (.int b)) st = _
  simp only [cmpD]
  rfl
@[simp] theorem cmp_ge : cmpE T cf .ge (.int a) (.int b) st = .ok (decide (b ≤ a)) st := by
  show R.of (cmpD .ge (.int a) (.int b)) st = _
  simp only [cmpD]
  rfl
@[simp] theorem cmp_eqs {s t : List Nat} : cmpE T cf .eq (.str s) (.str t) st = .ok (decide (s = t)) st := (rfl)
@[simp] theorem cmp_nes {s t : List Nat} : cmpE T cf .ne (.str s) (.str t) st = .ok (!decide (s = t)) st := (rfl)
@[simp] theorem cmp_isbl {a b : Bool} : cmpE T cf .is_ (.bl a) (.bl b) st = .ok (decide (a = b)) st := (rfl)
@[simp] theorem kdS_int : kdS st (.int a) = some .int := (rfl)
@[simp] theorem kdS_bl {b : Bool} : kdS st (.bl b) = some .bool := (rfl)
@[simp] theorem kdS_str {b : List Nat} : kdS st (.str b) = some .str := (rfl)
@[simp] theorem kdS_non : kdS st .non = some .non := (rfl)
@[simp] theorem kdS_ins {c : Nat} {ds : List D} : kdS st (.ins c ds) = some (.ins c) := (rfl)
@[simp] theorem truthS_bl {b : Bool} : truthS st (.bl b) = some b := (rfl)
@[simp] theorem truth_bl {b : Bool} : truth (.bl b) = some b := (rfl)
@[simp] theorem negE_int : negE T cf (.int a) st = .ok (.int (-a)) st := (rfl)
@[simp] theorem biE_abs : biE T cf .abs [.int a] st = .ok (.int (if a < 0 then -a else a)) st := (rfl)
@[simp] theorem biE_int : biE T cf .int [.int a] st = .ok (.int a) st := (rfl)
end
end Ev
set_option Elab.async false
set_option linter.all false
/-! FinL: laws of settings alone: every setting by the kernel. -/
namespace Fin'
open Ev Lib
def isT : F → Bool
  | .rt (.bl true) _ => true
  | _ => false
theorem isT_of {r : F} (h : isT r = true) : ∃ st, r = .rt (.bl true) st := by
  cases r with
  | rt d st =>
    cases d with
    | bl b =>
      cases b with
      | true => exact ⟨st, rfl⟩
      | false => cases h
    | _ => cases h
  | _ => cases h
def tlS : Ev.S → Nat → Ev.S
  | s, 0 => s
  | .seq _ b, n + 1 => tlS b n
  | s, _ => s
theorem seq_go' {T : Tab} {cf : Nat → List D → Sto → R D} {a b : Ev.S} {ρ ρ' : Rho} {st st' : Sto} {X : F} (h : exS T cf a ρ st = .nx ρ' st') (h2 : exS T cf b ρ' st' = X) : exS T cf (.seq a b) ρ st = X := by
  rw [exS_seq, h, kSeq_nx, h2]
theorem call_of' {T : Tab} {f : Nat} {fn : Fn} (h : T.fn f = some fn) (ds : List D) (st : Sto) : call T f ds st = runB T (tbl T fn.lv) fn ds st := by
  unfold call
  rw [h]
/-- a draw -/
theorem drw {T : Tab} (h0 : T.fn 0 = some A0) (ns : List Int) {s : Sto} (h : Draws s) (m : Int) (hm : 0 < m) (hm2 : m < 1073741824) : ∃ n s', (0 ≤ n ∧ n < m) ∧ Draws s' ∧ call T 0 [.scr ns, .ref 0, .int m] s = .ok (.int n) s' := by
  obtain ⟨n, s', h1, h2, h3, e⟩ := draw_run (T := T) (cf := tbl T 4) (ns := ns) h hm hm2 4
  refine ⟨n, s', ⟨h1, h2⟩, h3, ?_⟩
  rw [call_of' h0]
  exact e
abbrev tup3 (i j : Int) (k : List Nat) : D := .tup [.int i, .int j, .str k]
abbrev kinds : List (List Nat) := [[108, 105, 101, 115], [108, 97, 116, 101], [108, 97, 116, 101, 108, 105, 101, 115], [102, 97, 108, 108, 115]]
/-- every setting -/
def sets : List (Int × Int × List Nat) := (List.range 8).flatMap fun h => (List.range (h + 1)).flatMap fun f => kinds.map fun k => ((2 + h : Nat), (f : Nat), k)
theorem mem_sets {i j : Int} {k : List Nat} (hi : 2 ≤ i ∧ i ≤ 9) (hj : 0 ≤ j ∧ j ≤ i - 2) (hk : k ∈ kinds) : (i, j, k) ∈ sets := by
  unfold sets
  rw [List.mem_flatMap]
  refine ⟨(i - 2).toNat, List.mem_range.mpr (by omega), ?_⟩
  rw [List.mem_flatMap]
  refine ⟨j.toNat, List.mem_range.mpr (by omega), ?_⟩
  rw [List.mem_map]
  refine ⟨k, hk, ?_⟩
  have e1 : ((2 + (i - 2).toNat : Nat) : Int) = i := by omega
  have e2 : ((j.toNat : Nat) : Int) = j := by omega
  rw [e1, e2]
theorem setting {T : Tab} (h0 : T.fn 0 = some A0) (h43 : T.fn 43 = some A43) (ns : List Int) {s : Sto} (h : Draws s) : ∃ (i j : Int) (k : List Nat) (s' : Sto), (i, j, k) ∈ sets ∧ Draws s' ∧ call T 43 [.scr ns, .ref 0] s = .ok (tup3 i j k) s' := by
  have tb : tbl T 5 0 = call T 0 := tbl_eq T h0 (by decide)
  have run : ∀ s, call T 43 [.scr ns, .ref 0] s = fin T none (exS T (tbl T 5) B43 [some (.scr ns), some (.ref 0), none, none] s) := fun s => by
    rw [call_of' h43]
    rfl
  obtain ⟨a, s1, b1, z1, e1⟩ := drw h0 ns h 4 (by decide) (by decide)
  obtain ⟨b, s2, b2, z2, e2⟩ := drw h0 ns z1 8 (by decide) (by decide)
  obtain ⟨c, s3, b3, z3, e3⟩ := drw h0 ns z2 (2 + b - 1) (by omega) (by omega)
  have hc : a = 0 ∨ a = 1 ∨ a = 2 ∨ a = 3 := by omega
  rcases hc with rfl | rfl | rfl | rfl
  · exact ⟨2 + b, c, _, s3, mem_sets (k := [108, 105, 101, 115]) (by omega) (by omega) (by decide), z3, by rw [run]; simp [B43, pkB, truthS, isAny, setfD, setAll, ixE, atI, ixN, noBl, asBl, noEr, xatD, xisD, under, raisable, isErr, LINE, tb, e1, e2, e3, tup3]⟩
  · exact ⟨2 + b, c, _, s3, mem_sets (k := [108, 97, 116, 101]) (by omega) (by omega) (by decide), z3, by rw [run]; simp [B43, pkB, truthS, isAny, setfD, setAll, ixE, atI, ixN, noBl, asBl, noEr, xatD, xisD, under, raisable, isErr, LINE, tb, e1, e2, e3, tup3]⟩
  · exact ⟨2 + b, c, _, s3, mem_sets (k := [108, 97, 116, 101, 108, 105, 101, 115]) (by omega) (by omega) (by decide), z3, by rw [run]; simp [B43, pkB, truthS, isAny, setfD, setAll, ixE, atI, ixN, noBl, asBl, noEr, xatD, xisD, under, raisable, isErr, LINE, tb, e1, e2, e3, tup3]⟩
  · exact ⟨2 + b, c, _, s3, mem_sets (k := [102, 97, 108, 108, 115]) (by omega) (by omega) (by decide), z3, by rw [run]; simp [B43, pkB, truthS, isAny, setfD, setAll, ixE, atI, ixN, noBl, asBl, noEr, xatD, xisD, under, raisable, isErr, LINE, tb, e1, e2, e3, tup3]⟩
theorem st4_draws : Draws (st4 0 0 0 0) := ⟨0, 0, 0, 0, rfl, by decide⟩
theorem st4_sto {T : Tab} {cf : Nat → List D → Sto → R D} {ρ : Rho} : exS T cf (.set 1 (.sto (.lst (.cons (.int 0) (.cons (.int 0) (.cons (.int 0) (.cons (.int 0) .nil))))))) ρ [] = .nx (ρ.set 1 (some (.ref 0))) (st4 0 0 0 0) := by
  simp [pkB, truthS, isAny, setfD, setAll, ixE, atI, ixN, noBl, asBl, noEr, xatD, xisD, under, raisable, isErr, LINE, st4]
end Fin'
set_option Elab.async false
set_option linter.all false
set_option maxRecDepth 100000
set_option maxHeartbeats 0
namespace K61
open PySem PySem.Spec PyProof.Rows L2 Ev Snd
theorem hf_0 : S.fnAt 0 = some F0 := rfl
theorem hf_43 : S.fnAt 43 = some F43 := rfl
theorem hf_44 : S.fnAt 44 = some F44 := rfl
theorem hf_2 : S.fnAt 2 = some F2 := rfl
theorem hf_45 : S.fnAt 45 = some F45 := rfl
theorem hf_46 : S.fnAt 46 = some F46 := rfl
theorem hf_47 : S.fnAt 47 = some F47 := rfl
theorem hf_54 : S.fnAt 54 = some F54 := rfl
theorem hf_83 : S.fnAt 83 = some F83 := rfl
theorem hf_120 : S.fnAt 120 = some F120 := rfl
theorem hf_55 : S.fnAt 55 = some F55 := rfl
theorem hf_87 : S.fnAt 87 = some F87 := rfl
theorem hf_53 : S.fnAt 53 = some F53 := rfl
theorem hf_48 : S.fnAt 48 = some F48 := rfl
theorem hf_121 : S.fnAt 121 = some F121 := rfl
theorem hf_122 : S.fnAt 122 = some F122 := rfl
theorem hf_123 : S.fnAt 123 = some F123 := rfl
theorem hf_57 : S.fnAt 57 = some F57 := rfl
theorem hf_124 : S.fnAt 124 = some F124 := rfl
theorem hf_125 : S.fnAt 125 = some F125 := rfl
theorem hf_126 : S.fnAt 126 = some F126 := rfl
theorem hf_89 : S.fnAt 89 = some F89 := rfl
theorem hf_28 : S.fnAt 28 = some F28 := rfl
theorem hf_52 : S.fnAt 52 = some F52 := rfl
theorem hf_127 : S.fnAt 127 = some F127 := rfl
theorem hf_128 : S.fnAt 128 = some F128 := rfl
theorem hc_5 : S.clAt 5 = some C5 := rfl
theorem hc_1 : S.clAt 1 = some C1 := rfl
theorem hc_6 : S.clAt 6 = some C6 := rfl
theorem hc_11 : S.clAt 11 = some C11 := rfl
theorem im (i : Nat) {x : Str × String} (h : S.imp[i]? = some x := by rfl) : x ∈ S.imp := List.mem_of_getElem? h
theorem fr (i : Nat) {x : Str} (h : S.free[i]? = some x := by rfl) : x ∈ S.free := List.mem_of_getElem? h
theorem hk (i : Nat) {x : Nat} (h : S.caught[i]? = some x := by rfl) : x ∈ S.caught := List.mem_of_getElem? h
theorem g_0 (Y : Core) : GoodF S Y F0 where
  sc := ⟨rfl, rfl, rfl, by decide +kernel, rfl, by decide +kernel, by decide +kernel⟩
  n1 := rfl
  n2 := rfl
  n3 := by decide
  kwd := rfl
  dfl := fun _ => rfl
  bindD := fun h => absurd rfl h
  bind := fun _ _ _ _ _ _ _ us hl => match us, hl with
    | [_, _, _], _ => rfl
  body := fun me cf k f fa cdv A outer s H E r => by
    have cc : Ct S (cxF Y F0.N F0.d.qual F0.d.scope fa cdv A outer s H E) (wF E) (nmE S me) cf k := Ct.of f r (by decide +kernel)
    have c := cc.toCtE
    exact (ss_cons (ss_if (PW.pt (sw_and (t_cmp c (op := .eq) (b_of (x_ix c b_var se_int)) (b_of se_int)) (pw_and1 (t_cmp c (op := .lt) (b_of (x_ix c b_var se_int)) (b_of (x_len c (fr 1) (xl_cons b_var xl_nil))))))) (ss_cons (y_set cc (x_ix c b_var (x_ix c b_var se_int)))
      (ss_cons (y_seti cc x_var se_int (x_bin c (op := .add) (b_of (x_ix c b_var se_int)) (b_of se_int)))
      (ss_cons (ss_if (t_cmp c (op := .ge) b_var (b_of (x_bin c (op := .pow) (b_of se_int) (b_of se_int)))) (ss_cons (y_seti cc x_var se_int x_var)
      ss_skip) (ss_cons (y_seti cc x_var se_int (x_bin c (op := .mod) (b_of (x_int c (fr 0) (xl_cons (b_of (x_bin c (op := .add) (b_of (x_bin c (op := .mul) (b_of (x_ix c b_var se_int)) (b_of se_int))) b_var)) xl_nil))) (b_of se_int)))
      ss_skip))
      ss_skip))) ss_skip)
      (ss_cons (ss_if (t_cmp c (op := .gt) (b_of (x_ix c b_var se_int)) (b_of se_int)) (ss_cons (y_set cc (x_bin c (op := .mod) (b_of (x_int c (fr 0) (xl_cons (b_of (x_ix c b_var se_int)) xl_nil))) b_var))
      (ss_cons (y_seti cc x_var se_int (x_bin c (op := .fdv) (b_of (x_ix c b_var se_int)) b_var))
      (ss_cons (ss_ret x_var)
      ss_skip))) ss_skip)
      (ss_cons (y_seti cc x_var se_int (x_bin c (op := .add) (b_of (x_ix c b_var se_int)) (b_of se_int)))
      (ss_cons (y_seti cc x_var se_int (x_bin c (op := .mod) (b_of (x_int c (fr 0) (xl_cons (b_of (x_bin c (op := .add) (b_of (x_bin c (op := .add) (b_of (x_bin c (op := .mul) (b_of (x_ix c b_var se_int)) (b_of se_int))) (b_of (x_bin c (op := .mul) (b_of (x_ix c b_var se_int)) (b_of se_int))))) (b_of se_int))) xl_nil))) (b_of se_int)))
      (ss_cons (y_set cc (x_bin c (op := .mod) (b_of (x_int c (fr 0) (xl_cons (b_of (x_bin c (op := .mul) (b_of (x_ix c b_var se_int)) (b_of (x_bin c (op := .add) (b_of (x_bin c (op := .fdv) (b_of (x_ix c b_var se_int)) (b_of se_int))) (b_of se_int))))) xl_nil))) (b_of se_int)))
      (ss_cons (ss_ret (x_bin c (op := .mod) (b_of (x_bin c (op := .mod) (b_of (x_int c (fr 0) (xl_cons (b_of (x_bin c (op := .mul) b_var (b_of (x_bin c (op := .add) (b_of (x_bin c (op := .fdv) b_var (b_of se_int))) (b_of se_int))))) xl_nil))) (b_of se_int))) b_var))
      ss_skip))))))
theorem g_43 (Y : Core) : GoodF S Y F43 where
  sc := ⟨rfl, rfl, rfl, by decide +kernel, rfl, by decide +kernel, by decide +kernel⟩
  n1 := rfl
  n2 := rfl
  n3 := by decide
  kwd := rfl
  dfl := fun _ => rfl
  bindD := fun h => absurd rfl h
  bind := fun _ _ _ _ _ _ _ us hl => match us, hl with
    | [_, _], _ => rfl
  body := fun me cf k f fa cdv A outer s H E r => by
    have cc : Ct S (cxF Y F43.N F43.d.qual F43.d.scope fa cdv A outer s H E) (wF E) (nmE S me) cf k := Ct.of f r (by decide +kernel)
    have c := cc.toCtE
    exact (ss_cons (y_set cc (x_ix c (b_of (se_frz (se_lst (xa_cons x_str (xa_cons x_str (xa_cons x_str (xa_cons x_str xa_nil))))))) (x_call c hf_0 (xa_cons x_var (xa_cons x_var (xa_cons se_int xa_nil))))))
      (ss_cons (y_set cc (x_bin c (op := .add) (b_of se_int) (b_of (x_call c hf_0 (xa_cons x_var (xa_cons x_var (xa_cons se_int xa_nil)))))))
      (ss_cons (ss_ret (se_tup (xa_cons x_var (xa_cons (x_call c hf_0 (xa_cons x_var (xa_cons x_var (xa_cons (x_bin c (op := .sub) b_var (b_of se_int)) xa_nil)))) (xa_cons x_var xa_nil)))))
      ss_skip)))
theorem g_2 (Y : Core) : GoodF S Y F2 where
  sc := ⟨rfl, rfl, rfl, by decide +kernel, rfl, by decide +kernel, by decide +kernel⟩
  n1 := rfl
  n2 := rfl
  n3 := by decide
  kwd := rfl
  dfl := fun _ => rfl
  bindD := fun h => absurd rfl h
  bind := fun _ _ _ _ _ _ _ us hl => match us, hl with
    | [_], _ => rfl
  body := fun me cf k f fa cdv A outer s H E r => by
    have cc : Ct S (cxF Y F2.N F2.d.qual F2.d.scope fa cdv A outer s H E) (wF E) (nmE S me) cf k := Ct.of f r (by decide +kernel)
    have c := cc.toCtE
    exact (ss_cons (ss_ret (se_and (x_isi1 c (fr 3) b_var (x_ty c boot_int (fr 0) (by decide) rfl rfl)) (pe_one (se_not (b_of (x_isi1 c (fr 3) b_var (x_ty c boot_bool (fr 4) (by decide) rfl rfl)))))))
      ss_skip)
theorem g_45 (Y : Core) : GoodF S Y F45 where
  sc := ⟨rfl, rfl, rfl, by decide +kernel, rfl, by decide +kernel, by decide +kernel⟩
  n1 := rfl
  n2 := rfl
  n3 := by decide
  kwd := rfl
  dfl := fun _ => rfl
  bindD := fun h => absurd rfl h
  bind := fun _ _ _ _ _ _ _ us hl => match us, hl with
    | [_, _, _, _], _ => rfl
  body := fun me cf k f fa cdv A outer s H E r => by
    have cc : Ct S (cxF Y F45.N F45.d.qual F45.d.scope fa cdv A outer s H E) (wF E) (nmE S me) cf k := Ct.of f r (by decide +kernel)
    have c := cc.toCtE
    exact (ss_cons (ss_if (PW.pt (sw_or (st_not (t_e (b_of (x_call c hf_2 (xa_cons x_var xa_nil))))) (pw_or1 (st_not (t_chain c (op := .le) (op' := .le) se_int x_var se_int))))) (ss_cons (y_raise cc hc_6 (xa_cons x_str xa_nil))
      ss_skip) ss_skip)
      (ss_cons (ss_if (PW.pt (sw_or (st_not (t_e (b_of (x_isi1 c (fr 3) b_var (x_ty c boot_str (fr 5) (by decide) rfl rfl))))) (pw_or1 (t_cmp c (op := .nin) b_var (b_of (x_con c)))))) (ss_cons (y_raise cc hc_6 (xa_cons x_str xa_nil))
      ss_skip) ss_skip)
      (ss_cons (ss_if (PW.pt (sw_or (st_not (t_e (b_of (x_call c hf_2 (xa_cons x_var xa_nil))))) (pw_or1 (st_not (t_chain c (op := .le) (op' := .le) se_int x_var (x_bin c (op := .sub) b_var (b_of se_int))))))) (ss_cons (y_raise cc hc_6 (xa_cons x_str xa_nil))
      ss_skip) ss_skip)
      (ss_cons (y_setf cc x_var)
      (ss_cons (y_setf cc x_var)
      (ss_cons (y_setf cc x_var)
      ss_skip))))))
theorem g_46 (Y : Core) : GoodF S Y F46 where
  sc := ⟨rfl, rfl, rfl, by decide +kernel, rfl, by decide +kernel, by decide +kernel⟩
  n1 := rfl
  n2 := rfl
  n3 := by decide
  kwd := rfl
  dfl := fun _ => rfl
  bindD := fun h => absurd rfl h
  bind := fun _ _ _ _ _ _ _ us hl => match us, hl with
    | [_, _], _ => rfl
  body := fun me cf k f fa cdv A outer s H E r => by
    have cc : Ct S (cxF Y F46.N F46.d.qual F46.d.scope fa cdv A outer s H E) (wF E) (nmE S me) cf k := Ct.of f r (by decide +kernel)
    have c := cc.toCtE
    exact (ss_cons (ss_if (st_not (t_e (b_of (x_isi1 c (fr 3) b_var (x_cls c (hc_5)))))) (ss_cons (ss_ret se_bl)
      ss_skip) ss_skip)
      (ss_cons (ss_ret (se_and (x_cmp c (op := .eq) (b_of (x_attr c b_var)) (b_of (x_attr c b_var))) (se_and (x_cmp c (op := .eq) (b_of (x_attr c b_var)) (b_of (x_attr c b_var))) (pe_one (x_cmp c (op := .eq) (b_of (x_attr c b_var)) (b_of (x_attr c b_var)))))))
      ss_skip))
theorem g_47 (Y : Core) : GoodF S Y F47 where
  sc := ⟨rfl, rfl, rfl, by decide +kernel, rfl, by decide +kernel, by decide +kernel⟩
  n1 := rfl
  n2 := rfl
  n3 := by decide
  kwd := rfl
  dfl := fun _ => rfl
  bindD := fun h => absurd rfl h
  bind := fun _ _ _ _ _ _ _ us hl => match us, hl with
    | [_], _ => rfl
  body := fun me cf k f fa cdv A outer s H E r => by
    have cc : Ct S (cxF Y F47.N F47.d.qual F47.d.scope fa cdv A outer s H E) (wF E) (nmE S me) cf k := Ct.of f r (by decide +kernel)
    have c := cc.toCtE
    exact (ss_cons (ss_ret (x_fst (.fmt (x_attr c b_var) (.lit x_str (.fmt (x_attr c b_var) (.lit x_str (.fmt (x_attr c b_var) .nil)))))))
      ss_skip)
theorem g_54 (Y : Core) : GoodF S Y F54 where
  sc := ⟨rfl, rfl, rfl, by decide +kernel, rfl, by decide +kernel, by decide +kernel⟩
  n1 := rfl
  n2 := rfl
  n3 := by decide
  kwd := rfl
  dfl := fun _ => rfl
  bindD := fun h => absurd rfl h
  bind := fun _ _ _ _ _ _ _ us hl => match us, hl with
    | [_], _ => rfl
  body := fun me cf k f fa cdv A outer s H E r => by
    have cc : Ct S (cxF Y F54.N F54.d.qual F54.d.scope fa cdv A outer s H E) (wF E) (nmE S me) cf k := Ct.of f r (by decide +kernel)
    have c := cc.toCtE
    exact (ss_cons (ss_if (t_cmp c (op := .eq) (b_of (x_attr c b_var)) (b_of x_str)) (ss_cons (ss_ret se_non)
      ss_skip) ss_skip)
      (ss_cons (ss_if (t_cmp c (op := .eq) (b_of (x_attr c b_var)) (b_of x_str)) (ss_cons (ss_ret (x_bin c (op := .sub) (b_of (x_attr c b_var)) (b_of (x_attr c b_var))))
      ss_skip) ss_skip)
      (ss_cons (ss_if (t_cmp c (op := .eq) (b_of (x_attr c b_var)) (b_of x_str)) (ss_cons (ss_ret (x_bin c (op := .sub) (b_of (x_attr c b_var)) (b_of (x_bin c (op := .mul) (b_of se_int) (b_of (x_attr c b_var))))))
      ss_skip) ss_skip)
      (ss_cons (ss_ret (x_bin c (op := .sub) (b_of (x_attr c b_var)) (b_of (x_bin c (op := .mul) (b_of se_int) (b_of (x_attr c b_var))))))
      ss_skip))))
theorem g_83 (Y : Core) : GoodF S Y F83 where
  sc := ⟨rfl, rfl, rfl, by decide +kernel, rfl, by decide +kernel, by decide +kernel⟩
  n1 := rfl
  n2 := rfl
  n3 := by decide
  kwd := rfl
  dfl := fun _ => rfl
  bindD := fun h => absurd rfl h
  bind := fun _ _ _ _ _ _ _ us hl => match us, hl with
    | [_], _ => rfl
  body := fun me cf k f fa cdv A outer s H E r => by
    have cc : Ct S (cxF Y F83.N F83.d.qual F83.d.scope fa cdv A outer s H E) (wF E) (nmE S me) cf k := Ct.of f r (by decide +kernel)
    have c := cc.toCtE
    exact (ss_cons (ss_if (PW.pt (sw_or (t_cmp c (op := .eq) (b_of (x_attr c b_var)) (b_of x_str)) (pw_or1 (t_cmp c (op := .lt) (b_of (x_attr c b_var)) (b_of se_int))))) (ss_cons (y_raise0 cc hc_11)
      ss_skip) ss_skip)
      ss_skip)
theorem g_120 (Y : Core) : GoodF S Y F120 where
  sc := ⟨rfl, rfl, rfl, by decide +kernel, rfl, by decide +kernel, by decide +kernel⟩
  n1 := rfl
  n2 := rfl
  n3 := by decide
  kwd := rfl
  dfl := fun _ => rfl
  bindD := fun h => absurd rfl h
  bind := fun _ _ _ _ _ _ _ us hl => match us, hl with
    | [_], _ => rfl
  body := fun me cf k f fa cdv A outer s H E r => by
    have cc : Ct S (cxF Y F120.N F120.d.qual F120.d.scope fa cdv A outer s H E) (wF E) (nmE S me) cf k := Ct.of f r (by decide +kernel)
    have c := cc.toCtE
    exact (ss_cons (y_expr (x_call c hf_83 (xa_cons x_var xa_nil)))
      (ss_cons (ss_if (t_cmp c (op := .eq) (b_of (x_attr c b_var)) (b_of se_int)) (ss_cons (y_raise0 cc hc_11)
      ss_skip) ss_skip)
      ss_skip))
theorem g_55 (Y : Core) : GoodF S Y F55 where
  sc := ⟨rfl, rfl, rfl, by decide +kernel, rfl, by decide +kernel, by decide +kernel⟩
  n1 := rfl
  n2 := rfl
  n3 := by decide
  kwd := rfl
  dfl := fun _ => rfl
  bindD := fun h => absurd rfl h
  bind := fun _ _ _ _ _ _ _ us hl => match us, hl with
    | [_], _ => rfl
  body := fun me cf k f fa cdv A outer s H E r => by
    have cc : Ct S (cxF Y F55.N F55.d.qual F55.d.scope fa cdv A outer s H E) (wF E) (nmE S me) cf k := Ct.of f r (by decide +kernel)
    have c := cc.toCtE
    exact (ss_cons (ss_if (t_cmp c (op := .eq) (b_of (x_attr c b_var)) (b_of x_str)) (ss_cons (ss_ret se_non)
      ss_skip) ss_skip)
      (ss_cons (ss_if (t_cmp c (op := .eq) (b_of (x_attr c b_var)) (b_of x_str)) (ss_cons (ss_ret (x_bin c (op := .mul) (b_of se_int) (b_of (x_attr c b_var))))
      ss_skip) ss_skip)
      (ss_cons (ss_ret (x_attr c b_var))
      ss_skip)))
theorem g_87 (Y : Core) : GoodF S Y F87 where
  sc := ⟨rfl, rfl, rfl, by decide +kernel, rfl, by decide +kernel, by decide +kernel⟩
  n1 := rfl
  n2 := rfl
  n3 := by decide
  kwd := rfl
  dfl := fun _ => rfl
  bindD := fun h => absurd rfl h
  bind := fun _ _ _ _ _ _ _ us hl => match us, hl with
    | [_], _ => rfl
  body := fun me cf k f fa cdv A outer s H E r => by
    have cc : Ct S (cxF Y F87.N F87.d.qual F87.d.scope fa cdv A outer s H E) (wF E) (nmE S me) cf k := Ct.of f r (by decide +kernel)
    have c := cc.toCtE
    exact (ss_cons (ss_ret (x_neg c (x_bin c (op := .fdv) (b_of (x_neg c (x_attr c b_var))) (b_of (x_attr c b_var)))))
      ss_skip)
theorem g_53 (Y : Core) : GoodF S Y F53 where
  sc := ⟨rfl, rfl, rfl, by decide +kernel, rfl, by decide +kernel, by decide +kernel⟩
  n1 := rfl
  n2 := rfl
  n3 := by decide
  kwd := rfl
  dfl := fun _ => rfl
  bindD := fun h => absurd rfl h
  bind := fun _ _ _ _ _ _ _ us hl => match us, hl with
    | [_], _ => rfl
  body := fun me cf k f fa cdv A outer s H E r => by
    have cc : Ct S (cxF Y F53.N F53.d.qual F53.d.scope fa cdv A outer s H E) (wF E) (nmE S me) cf k := Ct.of f r (by decide +kernel)
    have c := cc.toCtE
    exact (ss_cons (ss_if (t_cmp c (op := .eq) (b_of (x_attr c b_var)) (b_of x_str)) (ss_cons (ss_ret se_non)
      ss_skip) ss_skip)
      (ss_cons (ss_if (t_cmp c (op := .eq) (b_of (x_attr c b_var)) (b_of x_str)) (ss_cons (ss_ret se_int)
      ss_skip) ss_skip)
      (ss_cons (ss_ret (x_attr c b_var))
      ss_skip)))
theorem g_48 (Y : Core) : GoodF S Y F48 where
  sc := ⟨rfl, rfl, rfl, by decide +kernel, rfl, by decide +kernel, by decide +kernel⟩
  n1 := rfl
  n2 := rfl
  n3 := by decide
  kwd := rfl
  dfl := fun _ => rfl
  bindD := fun h => absurd rfl h
  bind := fun _ _ _ _ _ _ _ us hl => match us, hl with
    | [_], _ => rfl
  body := fun me cf k f fa cdv A outer s H E r => by
    have cc : Ct S (cxF Y F48.N F48.d.qual F48.d.scope fa cdv A outer s H E) (wF E) (nmE S me) cf k := Ct.of f r (by decide +kernel)
    have c := cc.toCtE
    exact (ss_cons (ss_if (t_cmp c (op := .eq) (b_of (x_attr c b_var)) (b_of x_str)) (ss_cons (ss_ret se_non)
      ss_skip) ss_skip)
      (ss_cons (ss_if (t_cmp c (op := .eq) (b_of (x_attr c b_var)) (b_of x_str)) (ss_cons (ss_ret (x_attr c b_var))
      ss_skip) ss_skip)
      (ss_cons (ss_ret (x_bin c (op := .sub) (b_of (x_attr c b_var)) (b_of (x_attr c b_var))))
      ss_skip)))
theorem g_121 (Y : Core) : GoodF S Y F121 where
  sc := ⟨rfl, rfl, rfl, by decide +kernel, rfl, by decide +kernel, by decide +kernel⟩
  n1 := rfl
  n2 := rfl
  n3 := by decide
  kwd := rfl
  dfl := fun _ => rfl
  bindD := fun h => absurd rfl h
  bind := fun _ _ _ _ _ _ _ us hl => match us, hl with
    | [_, _], _ => rfl
  body := fun me cf k f fa cdv A outer s H E r => by
    have cc : Ct S (cxF Y F121.N F121.d.qual F121.d.scope fa cdv A outer s H E) (wF E) (nmE S me) cf k := Ct.of f r (by decide +kernel)
    have c := cc.toCtE
    exact (ss_cons (y_set cc (x_bin c (op := .sub) (b_of (x_bin c (op := .sub) (b_of (x_attr c b_var)) (b_of (x_attr c b_var)))) (b_of (x_bin c (op := .mul) b_var (b_of (x_attr c b_var))))))
      (ss_cons (ss_if (t_cmp c (op := .lt) b_var (b_of (x_attr c b_var))) (ss_cons (y_set cc (x_attr c b_var))
      ss_skip) ss_skip)
      (ss_cons (y_set cc (x_bin c (op := .sub) (b_of (x_attr c b_var)) (b_of (x_attr c b_var))))
      (ss_cons (ss_ret (x_bin c (op := .add) (b_of (x_bin c (op := .add) (b_of (x_bin c (op := .mul) (b_of (se_tup (xa_cons se_int xa_nil))) b_var)) (b_of (x_bin c (op := .mul) (b_of (se_tup (xa_cons se_non xa_nil))) b_var)))) (b_of (x_bin c (op := .mul) (b_of (se_tup (xa_cons se_int xa_nil))) (b_of (x_bin c (op := .sub) (b_of (x_attr c b_var)) b_var))))))
      ss_skip))))
theorem g_122 (Y : Core) : GoodF S Y F122 where
  sc := ⟨rfl, rfl, rfl, by decide +kernel, rfl, by decide +kernel, by decide +kernel⟩
  n1 := rfl
  n2 := rfl
  n3 := by decide
  kwd := rfl
  dfl := fun _ => rfl
  bindD := fun h => absurd rfl h
  bind := fun _ _ _ _ _ _ _ us hl => match us, hl with
    | [_], _ => rfl
  body := fun me cf k f fa cdv A outer s H E r => by
    have cc : Ct S (cxF Y F122.N F122.d.qual F122.d.scope fa cdv A outer s H E) (wF E) (nmE S me) cf k := Ct.of f r (by decide +kernel)
    have c := cc.toCtE
    exact (ss_cons (y_expr (x_call c hf_120 (xa_cons x_var xa_nil)))
      (ss_cons (y_set cc (x_call c hf_87 (xa_cons x_var xa_nil)))
      (ss_cons (y_own cc (se_lst xa_nil))
      (ss_cons (y_forR1 cc (fr 6) (xa_cons x_var xa_nil)
      (ss_cons (ss_if (t_cmp c (op := .eq) (b_of (x_bin c (op := .band) b_var (b_of se_int))) (b_of se_int)) (ss_cons (y_app (se_tup (xa_cons se_int (xa_cons (x_call c hf_121 (xa_cons x_var (xa_cons x_var xa_nil))) xa_nil))))
      ss_skip) (ss_cons (y_app (se_tup (xa_cons (x_bin c (op := .sub) (b_of (x_attr c b_var)) (b_of se_int)) (xa_cons (x_call c hf_121 (xa_cons x_var (xa_cons x_var xa_nil))) xa_nil))))
      ss_skip))
      ss_skip))
      (ss_cons (ss_if (t_cmp c (op := .eq) (b_of (x_bin c (op := .band) b_var (b_of se_int))) (b_of se_int)) (ss_cons (y_app (se_tup (xa_cons (x_bin c (op := .sub) (b_of (x_attr c b_var)) (b_of se_int)) (xa_cons (x_call c hf_121 (xa_cons x_var (xa_cons x_var xa_nil))) xa_nil))))
      ss_skip) (ss_cons (y_app (se_tup (xa_cons (x_bin c (op := .sub) (b_of (x_attr c b_var)) (b_of se_int)) (xa_cons (x_call c hf_121 (xa_cons x_var (xa_cons x_var xa_nil))) xa_nil))))
      ss_skip))
      (ss_cons y_retm
      ss_skip))))))
theorem g_123 (Y : Core) : GoodF S Y F123 where
  sc := ⟨rfl, rfl, rfl, by decide +kernel, rfl, by decide +kernel, by decide +kernel⟩
  n1 := rfl
  n2 := rfl
  n3 := by decide
  kwd := rfl
  dfl := fun _ => rfl
  bindD := fun h => absurd rfl h
  bind := fun _ _ _ _ _ _ _ us hl => match us, hl with
    | [_], _ => rfl
  body := fun me cf k f fa cdv A outer s H E r => by
    have cc : Ct S (cxF Y F123.N F123.d.qual F123.d.scope fa cdv A outer s H E) (wF E) (nmE S me) cf k := Ct.of f r (by decide +kernel)
    have c := cc.toCtE
    exact (ss_cons (y_tryAs cc hc_11 (hk 0) (fun _ _ _ cc => have c := cc.toCtE; (ss_cons (y_expr (x_call c hf_122 (xa_cons x_var xa_nil)))
      ss_skip))
      (fun _ _ _ _ _ c => (ss_cons (ss_ret (z_xis c (fr 3) (z_cls c (hc_1))))
      ss_skip)))
      (ss_cons (ss_ret se_bl)
      ss_skip))
theorem g_57 (Y : Core) : GoodF S Y F57 where
  sc := ⟨rfl, rfl, rfl, by decide +kernel, rfl, by decide +kernel, by decide +kernel⟩
  n1 := rfl
  n2 := rfl
  n3 := by decide
  kwd := rfl
  dfl := fun _ => rfl
  bindD := fun h => absurd rfl h
  bind := fun _ _ _ _ _ _ _ us hl => match us, hl with
    | [_], _ => rfl
  body := fun me cf k f fa cdv A outer s H E r => by
    have cc : Ct S (cxF Y F57.N F57.d.qual F57.d.scope fa cdv A outer s H E) (wF E) (nmE S me) cf k := Ct.of f r (by decide +kernel)
    have c := cc.toCtE
    exact (ss_cons (ss_if (t_cmp c (op := .eq) (b_of (x_ix c b_var se_int)) (b_of x_str)) (ss_cons (ss_ret (x_bin c (op := .sub) (b_of (x_ix c b_var se_int)) (b_of (x_bin c (op := .mul) (b_of se_int) (b_of (x_ix c b_var se_int))))))
      ss_skip) ss_skip)
      (ss_cons (ss_if (t_cmp c (op := .eq) (b_of (x_ix c b_var se_int)) (b_of x_str)) (ss_cons (ss_ret (x_bin c (op := .sub) (b_of (x_ix c b_var se_int)) (b_of (x_bin c (op := .mul) (b_of se_int) (b_of (x_ix c b_var se_int))))))
      ss_skip) ss_skip)
      (ss_cons (ss_ret (x_bin c (op := .sub) (b_of (x_ix c b_var se_int)) (b_of (x_ix c b_var se_int))))
      ss_skip)))
theorem g_124 (Y : Core) : GoodF S Y F124 where
  sc := ⟨rfl, rfl, rfl, by decide +kernel, rfl, by decide +kernel, by decide +kernel⟩
  n1 := rfl
  n2 := rfl
  n3 := by decide
  kwd := rfl
  dfl := fun _ => rfl
  bindD := fun h => absurd rfl h
  bind := fun _ _ _ _ _ _ _ us hl => match us, hl with
    | [_, _], _ => rfl
  body := fun me cf k f fa cdv A outer s H E r => by
    have cc : Ct S (cxF Y F124.N F124.d.qual F124.d.scope fa cdv A outer s H E) (wF E) (nmE S me) cf k := Ct.of f r (by decide +kernel)
    have c := cc.toCtE
    exact (ss_cons (y_set cc (x_ix c b_var se_int))
      (ss_cons (ss_if (t_cmp c (op := .eq) (b_of (x_ix c b_var se_int)) (b_of x_str)) (ss_cons (y_set cc se_int)
      ss_skip) ss_skip)
      (ss_cons (ss_if (t_cmp c (op := .le) (b_of (x_len c (fr 1) (xl_cons (b_of (se_frz (x_compS c x_var (fun _ _ _ _ _ c => (pts_one (t_cmp c (op := .eq) b_var (b_of se_int)))) (fun _ _ _ _ _ c => x_var)))) xl_nil))) b_var) (ss_cons (ss_ret se_int)
      ss_skip) ss_skip)
      (ss_cons (ss_if (t_cmp c (op := .le) (b_of (x_len c (fr 1) (xl_cons (b_of (se_frz (x_compS c x_var (fun _ _ _ _ _ c => (pts_one (t_cmp c (op := .eq) b_var (b_of se_int)))) (fun _ _ _ _ _ c => x_var)))) xl_nil))) b_var) (ss_cons (ss_ret se_int)
      ss_skip) ss_skip)
      (ss_cons (ss_ret se_non)
      ss_skip)))))
theorem g_125 (Y : Core) : GoodF S Y F125 where
  sc := ⟨rfl, rfl, rfl, by decide +kernel, rfl, by decide +kernel, by decide +kernel⟩
  n1 := rfl
  n2 := rfl
  n3 := by decide
  kwd := rfl
  dfl := fun _ => rfl
  bindD := fun h => absurd rfl h
  bind := fun _ _ _ _ _ _ _ us hl => match us, hl with
    | [_, _], _ => rfl
  body := fun me cf k f fa cdv A outer s H E r => by
    have cc : Ct S (cxF Y F125.N F125.d.qual F125.d.scope fa cdv A outer s H E) (wF E) (nmE S me) cf k := Ct.of f r (by decide +kernel)
    have c := cc.toCtE
    exact (ss_cons (y_own cc (se_lst xa_nil))
      (ss_cons (y_forR1 cc (fr 6) (xa_cons (x_len c (fr 1) (xl_cons b_var xl_nil)) xa_nil)
      (ss_cons (ss_if (PW.pt (sw_and (t_cmp c (op := .isn) (b_of (x_ix c b_var x_var)) (b_of se_non)) (sw_and (t_cmp c (op := .isn) (b_of (x_ix c b_var x_var)) (b_of se_non)) (pw_and1 (t_cmp c (op := .ne) (b_of (x_ix c b_var x_var)) (b_of (x_ix c b_var x_var))))))) (ss_cons (y_app x_var)
      ss_skip) ss_skip)
      ss_skip))
      (ss_cons y_retm
      ss_skip)))
theorem g_126 (Y : Core) : GoodF S Y F126 where
  sc := ⟨rfl, rfl, rfl, by decide +kernel, rfl, by decide +kernel, by decide +kernel⟩
  n1 := rfl
  n2 := rfl
  n3 := by decide
  kwd := rfl
  dfl := fun _ => rfl
  bindD := fun h => absurd rfl h
  bind := fun _ _ _ _ _ _ _ us hl => match us, hl with
    | [_, _, _], _ => rfl
  body := fun me cf k f fa cdv A outer s H E r => by
    have cc : Ct S (cxF Y F126.N F126.d.qual F126.d.scope fa cdv A outer s H E) (wF E) (nmE S me) cf k := Ct.of f r (by decide +kernel)
    have c := cc.toCtE
    exact (ss_cons (y_set cc (x_call c hf_125 (xa_cons (x_ix c b_var se_int) (xa_cons (x_ix c b_var se_int) xa_nil))))
      (ss_cons (ss_if (PW.pt (sw_or (t_cmp c (op := .eq) (b_of (x_ix c b_var se_int)) (b_of (x_ix c b_var se_int))) (sw_or (t_cmp c (op := .in_) (b_of (x_ix c b_var se_int)) b_var) (pw_or1 (t_cmp c (op := .in_) (b_of (x_ix c b_var se_int)) b_var))))) (ss_cons (ss_ret se_bl)
      ss_skip) ss_skip)
      (ss_cons (ss_if (t_cmp c (op := .eq) (b_of (x_ix c b_var se_int)) (b_of x_str)) (ss_cons (ss_ret (x_cmp c (op := .eq) (b_of (x_len c (fr 1) (xl_cons b_var xl_nil))) (b_of se_int)))
      ss_skip) ss_skip)
      (ss_cons (ss_ret (x_cmp c (op := .le) (b_of (x_len c (fr 1) (xl_cons b_var xl_nil))) (b_of (x_ix c b_var se_int))))
      ss_skip))))
theorem g_89 (Y : Core) : GoodF S Y F89 where
  sc := ⟨rfl, rfl, rfl, by decide +kernel, rfl, by decide +kernel, by decide +kernel⟩
  n1 := rfl
  n2 := rfl
  n3 := by decide
  kwd := rfl
  dfl := fun _ => rfl
  bindD := fun h => absurd rfl h
  bind := fun _ _ _ _ _ _ _ us hl => match us, hl with
    | [_], _ => rfl
  body := fun me cf k f fa cdv A outer s H E r => by
    have cc : Ct S (cxF Y F89.N F89.d.qual F89.d.scope fa cdv A outer s H E) (wF E) (nmE S me) cf k := Ct.of f r (by decide +kernel)
    have c := cc.toCtE
    exact (ss_cons (y_set cc (x_ix c b_var se_int))
      (ss_cons (ss_if (t_cmp c (op := .eq) (b_of (x_ix c b_var se_int)) (b_of x_str)) (ss_cons (y_set cc (x_bin c (op := .mul) (b_of se_int) (b_of (x_ix c b_var se_int))))
      ss_skip) ss_skip)
      (ss_cons (ss_ret (x_bin c (op := .fdv) (b_of (x_bin c (op := .sub) (b_of (x_bin c (op := .add) (b_of (x_call c hf_57 (xa_cons x_var xa_nil))) b_var)) (b_of se_int))) b_var))
      ss_skip)))
theorem g_28 (Y : Core) : GoodF S Y F28 where
  sc := ⟨rfl, rfl, rfl, by decide +kernel, rfl, by decide +kernel, by decide +kernel⟩
  n1 := rfl
  n2 := rfl
  n3 := by decide
  kwd := rfl
  dfl := fun _ => rfl
  bindD := fun h => absurd rfl h
  bind := fun _ _ _ _ _ _ _ us hl => match us, hl with
    | [_], _ => rfl
  body := fun me cf k f fa cdv A outer s H E r => by
    have cc : Ct S (cxF Y F28.N F28.d.qual F28.d.scope fa cdv A outer s H E) (wF E) (nmE S me) cf k := Ct.of f r (by decide +kernel)
    have c := cc.toCtE
    exact (ss_cons (ss_ret (se_and (x_isi1 c (fr 3) b_var (x_ty c boot_int (fr 0) (by decide) rfl rfl)) (pe_one (se_not (b_of (x_isi1 c (fr 3) b_var (x_ty c boot_bool (fr 4) (by decide) rfl rfl)))))))
      ss_skip)
theorem g_52 (Y : Core) : GoodF S Y F52 where
  sc := ⟨rfl, rfl, rfl, by decide +kernel, rfl, by decide +kernel, by decide +kernel⟩
  n1 := rfl
  n2 := rfl
  n3 := by decide
  kwd := rfl
  dfl := fun _ => rfl
  bindD := fun h => absurd rfl h
  bind := fun _ _ _ _ _ _ _ us hl => match us, hl with
    | [_], _ => rfl
  body := fun me cf k f fa cdv A outer s H E r => by
    have cc : Ct S (cxF Y F52.N F52.d.qual F52.d.scope fa cdv A outer s H E) (wF E) (nmE S me) cf k := Ct.of f r (by decide +kernel)
    have c := cc.toCtE
    exact (ss_cons (ss_if (t_cmp c (op := .eq) (b_of (x_ix c b_var se_int)) (b_of x_str)) (ss_cons (ss_ret (se_lst (xa_cons (x_ix c b_var se_int) xa_nil)))
      ss_skip) ss_skip)
      (ss_cons (ss_if (t_cmp c (op := .eq) (b_of (x_ix c b_var se_int)) (b_of x_str)) (ss_cons (ss_ret (x_lrng2 c (fr 7) (fr 6) (b_of (x_bin c (op := .sub) (b_of (x_ix c b_var se_int)) (b_of (x_ix c b_var se_int)))) (b_of (x_bin c (op := .add) (b_of (x_ix c b_var se_int)) (b_of se_int)))))
      ss_skip) ss_skip)
      (ss_cons (ss_ret (se_lst (xa_cons (x_bin c (op := .sub) (b_of (x_ix c b_var se_int)) (b_of (x_ix c b_var se_int))) xa_nil)))
      ss_skip)))
theorem g_127 (Y : Core) : GoodF S Y F127 where
  sc := ⟨rfl, rfl, rfl, by decide +kernel, rfl, by decide +kernel, by decide +kernel⟩
  n1 := rfl
  n2 := rfl
  n3 := by decide
  kwd := rfl
  dfl := fun _ => rfl
  bindD := fun h => absurd rfl h
  bind := fun _ _ _ _ _ _ _ us hl => match us, hl with
    | [_, _], _ => rfl
  body := fun me cf k f fa cdv A outer s H E r => by
    have cc : Ct S (cxF Y F127.N F127.d.qual F127.d.scope fa cdv A outer s H E) (wF E) (nmE S me) cf k := Ct.of f r (by decide +kernel)
    have c := cc.toCtE
    exact (ss_cons (ss_if (PW.pt (sw_or (st_not (t_e (b_of (x_isi2 c (fr 3) b_var (x_ty c boot_list (fr 7) (by decide) rfl rfl) (x_ty c boot_tuple (fr 8) (by decide) rfl rfl))))) (pw_or1 (t_cmp c (op := .ne) (b_of (x_len c (fr 1) (xl_cons b_var xl_nil))) (b_of (x_ix c b_var se_int)))))) (ss_cons (ss_ret se_negc)
      ss_skip) ss_skip)
      (ss_cons (y_forR1 cc (fr 6) (xa_cons (x_len c (fr 1) (xl_cons b_var xl_nil)) xa_nil)
      (ss_cons (ss_if (PW.pt (sw_and (t_cmp c (op := .isn) (b_of (x_ix c b_var x_var)) (b_of se_non)) (pw_and1 (st_not (PW.pt (sw_and (t_e (b_of (x_call c hf_28 (xa_cons (x_ix c b_var x_var) xa_nil)))) (pw_and1 (t_chain c (op := .le) (op' := .le) se_int (x_ix c b_var x_var) se_int)))))))) (ss_cons (ss_ret x_var)
      ss_skip) ss_skip)
      ss_skip))
      (ss_cons (ss_if (t_cmp c (op := .ne) (b_of (x_len c (fr 1) (xl_cons (b_of (se_frz (x_compS c x_var (fun _ _ _ _ _ c => (pts_one (t_cmp c (op := .isn) b_var (b_of se_non)))) (fun _ _ _ _ _ c => x_var)))) xl_nil))) (b_of (x_ix c (b_of (x_call c hf_52 (xa_cons x_var xa_nil))) se_int))) (ss_cons (ss_ret se_negc)
      ss_skip) ss_skip)
      (ss_cons (ss_ret se_non)
      ss_skip))))
theorem g_128 (Y : Core) : GoodF S Y F128 where
  sc := ⟨rfl, rfl, rfl, by decide +kernel, rfl, by decide +kernel, by decide +kernel⟩
  n1 := rfl
  n2 := rfl
  n3 := by decide
  kwd := rfl
  dfl := fun _ => rfl
  bindD := fun h => absurd rfl h
  bind := fun _ _ _ _ _ _ _ us hl => match us, hl with
    | [_], _ => rfl
  body := fun me cf k f fa cdv A outer s H E r => by
    have cc : Ct S (cxF Y F128.N F128.d.qual F128.d.scope fa cdv A outer s H E) (wF E) (nmE S me) cf k := Ct.of f r (by decide +kernel)
    have c := cc.toCtE
    exact (ss_cons (y_set cc (se_sto (xa_cons se_int (xa_cons se_int (xa_cons se_int (xa_cons se_int xa_nil))))))
      (ss_cons (y_set cc (x_call c hf_43 (xa_cons x_var (xa_cons x_var xa_nil))))
      (ss_cons (y_set cc (x_make c hc_5 (xa_cons (x_ix c b_var se_int) (xa_cons (x_ix c b_var se_int) (xa_cons (x_ix c b_var se_int) xa_nil)))))
      (ss_cons (ss_if (PW.pt (sw_or (t_cmp c (op := .eq) (b_of (x_ix c b_var se_int)) (b_of x_str)) (sw_or (t_cmp c (op := .lt) (b_of (x_call c hf_57 (xa_cons x_var xa_nil))) (b_of se_int)) (pw_or1 (t_cmp c (op := .eq) (b_of (x_ix c b_var se_int)) (b_of se_int)))))) (ss_cons (ss_ret (x_call c hf_123 (xa_cons x_var xa_nil)))
      ss_skip) ss_skip)
      (ss_cons (y_set cc (x_sto (x_call c hf_122 (xa_cons x_var xa_nil))))
      (ss_cons (ss_if (PW.pt (sw_or (st_not (t_e (b_of (x_isi1 c (fr 3) b_var (x_ty c boot_list (fr 7) (by decide) rfl rfl))))) (pw_or1 (t_cmp c (op := .ne) (b_of (x_len c (fr 1) (xl_cons b_var xl_nil))) (b_of (x_bin c (op := .add) (b_of (x_call c hf_89 (xa_cons x_var xa_nil))) (b_of se_int))))))) (ss_cons (ss_ret se_bl)
      ss_skip) ss_skip)
      (ss_cons (y_forS cc x_var
      (ss_cons (ss_if (PW.pt (sw_or (st_not (t_e (b_of (x_isi1 c (fr 3) b_var (x_ty c boot_tuple (fr 8) (by decide) rfl rfl))))) (sw_or (t_cmp c (op := .ne) (b_of (x_len c (fr 1) (xl_cons b_var xl_nil))) (b_of se_int)) (pw_or1 (st_not (t_e (b_of (x_isi1 c (fr 3) (b_of (x_ix c b_var se_int)) (x_ty c boot_tuple (fr 8) (by decide) rfl rfl))))))))) (ss_cons (ss_ret se_bl)
      ss_skip) ss_skip)
      (ss_cons (ss_if (PW.pt (sw_or (st_not (t_e (b_of (x_call c hf_28 (xa_cons (x_ix c b_var se_int) xa_nil))))) (pw_or1 (st_not (t_chain c (op := .le) (op' := .lt) se_int (x_ix c b_var se_int) (x_ix c b_var se_int)))))) (ss_cons (ss_ret se_bl)
      ss_skip) ss_skip)
      (ss_cons (ss_if (PW.pt (sw_or (t_cmp c (op := .isn) (b_of (x_call c hf_127 (xa_cons x_var (xa_cons (x_ix c b_var se_int) xa_nil)))) (b_of se_non)) (pw_or1 (t_cmp c (op := .is_) (b_of (x_ix c (b_of (x_ix c b_var se_int)) (x_ix c b_var se_int))) (b_of se_non))))) (ss_cons (ss_ret se_bl)
      ss_skip) ss_skip)
      ss_skip))))
      (ss_cons (y_set cc (x_ix c b_var (x_bin c (op := .sub) (b_of (x_len c (fr 1) (xl_cons b_var xl_nil))) (b_of se_int))))
      (ss_cons (ss_if (PW.pt (sw_or (t_cmp c (op := .ne) (b_of (x_call c hf_124 (xa_cons x_var (xa_cons (x_ix c (b_of (x_ix c b_var se_int)) se_int) xa_nil)))) (b_of se_int)) (pw_or1 (t_cmp c (op := .ne) (b_of (x_ix c (b_of (x_ix c (b_of (x_ix c b_var se_int)) se_int)) (x_ix c (b_of (x_ix c b_var se_int)) se_int))) (b_of se_int))))) (ss_cons (ss_ret se_bl)
      ss_skip) ss_skip)
      (ss_cons (ss_if (PW.pt (sw_or (t_cmp c (op := .ne) (b_of (x_call c hf_124 (xa_cons x_var (xa_cons (x_ix c b_var se_int) xa_nil)))) (b_of se_int)) (pw_or1 (t_cmp c (op := .ne) (b_of (x_ix c (b_of (x_ix c b_var se_int)) (x_ix c b_var se_int))) (b_of se_int))))) (ss_cons (ss_ret se_bl)
      ss_skip) ss_skip)
      (ss_cons (y_forR1 cc (fr 6) (xa_cons (x_bin c (op := .sub) (b_of (x_len c (fr 1) (xl_cons b_var xl_nil))) (b_of se_int)) xa_nil)
      (ss_cons (ss_if (st_not (t_e (b_of (x_call c hf_126 (xa_cons x_var (xa_cons (x_ix c b_var x_var) (xa_cons (x_ix c b_var (x_bin c (op := .add) b_var (b_of se_int))) xa_nil))))))) (ss_cons (ss_ret se_bl)
      ss_skip) ss_skip)
      ss_skip))
      (ss_cons (y_appr cc x_var (x_pop x_var se_int))
      (ss_cons (y_set cc (x_call c hf_122 (xa_cons x_var xa_nil)))
      (ss_cons (ss_ret (se_and (x_cmp c (op := .eq) (b_of (x_len c (fr 1) (xl_cons b_var xl_nil))) (b_of (x_len c (fr 1) (xl_cons b_var xl_nil)))) (pe_one (x_cmp c (op := .eq) (b_of (x_ix c (b_of (x_ix c (b_of (x_ix c b_var se_int)) se_int)) (x_ix c (b_of (x_ix c b_var se_int)) se_int))) (b_of se_int)))))
      ss_skip))))))))))))))
theorem e_6 : GoodE (C6.fields.map S.nm.attr) C6.cat F44.d where
  nam := rfl
  body := .mk _ _ _ _ _ rfl (.cat _ _ _ _ _ _ _ (by decide)) (.cons _ _ _ _ _ .nil)
  scp := ⟨rfl, rfl, by decide +kernel, rfl, rfl, by decide +kernel, rfl, rfl⟩
  head := ⟨_, rfl, rfl⟩
  bind := fun dV kV doc pm an cdv ct cc us hl e => by
    subst e
    match us, hl with
    | [_, _], _ => rfl
theorem good (Y : Core) : Good S Y := good_of (by decide +kernel)
  (all_cons (fun h => nomatch h) (all_cons (fun _ h => absurd rfl h) (all_cons (fun _ _ F hF => by cases (show some F44 = some F from hF); exact e_6) (all_cons (fun _ h => absurd rfl h) all_nil))))
  (all_cons (fun _ => g_0 Y) (all_cons (fun _ => g_43 Y) (all_cons (fun h => nomatch h) (all_cons (fun _ => g_2 Y) (all_cons (fun _ => g_45 Y) (all_cons (fun _ => g_46 Y) (all_cons (fun _ => g_47 Y) (all_cons (fun _ => g_54 Y) (all_cons (fun _ => g_83 Y) (all_cons (fun _ => g_120 Y) (all_cons (fun _ => g_55 Y) (all_cons (fun _ => g_87 Y) (all_cons (fun _ => g_53 Y) (all_cons (fun _ => g_48 Y) (all_cons (fun _ => g_121 Y) (all_cons (fun _ => g_122 Y) (all_cons (fun _ => g_123 Y) (all_cons (fun _ => g_57 Y) (all_cons (fun _ => g_124 Y) (all_cons (fun _ => g_125 Y) (all_cons (fun _ => g_126 Y) (all_cons (fun _ => g_89 Y) (all_cons (fun _ => g_28 Y) (all_cons (fun _ => g_52 Y) (all_cons (fun _ => g_127 Y) (all_cons (fun _ => g_128 Y) all_nil))))))))))))))))))))))))))
@[simp] theorem Tfn_0 : S.T.fn 0 = some F0.fn := rfl
@[simp] theorem tb_5_0 : tbl S.T 5 0 = call S.T 0 := tbl_eq S.T (Tfn_0) (by decide)
@[simp] theorem tb_16_0 : tbl S.T 16 0 = call S.T 0 := tbl_eq S.T (Tfn_0) (by decide)
@[simp] theorem tb_21_0 : tbl S.T 21 0 = call S.T 0 := tbl_eq S.T (Tfn_0) (by decide)
@[simp] theorem tb_22_0 : tbl S.T 22 0 = call S.T 0 := tbl_eq S.T (Tfn_0) (by decide)
@[simp] theorem tb_23_0 : tbl S.T 23 0 = call S.T 0 := tbl_eq S.T (Tfn_0) (by decide)
@[simp] theorem tb_24_0 : tbl S.T 24 0 = call S.T 0 := tbl_eq S.T (Tfn_0) (by decide)
theorem run_0 (x0 x1 x2 : D) (st : Sto) : call S.T 0 [x0, x1, x2] st = fin S.T (none) (exS S.T (tbl S.T 4) B0 [some x0, some x1, some x2, none, none, none] st) := rfl
@[simp] theorem Tfn_43 : S.T.fn 43 = some F43.fn := rfl
@[simp] theorem tb_16_43 : tbl S.T 16 43 = call S.T 43 := tbl_eq S.T (Tfn_43) (by decide)
@[simp] theorem tb_21_43 : tbl S.T 21 43 = call S.T 43 := tbl_eq S.T (Tfn_43) (by decide)
@[simp] theorem tb_22_43 : tbl S.T 22 43 = call S.T 43 := tbl_eq S.T (Tfn_43) (by decide)
@[simp] theorem tb_23_43 : tbl S.T 23 43 = call S.T 43 := tbl_eq S.T (Tfn_43) (by decide)
@[simp] theorem tb_24_43 : tbl S.T 24 43 = call S.T 43 := tbl_eq S.T (Tfn_43) (by decide)
theorem run_43 (x0 x1 : D) (st : Sto) : call S.T 43 [x0, x1] st = fin S.T (none) (exS S.T (tbl S.T 5) B43 [some x0, some x1, none, none] st) := rfl
@[simp] theorem Tfn_2 : S.T.fn 2 = some F2.fn := rfl
@[simp] theorem tb_1_2 : tbl S.T 1 2 = call S.T 2 := tbl_eq S.T (Tfn_2) (by decide)
@[simp] theorem tb_2_2 : tbl S.T 2 2 = call S.T 2 := tbl_eq S.T (Tfn_2) (by decide)
@[simp] theorem tb_4_2 : tbl S.T 4 2 = call S.T 2 := tbl_eq S.T (Tfn_2) (by decide)
@[simp] theorem tb_5_2 : tbl S.T 5 2 = call S.T 2 := tbl_eq S.T (Tfn_2) (by decide)
@[simp] theorem tb_16_2 : tbl S.T 16 2 = call S.T 2 := tbl_eq S.T (Tfn_2) (by decide)
@[simp] theorem tb_21_2 : tbl S.T 21 2 = call S.T 2 := tbl_eq S.T (Tfn_2) (by decide)
@[simp] theorem tb_22_2 : tbl S.T 22 2 = call S.T 2 := tbl_eq S.T (Tfn_2) (by decide)
@[simp] theorem tb_23_2 : tbl S.T 23 2 = call S.T 2 := tbl_eq S.T (Tfn_2) (by decide)
@[simp] theorem tb_24_2 : tbl S.T 24 2 = call S.T 2 := tbl_eq S.T (Tfn_2) (by decide)
theorem run_2 (x0 : D) (st : Sto) : call S.T 2 [x0] st = fin S.T (none) (exS S.T (tbl S.T 0) B2 [some x0] st) := rfl
@[simp] theorem Tfn_45 : S.T.fn 45 = some F45.fn := rfl
@[simp] theorem tb_2_45 : tbl S.T 2 45 = call S.T 45 := tbl_eq S.T (Tfn_45) (by decide)
@[simp] theorem tb_4_45 : tbl S.T 4 45 = call S.T 45 := tbl_eq S.T (Tfn_45) (by decide)
@[simp] theorem tb_5_45 : tbl S.T 5 45 = call S.T 45 := tbl_eq S.T (Tfn_45) (by decide)
@[simp] theorem tb_16_45 : tbl S.T 16 45 = call S.T 45 := tbl_eq S.T (Tfn_45) (by decide)
@[simp] theorem tb_21_45 : tbl S.T 21 45 = call S.T 45 := tbl_eq S.T (Tfn_45) (by decide)
@[simp] theorem tb_22_45 : tbl S.T 22 45 = call S.T 45 := tbl_eq S.T (Tfn_45) (by decide)
@[simp] theorem tb_23_45 : tbl S.T 23 45 = call S.T 45 := tbl_eq S.T (Tfn_45) (by decide)
@[simp] theorem tb_24_45 : tbl S.T 24 45 = call S.T 45 := tbl_eq S.T (Tfn_45) (by decide)
theorem run_45 (x0 x1 x2 : D) (st : Sto) : call S.T 45 [x0, x1, x2] st = fin S.T (some 5) (exS S.T (tbl S.T 1) B45 [some (.obj 5 []), some x0, some x1, some x2] st) := rfl
@[simp] theorem Tfn_46 : S.T.fn 46 = some F46.fn := rfl
@[simp] theorem tb_4_46 : tbl S.T 4 46 = call S.T 46 := tbl_eq S.T (Tfn_46) (by decide)
@[simp] theorem tb_5_46 : tbl S.T 5 46 = call S.T 46 := tbl_eq S.T (Tfn_46) (by decide)
@[simp] theorem tb_16_46 : tbl S.T 16 46 = call S.T 46 := tbl_eq S.T (Tfn_46) (by decide)
@[simp] theorem tb_21_46 : tbl S.T 21 46 = call S.T 46 := tbl_eq S.T (Tfn_46) (by decide)
@[simp] theorem tb_22_46 : tbl S.T 22 46 = call S.T 46 := tbl_eq S.T (Tfn_46) (by decide)
@[simp] theorem tb_23_46 : tbl S.T 23 46 = call S.T 46 := tbl_eq S.T (Tfn_46) (by decide)
@[simp] theorem tb_24_46 : tbl S.T 24 46 = call S.T 46 := tbl_eq S.T (Tfn_46) (by decide)
theorem run_46 (x0 x1 : D) (st : Sto) : call S.T 46 [x0, x1] st = fin S.T (none) (exS S.T (tbl S.T 2) B46 [some x0, some x1] st) := rfl
@[simp] theorem Tfn_47 : S.T.fn 47 = some F47.fn := rfl
@[simp] theorem tb_1_47 : tbl S.T 1 47 = call S.T 47 := tbl_eq S.T (Tfn_47) (by decide)
@[simp] theorem tb_2_47 : tbl S.T 2 47 = call S.T 47 := tbl_eq S.T (Tfn_47) (by decide)
@[simp] theorem tb_4_47 : tbl S.T 4 47 = call S.T 47 := tbl_eq S.T (Tfn_47) (by decide)
@[simp] theorem tb_5_47 : tbl S.T 5 47 = call S.T 47 := tbl_eq S.T (Tfn_47) (by decide)
@[simp] theorem tb_16_47 : tbl S.T 16 47 = call S.T 47 := tbl_eq S.T (Tfn_47) (by decide)
@[simp] theorem tb_21_47 : tbl S.T 21 47 = call S.T 47 := tbl_eq S.T (Tfn_47) (by decide)
@[simp] theorem tb_22_47 : tbl S.T 22 47 = call S.T 47 := tbl_eq S.T (Tfn_47) (by decide)
@[simp] theorem tb_23_47 : tbl S.T 23 47 = call S.T 47 := tbl_eq S.T (Tfn_47) (by decide)
@[simp] theorem tb_24_47 : tbl S.T 24 47 = call S.T 47 := tbl_eq S.T (Tfn_47) (by decide)
theorem run_47 (x0 : D) (st : Sto) : call S.T 47 [x0] st = fin S.T (none) (exS S.T (tbl S.T 0) B47 [some x0] st) := rfl
@[simp] theorem Tfn_54 : S.T.fn 54 = some F54.fn := rfl
@[simp] theorem tb_1_54 : tbl S.T 1 54 = call S.T 54 := tbl_eq S.T (Tfn_54) (by decide)
@[simp] theorem tb_2_54 : tbl S.T 2 54 = call S.T 54 := tbl_eq S.T (Tfn_54) (by decide)
@[simp] theorem tb_4_54 : tbl S.T 4 54 = call S.T 54 := tbl_eq S.T (Tfn_54) (by decide)
@[simp] theorem tb_5_54 : tbl S.T 5 54 = call S.T 54 := tbl_eq S.T (Tfn_54) (by decide)
@[simp] theorem tb_16_54 : tbl S.T 16 54 = call S.T 54 := tbl_eq S.T (Tfn_54) (by decide)
@[simp] theorem tb_21_54 : tbl S.T 21 54 = call S.T 54 := tbl_eq S.T (Tfn_54) (by decide)
@[simp] theorem tb_22_54 : tbl S.T 22 54 = call S.T 54 := tbl_eq S.T (Tfn_54) (by decide)
@[simp] theorem tb_23_54 : tbl S.T 23 54 = call S.T 54 := tbl_eq S.T (Tfn_54) (by decide)
@[simp] theorem tb_24_54 : tbl S.T 24 54 = call S.T 54 := tbl_eq S.T (Tfn_54) (by decide)
theorem run_54 (x0 : D) (st : Sto) : call S.T 54 [x0] st = fin S.T (none) (exS S.T (tbl S.T 0) B54 [some x0] st) := rfl
@[simp] theorem Tfn_83 : S.T.fn 83 = some F83.fn := rfl
@[simp] theorem tb_21_83 : tbl S.T 21 83 = call S.T 83 := tbl_eq S.T (Tfn_83) (by decide)
@[simp] theorem tb_22_83 : tbl S.T 22 83 = call S.T 83 := tbl_eq S.T (Tfn_83) (by decide)
@[simp] theorem tb_23_83 : tbl S.T 23 83 = call S.T 83 := tbl_eq S.T (Tfn_83) (by decide)
@[simp] theorem tb_24_83 : tbl S.T 24 83 = call S.T 83 := tbl_eq S.T (Tfn_83) (by decide)
theorem run_83 (x0 : D) (st : Sto) : call S.T 83 [x0] st = fin S.T (none) (exS S.T (tbl S.T 16) B83 [some x0] st) := rfl
@[simp] theorem Tfn_120 : S.T.fn 120 = some F120.fn := rfl
@[simp] theorem tb_22_120 : tbl S.T 22 120 = call S.T 120 := tbl_eq S.T (Tfn_120) (by decide)
@[simp] theorem tb_23_120 : tbl S.T 23 120 = call S.T 120 := tbl_eq S.T (Tfn_120) (by decide)
@[simp] theorem tb_24_120 : tbl S.T 24 120 = call S.T 120 := tbl_eq S.T (Tfn_120) (by decide)
theorem run_120 (x0 : D) (st : Sto) : call S.T 120 [x0] st = fin S.T (none) (exS S.T (tbl S.T 21) B120 [some x0] st) := rfl
@[simp] theorem Tfn_55 : S.T.fn 55 = some F55.fn := rfl
@[simp] theorem tb_1_55 : tbl S.T 1 55 = call S.T 55 := tbl_eq S.T (Tfn_55) (by decide)
@[simp] theorem tb_2_55 : tbl S.T 2 55 = call S.T 55 := tbl_eq S.T (Tfn_55) (by decide)
@[simp] theorem tb_4_55 : tbl S.T 4 55 = call S.T 55 := tbl_eq S.T (Tfn_55) (by decide)
@[simp] theorem tb_5_55 : tbl S.T 5 55 = call S.T 55 := tbl_eq S.T (Tfn_55) (by decide)
@[simp] theorem tb_16_55 : tbl S.T 16 55 = call S.T 55 := tbl_eq S.T (Tfn_55) (by decide)
@[simp] theorem tb_21_55 : tbl S.T 21 55 = call S.T 55 := tbl_eq S.T (Tfn_55) (by decide)
@[simp] theorem tb_22_55 : tbl S.T 22 55 = call S.T 55 := tbl_eq S.T (Tfn_55) (by decide)
@[simp] theorem tb_23_55 : tbl S.T 23 55 = call S.T 55 := tbl_eq S.T (Tfn_55) (by decide)
@[simp] theorem tb_24_55 : tbl S.T 24 55 = call S.T 55 := tbl_eq S.T (Tfn_55) (by decide)
theorem run_55 (x0 : D) (st : Sto) : call S.T 55 [x0] st = fin S.T (none) (exS S.T (tbl S.T 0) B55 [some x0] st) := rfl
@[simp] theorem Tfn_87 : S.T.fn 87 = some F87.fn := rfl
@[simp] theorem tb_22_87 : tbl S.T 22 87 = call S.T 87 := tbl_eq S.T (Tfn_87) (by decide)
@[simp] theorem tb_23_87 : tbl S.T 23 87 = call S.T 87 := tbl_eq S.T (Tfn_87) (by decide)
@[simp] theorem tb_24_87 : tbl S.T 24 87 = call S.T 87 := tbl_eq S.T (Tfn_87) (by decide)
theorem run_87 (x0 : D) (st : Sto) : call S.T 87 [x0] st = fin S.T (none) (exS S.T (tbl S.T 21) B87 [some x0] st) := rfl
@[simp] theorem Tfn_53 : S.T.fn 53 = some F53.fn := rfl
@[simp] theorem tb_1_53 : tbl S.T 1 53 = call S.T 53 := tbl_eq S.T (Tfn_53) (by decide)
@[simp] theorem tb_2_53 : tbl S.T 2 53 = call S.T 53 := tbl_eq S.T (Tfn_53) (by decide)
@[simp] theorem tb_4_53 : tbl S.T 4 53 = call S.T 53 := tbl_eq S.T (Tfn_53) (by decide)
@[simp] theorem tb_5_53 : tbl S.T 5 53 = call S.T 53 := tbl_eq S.T (Tfn_53) (by decide)
@[simp] theorem tb_16_53 : tbl S.T 16 53 = call S.T 53 := tbl_eq S.T (Tfn_53) (by decide)
@[simp] theorem tb_21_53 : tbl S.T 21 53 = call S.T 53 := tbl_eq S.T (Tfn_53) (by decide)
@[simp] theorem tb_22_53 : tbl S.T 22 53 = call S.T 53 := tbl_eq S.T (Tfn_53) (by decide)
@[simp] theorem tb_23_53 : tbl S.T 23 53 = call S.T 53 := tbl_eq S.T (Tfn_53) (by decide)
@[simp] theorem tb_24_53 : tbl S.T 24 53 = call S.T 53 := tbl_eq S.T (Tfn_53) (by decide)
theorem run_53 (x0 : D) (st : Sto) : call S.T 53 [x0] st = fin S.T (none) (exS S.T (tbl S.T 0) B53 [some x0] st) := rfl
@[simp] theorem Tfn_48 : S.T.fn 48 = some F48.fn := rfl
@[simp] theorem tb_1_48 : tbl S.T 1 48 = call S.T 48 := tbl_eq S.T (Tfn_48) (by decide)
@[simp] theorem tb_2_48 : tbl S.T 2 48 = call S.T 48 := tbl_eq S.T (Tfn_48) (by decide)
@[simp] theorem tb_4_48 : tbl S.T 4 48 = call S.T 48 := tbl_eq S.T (Tfn_48) (by decide)
@[simp] theorem tb_5_48 : tbl S.T 5 48 = call S.T 48 := tbl_eq S.T (Tfn_48) (by decide)
@[simp] theorem tb_16_48 : tbl S.T 16 48 = call S.T 48 := tbl_eq S.T (Tfn_48) (by decide)
@[simp] theorem tb_21_48 : tbl S.T 21 48 = call S.T 48 := tbl_eq S.T (Tfn_48) (by decide)
@[simp] theorem tb_22_48 : tbl S.T 22 48 = call S.T 48 := tbl_eq S.T (Tfn_48) (by decide)
@[simp] theorem tb_23_48 : tbl S.T 23 48 = call S.T 48 := tbl_eq S.T (Tfn_48) (by decide)
@[simp] theorem tb_24_48 : tbl S.T 24 48 = call S.T 48 := tbl_eq S.T (Tfn_48) (by decide)
theorem run_48 (x0 : D) (st : Sto) : call S.T 48 [x0] st = fin S.T (none) (exS S.T (tbl S.T 0) B48 [some x0] st) := rfl
@[simp] theorem Tfn_121 : S.T.fn 121 = some F121.fn := rfl
@[simp] theorem tb_22_121 : tbl S.T 22 121 = call S.T 121 := tbl_eq S.T (Tfn_121) (by decide)
@[simp] theorem tb_23_121 : tbl S.T 23 121 = call S.T 121 := tbl_eq S.T (Tfn_121) (by decide)
@[simp] theorem tb_24_121 : tbl S.T 24 121 = call S.T 121 := tbl_eq S.T (Tfn_121) (by decide)
theorem run_121 (x0 x1 : D) (st : Sto) : call S.T 121 [x0, x1] st = fin S.T (none) (exS S.T (tbl S.T 21) B121 [some x0, some x1, none, none] st) := rfl
@[simp] theorem Tfn_122 : S.T.fn 122 = some F122.fn := rfl
@[simp] theorem tb_23_122 : tbl S.T 23 122 = call S.T 122 := tbl_eq S.T (Tfn_122) (by decide)
@[simp] theorem tb_24_122 : tbl S.T 24 122 = call S.T 122 := tbl_eq S.T (Tfn_122) (by decide)
theorem run_122 (x0 : D) (st : Sto) : call S.T 122 [x0] st = fin S.T (none) (exS S.T (tbl S.T 22) B122 [some x0, none, none, none] st) := rfl
@[simp] theorem Tfn_123 : S.T.fn 123 = some F123.fn := rfl
@[simp] theorem tb_24_123 : tbl S.T 24 123 = call S.T 123 := tbl_eq S.T (Tfn_123) (by decide)
theorem run_123 (x0 : D) (st : Sto) : call S.T 123 [x0] st = fin S.T (none) (exS S.T (tbl S.T 23) B123 [some x0, none] st) := rfl
@[simp] theorem Tfn_57 : S.T.fn 57 = some F57.fn := rfl
@[simp] theorem tb_5_57 : tbl S.T 5 57 = call S.T 57 := tbl_eq S.T (Tfn_57) (by decide)
@[simp] theorem tb_16_57 : tbl S.T 16 57 = call S.T 57 := tbl_eq S.T (Tfn_57) (by decide)
@[simp] theorem tb_21_57 : tbl S.T 21 57 = call S.T 57 := tbl_eq S.T (Tfn_57) (by decide)
@[simp] theorem tb_22_57 : tbl S.T 22 57 = call S.T 57 := tbl_eq S.T (Tfn_57) (by decide)
@[simp] theorem tb_23_57 : tbl S.T 23 57 = call S.T 57 := tbl_eq S.T (Tfn_57) (by decide)
@[simp] theorem tb_24_57 : tbl S.T 24 57 = call S.T 57 := tbl_eq S.T (Tfn_57) (by decide)
theorem run_57 (x0 : D) (st : Sto) : call S.T 57 [x0] st = fin S.T (none) (exS S.T (tbl S.T 4) B57 [some x0] st) := rfl
@[simp] theorem Tfn_124 : S.T.fn 124 = some F124.fn := rfl
@[simp] theorem tb_5_124 : tbl S.T 5 124 = call S.T 124 := tbl_eq S.T (Tfn_124) (by decide)
@[simp] theorem tb_16_124 : tbl S.T 16 124 = call S.T 124 := tbl_eq S.T (Tfn_124) (by decide)
@[simp] theorem tb_21_124 : tbl S.T 21 124 = call S.T 124 := tbl_eq S.T (Tfn_124) (by decide)
@[simp] theorem tb_22_124 : tbl S.T 22 124 = call S.T 124 := tbl_eq S.T (Tfn_124) (by decide)
@[simp] theorem tb_23_124 : tbl S.T 23 124 = call S.T 124 := tbl_eq S.T (Tfn_124) (by decide)
@[simp] theorem tb_24_124 : tbl S.T 24 124 = call S.T 124 := tbl_eq S.T (Tfn_124) (by decide)
theorem run_124 (x0 x1 : D) (st : Sto) : call S.T 124 [x0, x1] st = fin S.T (none) (exS S.T (tbl S.T 4) B124 [some x0, some x1, none, none] st) := rfl
@[simp] theorem Tfn_125 : S.T.fn 125 = some F125.fn := rfl
@[simp] theorem tb_5_125 : tbl S.T 5 125 = call S.T 125 := tbl_eq S.T (Tfn_125) (by decide)
@[simp] theorem tb_16_125 : tbl S.T 16 125 = call S.T 125 := tbl_eq S.T (Tfn_125) (by decide)
@[simp] theorem tb_21_125 : tbl S.T 21 125 = call S.T 125 := tbl_eq S.T (Tfn_125) (by decide)
@[simp] theorem tb_22_125 : tbl S.T 22 125 = call S.T 125 := tbl_eq S.T (Tfn_125) (by decide)
@[simp] theorem tb_23_125 : tbl S.T 23 125 = call S.T 125 := tbl_eq S.T (Tfn_125) (by decide)
@[simp] theorem tb_24_125 : tbl S.T 24 125 = call S.T 125 := tbl_eq S.T (Tfn_125) (by decide)
theorem run_125 (x0 x1 : D) (st : Sto) : call S.T 125 [x0, x1] st = fin S.T (none) (exS S.T (tbl S.T 4) B125 [some x0, some x1, none, none] st) := rfl
@[simp] theorem Tfn_126 : S.T.fn 126 = some F126.fn := rfl
@[simp] theorem tb_16_126 : tbl S.T 16 126 = call S.T 126 := tbl_eq S.T (Tfn_126) (by decide)
@[simp] theorem tb_21_126 : tbl S.T 21 126 = call S.T 126 := tbl_eq S.T (Tfn_126) (by decide)
@[simp] theorem tb_22_126 : tbl S.T 22 126 = call S.T 126 := tbl_eq S.T (Tfn_126) (by decide)
@[simp] theorem tb_23_126 : tbl S.T 23 126 = call S.T 126 := tbl_eq S.T (Tfn_126) (by decide)
@[simp] theorem tb_24_126 : tbl S.T 24 126 = call S.T 126 := tbl_eq S.T (Tfn_126) (by decide)
theorem run_126 (x0 x1 x2 : D) (st : Sto) : call S.T 126 [x0, x1, x2] st = fin S.T (none) (exS S.T (tbl S.T 5) B126 [some x0, some x1, some x2, none] st) := rfl
@[simp] theorem Tfn_89 : S.T.fn 89 = some F89.fn := rfl
@[simp] theorem tb_16_89 : tbl S.T 16 89 = call S.T 89 := tbl_eq S.T (Tfn_89) (by decide)
@[simp] theorem tb_21_89 : tbl S.T 21 89 = call S.T 89 := tbl_eq S.T (Tfn_89) (by decide)
@[simp] theorem tb_22_89 : tbl S.T 22 89 = call S.T 89 := tbl_eq S.T (Tfn_89) (by decide)
@[simp] theorem tb_23_89 : tbl S.T 23 89 = call S.T 89 := tbl_eq S.T (Tfn_89) (by decide)
@[simp] theorem tb_24_89 : tbl S.T 24 89 = call S.T 89 := tbl_eq S.T (Tfn_89) (by decide)
theorem run_89 (x0 : D) (st : Sto) : call S.T 89 [x0] st = fin S.T (none) (exS S.T (tbl S.T 5) B89 [some x0, none] st) := rfl
@[simp] theorem Tfn_28 : S.T.fn 28 = some F28.fn := rfl
@[simp] theorem tb_5_28 : tbl S.T 5 28 = call S.T 28 := tbl_eq S.T (Tfn_28) (by decide)
@[simp] theorem tb_16_28 : tbl S.T 16 28 = call S.T 28 := tbl_eq S.T (Tfn_28) (by decide)
@[simp] theorem tb_21_28 : tbl S.T 21 28 = call S.T 28 := tbl_eq S.T (Tfn_28) (by decide)
@[simp] theorem tb_22_28 : tbl S.T 22 28 = call S.T 28 := tbl_eq S.T (Tfn_28) (by decide)
@[simp] theorem tb_23_28 : tbl S.T 23 28 = call S.T 28 := tbl_eq S.T (Tfn_28) (by decide)
@[simp] theorem tb_24_28 : tbl S.T 24 28 = call S.T 28 := tbl_eq S.T (Tfn_28) (by decide)
theorem run_28 (x0 : D) (st : Sto) : call S.T 28 [x0] st = fin S.T (none) (exS S.T (tbl S.T 4) B28 [some x0] st) := rfl
@[simp] theorem Tfn_52 : S.T.fn 52 = some F52.fn := rfl
@[simp] theorem tb_5_52 : tbl S.T 5 52 = call S.T 52 := tbl_eq S.T (Tfn_52) (by decide)
@[simp] theorem tb_16_52 : tbl S.T 16 52 = call S.T 52 := tbl_eq S.T (Tfn_52) (by decide)
@[simp] theorem tb_21_52 : tbl S.T 21 52 = call S.T 52 := tbl_eq S.T (Tfn_52) (by decide)
@[simp] theorem tb_22_52 : tbl S.T 22 52 = call S.T 52 := tbl_eq S.T (Tfn_52) (by decide)
@[simp] theorem tb_23_52 : tbl S.T 23 52 = call S.T 52 := tbl_eq S.T (Tfn_52) (by decide)
@[simp] theorem tb_24_52 : tbl S.T 24 52 = call S.T 52 := tbl_eq S.T (Tfn_52) (by decide)
theorem run_52 (x0 : D) (st : Sto) : call S.T 52 [x0] st = fin S.T (none) (exS S.T (tbl S.T 4) B52 [some x0] st) := rfl
@[simp] theorem Tfn_127 : S.T.fn 127 = some F127.fn := rfl
@[simp] theorem tb_16_127 : tbl S.T 16 127 = call S.T 127 := tbl_eq S.T (Tfn_127) (by decide)
@[simp] theorem tb_21_127 : tbl S.T 21 127 = call S.T 127 := tbl_eq S.T (Tfn_127) (by decide)
@[simp] theorem tb_22_127 : tbl S.T 22 127 = call S.T 127 := tbl_eq S.T (Tfn_127) (by decide)
@[simp] theorem tb_23_127 : tbl S.T 23 127 = call S.T 127 := tbl_eq S.T (Tfn_127) (by decide)
@[simp] theorem tb_24_127 : tbl S.T 24 127 = call S.T 127 := tbl_eq S.T (Tfn_127) (by decide)
theorem run_127 (x0 x1 : D) (st : Sto) : call S.T 127 [x0, x1] st = fin S.T (none) (exS S.T (tbl S.T 5) B127 [some x0, some x1, none, none] st) := rfl
@[simp] theorem Tfn_128 : S.T.fn 128 = some F128.fn := rfl
theorem run_128 (x0 : D) (st : Sto) : call S.T 128 [x0] st = fin S.T (none) (exS S.T (tbl S.T 24) B128 [some x0, none, none, none, none, none, none, none, none] st) := rfl
@[simp] theorem Tcls_5 : S.T.cls 5 = some C5 := rfl
@[simp] theorem Tcls_1 : S.T.cls 1 = some C1 := rfl
@[simp] theorem Tcls_6 : S.T.cls 6 = some C6 := rfl
@[simp] theorem Tcls_11 : S.T.cls 11 = some C11 := rfl
@[simp] theorem Tcon_0 : S.T.con 0 = .tup [.str [108, 105, 101, 115], .str [108, 97, 116, 101], .str [108, 97, 116, 101, 108, 105, 101, 115], .str [102, 97, 108, 108, 115]] := rfl
@[simp] theorem Tisi : S.T.isi = [.int, .bool, .str, (.cls 5), (.cls 1), .list, .tuple] := rfl
@[simp] theorem Tcop_5_eq : S.T.cop 5 .eq = some 46 := rfl
@[simp] theorem Tstr_5 : S.T.str 5 = some 47 := rfl
end K61
set_option Elab.async false
set_option linter.all false
set_option maxRecDepth 100000
set_option maxHeartbeats 0
namespace K61
open Ev Fin'
def go (i j : Int) (k : List Nat) (ns : List Int) (a b c d : Int) : Bool := isT (exS S.T (tbl S.T 24) (tlS B128 2) [some (.scr ns), some (.ref 0), some (tup3 i j k), none, none, none, none, none, none] (st4 a b c d))

def c_0 : List (Int × Int × List Nat) := ((2 : Int), (0 : Int), [108, 105, 101, 115]) :: ((2 : Int), (0 : Int), [108, 97, 116, 101]) :: ((2 : Int), (0 : Int), [108, 97, 116, 101, 108, 105, 101, 115]) :: ((2 : Int), (0 : Int), [102, 97, 108, 108, 115]) :: ((3 : Int), (0 : Int), [108, 105, 101, 115]) :: ((3 : Int), (0 : Int), [108, 97, 116, 101]) :: ((3 : Int), (0 : Int), [108, 97, 116, 101, 108, 105, 101, 115]) :: ((3 : Int), (0 : Int), [102, 97, 108, 108, 115]) :: ((3 : Int), (1 : Int), [108, 105, 101, 115]) :: ((3 : Int), (1 : Int), [108, 97, 116, 101]) :: ((3 : Int), (1 : Int), [108, 97, 116, 101, 108, 105, 101, 115]) :: ((3 : Int), (1 : Int), [102, 97, 108, 108, 115]) :: ((4 : Int), (0 : Int), [108, 105, 101, 115]) :: ((4 : Int), (0 : Int), [108, 97, 116, 101]) :: ((4 : Int), (0 : Int), [108, 97, 116, 101, 108, 105, 101, 115]) :: ((4 : Int), (0 : Int), [102, 97, 108, 108, 115]) :: ((4 : Int), (1 : Int), [108, 105, 101, 115]) :: ((4 : Int), (1 : Int), [108, 97, 116, 101]) :: ((4 : Int), (1 : Int), [108, 97, 116, 101, 108, 105, 101, 115]) :: ((4 : Int), (1 : Int), [102, 97, 108, 108, 115]) :: ((4 : Int), (2 : Int), [108, 105, 101, 115]) :: ((4 : Int), (2 : Int), [108, 97, 116, 101]) :: []
theorem go_0 (ns : List Int) (a b c d : Int) : (c_0.all fun x => go x.1 x.2.1 x.2.2 ns a b c d) = true := by kernel_rfl
def c_1 : List (Int × Int × List Nat) := ((4 : Int), (2 : Int), [108, 97, 116, 101, 108, 105, 101, 115]) :: ((4 : Int), (2 : Int), [102, 97, 108, 108, 115]) :: ((5 : Int), (0 : Int), [108, 105, 101, 115]) :: ((5 : Int), (0 : Int), [108, 97, 116, 101]) :: ((5 : Int), (0 : Int), [108, 97, 116, 101, 108, 105, 101, 115]) :: ((5 : Int), (0 : Int), [102, 97, 108, 108, 115]) :: ((5 : Int), (1 : Int), [108, 105, 101, 115]) :: ((5 : Int), (1 : Int), [108, 97, 116, 101]) :: ((5 : Int), (1 : Int), [108, 97, 116, 101, 108, 105, 101, 115]) :: ((5 : Int), (1 : Int), [102, 97, 108, 108, 115]) :: ((5 : Int), (2 : Int), [108, 105, 101, 115]) :: ((5 : Int), (2 : Int), [108, 97, 116, 101]) :: ((5 : Int), (2 : Int), [108, 97, 116, 101, 108, 105, 101, 115]) :: ((5 : Int), (2 : Int), [102, 97, 108, 108, 115]) :: ((5 : Int), (3 : Int), [108, 105, 101, 115]) :: ((5 : Int), (3 : Int), [108, 97, 116, 101]) :: ((5 : Int), (3 : Int), [108, 97, 116, 101, 108, 105, 101, 115]) :: ((5 : Int), (3 : Int), [102, 97, 108, 108, 115]) :: ((6 : Int), (0 : Int), [108, 105, 101, 115]) :: ((6 : Int), (0 : Int), [108, 97, 116, 101]) :: ((6 : Int), (0 : Int), [108, 97, 116, 101, 108, 105, 101, 115]) :: ((6 : Int), (0 : Int), [102, 97, 108, 108, 115]) :: []
theorem go_1 (ns : List Int) (a b c d : Int) : (c_1.all fun x => go x.1 x.2.1 x.2.2 ns a b c d) = true := by kernel_rfl
def c_2 : List (Int × Int × List Nat) := ((6 : Int), (1 : Int), [108, 105, 101, 115]) :: ((6 : Int), (1 : Int), [108, 97, 116, 101]) :: ((6 : Int), (1 : Int), [108, 97, 116, 101, 108, 105, 101, 115]) :: ((6 : Int), (1 : Int), [102, 97, 108, 108, 115]) :: ((6 : Int), (2 : Int), [108, 105, 101, 115]) :: ((6 : Int), (2 : Int), [108, 97, 116, 101]) :: ((6 : Int), (2 : Int), [108, 97, 116, 101, 108, 105, 101, 115]) :: ((6 : Int), (2 : Int), [102, 97, 108, 108, 115]) :: ((6 : Int), (3 : Int), [108, 105, 101, 115]) :: ((6 : Int), (3 : Int), [108, 97, 116, 101]) :: ((6 : Int), (3 : Int), [108, 97, 116, 101, 108, 105, 101, 115]) :: ((6 : Int), (3 : Int), [102, 97, 108, 108, 115]) :: ((6 : Int), (4 : Int), [108, 105, 101, 115]) :: ((6 : Int), (4 : Int), [108, 97, 116, 101]) :: ((6 : Int), (4 : Int), [108, 97, 116, 101, 108, 105, 101, 115]) :: ((6 : Int), (4 : Int), [102, 97, 108, 108, 115]) :: ((7 : Int), (0 : Int), [108, 105, 101, 115]) :: ((7 : Int), (0 : Int), [108, 97, 116, 101]) :: ((7 : Int), (0 : Int), [108, 97, 116, 101, 108, 105, 101, 115]) :: ((7 : Int), (0 : Int), [102, 97, 108, 108, 115]) :: ((7 : Int), (1 : Int), [108, 105, 101, 115]) :: ((7 : Int), (1 : Int), [108, 97, 116, 101]) :: []
theorem go_2 (ns : List Int) (a b c d : Int) : (c_2.all fun x => go x.1 x.2.1 x.2.2 ns a b c d) = true := by kernel_rfl
def c_3 : List (Int × Int × List Nat) := ((7 : Int), (1 : Int), [108, 97, 116, 101, 108, 105, 101, 115]) :: ((7 : Int), (1 : Int), [102, 97, 108, 108, 115]) :: ((7 : Int), (2 : Int), [108, 105, 101, 115]) :: ((7 : Int), (2 : Int), [108, 97, 116, 101]) :: ((7 : Int), (2 : Int), [108, 97, 116, 101, 108, 105, 101, 115]) :: ((7 : Int), (2 : Int), [102, 97, 108, 108, 115]) :: ((7 : Int), (3 : Int), [108, 105, 101, 115]) :: ((7 : Int), (3 : Int), [108, 97, 116, 101]) :: ((7 : Int), (3 : Int), [108, 97, 116, 101, 108, 105, 101, 115]) :: ((7 : Int), (3 : Int), [102, 97, 108, 108, 115]) :: ((7 : Int), (4 : Int), [108, 105, 101, 115]) :: ((7 : Int), (4 : Int), [108, 97, 116, 101]) :: ((7 : Int), (4 : Int), [108, 97, 116, 101, 108, 105, 101, 115]) :: ((7 : Int), (4 : Int), [102, 97, 108, 108, 115]) :: ((7 : Int), (5 : Int), [108, 105, 101, 115]) :: ((7 : Int), (5 : Int), [108, 97, 116, 101]) :: ((7 : Int), (5 : Int), [108, 97, 116, 101, 108, 105, 101, 115]) :: ((7 : Int), (5 : Int), [102, 97, 108, 108, 115]) :: ((8 : Int), (0 : Int), [108, 105, 101, 115]) :: ((8 : Int), (0 : Int), [108, 97, 116, 101]) :: ((8 : Int), (0 : Int), [108, 97, 116, 101, 108, 105, 101, 115]) :: ((8 : Int), (0 : Int), [102, 97, 108, 108, 115]) :: []
theorem go_3 (ns : List Int) (a b c d : Int) : (c_3.all fun x => go x.1 x.2.1 x.2.2 ns a b c d) = true := by kernel_rfl
def c_4 : List (Int × Int × List Nat) := ((8 : Int), (1 : Int), [108, 105, 101, 115]) :: ((8 : Int), (1 : Int), [108, 97, 116, 101]) :: ((8 : Int), (1 : Int), [108, 97, 116, 101, 108, 105, 101, 115]) :: ((8 : Int), (1 : Int), [102, 97, 108, 108, 115]) :: ((8 : Int), (2 : Int), [108, 105, 101, 115]) :: ((8 : Int), (2 : Int), [108, 97, 116, 101]) :: ((8 : Int), (2 : Int), [108, 97, 116, 101, 108, 105, 101, 115]) :: ((8 : Int), (2 : Int), [102, 97, 108, 108, 115]) :: ((8 : Int), (3 : Int), [108, 105, 101, 115]) :: ((8 : Int), (3 : Int), [108, 97, 116, 101]) :: ((8 : Int), (3 : Int), [108, 97, 116, 101, 108, 105, 101, 115]) :: ((8 : Int), (3 : Int), [102, 97, 108, 108, 115]) :: ((8 : Int), (4 : Int), [108, 105, 101, 115]) :: ((8 : Int), (4 : Int), [108, 97, 116, 101]) :: ((8 : Int), (4 : Int), [108, 97, 116, 101, 108, 105, 101, 115]) :: ((8 : Int), (4 : Int), [102, 97, 108, 108, 115]) :: ((8 : Int), (5 : Int), [108, 105, 101, 115]) :: ((8 : Int), (5 : Int), [108, 97, 116, 101]) :: ((8 : Int), (5 : Int), [108, 97, 116, 101, 108, 105, 101, 115]) :: ((8 : Int), (5 : Int), [102, 97, 108, 108, 115]) :: ((8 : Int), (6 : Int), [108, 105, 101, 115]) :: ((8 : Int), (6 : Int), [108, 97, 116, 101]) :: []
theorem go_4 (ns : List Int) (a b c d : Int) : (c_4.all fun x => go x.1 x.2.1 x.2.2 ns a b c d) = true := by kernel_rfl
def c_5 : List (Int × Int × List Nat) := ((8 : Int), (6 : Int), [108, 97, 116, 101, 108, 105, 101, 115]) :: ((8 : Int), (6 : Int), [102, 97, 108, 108, 115]) :: ((9 : Int), (0 : Int), [108, 105, 101, 115]) :: ((9 : Int), (0 : Int), [108, 97, 116, 101]) :: ((9 : Int), (0 : Int), [108, 97, 116, 101, 108, 105, 101, 115]) :: ((9 : Int), (0 : Int), [102, 97, 108, 108, 115]) :: ((9 : Int), (1 : Int), [108, 105, 101, 115]) :: ((9 : Int), (1 : Int), [108, 97, 116, 101]) :: ((9 : Int), (1 : Int), [108, 97, 116, 101, 108, 105, 101, 115]) :: ((9 : Int), (1 : Int), [102, 97, 108, 108, 115]) :: ((9 : Int), (2 : Int), [108, 105, 101, 115]) :: ((9 : Int), (2 : Int), [108, 97, 116, 101]) :: ((9 : Int), (2 : Int), [108, 97, 116, 101, 108, 105, 101, 115]) :: ((9 : Int), (2 : Int), [102, 97, 108, 108, 115]) :: ((9 : Int), (3 : Int), [108, 105, 101, 115]) :: ((9 : Int), (3 : Int), [108, 97, 116, 101]) :: ((9 : Int), (3 : Int), [108, 97, 116, 101, 108, 105, 101, 115]) :: ((9 : Int), (3 : Int), [102, 97, 108, 108, 115]) :: ((9 : Int), (4 : Int), [108, 105, 101, 115]) :: ((9 : Int), (4 : Int), [108, 97, 116, 101]) :: ((9 : Int), (4 : Int), [108, 97, 116, 101, 108, 105, 101, 115]) :: ((9 : Int), (4 : Int), [102, 97, 108, 108, 115]) :: []
theorem go_5 (ns : List Int) (a b c d : Int) : (c_5.all fun x => go x.1 x.2.1 x.2.2 ns a b c d) = true := by kernel_rfl
def c_6 : List (Int × Int × List Nat) := ((9 : Int), (5 : Int), [108, 105, 101, 115]) :: ((9 : Int), (5 : Int), [108, 97, 116, 101]) :: ((9 : Int), (5 : Int), [108, 97, 116, 101, 108, 105, 101, 115]) :: ((9 : Int), (5 : Int), [102, 97, 108, 108, 115]) :: ((9 : Int), (6 : Int), [108, 105, 101, 115]) :: ((9 : Int), (6 : Int), [108, 97, 116, 101]) :: ((9 : Int), (6 : Int), [108, 97, 116, 101, 108, 105, 101, 115]) :: ((9 : Int), (6 : Int), [102, 97, 108, 108, 115]) :: ((9 : Int), (7 : Int), [108, 105, 101, 115]) :: ((9 : Int), (7 : Int), [108, 97, 116, 101]) :: ((9 : Int), (7 : Int), [108, 97, 116, 101, 108, 105, 101, 115]) :: ((9 : Int), (7 : Int), [102, 97, 108, 108, 115]) :: []
theorem go_6 (ns : List Int) (a b c d : Int) : (c_6.all fun x => go x.1 x.2.1 x.2.2 ns a b c d) = true := by kernel_rfl
theorem lst_eq : sets = c_0 ++ (c_1 ++ (c_2 ++ (c_3 ++ (c_4 ++ (c_5 ++ (c_6)))))) := by decide +kernel
theorem app2 {α : Type} {P : α → Bool} {l r : List α} (h : l.all P = true) (h2 : r.all P = true) : (l ++ r).all P = true := by rw [List.all_append, h, h2]; rfl
theorem all_go (ns : List Int) (a b c d : Int) : (sets.all fun x => go x.1 x.2.1 x.2.2 ns a b c d) = true := by
  rw [lst_eq]
  exact (app2 (go_0 ns a b c d) (app2 (go_1 ns a b c d) (app2 (go_2 ns a b c d) (app2 (go_3 ns a b c d) (app2 (go_4 ns a b c d) (app2 (go_5 ns a b c d) (go_6 ns a b c d)))))))
theorem law_ev (ns : List Int) (_ : ns.length ≤ 63) : ∃ st, call S.T 128 [.scr ns] [] = .ok (.bl true) st := by
  obtain ⟨i, j, k, s, hm, d, e⟩ := setting (T := S.T) rfl rfl ns st4_draws
  obtain ⟨a, b, cc, dd, rfl, _⟩ := d
  have g := List.all_eq_true.mp (all_go ns a b cc dd) _ hm
  obtain ⟨st, r⟩ := isT_of g
  refine ⟨st, ?_⟩
  rw [run_128]
  have z : exS S.T (tbl S.T 24) B128 [some (.scr ns), none, none, none, none, none, none, none, none] [] = .rt (.bl true) st := by
    refine seq_go' st4_sto ?_
    refine seq_go' (ρ' := [some (.scr ns), some (.ref 0), some (tup3 i j k), none, none, none, none, none, none]) (st' := st4 a b cc dd) (by simp [pkB, truthS, isAny, setfD, setAll, ixE, atI, ixN, noBl, asBl, noEr, xatD, xisD, under, raisable, isErr, LINE, tb_24_43, e]) ?_
    exact r
  rw [z]
  rfl
end K61
open PySem PySem.W PySem.Calls PyProof.Rows in
theorem PySem.Challenge.cw_spreadshrinks_k61_whole_chain_of_every_s_holds : PySem.Challenge.rw_spreadshrinks_k61_whole_chain_of_every_s.Holds := by
  w_on; o_law
  refine HandSHeadRun.head_any (r := OpenLaw.row PySem.Challenge.rw_spreadshrinks_k61_whole_chain_of_every_s) (q := view (OpenLaw.row PySem.Challenge.rw_spreadshrinks_k61_whole_chain_of_every_s).prog [30]) (H := K61.hook) (ob := K61.ob) (M := 20000) (loose := K61.loose) (d := HandSHeadRun.topDef (OpenLaw.row PySem.Challenge.rw_spreadshrinks_k61_whole_chain_of_every_s).prog 30) (kwd := []) K61.ob_eq
    (by kernel_rfl) (fun s => by kernel_rfl) K61.run (by kernel_rfl) (by kernel_rfl) (by kernel_rfl) (by rfl) (by first | assumption | decide +kernel) (by decide +kernel) ⟨rfl, rfl, rfl, rfl, rfl, by decide +kernel⟩ ?hw ?hc
  case hw => w_witness2
  case hc =>
    exact Snd.law_walk (l := PySem.Challenge.rw_spreadshrinks_k61_whole_chain_of_every_s) (S := K61.S) (n := 63) (f := 128) (F := K61.F128) (x := "_law_script") rfl (by decide) (by kernel_rfl) ⟨rfl, by decide, by decide⟩ rfl rfl rfl rfl (by kernel_rfl) rfl rfl K61.good K61.law_ev
