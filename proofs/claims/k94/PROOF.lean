import PyProof.Rows.All
import Wide.All
import OpenK.AllK
import Wide.FinOn
import KE.KStateDown
import PyProof.P3Statements
import PyProof.EqLayable
import HandS.ForMost
import HandS.IsInst
import HandS.Gcd
import HandS.TupAny
import HandS.TupMul
import HandS.Flow
import HandS.Style
import HandS.Walk
import HandS.Deep
import HandS.SortInts
import KE.KMathGC
import HandS.SetFor
import HandS.Zip
import HandS.Rev
import HandS.RevRange
import HandS.Comp
import HandS.ExcSuper
import HandS.ExcInit
import KE.KSuper
import HandS.ExcField
import HandS.Exc
import PyProof.FactsAll.list_3
import HandS.TryOnly
import HandS.Conv
import KE.GoesEnum
import HandS.TupSets
import HandS.SetBool
import HandS.Defaults
import HandS.HeadHook1
import HandS.HeadHook2
import HandS.Head0
import HandS.Head1
import HandS.Head2
import HandS.HeadEnd
import HandS.Head3
import PySem.Challenge.RW_fitwright_k94_additive_tables
set_option Elab.async false
set_option linter.all false
set_option maxRecDepth 100000
set_option maxHeartbeats 0
/-! MiniA: a small deterministic evaluator (values, store, expressions, statements, functions). -/
namespace MP
open PySem

inductive MV where
  | non | bl (b : Bool) | int (i : Int) | str (x : Str) | tup (xs : List MV) | lst (xs : List MV) | ref (a : Nat) | scr (xs : List MV)
  deriving Inhabited

abbrev Store := List (List MV)
abbrev Env := List (Option MV)

mutual
def MV.beq : MV → MV → Bool
  | .non, .non => true
  | .bl a, .bl b => a == b
  | .int a, .int b => decide (a = b)
  | .str a, .str b => decide (a = b)
  | .tup a, .tup b => MV.beqs a b
  | .lst a, .lst b => MV.beqs a b
  | .ref a, .ref b => a == b
  | .scr a, .scr b => MV.beqs a b
  | _, _ => false
def MV.beqs : List MV → List MV → Bool
  | [], [] => true
  | x :: xs, y :: ys => MV.beq x y && MV.beqs xs ys
  | _, _ => false
end

mutual
theorem MV.beq_eq : ∀ {a b : MV}, MV.beq a b = true → a = b
  | .non, b, h => by cases b <;> simp_all [MV.beq]
  | .bl x, b, h => by cases b <;> simp_all [MV.beq]
  | .int x, b, h => by cases b <;> simp_all [MV.beq]
  | .str x, b, h => by cases b <;> simp_all [MV.beq]
  | .ref x, b, h => by cases b <;> simp_all [MV.beq]
  | .tup xs, b, h => by
    cases b with
    | tup ys => simp only [MV.beq] at h; rw [MV.beqs_eq h]
    | _ => simp [MV.beq] at h
  | .lst xs, b, h => by
    cases b with
    | lst ys => simp only [MV.beq] at h; rw [MV.beqs_eq h]
    | _ => simp [MV.beq] at h
  | .scr xs, b, h => by
    cases b with
    | scr ys => simp only [MV.beq] at h; rw [MV.beqs_eq h]
    | _ => simp [MV.beq] at h
theorem MV.beqs_eq : ∀ {a b : List MV}, MV.beqs a b = true → a = b
  | [], b, h => by cases b <;> simp_all [MV.beqs]
  | x :: xs, b, h => by
    cases b with
    | nil => simp [MV.beqs] at h
    | cons y ys =>
      simp only [MV.beqs, Bool.and_eq_true] at h
      rw [MV.beq_eq h.1, MV.beqs_eq h.2]
end
mutual
theorem MV.beq_refl : ∀ (a : MV), MV.beq a a = true
  | .non => by simp [MV.beq]
  | .bl x => by simp [MV.beq]
  | .int x => by simp [MV.beq]
  | .str x => by simp [MV.beq]
  | .ref x => by simp [MV.beq]
  | .tup xs => by simp only [MV.beq]; exact MV.beqs_refl xs
  | .lst xs => by simp only [MV.beq]; exact MV.beqs_refl xs
  | .scr xs => by simp only [MV.beq]; exact MV.beqs_refl xs
theorem MV.beqs_refl : ∀ (a : List MV), MV.beqs a a = true
  | [] => by simp [MV.beqs]
  | x :: xs => by simp only [MV.beqs, MV.beq_refl x, MV.beqs_refl xs, Bool.and_self]
end
instance : DecidableEq MV := fun a b => if h : MV.beq a b = true then isTrue (MV.beq_eq h) else isFalse (fun e => h (e ▸ MV.beq_refl a))

inductive R (α : Type) where
  | ok (a : α) (st : Store)
  | exc (c : Nat) (v : MV) (st : Store)
  | stuck

@[inline] def R.bind {α β : Type} (r : R α) (k : α → Store → R β) : R β :=
  match r with
  | .ok a st => k a st
  | .exc c v st => .exc c v st
  | .stuck => .stuck
@[simp] theorem R.bind_ok {α β : Type} (a : α) (st : Store) (k : α → Store → R β) : (R.ok a st).bind k = k a st := rfl
@[simp] theorem R.bind_exc {α β : Type} (c : Nat) (v : MV) (st : Store) (k : α → Store → R β) : (R.exc c v st : R α).bind k = .exc c v st := rfl
@[simp] theorem R.bind_stuck {α β : Type} (k : α → Store → R β) : (R.stuck : R α).bind k = .stuck := rfl
/-- no exception -/
def R.noX {α : Type} : R α → R α
  | .ok a st => .ok a st
  | _ => .stuck
@[simp] theorem R.noX_ok {α : Type} (a : α) (st : Store) : (R.ok a st).noX = .ok a st := rfl
theorem R.bind_assoc {α β γ : Type} (r : R α) (k : α → Store → R β) (l : β → Store → R γ) : (r.bind k).bind l = r.bind fun a st => (k a st).bind l := by
  cases r <;> rfl

def isRef : MV → Bool | .ref _ => true | _ => false
@[simp] theorem isRef_ref (a : Nat) : isRef (.ref a) = true := rfl
def isLs : MV → Bool | .ref _ => true | .lst _ => true | _ => false
@[simp] theorem isLs_ref (a : Nat) : isLs (.ref a) = true := rfl
@[simp] theorem isLs_lst (xs : List MV) : isLs (.lst xs) = true := rfl
/-! ### syntax -/
inductive BO where | add | sub | mul | fdiv | mod | pow | band
  deriving DecidableEq
inductive CO where | eq | ne | lt | le | gt | ge | isC | isNotC | mem | nmem
  deriving DecidableEq
inductive Ty where | int | bool | str | list | tuple
  deriving DecidableEq
inductive Bl where
  | len | abs | int | bool | tuple | list | sum | any | all | min1 | max1 | min2 | max2 | sorted | gcd | lcm2 | lcm3 | comb | fact | divmod | str
  deriving DecidableEq
inductive Mt where | append | pop | count | index | extend
  deriving DecidableEq
/-- what a loop walks: a sequence; range; enumerate(sequence); enumerate(zip); zip; reversed(sequence); reversed(range); combinations(xs, k) -/
inductive IK where | seq | range | enum (start : Int) | enumZip | zip | rev | revRange | comb
  deriving DecidableEq
inductive Tg where | nm (i : Nat) | tp (ts : List Tg)

inductive ME where
  | k (v : MV)
  | var (i : Nat)
  | bin (o : BO) (mu : Bool) (a b : ME)
  | neg (a : ME)
  | notE (a : ME)
  | andE (a b : ME)
  | orE (a b : ME)
  | cmp (o : CO) (a b : ME)
  | chain (o p : CO) (a b c : ME)
  | ite (c a b : ME)
  | tupE (es : List ME)
  | lstE (mu : Bool) (es : List ME)
  | idx (a i : ME)
  | slc (mu : Bool) (a lo hi : ME)
  | isi (ts : List Ty) (a : ME)
  | call (f : Nat) (es : List ME)
  | blt (f : Bl) (mu : Bool) (es : List ME)
  | meth (m : Mt) (o : ME) (es : List ME)
  | comp (mu : Bool) (own : List Nat) (elt : ME) (tg : Tg) (ik : IK) (src ifs : List ME)
  | comp2 (mu : Bool) (own : List Nat) (elt : ME) (tg : Tg) (ik : IK) (src : List ME) (own2 : List Nat) (tg2 : Tg) (ik2 : IK) (src2 : List ME)
  | revSl (mu : Bool) (a : ME)
  | sortK (mu : Bool) (slot : Nat) (key : ME) (ik : IK) (src : List ME)
  | listIt (mu : Bool) (tup : Bool) (ik : IK) (src : List ME)
  | lenSet (a : ME)
  | lenSetC (own : List Nat) (elt : ME) (tg : Tg) (ik : IK) (src : List ME)

inductive MS where
  | asg (tg : Tg) (e : ME)
  | store (a i e : ME)
  | swap (a i b j e f : ME)
  | aug (x : Nat) (o : BO) (e : ME)
  | augS (a i : ME) (o : BO) (e : ME)
  | ite (c : ME) (a b : List MS)
  | forS (tg : Tg) (ik : IK) (src : List ME) (body : List MS)
  | whileS (c : ME) (body : List MS)
  | ret (e : ME)
  | retN
  | expr (e : ME)
  | brk | cont | pass
  | raise (c : Nat) (e : ME)
  | tryE (body : List MS) (c : Nat)
  | bad

/-! ### operations on values -/
abbrev line : Nat := 16777216
def lc (st : Store) : MV → Option (List MV)
  | .lst xs => some xs
  | .ref a => st[a]?
  | _ => none
/-- list or tuple -/
def sqc (st : Store) : MV → Option (List MV)
  | .lst xs => some xs
  | .tup xs => some xs
  | .ref a => st[a]?
  | _ => none
def mkL (mu : Bool) (xs : List MV) (st : Store) : R MV :=
  if xs.length ≤ line then (if mu then .ok (.ref st.length) (st ++ [xs]) else .ok (.lst xs) st) else .stuck
def mkT (xs : List MV) (st : Store) : R MV := if xs.length ≤ line then .ok (.tup xs) st else .stuck

mutual
/-- as pure data, where it holds no reference -/
def toD : MV → Option PyData
  | .non => some .none
  | .bl b => some (.bool b)
  | .int i => some (.int i)
  | .str x => some (.str x)
  | .tup xs => match toDs xs with | some ds => some (.tuple ds) | none => none
  | .lst xs => match toDs xs with | some ds => some (.list ds) | none => none
  | .ref _ => none
  | .scr _ => none
def toDs : List MV → Option (List PyData)
  | [] => some []
  | x :: xs => match toD x, toDs xs with | some d, some ds => some (d :: ds) | _, _ => none
end
def optMap {α β : Type} (f : α → Option β) : List α → Option (List β)
  | [] => some []
  | x :: xs => match f x with | none => none | some y => match optMap f xs with | none => none | some ys => some (y :: ys)
/-- references from n0 on replaced by what stands there -/
def fz (n0 : Nat) (st : Store) : Nat → MV → Option MV
  | _, .non => some .non
  | _, .bl b => some (.bl b)
  | _, .int i => some (.int i)
  | _, .str x => some (.str x)
  | _, .scr _ => none
  | 0, _ => none
  | n + 1, .tup xs => match optMap (fz n0 st n) xs with | some ys => some (.tup ys) | none => none
  | n + 1, .lst xs => match optMap (fz n0 st n) xs with | some ys => some (.lst ys) | none => none
  | n + 1, .ref a => if a < n0 then some (.ref a) else match st[a]? with
    | none => none
    | some xs => match optMap (fz n0 st n) xs with | some ys => some (.lst ys) | none => none
abbrev fzFuel : Nat := 20
def dataOf (st : Store) (v : MV) : Option PyData :=
  match toD v with
  | some d => some d
  | none => match fz 0 st fzFuel v with | some w => toD w | none => none
def eqD (st : Store) (x y : MV) : Option Bool :=
  match dataOf st x, dataOf st y with
  | some d, some e => if SeqAt.shaped d && SeqAt.shaped e then some (PyData.eqv d e) else none
  | _, _ => none
/-- == -/
def eqM (st : Store) : MV → MV → Option Bool
  | .int i, .int j => some (decide (i = j))
  | x, y => eqD st x y
def truth (st : Store) : MV → Option Bool
  | .non => some false
  | .bl b => some b
  | .int i => some (i != 0)
  | .str x => if x.length ≤ line then some ((x.length : Int) != 0) else none
  | .tup xs => some (!xs.isEmpty)
  | .lst xs => some (!xs.isEmpty)
  | .ref a => match st[a]? with | some xs => some (!xs.isEmpty) | none => none
  | .scr _ => none

def mulOk (i j : Int) : Bool := decide (i.natAbs < 2 ^ 64) || decide (j.natAbs < 2 ^ 64) || decide (i.natAbs.log2 + j.natAbs.log2 < 134217000)
def divOk (i j : Int) : Bool := decide (j ≠ 0) && !Builtin.divisionGoesByPylong i j
def powOk (i j : Int) : Bool := decide (0 ≤ j) && decide (j ≤ 1000000) && decide (i.natAbs < 2 ^ 64)
def ixN (n : Nat) (i : Int) : Option Nat := if 0 ≤ i then (if i < n then some i.toNat else none) else if -(n : Int) ≤ i then some (i + n).toNat else none
def repL (k : Int) (xs : List MV) : List MV := (List.replicate k.toNat xs).flatten
def smallRep (k : Int) (n : Nat) : Bool := decide (-(2 ^ 62) ≤ k) && decide (k < 2 ^ 62) && decide (n * k.toNat ≤ line)

def binM (o : BO) (mu : Bool) (x y : MV) (st : Store) : R MV :=
  match o with
  | .add => match x with
    | .int i => match y with | .int j => .ok (.int (i + j)) st | _ => .stuck
    | .str s => match y with | .str t => if s.length + t.length ≤ line then .ok (.str (s ++ t)) st else .stuck | _ => .stuck
    | .tup xs => match y with | .tup ys => if (xs ++ ys).length ≤ line then .ok (.tup (xs ++ ys)) st else .stuck | _ => .stuck
    | _ => match lc st x, lc st y with | some xs, some ys => mkL mu (xs ++ ys) st | _, _ => .stuck
  | .sub => match x, y with | .int i, .int j => .ok (.int (i - j)) st | _, _ => .stuck
  | .mul => match x, y with
    | .int i, .int j => if mulOk i j then .ok (.int (i * j)) st else .stuck
    | .tup xs, .int k => if decide (2 ≤ k) && decide (k ≤ 1000) && decide (xs.length ≤ 1000) && !xs.isEmpty then .ok (.tup (repL k xs)) st else .stuck
    | x, .int k => match lc st x with | some xs => if smallRep k xs.length then mkL mu (repL k xs) st else .stuck | none => .stuck
    | _, _ => .stuck
  | .fdiv => match x, y with | .int i, .int j => if divOk i j then .ok (.int (i.fdiv j)) st else .stuck | _, _ => .stuck
  | .mod => match x, y with | .int i, .int j => if decide (j ≠ 0) then .ok (.int (i.fmod j)) st else .stuck | _, _ => .stuck
  | .pow => match x, y with | .int i, .int j => if powOk i j then .ok (.int (i ^ j.toNat)) st else .stuck | _, _ => .stuck
  | .band => match x, y with | .int i, .int j => .ok (.int (Builtin.bitAnd i j)) st | _, _ => .stuck

def isM : MV → MV → Option Bool
  | x, .non => some (match x with | .non => true | _ => false)
  | .bl c, .bl b => some (decide (c = b))
  | _, _ => none
def flatD : PyData → Bool
  | .none => true | .bool _ => true | .int _ => true | .str _ => true | _ => false
/-- in -/
def memM (st : Store) (x y : MV) : Option Bool :=
  match dataOf st x with
  | none => none
  | some d => match y with
    | .tup xs => match toDs xs with
      | some ds => if flatD d && ds.all flatD then some (ds.any fun z => PyData.eqv z d) else none
      | none => none
    | y => match dataOf st y with
      | some (.list ds) => if SeqAt.shaped d && SeqAt.shaped (.list ds) then some (ds.any fun z => PyData.eqv z d) else none
      | _ => none
def cmpM (o : CO) (x y : MV) (st : Store) : Option Bool :=
  match o with
  | .eq => eqM st x y
  | .ne => (eqM st x y).map (!·)
  | .lt => match x, y with | .int i, .int j => some (decide (i < j)) | _, _ => none
  | .le => match x, y with | .int i, .int j => some (decide (i ≤ j)) | _, _ => none
  | .gt => match x, y with | .int i, .int j => some (decide (j < i)) | _, _ => none
  | .ge => match x, y with | .int i, .int j => some (decide (j ≤ i)) | _, _ => none
  | .isC => isM x y
  | .isNotC => (isM x y).map (!·)
  | .mem => memM st x y
  | .nmem => (memM st x y).map (!·)

def isTy (x : MV) : Ty → Bool
  | .int => match x with | .int _ => true | .bl _ => true | _ => false
  | .bool => match x with | .bl _ => true | _ => false
  | .str => match x with | .str _ => true | _ => false
  | .list => match x with | .lst _ => true | .ref _ => true | _ => false
  | .tuple => match x with | .tup _ => true | _ => false

def idxM (x y : MV) (st : Store) : R MV :=
  match y with
  | .int i => match sqc st x with
    | some xs => match ixN xs.length i with
      | some j => match xs[j]? with | some v => .ok v st | none => .stuck
      | none => .stuck
    | none => .stuck
  | _ => .stuck
def sIx (n d : Nat) : Option Int → Nat
  | none => d
  | some v => if v < 0 then (v + (n : Int)).toNat else min v.toNat n
def cutM (xs : List MV) (lo hi : Option Int) : List MV := (xs.drop (sIx xs.length 0 lo)).take (sIx xs.length xs.length hi - sIx xs.length 0 lo)
def optI : MV → Option (Option Int)
  | .non => some none
  | .int i => some (some i)
  | _ => none
def slcM (mu : Bool) (x lo hi : MV) (st : Store) : R MV :=
  match optI lo, optI hi with
  | some l, some h => match x with
    | .tup xs => .ok (.tup (cutM xs l h)) st
    | .scr xs => mkL mu (cutM xs l h) st
    | _ => match lc st x with | some xs => mkL mu (cutM xs l h) st | none => .stuck
  | _, _ => .stuck

def intsOf : List MV → Option (List Int)
  | [] => some []
  | .int i :: xs => match intsOf xs with | some is => some (i :: is) | none => none
  | _ :: _ => none
def boolsOf : List MV → Option (List Bool)
  | [] => some []
  | .bl b :: xs => match boolsOf xs with | some bs => some (b :: bs) | none => none
  | _ :: _ => none
def maxI : List Int → Option Int
  | [] => none
  | x :: xs => some (xs.foldl max x)
def minI : List Int → Option Int
  | [] => none
  | x :: xs => some (xs.foldl min x)
def insI (x : Int) : List Int → List Int
  | [] => [x]
  | y :: ys => if x ≤ y then x :: y :: ys else y :: insI x ys
def sortI : List Int → List Int
  | [] => []
  | x :: xs => insI x (sortI xs)
def lcmI (a b : Int) : Int := ((Nat.lcm a.natAbs b.natAbs : Nat) : Int)
def lcmOk (i j : Int) : Bool := decide (i.natAbs.log2 < 13500) && decide (j.natAbs.log2 < 13500)
def combI (n k : Int) : Int := if k > n then 0 else Builtin.Math.fallingProduct n (min k (n - k)).toNat / Builtin.Math.fallingProduct (min k (n - k)) (min k (n - k)).toNat
def combOk (n k : Int) : Bool := decide (0 ≤ n) && decide (0 ≤ k) && decide (n ≤ 3000) && decide ((combI n k).natAbs.log2 < 134217000)
def gcdI (a b : Int) : Int := ((Nat.gcd a.natAbs b.natAbs : Nat) : Int)

def bltM (f : Bl) (mu : Bool) (vs : List MV) (st : Store) : R MV :=
  match f with
  | .len => match vs with
    | [x] => match sqc st x with | some xs => .ok (.int xs.length) st | none => match x with | .str s => if s.length ≤ line then .ok (.int s.length) st else .stuck | _ => .stuck
    | _ => .stuck
  | .abs => match vs with | [.int i] => .ok (.int (if i < 0 then -i else i)) st | _ => .stuck
  | .int => match vs with | [.int i] => .ok (.int i) st | [.bl b] => .ok (.int (if b then 1 else 0)) st | _ => .stuck
  | .bool => match vs with | [.int i] => .ok (.bl (i != 0)) st | [.bl b] => .ok (.bl b) st | _ => .stuck
  | .tuple => match vs with | [x] => (match sqc st x with | some xs => .ok (.tup xs) st | none => .stuck) | _ => .stuck
  | .list => match vs with | [x] => (match sqc st x with | some xs => mkL mu xs st | none => .stuck) | _ => .stuck
  | .sum => match vs with | [x] => (match lc st x with | some xs => (match intsOf xs with | some is => .ok (.int is.sum) st | none => .stuck) | none => .stuck) | _ => .stuck
  | .any => match vs with | [x] => (match lc st x with | some xs => (match boolsOf xs with | some bs => .ok (.bl (bs.any id)) st | none => .stuck) | none => .stuck) | _ => .stuck
  | .all => match vs with | [x] => (match lc st x with | some xs => (match boolsOf xs with | some bs => .ok (.bl (bs.all id)) st | none => .stuck) | none => .stuck) | _ => .stuck
  | .min1 => match vs with | [x] => (match lc st x with | some xs => (match intsOf xs with | some is => (match minI is with | some m => .ok (.int m) st | none => .stuck) | none => .stuck) | none => .stuck) | _ => .stuck
  | .max1 => match vs with | [x] => (match lc st x with | some xs => (match intsOf xs with | some is => (match maxI is with | some m => .ok (.int m) st | none => .stuck) | none => .stuck) | none => .stuck) | _ => .stuck
  | .min2 => match vs with | [.int i, .int j] => .ok (.int (if j < i then j else i)) st | _ => .stuck
  | .max2 => match vs with | [.int i, .int j] => .ok (.int (if j > i then j else i)) st | _ => .stuck
  | .sorted => match vs with | [x] => (match lc st x with | some xs => (match intsOf xs with | some is => mkL mu ((sortI is).map .int) st | none => .stuck) | none => .stuck) | _ => .stuck
  | .gcd => match vs with | [.int i, .int j] => .ok (.int (gcdI i j)) st | _ => .stuck
  | .lcm2 => match vs with | [.int i, .int j] => if lcmOk i j then .ok (.int (lcmI i j)) st else .stuck | _ => .stuck
  | .lcm3 => .stuck
  | .comb => match vs with | [.int i, .int j] => if combOk i j then .ok (.int (combI i j)) st else .stuck | _ => .stuck
  | .fact => .stuck
  | .divmod => .stuck
  | .str => .stuck
def methM (m : Mt) (o : MV) (vs : List MV) (st : Store) : R MV :=
  match m with
  | .append => match o, vs with
    | .ref a, [y] => (match st[a]? with | some xs => if xs.length < line then .ok .non (st.set a (xs ++ [y])) else .stuck | none => .stuck)
    | _, _ => .stuck
  | .pop => match o, vs with
    | .ref a, [] => (match st[a]? with | some xs => (match xs[xs.length - 1]? with | some y => .ok y (st.set a xs.dropLast) | none => .stuck) | none => .stuck)
    | _, _ => .stuck
  | .extend => match o, vs with
    | .ref a, [y] => (match st[a]?, lc st y with | some xs, some ys => if xs.length + ys.length ≤ line then .ok .non (st.set a (xs ++ ys)) else .stuck | _, _ => .stuck)
    | _, _ => .stuck
  | .count => match vs with
    | [.int k] => (match lc st o with | some xs => (match intsOf xs with | some is => .ok (.int (is.count k : Nat)) st | none => .stuck) | none => .stuck)
    | _ => .stuck
  | .index => .stuck
def setM (o i v : MV) (st : Store) : Option Store :=
  match o, i with
  | .ref a, .int k => match st[a]? with
    | some xs => match ixN xs.length k with | some j => some (st.set a (xs.set j v)) | none => none
    | none => none
  | _, _ => none

/-! ### what is walked -/
/-- the items and what must stand still meanwhile -/
abbrev Deps := List (Nat × List MV)
def depOk (st : Store) : Deps → Bool
  | [] => true
  | (a, xs) :: r => (match st[a]? with | some ys => decide (ys = xs) | none => false) && depOk st r
def srcOf (st : Store) : MV → Option (List MV × Deps)
  | .lst xs => some (xs, [])
  | .tup xs => some (xs, [])
  | .ref a => match st[a]? with | some xs => some (xs, [(a, xs)]) | none => none
  | _ => none
def srcL (st : Store) : MV → Option (List MV × Deps)
  | .lst xs => some (xs, [])
  | .ref a => match st[a]? with | some xs => some (xs, [(a, xs)]) | none => none
  | _ => none
def small62 (i : Int) : Bool := decide (-(2 ^ 62) ≤ i) && decide (i < 2 ^ 62)
def rangeL (lo : Int) (n : Nat) : List MV := (List.range n).map fun (i : Nat) => .int (lo + (i : Int))
def rangeC (lo c : Int) (n : Nat) : List MV := (List.range n).map fun (i : Nat) => .int (lo + (i : Int) * c)
def enumL (s : Int) (xs : List MV) : List MV := (List.range xs.length).zipWith (fun (i : Nat) x => .tup [.int (s + (i : Int)), x]) xs
def zip2 (xs ys : List MV) : List MV := xs.zipWith (fun x y => .tup [x, y]) ys
def zip3 : List MV → List MV → List MV → List MV
  | x :: xs, y :: ys, z :: zs => .tup [x, y, z] :: zip3 xs ys zs
  | _, _, _ => []
def combL : Nat → List MV → List (List MV)
  | 0, _ => [[]]
  | _ + 1, [] => []
  | k + 1, x :: xs => (combL k xs).map (x :: ·) ++ combL (k + 1) xs
def itemsM (k : IK) (vs : List MV) (st : Store) : Option (List MV × Deps) :=
  match k with
  | .seq => match vs with | [x] => srcOf st x | _ => none
  | .range => match vs with
    | [.int n] => if small62 n then some (rangeL 0 n.toNat, []) else none
    | [.int lo, .int hi] => if small62 lo && small62 hi then some (rangeL lo (hi - lo).toNat, []) else none
    | [.int lo, .int hi, .int c] => if small62 lo && small62 hi && decide (c ≠ 0) && decide (c.natAbs < 2 ^ 20) then some (rangeC lo c (if 0 < c then ((hi - lo + c - 1) / c).toNat else ((lo - hi + (-c) - 1) / (-c)).toNat), []) else none
    | _ => none
  | .enum s => match vs with | [x] => (match srcL st x with | some (xs, d) => if s = 0 then some (enumL s xs, d) else none | none => none) | _ => none
  | .enumZip => none
  | .zip => match vs with
    | [.tup xs, .tup ys] => some (zip2 xs ys, [])
    | [x, y] => (match srcL st x, srcL st y with | some (xs, d), some (ys, e) => some (zip2 xs ys, d ++ e) | _, _ => none)
    | [x, y, z] => (match srcOf st x, srcOf st y, srcOf st z with | some (xs, d), some (ys, e), some (zs, f) => some (zip3 xs ys zs, d ++ (e ++ f)) | _, _, _ => none)
    | _ => none
  | .rev => match vs with | [x] => (match srcOf st x with | some (xs, d) => some (xs.reverse, d) | none => none) | _ => none
  | .revRange => match vs with
    | [.int n] => if small62 n then some ((rangeL 0 n.toNat).reverse, []) else none
    | [.int lo, .int hi] => if small62 lo && small62 hi then some ((rangeL lo (hi - lo).toNat).reverse, []) else none
    | _ => none
  | .comb => match vs with
    | _ => none

/-! ### targets -/
mutual
def asgT : Tg → MV → Env → Option Env
  | .nm i, v, env => if i < env.length then some (env.set i (some v)) else none
  | .tp ts, v, env => match v with
    | .tup xs => asgTs ts xs env
    | .lst xs => asgTs ts xs env
    | _ => none
def asgTs : List Tg → List MV → Env → Option Env
  | [], [], env => some env
  | t :: ts, x :: xs, env => match asgT t x env with | some env1 => asgTs ts xs env1 | none => none
  | _, _, _ => none
end
def wipeE : List Nat → Env → Env
  | [], env => env
  | v :: vs, env => (wipeE vs env).set v none

/-! ### the evaluator -/
abbrev Fns := Nat → List MV → Store → R MV

/-- a comprehension's loop: t the test and the element of one item -/
def compL (deps : Deps) (turn : MV → Store → R (Option MV)) : List MV → List MV → Store → R (List MV)
  | [], acc, st => if depOk st deps then .ok acc.reverse st else .stuck
  | x :: xs, acc, st => if depOk st deps then (turn x st).bind fun r st1 => match r with
      | some y => if acc.length < line then compL deps turn xs (y :: acc) st1 else .stuck
      | none => compL deps turn xs acc st1
    else .stuck
/-- the outer loop of a comprehension of two clauses -/
def outL (deps : Deps) (turn : MV → List MV → Store → R (List MV)) : List MV → List MV → Store → R (List MV)
  | [], acc, st => if depOk st deps then .ok acc st else .stuck
  | x :: xs, acc, st => if depOk st deps then (turn x acc st).bind fun acc1 st1 => outL deps turn xs acc1 st1 else .stuck
def revM (mu : Bool) (x : MV) (st : Store) : R MV := match lc st x with
  | some xs => mkL mu xs.reverse st
  | none => .stuck
def toTruth (r : R MV) : R Bool := r.bind fun v st => match truth st v with | some b => .ok b st | none => .stuck
/-- sorted by keys that are ints or tuples of ints, stable -/
def keyInts : MV → Option (List Int)
  | .int i => some [i]
  | .tup xs => intsOf xs
  | _ => none
def lexLe : List Int → List Int → Bool
  | [], _ => true
  | _ :: _, [] => false
  | x :: xs, y :: ys => if x < y then true else if y < x then false else lexLe xs ys
def insK (x : List Int × MV) : List (List Int × MV) → List (List Int × MV)
  | [] => [x]
  | y :: ys => if lexLe x.1 y.1 then x :: y :: ys else y :: insK x ys
def sortK : List (List Int × MV) → List (List Int × MV)
  | [] => []
  | x :: xs => insK x (sortK xs)
def keysL (key : MV → Store → R MV) : List MV → Store → R (List (List Int × MV))
  | [], st => .ok [] st
  | x :: xs, st => (key x st).bind fun k st1 => match keyInts k with
    | some is => (keysL key xs st1).bind fun r st2 => .ok ((is, x) :: r) st2
    | none => .stuck

/-- a set's size -/
def addI (acc : List Int) (x : Int) : List Int := if acc.any (· == x) then acc else acc ++ [x]
def addK (acc : List (List Int)) (k : List Int) : List (List Int) := if decide (k ∈ acc) then acc else k :: acc
def tupInts : MV → Option (List Int)
  | .tup xs => intsOf xs
  | _ => none
def setL (deps : Deps) (turn : MV → Store → R MV) : List MV → List (List Int) → Store → R (List (List Int))
  | [], acc, st => if depOk st deps then .ok acc st else .stuck
  | x :: xs, acc, st => if depOk st deps then (turn x st).bind fun y st1 => match tupInts y with
      | some k => if acc.length + 1 < 64 then setL deps turn xs (addK acc k) st1 else .stuck
      | none => .stuck
    else .stuck
/-- of what is walked, a sequence alone may raise -/
def srcX {α : Type} (k : IK) (r : R α) : R α := match k with
  | .seq => r
  | _ => r.noX
@[simp] theorem srcX_ok {α : Type} (k : IK) (a : α) (st : Store) : srcX k (.ok a st) = .ok a st := by cases k <;> rfl
section
variable (C : Fns)
mutual
def eE : ME → Env → Store → R MV
  | .k v, _, st => .ok v st
  | .var i, env, st => match env[i]? with | some (some v) => .ok v st | _ => .stuck
  | .bin o mu a b, env, st => (eE a env st).bind fun x st1 => (eE b env st1).bind fun y st2 => binM o mu x y st2
  | .neg a, env, st => (eE a env st).bind fun x st1 => match x with | .int i => .ok (.int (-i)) st1 | _ => .stuck
  | .notE a, env, st => (toTruth (eE a env st)).bind fun b st1 => .ok (.bl (!b)) st1
  | .andE a b, env, st => (eE a env st).bind fun x st1 => match truth st1 x with
    | some true => eE b env st1
    | some false => .ok x st1
    | none => .stuck
  | .orE a b, env, st => (eE a env st).bind fun x st1 => match truth st1 x with
    | some true => .ok x st1
    | some false => eE b env st1
    | none => .stuck
  | .cmp o a b, env, st => (eE a env st).bind fun x st1 => (eE b env st1).bind fun y st2 => match cmpM o x y st2 with | some r => .ok (.bl r) st2 | none => .stuck
  | .chain o p a b c, env, st => (eE a env st).bind fun x st1 => (eE b env st1).bind fun y st2 => match cmpM o x y st2 with
    | some true => (eE c env st2).bind fun z st3 => (match cmpM p y z st3 with | some r => .ok (.bl r) st3 | none => .stuck)
    | some false => .ok (.bl false) st2
    | none => .stuck
  | .ite c a b, env, st => (toTruth (eE c env st)).bind fun r st1 => if r then eE a env st1 else eE b env st1
  | .tupE es, env, st => (eEs es env st).bind fun xs st1 => mkT xs st1
  | .lstE mu es, env, st => (eEs es env st).bind fun xs st1 => mkL mu xs st1
  | .idx a i, env, st => (eE a env st).bind fun x st1 => (eE i env st1).bind fun y st2 => idxM x y st2
  | .slc mu a lo hi, env, st => (eE a env st).bind fun x st1 => (eE lo env st1).bind fun l st2 => (eE hi env st2).noX.bind fun h st3 => slcM mu x l h st3
  | .isi ts a, env, st => (eE a env st).bind fun x st1 => match x with | .scr _ => .stuck | x => .ok (.bl (ts.any (isTy x))) st1
  | .call f es, env, st => (eEs es env st).bind fun xs st1 => C f xs st1
  | .blt f mu es, env, st => (eEs es env st).bind fun xs st1 => bltM f mu xs st1
  | .meth m o es, env, st => (eE o env st).bind fun x st1 => if isLs x then (eEs es env st1).bind fun xs st2 => methM m x xs st2 else .stuck
  | .comp mu own elt tg ik src ifs, env, st => (srcX ik (eEs src env st)).bind fun vs st1 => match itemsM ik vs st1 with
    | none => .stuck
    | some (items, deps) => (compL deps (fun x s => match asgT tg x (wipeE own env) with
        | none => .stuck
        | some env1 => (eIfs ifs env1 s).bind fun b s1 => if b then (eE elt env1 s1).bind fun y s2 => .ok (some y) s2 else .ok none s1) items [] st1).bind fun xs st2 => mkL mu xs st2
  | .comp2 mu own elt tg ik src own2 tg2 ik2 src2, env, st => (srcX ik (eEs src env st)).bind fun vs st1 => match itemsM ik vs st1 with
    | none => .stuck
    | some (items, deps) => (outL deps (fun x acc s => match asgT tg x (wipeE own env) with
        | none => .stuck
        | some env1 => (eEs src2 env1 s).noX.bind fun vs2 s2 => match itemsM ik2 vs2 s2 with
          | none => .stuck
          | some (items2, deps2) => compL deps2 (fun y s => match asgT tg2 y (wipeE own2 env1) with
              | none => .stuck
              | some env2 => (eE elt env2 s).noX.bind fun z s3 => .ok (some z) s3) items2 acc.reverse s2) items [] st1).bind fun xs st2 => mkL mu xs st2
  | .revSl mu a, env, st => (eE a env st).bind fun x st1 => revM mu x st1
  | .sortK mu slot key ik src, env, st => (srcX ik (eEs src env st)).bind fun vs st1 => match itemsM ik vs st1 with
    | none => .stuck
    | some (items, _) => (keysL (fun x s => eE key (env.set slot (some x)) s) items st1).bind fun ks st2 => mkL mu ((sortK ks).map (·.2)) st2
  | .listIt mu tup ik src, env, st => (srcX ik (eEs src env st)).bind fun vs st1 => match itemsM ik vs st1 with
    | none => .stuck
    | some (items, _) => if tup then mkT items st1 else mkL mu items st1
  | .lenSet a, env, st => (eE a env st).bind fun x st1 => match lc st1 x with
    | some xs => (match intsOf xs with | some is => if is.length < 64 then .ok (.int ((is.foldl addI []).length : Nat)) st1 else .stuck | none => .stuck)
    | none => .stuck
  | .lenSetC own elt tg ik src, env, st => (srcX ik (eEs src env st)).bind fun vs st1 => match itemsM ik vs st1 with
    | none => .stuck
    | some (items, deps) => (setL deps (fun x s => match asgT tg x (wipeE own env) with
        | none => .stuck
        | some env1 => eE elt env1 s) items [] st1).bind fun ks st2 => .ok (.int (ks.length : Nat)) st2
def eEs : List ME → Env → Store → R (List MV)
  | [], _, st => .ok [] st
  | e :: es, env, st => (eE e env st).bind fun x st1 => (eEs es env st1).bind fun xs st2 => .ok (x :: xs) st2
def eIfs : List ME → Env → Store → R Bool
  | [], _, st => .ok true st
  | e :: es, env, st => (toTruth (eE e env st)).bind fun b st1 => if b then eIfs es env st1 else .ok false st1
end

def augOk : BO → Bool
  | .add => true | .sub => true | .mul => true | .fdiv => true | .band => true | _ => false
inductive Fl where
  | next (env : Env) (st : Store)
  | ret (v : MV) (st : Store)
  | brk (env : Env) (st : Store)
  | cont (env : Env) (st : Store)
  | exc (c : Nat) (v : MV) (env : Env) (st : Store)
  | stuck
/-- from an expression's end -/
@[inline] def R.fl {α : Type} (r : R α) (env : Env) (k : α → Store → Fl) : Fl :=
  match r with
  | .ok a st => k a st
  | .exc c v st => .exc c v env st
  | .stuck => .stuck
@[simp] theorem R.fl_ok {α : Type} (a : α) (st : Store) (env : Env) (k : α → Store → Fl) : (R.ok a st).fl env k = k a st := rfl
@[simp] theorem R.fl_exc {α : Type} (c : Nat) (v : MV) (st : Store) (env : Env) (k : α → Store → Fl) : (R.exc c v st : R α).fl env k = .exc c v env st := rfl
@[simp] theorem R.fl_stuck {α : Type} (env : Env) (k : α → Store → Fl) : (R.stuck : R α).fl env k = .stuck := rfl

def forL (tg : Tg) (deps : Deps) (body : Env → Store → Fl) : List MV → Env → Store → Fl
  | [], env, st => if depOk st deps then .next env st else .stuck
  | x :: xs, env, st => if depOk st deps then (match asgT tg x env with
      | none => .stuck
      | some env1 => match body env1 st with
        | .next e s => forL tg deps body xs e s
        | .cont e s => forL tg deps body xs e s
        | .brk e s => .next e s
        | .ret v s => .ret v s
        | .exc c v e s => .exc c v e s
        | .stuck => .stuck) else .stuck
def whileL (c : Env → Store → R Bool) (body : Env → Store → Fl) : Nat → Env → Store → Fl
  | 0, _, _ => .stuck
  | n + 1, env, st => (c env st).fl env fun b st1 => if b then (match body env st1 with
        | .next e s => whileL c body n e s
        | .cont e s => whileL c body n e s
        | .brk e s => .next e s
        | .ret v s => .ret v s
        | .exc c v e s => .exc c v e s
        | .stuck => .stuck) else .next env st1

variable (W : Nat)
mutual
def eS : MS → Env → Store → Fl
  | .asg tg e, env, st => (eE C e env st).fl env fun v st1 => match asgT tg v env with | some env1 => .next env1 st1 | none => .stuck
  | .store a i e, env, st => (eE C e env st).fl env fun v st1 => (eE C a env st1).fl env fun x st2 => (eE C i env st2).fl env fun y st3 =>
      match setM x y v st3 with | some st4 => .next env st4 | none => .stuck
  | .swap a i b j e f, env, st => (eE C e env st).fl env fun v st1 => (eE C f env st1).fl env fun w st2 =>
      (eE C a env st2).fl env fun x st3 => (eE C i env st3).fl env fun y st4 => match setM x y v st4 with
        | none => .stuck
        | some st5 => (eE C b env st5).fl env fun x2 st6 => (eE C j env st6).fl env fun y2 st7 => match setM x2 y2 w st7 with
          | some st8 => .next env st8
          | none => .stuck
  | .aug x o e, env, st => if !augOk o then .stuck else match env[x]? with
    | some (some v) => (eE C e env st).fl env fun w st1 => (match v, w with
      | .int _, .int _ => (binM o false v w st1).fl env fun r st2 => .next (env.set x (some r)) st2
      | _, _ => .stuck)
    | _ => .stuck
  | .augS a i o e, env, st => if !augOk o then .stuck else (eE C a env st).fl env fun x st1 => (eE C i env st1).fl env fun y st2 => if !isRef x then .stuck else (idxM x y st2).fl env fun v st3 =>
      (eE C e env st3).fl env fun w st4 => (match v, w with
        | .int _, .int _ => (binM o false v w st4).fl env fun r st5 => (match setM x y r st5 with | some st6 => .next env st6 | none => .stuck)
        | _, _ => .stuck)
  | .ite c a b, env, st => (toTruth (eE C c env st)).fl env fun r st1 => if r then eSs a env st1 else eSs b env st1
  | .forS tg ik src body, env, st => (srcX ik (eEs C src env st)).fl env fun vs st1 => match itemsM ik vs st1 with
    | none => .stuck
    | some (items, deps) => forL tg deps (fun e s => eSs body e s) items env st1
  | .whileS c body, env, st => whileL (fun e s => toTruth (eE C c e s)) (fun e s => eSs body e s) W env st
  | .ret e, env, st => (eE C e env st).fl env fun v st1 => .ret v st1
  | .retN, _, st => .ret .non st
  | .expr e, env, st => (eE C e env st).fl env fun _ st1 => .next env st1
  | .brk, env, st => .brk env st
  | .cont, env, st => .cont env st
  | .pass, env, st => .next env st
  | .raise c e, env, st => (eE C e env st).fl env fun v st1 => .exc c v env st1
  | .tryE body c, env, st => match eSs body env st with
    | .exc c' v e st1 => if c' = c then .ret v st1 else .stuck
    | r => r
  | .bad, _, _ => .stuck
def eSs : List MS → Env → Store → Fl
  | [], env, st => .next env st
  | s :: ss, env, st => match eS s env st with
    | .next e st1 => eSs ss e st1
    | r => r
end
end

/-! ### functions -/
structure Fn where
  slots : Nat
  arity : Nat
  keep : Bool
  body : List MS
def startE (f : Fn) (args : List MV) : Env := args.map some ++ List.replicate (f.slots - args.length) none
/-- what a call leaves: its own lists frozen -/
def finish (keep : Bool) (st0 : Store) (v : MV) (st : Store) : R MV :=
  if keep || st.length == st0.length then .ok v st
  else match fz st0.length st fzFuel v with
    | none => .stuck
    | some v' => if st.take st0.length = st0 then .ok v' st0
      else match optMap (optMap (fz st0.length st fzFuel)) (st.take st0.length) with
        | some st' => .ok v' st'
        | none => .stuck
def callF (fs : List Fn) (W : Nat) : Nat → Fns
  | 0, _, _, _ => .stuck
  | d + 1, f, args, st => match fs[f]? with
    | none => .stuck
    | some fn => if args.length = fn.arity ∧ fn.arity ≤ fn.slots then (match eSs (callF fs W d) W fn.body (startE fn args) st with
        | .next _ st1 => finish fn.keep st .non st1
        | .ret v st1 => finish fn.keep st v st1
        | .exc c v _ st1 => .exc c v st1
        | _ => .stuck) else .stuck
end MP

/-! MiniS: how the mini store lies in the layer's heap. -/
namespace MP
open PySem PySem.Spec PyProof.Rows L2

mutual
inductive Rep (K : PySem.W.Frag) (ι : List Addr) (F : Hp) : MV → V → Prop
  | non : Rep K ι F .non .non
  | bl (b : Bool) : Rep K ι F (.bl b) (.bl b)
  | int (i : Int) : Rep K ι F (.int i) (.int i)
  | str (x : Str) : Rep K ι F (.str x) (.str x)
  | tup {xs : List MV} {p : Addr} {vs : List V} : SqT K F p vs → Reps K ι F xs vs → Rep K ι F (.tup xs) (.ref p)
  | lst {xs : List MV} {p : Addr} {vs : List V} : F p = some (.lst vs) → Reps K ι F xs vs → Rep K ι F (.lst xs) (.ref p)
  | scr {xs : List MV} {p : Addr} {vs : List V} : SqL K F p vs → Reps K ι F xs vs → Rep K ι F (.scr xs) (.ref p)
  | ref {a : Nat} {p : Addr} : ι[a]? = some p → Rep K ι F (.ref a) (.ref p)
inductive Reps (K : PySem.W.Frag) (ι : List Addr) (F : Hp) : List MV → List V → Prop
  | nil : Reps K ι F [] []
  | cons {x : MV} {v : V} {xs : List MV} {vs : List V} : Rep K ι F x v → Reps K ι F xs vs → Reps K ι F (x :: xs) (v :: vs)
end

theorem Rd.same {F F' : Hp} {a : Addr} {u : HO} (s : Same F F') (h : Rd F a u) : Rd F' a u := by
  rcases h with h | ⟨o, h⟩
  · exact .inl (s _ _ h)
  · exact .inr ⟨o, s _ _ h⟩
theorem SqLsame {K : PySem.W.Frag} {F F' : Hp} {a : Addr} {xs : List V} (s : Same F F') (h : SqL K F a xs) : SqL K F' a xs := by
  rcases h with h | h
  · exact .inl (Rd.same s h)
  · exact .inr h
theorem SqTsame {K : PySem.W.Frag} {F F' : Hp} {a : Addr} {xs : List V} (s : Same F F') (h : SqT K F a xs) : SqT K F' a xs := by
  rcases h with h | h
  · exact .inl (Rd.same s h)
  · exact .inr h

section
variable {K : PySem.W.Frag} {ι ι' ι'' : List Addr} {F F' F'' H H' H'' : Hp}
/-- ι' begins with ι -/
def Pre (ι ι' : List Addr) : Prop := ∀ (a : Nat) (p : Addr), ι[a]? = some p → ι'[a]? = some p
theorem Pre.refl : Pre ι ι := fun _ _ h => h
theorem Pre.trans (h : Pre ι ι') (h' : Pre ι' ι'') : Pre ι ι'' := fun a p e => h' a p (h a p e)
mutual
theorem Rep.mono (hp : Pre ι ι') (hs : Same F F') : ∀ {x : MV} {v : V}, Rep K ι F x v → Rep K ι' F' x v
  | _, _, .non => .non
  | _, _, .bl b => .bl b
  | _, _, .int i => .int i
  | _, _, .str x => .str x
  | _, _, .tup h r => .tup (SqTsame hs h) (Reps.mono hp hs r)
  | _, _, .lst h r => .lst (hs _ _ h) (Reps.mono hp hs r)
  | _, _, .scr h r => .scr (SqLsame hs h) (Reps.mono hp hs r)
  | _, _, .ref h => .ref (hp _ _ h)
theorem Reps.mono (hp : Pre ι ι') (hs : Same F F') : ∀ {x : List MV} {v : List V}, Reps K ι F x v → Reps K ι' F' x v
  | _, _, .nil => .nil
  | _, _, .cons h r => .cons (Rep.mono hp hs h) (Reps.mono hp hs r)
end
theorem Reps.len : ∀ {xs : List MV} {vs : List V}, Reps K ι F xs vs → xs.length = vs.length
  | _, _, .nil => rfl
  | _, _, .cons _ r => congrArg (· + 1) (Reps.len r)
theorem Reps.get : ∀ {xs : List MV} {vs : List V} {i : Nat} {x : MV}, Reps K ι F xs vs → xs[i]? = some x → ∃ v, vs[i]? = some v ∧ Rep K ι F x v
  | _, _, _, _, .nil, e => by simp at e
  | _, _, 0, _, .cons h _, e => by simp at e; subst e; exact ⟨_, rfl, h⟩
  | _, _, i + 1, x, .cons _ r, e => by
    obtain ⟨v, h1, h2⟩ := Reps.get (i := i) (x := x) r (by simpa using e)
    exact ⟨v, by simpa using h1, h2⟩
theorem Reps.append : ∀ {xs ys : List MV} {vs ws : List V}, Reps K ι F xs vs → Reps K ι F ys ws → Reps K ι F (xs ++ ys) (vs ++ ws)
  | _, _, _, _, .nil, s => s
  | _, _, _, _, .cons h r, s => .cons h (Reps.append r s)
theorem Reps.one {x : MV} {v : V} (h : Rep K ι F x v) : Reps K ι F [x] [v] := .cons h .nil
theorem Reps.take : ∀ {xs : List MV} {vs : List V} (n : Nat), Reps K ι F xs vs → Reps K ι F (xs.take n) (vs.take n)
  | _, _, 0, _ => .nil
  | _, _, _ + 1, .nil => .nil
  | _, _, n + 1, .cons h r => .cons h (Reps.take n r)
theorem Reps.drop : ∀ {xs : List MV} {vs : List V} (n : Nat), Reps K ι F xs vs → Reps K ι F (xs.drop n) (vs.drop n)
  | _, _, 0, r => r
  | _, _, _ + 1, .nil => .nil
  | _, _, n + 1, .cons _ r => Reps.drop n r
theorem Reps.set {x : MV} {v : V} (h : Rep K ι F x v) : ∀ {xs : List MV} {vs : List V} (i : Nat), Reps K ι F xs vs → Reps K ι F (xs.set i x) (vs.set i v)
  | _, _, _, .nil => .nil
  | _, _, 0, .cons _ r => .cons h r
  | _, _, i + 1, .cons q r => .cons q (Reps.set h i r)
theorem Reps.dropLast : ∀ {xs : List MV} {vs : List V}, Reps K ι F xs vs → Reps K ι F xs.dropLast vs.dropLast
  | _, _, .nil => .nil
  | _, _, .cons _ .nil => .nil
  | _, _, .cons h (.cons h2 r) => .cons h (Reps.dropLast (.cons h2 r))
theorem Reps.reverse {xs : List MV} {vs : List V} (h : Reps K ι F xs vs) : Reps K ι F xs.reverse vs.reverse := by
  induction xs generalizing vs with
  | nil => cases h; exact .nil
  | cons x xs ih =>
    cases h with
    | cons h r =>
      rw [List.reverse_cons, List.reverse_cons]
      exact (ih r).append (.one h)
theorem Reps.rep {xs : List MV} {vs : List V} (h : Reps K ι F xs vs) : ∀ n : Nat, Reps K ι F (List.replicate n xs).flatten (List.replicate n vs).flatten
  | 0 => .nil
  | n + 1 => by
    rw [List.replicate_succ, List.replicate_succ, List.flatten_cons, List.flatten_cons]
    exact h.append (Reps.rep h n)
theorem Reps.ints : ∀ {xs : List MV} {vs : List V} {is : List Int}, Reps K ι F xs vs → intsOf xs = some is → vs = is.map V.int ∧ xs = is.map MV.int
  | _, _, _, .nil, e => by simp [intsOf] at e; subst e; exact ⟨rfl, rfl⟩
  | _, _, is, .cons (x := x) h r, e => by
    cases h with
    | int i =>
      simp only [intsOf] at e
      split at e
      · rename_i js ej
        obtain ⟨h1, h2⟩ := Reps.ints r ej
        simp only [Option.some.injEq] at e
        subst e
        exact ⟨by rw [h1]; rfl, by rw [h2]; rfl⟩
      · cases e
    | _ => simp [intsOf] at e
theorem Reps.bools : ∀ {xs : List MV} {vs : List V} {is : List Bool}, Reps K ι F xs vs → boolsOf xs = some is → vs = is.map V.bl ∧ xs = is.map MV.bl
  | _, _, _, .nil, e => by simp [boolsOf] at e; subst e; exact ⟨rfl, rfl⟩
  | _, _, is, .cons (x := x) h r, e => by
    cases h with
    | bl i =>
      simp only [boolsOf] at e
      split at e
      · rename_i js ej
        obtain ⟨h1, h2⟩ := Reps.bools r ej
        simp only [Option.some.injEq] at e
        subst e
        exact ⟨by rw [h1]; rfl, by rw [h2]; rfl⟩
      · cases e
    | _ => simp [boolsOf] at e

/-- the mini store st lies in H: its lists at ι, all else that is read in F -/
structure Sim (K : PySem.W.Frag) (ι : List Addr) (F H : Hp) (st : Store) : Prop where
  same : Same F H
  len : ι.length = st.length
  inj : ∀ (a b : Nat) (p : Addr), ι[a]? = some p → ι[b]? = some p → a = b
  obj : ∀ (a : Nat) (p : Addr) (xs : List MV), ι[a]? = some p → st[a]? = some xs → F p = none ∧ ∃ vs, H p = some (.lst vs) ∧ Reps K ι F xs vs
structure Ext (ι : List Addr) (F H : Hp) (ι' : List Addr) (F' H' : Hp) : Prop where
  pre : Pre ι ι'
  sF : Same F F'
  old : ∀ p o, H p = some o → p ∉ ι → H' p = some o
  fresh : ∀ p ∈ ι', p ∉ ι → H p = none
  newF : ∀ p, F p = none → F' p ≠ none → H p = none
  there : ∀ p o, H p = some o → H' p ≠ none
theorem Same.rfl' : Same F F := fun _ _ h => h
theorem Ext.refl : Ext ι F H ι F H := ⟨Pre.refl, Same.rfl', fun _ _ h _ => h, fun _ h n => absurd h n, fun _ h n => absurd h n, fun _ _ h => by rw [h]; simp⟩
theorem Ext.trans (h : Ext ι F H ι' F' H') (h' : Ext ι' F' H' ι'' F'' H'') : Ext ι F H ι'' F'' H'' where
  pre := h.pre.trans h'.pre
  sF := fun b o e => h'.sF b o (h.sF b o e)
  old := fun p o e n => h'.old p o (h.old p o e n) fun m => by
    have := h.fresh p m n
    rw [e] at this; cases this
  fresh := fun p m n => by
    by_cases hp : p ∈ ι'
    · exact h.fresh p hp n
    · have q := h'.fresh p m hp
      cases e : H p with
      | none => rfl
      | some o => exact absurd q (h.there p o e)
  newF := fun p n n' => by
    by_cases hp : F' p = none
    · have q := h'.newF p hp n'
      cases e : H p with
      | none => rfl
      | some o => exact absurd q (h.there p o e)
    · exact h.newF p n hp
  there := fun p o e => by
    have q := h.there p o e
    cases e' : H' p with
    | none => exact absurd e' q
    | some o' => exact h'.there p o' e'
end

/-! ### what is wanted behind -/
/-- what is wished of an exception that leaves: C the classes, E the wish -/
class Wish where
  C : Nat → Addr
  E : XK
variable [Wi : Wish]
section
variable (K : PySem.W.Frag)
def PostX (ι : List Addr) (F H : Hp) (c : Nat) (v : MV) (st : Store) : Prop := ∀ ι' F' H' d x, Ext ι F H ι' F' H' → Sim K ι' F' H' st → Rep K ι' F' v x → H' d = some (.xd [(Str.ofString "at", x)]) → Wi.E (.ref (Wi.C c)) (some d) H'
def PostE (ι : List Addr) (F H : Hp) (Q : VK) : R MV → Prop
  | .ok v st => ∀ ι' F' H' x, Ext ι F H ι' F' H' → Sim K ι' F' H' st → Rep K ι' F' v x → Q x H'
  | .exc c v st => PostX K ι F H c v st
  | .stuck => False
def PostEs (ι : List Addr) (F H : Hp) (Q : List V → Hp → Prop) : R (List MV) → Prop
  | .ok v st => ∀ ι' F' H' x, Ext ι F H ι' F' H' → Sim K ι' F' H' st → Reps K ι' F' v x → Q x H'
  | .exc c v st => PostX K ι F H c v st
  | .stuck => False
def PostB (ι : List Addr) (F H : Hp) (Q : Bool → Hp → Prop) : R Bool → Prop
  | .ok b st => ∀ ι' F' H', Ext ι F H ι' F' H' → Sim K ι' F' H' st → Q b H'
  | .exc c v st => PostX K ι F H c v st
  | .stuck => False
def EnvR (ι : List Addr) (F : Hp) (env : Env) (σ : L2.St) : Prop :=
  env.length = σ.length ∧ ∀ (i : Nat) (v : MV), env[i]? = some (some v) → ∃ x, σ[i]? = some (some x) ∧ Rep K ι F v x
variable (C : Fns)
def tE (m : ME) : TE := fun σ H Q => ∃ ι F env st, Sim K ι F H st ∧ EnvR K ι F env σ ∧ PostE K ι F H Q (eE C m env st)
def tEs (ms : List ME) : TA := fun σ H Q => ∃ ι F env st, Sim K ι F H st ∧ EnvR K ι F env σ ∧ PostEs K ι F H Q (eEs C ms env st)
def tT (m : ME) : TT := fun σ H Q => ∃ ι F env st, Sim K ι F H st ∧ EnvR K ι F env σ ∧ PostB K ι F H Q (toTruth (eE C m env st))
end
section
variable {K : PySem.W.Frag} {C : Fns} {ι ι' : List Addr} {F F' H H' : Hp} {Q Q' : VK}
theorem EnvR.mono {env : Env} {σ : L2.St} (h : EnvR K ι F env σ) (e : Ext ι F H ι' F' H') : EnvR K ι' F' env σ :=
  ⟨h.1, fun i v q => let ⟨x, h1, h2⟩ := h.2 i v q; ⟨x, h1, h2.mono e.pre e.sF⟩⟩
theorem PostE.mono {r : R MV} (h : PostE K ι F H Q r) (q : ∀ x H', Q x H' → Q' x H') : PostE K ι F H Q' r := by
  cases r with
  | ok v st => exact fun ι' F' H' x e s p => q _ _ (h ι' F' H' x e s p)
  | exc c v st => exact h
  | stuck => exact h
theorem PostEs.mono {Q Q' : List V → Hp → Prop} {r : R (List MV)} (h : PostEs K ι F H Q r) (q : ∀ x H', Q x H' → Q' x H') : PostEs K ι F H Q' r := by
  cases r with
  | ok v st => exact fun ι' F' H' x e s p => q _ _ (h ι' F' H' x e s p)
  | exc c v st => exact h
  | stuck => exact h
theorem PostB.mono {Q Q' : Bool → Hp → Prop} {r : R Bool} (h : PostB K ι F H Q r) (q : ∀ x H', Q x H' → Q' x H') : PostB K ι F H Q' r := by
  cases r with
  | ok v st => exact fun ι' F' H' e s => q _ _ (h ι' F' H' e s)
  | exc c v st => exact h
  | stuck => exact h
/-- ahead of further steps -/
theorem PostE.ext {r : R MV} (e : Ext ι F H ι' F' H') (h : PostE K ι F H Q r) : PostE K ι' F' H' Q r := by
  cases r with
  | ok v st => exact fun ι2 F2 H2 x e2 s p => h ι2 F2 H2 x (e.trans e2) s p
  | exc c v st => exact fun ι2 F2 H2 d x e2 => h ι2 F2 H2 d x (e.trans e2)
  | stuck => exact h
theorem PostEs.ext {Q : List V → Hp → Prop} {r : R (List MV)} (e : Ext ι F H ι' F' H') (h : PostEs K ι F H Q r) : PostEs K ι' F' H' Q r := by
  cases r with
  | ok v st => exact fun ι2 F2 H2 x e2 s p => h ι2 F2 H2 x (e.trans e2) s p
  | exc c v st => exact fun ι2 F2 H2 d x e2 => h ι2 F2 H2 d x (e.trans e2)
  | stuck => exact h
theorem PostB.ext {Q : Bool → Hp → Prop} {r : R Bool} (e : Ext ι F H ι' F' H') (h : PostB K ι F H Q r) : PostB K ι' F' H' Q r := by
  cases r with
  | ok v st => exact fun ι2 F2 H2 e2 s => h ι2 F2 H2 (e.trans e2) s
  | exc c v st => exact fun ι2 F2 H2 d x e2 => h ι2 F2 H2 d x (e.trans e2)
  | stuck => exact h
/-- the state behind a value -/
def At (K : PySem.W.Frag) (ι : List Addr) (F H : Hp) (R : MV → Store → List Addr → Hp → Hp → Prop) : VK := fun x H1 => ∃ ι1 F1 v st1, Ext ι F H ι1 F1 H1 ∧ Sim K ι1 F1 H1 st1 ∧ Rep K ι1 F1 v x ∧ R v st1 ι1 F1 H1
theorem PostE.bind {r : R MV} {k : MV → Store → R MV} (h : PostE K ι F H Q (r.bind k)) :
    PostE K ι F H (At K ι F H fun v st1 ι1 F1 H1 => PostE K ι1 F1 H1 Q (k v st1)) r := by
  cases r with
  | ok v st => exact fun ι' F' H' x e s p => ⟨ι', F', v, st, e, s, p, h.ext e⟩
  | exc c v st => exact h
  | stuck => exact h
theorem PostE.bindEs {r : R (List MV)} {k : List MV → Store → R MV} (h : PostE K ι F H Q (r.bind k)) :
    PostEs K ι F H (fun xs H1 => ∃ ι1 F1 vs st1, Ext ι F H ι1 F1 H1 ∧ Sim K ι1 F1 H1 st1 ∧ Reps K ι1 F1 vs xs ∧ PostE K ι1 F1 H1 Q (k vs st1)) r := by
  cases r with
  | ok v st => exact fun ι' F' H' x e s p => ⟨ι', F', v, st, e, s, p, h.ext e⟩
  | exc c v st => exact h
  | stuck => exact h
theorem PostE.bindB {r : R Bool} {k : Bool → Store → R MV} (h : PostE K ι F H Q (r.bind k)) :
    PostB K ι F H (fun b H1 => ∃ ι1 F1 st1, Ext ι F H ι1 F1 H1 ∧ Sim K ι1 F1 H1 st1 ∧ PostE K ι1 F1 H1 Q (k b st1)) r := by
  cases r with
  | ok v st => exact fun ι' F' H' e s => ⟨ι', F', st, e, s, h.ext e⟩
  | exc c v st => exact h
  | stuck => exact h
theorem PostEs.bind {Q : List V → Hp → Prop} {r : R MV} {k : MV → Store → R (List MV)} (h : PostEs K ι F H Q (r.bind k)) :
    PostE K ι F H (At K ι F H fun v st1 ι1 F1 H1 => PostEs K ι1 F1 H1 Q (k v st1)) r := by
  cases r with
  | ok v st => exact fun ι' F' H' x e s p => ⟨ι', F', v, st, e, s, p, h.ext e⟩
  | exc c v st => exact h
  | stuck => exact h
theorem PostEs.bindEs {Q : List V → Hp → Prop} {r : R (List MV)} {k : List MV → Store → R (List MV)} (h : PostEs K ι F H Q (r.bind k)) :
    PostEs K ι F H (fun xs H1 => ∃ ι1 F1 vs st1, Ext ι F H ι1 F1 H1 ∧ Sim K ι1 F1 H1 st1 ∧ Reps K ι1 F1 vs xs ∧ PostEs K ι1 F1 H1 Q (k vs st1)) r := by
  cases r with
  | ok v st => exact fun ι' F' H' x e s p => ⟨ι', F', v, st, e, s, p, h.ext e⟩
  | exc c v st => exact h
  | stuck => exact h
theorem PostB.bind {Q : Bool → Hp → Prop} {r : R MV} {k : MV → Store → R Bool} (h : PostB K ι F H Q (r.bind k)) :
    PostE K ι F H (At K ι F H fun v st1 ι1 F1 H1 => PostB K ι1 F1 H1 Q (k v st1)) r := by
  cases r with
  | ok v st => exact fun ι' F' H' x e s p => ⟨ι', F', v, st, e, s, p, h.ext e⟩
  | exc c v st => exact h
  | stuck => exact h
theorem PostB.bindB {Q : Bool → Hp → Prop} {r : R Bool} {k : Bool → Store → R Bool} (h : PostB K ι F H Q (r.bind k)) :
    PostB K ι F H (fun b H1 => ∃ ι1 F1 st1, Ext ι F H ι1 F1 H1 ∧ Sim K ι1 F1 H1 st1 ∧ PostB K ι1 F1 H1 Q (k b st1)) r := by
  cases r with
  | ok v st => exact fun ι' F' H' e s => ⟨ι', F', st, e, s, h.ext e⟩
  | exc c v st => exact h
  | stuck => exact h
/-- at hand -/
theorem PostE.now {v : MV} {st : Store} {x : V} (h : PostE K ι F H Q (.ok v st)) (s : Sim K ι F H st) (r : Rep K ι F v x) : Q x H := h ι F H x .refl s r
end

/-! ### new objects, changed ones -/
section
variable {K : PySem.W.Frag} {C : Fns} {ι ι' : List Addr} {F F' H H' : Hp} {Q Q' : VK} {st : Store}
theorem Sim.inι (s : Sim K ι F H st) {p : Addr} (h : p ∈ ι) : ∃ (a : Nat) (xs : List MV) (vs : List V), ι[a]? = some p ∧ st[a]? = some xs ∧ F p = none ∧ H p = some (.lst vs) ∧ Reps K ι F xs vs := by
  obtain ⟨a, ha, e⟩ := List.getElem_of_mem h
  have e1 : ι[a]? = some p := by rw [List.getElem?_eq_getElem ha, e]
  have hb : a < st.length := by rw [← s.len]; exact ha
  obtain ⟨h1, vs, h2, h3⟩ := s.obj a p st[a] e1 (List.getElem?_eq_getElem hb)
  exact ⟨a, st[a], vs, e1, List.getElem?_eq_getElem hb, h1, h2, h3⟩
theorem Sim.notι (s : Sim K ι F H st) {p : Addr} (h : H p = none) : p ∉ ι := fun m => by
  obtain ⟨_, _, _, _, _, _, e, _⟩ := s.inι m
  rw [h] at e; cases e
theorem Sim.notF (s : Sim K ι F H st) {p : Addr} (h : H p = none) : F p = none := by
  cases e : F p with
  | none => rfl
  | some o => rw [s.same p o e] at h; cases h
theorem mem_of_get {p : Addr} {a : Nat} (h : ι[a]? = some p) : p ∈ ι := List.mem_of_getElem? h
/-- a thing that is read only -/
theorem Sim.frozen (s : Sim K ι F H st) {p : Addr} {o : HO} (h : H p = none) : Sim K ι (upd F p o) (upd H p o) st ∧ Ext ι F H ι (upd F p o) (upd H p o) := by
  have hF := s.notF h
  have sF : Same F (upd F p o) := fun b u e => by
    rw [upd_ne (ne_of_none e hF)]
    exact e
  have sH : ∀ b u, H b = some u → upd H p o b = some u := fun b u e => by
    rw [upd_ne (ne_of_none e h)]
    exact e
  refine ⟨⟨fun b u e => ?_, s.len, s.inj, fun a q xs e1 e2 => ?_⟩, ⟨Pre.refl, sF, fun b u e _ => sH b u e, fun b m n => absurd m n, fun b n n' => ?_, fun b u e => by rw [sH b u e]; simp⟩⟩
  · by_cases hb : b = p
    · subst hb; rw [upd_same] at e ⊢; exact e
    · rw [upd_ne hb] at e ⊢; exact s.same b u e
  · obtain ⟨h1, vs, h2, h3⟩ := s.obj a q xs e1 e2
    have hq : q ≠ p := ne_of_none h2 h
    exact ⟨by rw [upd_ne hq]; exact h1, vs, by rw [upd_ne hq]; exact h2, h3.mono Pre.refl sF⟩
  · by_cases hb : b = p
    · subst hb; exact h
    · rw [upd_ne hb] at n'; exact absurd n n'
theorem pre_snoc {p : Addr} : Pre ι (ι ++ [p]) := fun a q e => by
  rw [List.getElem?_append_left (List.getElem?_eq_some_iff.mp e).1]; exact e
/-- a list of one's own -/
theorem Sim.fresh (s : Sim K ι F H st) {p : Addr} {xs : List MV} {vs : List V} (h : H p = none) (r : Reps K ι F xs vs) :
    Sim K (ι ++ [p]) F (upd H p (.lst vs)) (st ++ [xs]) ∧ Ext ι F H (ι ++ [p]) F (upd H p (.lst vs)) := by
  have hF := s.notF h
  have hn := s.notι h
  have sH : ∀ b u, H b = some u → upd H p (.lst vs) b = some u := fun b u e => by
    rw [upd_ne (ne_of_none e h)]
    exact e
  have at' : ∀ {a : Nat} {q : Addr}, (ι ++ [p])[a]? = some q → ι[a]? = some q ∨ (a = ι.length ∧ q = p) := fun {a q} e => by
    by_cases ha : a < ι.length
    · rw [List.getElem?_append_left ha] at e; exact .inl e
    · rw [List.getElem?_append_right (by omega)] at e
      have e2 : a - ι.length = 0 := by
        have := (List.getElem?_eq_some_iff.mp e).1
        simp at this
        omega
      rw [e2] at e
      exact .inr ⟨by omega, (Option.some.inj e).symm⟩
  refine ⟨⟨fun b u e => sH b u (s.same b u e), by rw [List.length_append, List.length_append, s.len]; rfl, fun a b q e1 e2 => ?_, fun a q ys e1 e2 => ?_⟩, ⟨pre_snoc, Same.rfl', fun b u e _ => sH b u e, fun b m n => ?_, fun b n n' => absurd n n', fun b u e => by rw [sH b u e]; simp⟩⟩
  · rcases at' e1 with g1 | ⟨g1, f1⟩ <;> rcases at' e2 with g2 | ⟨g2, f2⟩
    · exact s.inj a b q g1 g2
    · rw [f2] at g1; exact absurd (mem_of_get g1) hn
    · rw [f1] at g2; exact absurd (mem_of_get g2) hn
    · omega
  · rcases at' e1 with g1 | ⟨g1, f1⟩
    · have ha : a < st.length := by rw [← s.len]; exact (List.getElem?_eq_some_iff.mp g1).1
      rw [List.getElem?_append_left ha] at e2
      obtain ⟨h1, ws, h2, h3⟩ := s.obj a q ys g1 e2
      exact ⟨h1, ws, sH _ _ h2, h3.mono pre_snoc Same.rfl'⟩
    · subst f1
      rw [g1, s.len, List.getElem?_append_right (Nat.le_refl _), Nat.sub_self] at e2
      have e3 : xs = ys := Option.some.inj e2
      subst e3
      exact ⟨hF, vs, upd_same, r.mono pre_snoc Same.rfl'⟩
  · rcases List.mem_append.mp m with m | m
    · exact absurd m n
    · have e : b = p := by simpa using m
      subst e; exact h
/-- a list of one's own is changed -/
theorem Sim.write (s : Sim K ι F H st) {a : Nat} {p : Addr} {xs : List MV} {vs : List V} (h : ι[a]? = some p) (r : Reps K ι F xs vs) :
    Sim K ι F (upd H p (.lst vs)) (st.set a xs) ∧ Ext ι F H ι F (upd H p (.lst vs)) := by
  have hm := mem_of_get h
  obtain ⟨a', xs', vs', q1, q2, q3, q4, q5⟩ := s.inι hm
  refine ⟨⟨fun b u e => ?_, by rw [List.length_set]; exact s.len, s.inj, fun b q ys e1 e2 => ?_⟩, ⟨Pre.refl, Same.rfl', fun b u e n => ?_, fun b m n => absurd m n, fun b n n' => absurd n n', fun b u e => ?_⟩⟩
  · have hb : b ≠ p := fun z => by subst z; rw [q3] at e; cases e
    rw [upd_ne hb]; exact s.same b u e
  · by_cases hb : a = b
    · subst hb
      have e3 : p = q := by rw [h] at e1; exact Option.some.inj e1
      subst e3
      have ha : a < st.length := by rw [← s.len]; exact (List.getElem?_eq_some_iff.mp h).1
      rw [List.getElem?_set_self ha] at e2
      have e4 : xs = ys := Option.some.inj e2
      subst e4
      exact ⟨q3, vs, upd_same, r⟩
    · rw [List.getElem?_set_ne hb] at e2
      obtain ⟨h1, ws, h2, h3⟩ := s.obj b q ys e1 e2
      have hq : q ≠ p := fun z => by subst z; exact hb (s.inj _ _ _ h e1)
      exact ⟨h1, ws, by rw [upd_ne hq]; exact h2, h3⟩
  · have hb : b ≠ p := fun z => by subst z; exact n hm
    rw [upd_ne hb]; exact e
  · by_cases hb : b = p
    · subst hb; rw [upd_same]; simp
    · rw [upd_ne hb, e]; simp

theorem line_eq : line = sizeLine := sizeLine_eq.symm
/-- a new list -/
theorem mkL_ok {mu : Bool} {xs : List MV} {vs : List V} (s : Sim K ι F H st) (r : Reps K ι F xs vs) (h : PostE K ι F H Q (mkL mu xs st)) : vs.length ≤ sizeLine ∧ ∀ p, H p = none → Q (.ref p) (upd H p (.lst vs)) := by
  unfold mkL at h
  by_cases hl : xs.length ≤ line
  · rw [if_pos hl] at h
    refine ⟨by rw [← r.len, ← line_eq]; exact hl, fun p hp => ?_⟩
    cases mu with
    | true =>
      simp only [if_true] at h
      obtain ⟨s', e'⟩ := s.fresh hp r
      refine h _ _ _ _ e' s' (.ref ?_)
      rw [List.getElem?_append_right (by rw [s.len]; exact Nat.le_refl _), s.len, Nat.sub_self]
      rfl
    | false =>
      simp only [Bool.false_eq_true, if_false] at h
      obtain ⟨s', e'⟩ := s.frozen (o := .lst vs) hp
      exact h _ _ _ _ e' s' (.lst upd_same (r.mono Pre.refl e'.sF))
  · rw [if_neg hl] at h
    exact h.elim
theorem mkT_now {xs : List MV} {vs : List V} (s : Sim K ι F H st) (r : Reps K ι F xs vs) (h : PostE K ι F H Q (.ok (.tup xs) st)) : ∀ p, H p = none → Q (.ref p) (upd H p (.tup vs)) := fun p hp => by
  obtain ⟨s', e'⟩ := s.frozen (o := .tup vs) hp
  exact h _ _ _ _ e' s' (.tup (.inl (.inl upd_same)) (r.mono Pre.refl e'.sF))
theorem mkT_ok {xs : List MV} {vs : List V} (s : Sim K ι F H st) (r : Reps K ι F xs vs) (h : PostE K ι F H Q (mkT xs st)) : vs.length ≤ sizeLine ∧ ∀ p, H p = none → Q (.ref p) (upd H p (.tup vs)) := by
  unfold mkT at h
  by_cases hl : xs.length ≤ line
  · rw [if_pos hl] at h
    exact ⟨by rw [← r.len, ← line_eq]; exact hl, mkT_now s r h⟩
  · rw [if_neg hl] at h
    exact h.elim
/-- a list, read -/
theorem lc_ok {x : MV} {v : V} {xs : List MV} (s : Sim K ι F H st) (r : Rep K ι F x v) (h : lc st x = some xs) : ∃ p vs, v = .ref p ∧ H p = some (.lst vs) ∧ Reps K ι F xs vs := by
  cases r with
  | lst hq hr =>
    simp only [lc, Option.some.injEq] at h
    subst h
    exact ⟨_, _, rfl, s.same _ _ hq, hr⟩
  | @ref a p hp =>
    simp only [lc] at h
    obtain ⟨_, vs, h2, h3⟩ := s.obj a p xs hp h
    exact ⟨p, vs, rfl, h2, h3⟩
  | _ => simp [lc] at h
theorem sqc_ok {x : MV} {v : V} {xs : List MV} (s : Sim K ι F H st) (r : Rep K ι F x v) (h : sqc st x = some xs) : ∃ p vs, v = .ref p ∧ (H p = some (.lst vs) ∨ SqT K H p vs) ∧ Reps K ι F xs vs := by
  cases r with
  | lst hq hr =>
    simp only [sqc, Option.some.injEq] at h
    subst h
    exact ⟨_, _, rfl, .inl (s.same _ _ hq), hr⟩
  | tup hq hr =>
    simp only [sqc, Option.some.injEq] at h
    subst h
    exact ⟨_, _, rfl, .inr (SqTsame s.same hq), hr⟩
  | @ref a p hp =>
    simp only [sqc] at h
    obtain ⟨_, vs, h2, h3⟩ := s.obj a p xs hp h
    exact ⟨p, vs, rfl, .inl h2, h3⟩
  | _ => simp [sqc] at h

/-! ### data -/
mutual
theorem toD_ok (sm : Same F H) : ∀ (x : MV) (v : V) (d : PyData), Rep K ι F x v → toD x = some d → Dp K H v d
  | .non, _, _, r, e => by cases r; simp only [toD, Option.some.injEq] at e; subst e; exact .non
  | .bl b, _, _, r, e => by cases r; simp only [toD, Option.some.injEq] at e; subst e; exact .bl b
  | .int i, _, _, r, e => by cases r; simp only [toD, Option.some.injEq] at e; subst e; exact .int i
  | .str i, _, _, r, e => by cases r; simp only [toD, Option.some.injEq] at e; subst e; exact .str i
  | .tup xs, _, _, r, e => by
    cases r with
    | tup hq hr =>
      simp only [toD] at e
      split at e
      · rename_i ds ed
        simp only [Option.some.injEq] at e
        subst e
        exact .tup (SqTsame sm hq) (toDs_ok sm xs _ ds hr ed)
      · cases e
  | .lst xs, _, _, r, e => by
    cases r with
    | lst hq hr =>
      simp only [toD] at e
      split at e
      · rename_i ds ed
        simp only [Option.some.injEq] at e
        subst e
        exact .lst (.inl (.inl (sm _ _ hq))) (toDs_ok sm xs _ ds hr ed)
      · cases e
  | .ref _, _, _, _, e => by simp [toD] at e
  | .scr _, _, _, _, e => by simp [toD] at e
theorem toDs_ok (sm : Same F H) : ∀ (xs : List MV) (vs : List V) (ds : List PyData), Reps K ι F xs vs → toDs xs = some ds → DpAll K H vs ds
  | [], _, _, r, e => by cases r; simp only [toDs, Option.some.injEq] at e; subst e; exact .nil
  | x :: xs, _, _, r, e => by
    cases r with
    | cons r rr =>
      simp only [toDs] at e
      split at e
      · rename_i d ds e1 e2
        simp only [Option.some.injEq] at e
        subst e
        exact .cons (toD_ok sm x _ d r e1) (toDs_ok sm xs _ ds rr e2)
      · cases e
end
theorem optMap_get {α β : Type} {f : α → Option β} : ∀ {xs : List α} {ys : List β}, optMap f xs = some ys → ys.length = xs.length
  | [], _, e => by simp only [optMap, Option.some.injEq] at e; subst e; rfl
  | x :: xs, _, e => by
    simp only [optMap] at e
    split at e
    · cases e
    · split at e
      · cases e
      · rename_i ys eq
        simp only [Option.some.injEq] at e
        subst e
        rw [List.length_cons, optMap_get eq, List.length_cons]
/-- frozen from n0 on: G tells what is read behind -/
theorem fz_ok {n0 : Nat} {ι0 : List Addr} {G : Hp} (sG : Same F G) (h0 : ∀ (a : Nat) (p : Addr), a < n0 → ι[a]? = some p → ι0[a]? = some p) (h1 : ∀ (a : Nat) (p : Addr) (xs : List MV), ¬ a < n0 → ι[a]? = some p → st[a]? = some xs → ∃ vs, G p = some (.lst vs) ∧ Reps K ι F xs vs) :
    ∀ (n : Nat) (x y : MV) (v : V), fz n0 st n x = some y → Rep K ι F x v → Rep K ι0 G y v := by
  intro n
  induction n with
  | zero =>
    intro x y v e r
    cases r with
    | non => simp only [fz, Option.some.injEq] at e; subst e; exact .non
    | bl b => simp only [fz, Option.some.injEq] at e; subst e; exact .bl b
    | int b => simp only [fz, Option.some.injEq] at e; subst e; exact .int b
    | str b => simp only [fz, Option.some.injEq] at e; subst e; exact .str b
    | _ => simp [fz] at e
  | succ n ih =>
    have all : ∀ (xs ys : List MV) (vs : List V), optMap (fz n0 st n) xs = some ys → Reps K ι F xs vs → Reps K ι0 G ys vs := by
      intro xs
      induction xs with
      | nil => intro ys vs e r; cases r; simp only [optMap, Option.some.injEq] at e; subst e; exact .nil
      | cons x xs ihx =>
        intro ys vs e r
        cases r with
        | cons r rr =>
          simp only [optMap] at e
          split at e
          · cases e
          · rename_i y ey
            split at e
            · cases e
            · rename_i ys' eys
              simp only [Option.some.injEq] at e
              subst e
              exact .cons (ih x y _ ey r) (ihx ys' _ eys rr)
    intro x y v e r
    cases r with
    | non => simp only [fz, Option.some.injEq] at e; subst e; exact .non
    | bl b => simp only [fz, Option.some.injEq] at e; subst e; exact .bl b
    | int b => simp only [fz, Option.some.injEq] at e; subst e; exact .int b
    | str b => simp only [fz, Option.some.injEq] at e; subst e; exact .str b
    | tup hq hr =>
      simp only [fz] at e
      split at e
      · rename_i ys eys
        simp only [Option.some.injEq] at e
        subst e
        exact .tup (SqTsame sG hq) (all _ _ _ eys hr)
      · cases e
    | lst hq hr =>
      simp only [fz] at e
      split at e
      · rename_i ys eys
        simp only [Option.some.injEq] at e
        subst e
        exact .lst (sG _ _ hq) (all _ _ _ eys hr)
      · cases e
    | @ref a p hp =>
      simp only [fz] at e
      by_cases ha : a < n0
      · rw [if_pos ha] at e
        simp only [Option.some.injEq] at e
        subst e
        exact .ref (h0 a p ha hp)
      · rw [if_neg ha] at e
        split at e
        · cases e
        · rename_i xs exs
          obtain ⟨vs, g1, g2⟩ := h1 a p xs ha hp exs
          split at e
          · rename_i ys eys
            simp only [Option.some.injEq] at e
            subst e
            exact .lst g1 (all _ _ _ eys g2)
          · cases e
    | scr _ _ => simp [fz] at e
theorem dataOf_ok {x : MV} {v : V} {d : PyData} (s : Sim K ι F H st) (r : Rep K ι F x v) (h : dataOf st x = some d) : Dp K H v d := by
  unfold dataOf at h
  split at h
  · rename_i d' e
    simp only [Option.some.injEq] at h
    subst h
    exact toD_ok s.same x v d' r e
  · split at h
    · rename_i w e
      have rw' : Rep K ι H w v := fz_ok (n0 := 0) (ι0 := ι) (G := H) s.same (fun a p ha _ => absurd ha (Nat.not_lt_zero _)) (fun a p xs _ e1 e2 => by
        obtain ⟨_, vs, h2, h3⟩ := s.obj a p xs e1 e2
        exact ⟨vs, h2, h3⟩) _ x w v e r
      exact toD_ok (F := H) (H := H) Same.rfl' w v d rw' h
    · cases h
end
end MP

/-! MiniO: the operators. -/
namespace MP
open PySem PySem.Spec PyProof.Rows L2
variable [Wi : Wish]

/-- two values and the state, as the mini evaluator has them -/
def rB (K : PySem.W.Frag) (f : MV → MV → Store → R MV) : R2 := fun x y H Q => ∃ ι F v w st, Sim K ι F H st ∧ Rep K ι F v x ∧ Rep K ι F w y ∧ PostE K ι F H Q (f v w st)

section
variable {X : Cx} {ι : List Addr} {F H : Hp} {st : Store} {Q : VK}
theorem mulOk_ok {i j : Int} (h : mulOk i j = true) : IntMulOk i j := by
  unfold mulOk at h
  simp only [Bool.or_eq_true, decide_eq_true_eq] at h
  rcases h with (h | h) | h
  · exact .of_left (intBits_le_64 (by omega) (by omega))
  · exact .of_right (intBits_le_64 (by omega) (by omega))
  · have b : ∀ x : Int, Builtin.Int.intBits x ≤ x.natAbs.log2 + 1 := fun x => by
      unfold Builtin.Int.intBits
      split <;> omega
    have h1 := b i
    have h2 := b j
    have e : bitsLine = 134217728 := by decide
    unfold IntMulOk
    intro z
    rw [Bool.and_eq_true] at z
    have z2 := z.2
    unfold Builtin.Int.intTooBig at z2
    have z3 := of_decide_eq_true z2
    rw [e] at z3
    omega
theorem op_mulM : OpR X (binaryOp .Mult) (rI (fun i j => mulOk i j = true) fun i j => .int (i * j)) := opI fun _ _ _ _ _ _ _ hc q => mul_int q (mulOk_ok hc)
theorem op_fdivM : OpR X (binaryOp .FloorDiv) (rI (fun i j => divOk i j = true) fun i j => .int (i.fdiv j)) := opI fun i j _ _ _ _ _ hc q => by
  unfold divOk at hc
  simp only [Bool.and_eq_true, decide_eq_true_eq, Bool.not_eq_true'] at hc
  exact floordiv_int hc.1 q (.inl hc.2)
theorem iop_mulM : OpR X (inplaceOp .Mult) (rI (fun i j => mulOk i j = true) fun i j => .int (i * j)) := opI fun _ _ _ _ _ _ _ hc q => imul_int q (mulOk_ok hc)
theorem iop_fdivM : OpR X (inplaceOp .FloorDiv) (rI (fun i j => divOk i j = true) fun i j => .int (i.fdiv j)) := opI fun i j _ _ _ _ _ hc q => by
  unfold divOk at hc
  simp only [Bool.and_eq_true, decide_eq_true_eq, Bool.not_eq_true'] at hc
  exact ifloordiv_int hc.1 q (.inl hc.2)

def opOf : BO → Operator
  | .add => .Add | .sub => .Sub | .mul => .Mult | .fdiv => .FloorDiv | .mod => .Mod | .pow => .Pow | .band => .BitAnd
theorem int_now {v : Int} (s : Sim X.K ι F H st) (h : PostE X.K ι F H Q (.ok (.int v) st)) : Q (.int v) H := h.now s (.int v)
theorem op_bin (o : BO) (mu : Bool) : OpR X (binaryOp (opOf o)) (rB X.K (binM o mu)) := by
  intro pins s σ H x y v u Q I rx ry h
  obtain ⟨ι, F, a, b, st, sm, ra, rb, q⟩ := h
  cases o with
  | add =>
    have lists : ∀ {xs ys : List MV}, lc st a = some xs → lc st b = some ys → PostE X.K ι F H Q (mkL mu (xs ++ ys) st) → wpAny (model X.prog X.w) X.A (binaryOp .Add v u) (EP X pins σ Q) X.xe s := fun {xs ys} e1 e2 q => by
      obtain ⟨p, vs, ex, hx, r1⟩ := lc_ok sm ra e1
      obtain ⟨p2, ws, ey, hy, r2⟩ := lc_ok sm rb e2
      obtain ⟨hl, q⟩ := mkL_ok sm (r1.append r2) q
      exact op_cat pins s σ H x y v u Q I rx ry ⟨p, p2, vs, ws, ex, ey, hx, hy, by rw [List.length_append] at hl; exact hl, q⟩
    cases ra with
    | int i =>
      cases rb with
      | int j => exact op_add pins s σ H _ _ v u Q I rx ry ⟨i, j, rfl, rfl, int_now sm q⟩
      | _ => exact q.elim
    | str i =>
      cases rb with
      | str j =>
        simp only [binM] at q
        by_cases hl : i.length + j.length ≤ line
        · rw [if_pos hl] at q
          exact op_add_str pins s σ H _ _ v u Q I rx ry ⟨i, j, rfl, rfl, by rw [← line_eq]; exact hl, q.now sm (.str _)⟩
        · rw [if_neg hl] at q; exact q.elim
      | _ => exact q.elim
    | @tup xs p vs hp hr =>
      cases rb with
      | @tup ys p2 ws hp2 hr2 =>
        simp only [binM] at q
        by_cases hl : (xs ++ ys).length ≤ line
        · rw [if_pos hl] at q
          have h1 := hr.len
          have h2 := hr2.len
          refine op_catA pins s σ H _ _ v u Q I rx ry ⟨p, p2, vs, ws, rfl, rfl, SqTsame sm.same hp, SqTsame sm.same hp2, by rw [← line_eq, ← h1, ← h2, ← List.length_append]; exact hl, fun e => ?_, fun _ e => ?_, fun _ _ => ?_⟩
          · have e' : xs = [] := by
              subst e; cases hr; rfl
            subst e'
            exact q.now sm (.tup hp2 hr2)
          · have e' : ys = [] := by
              subst e; cases hr2; rfl
            subst e'
            rw [List.append_nil] at q
            exact q.now sm (.tup hp hr)
          · exact mkT_now sm (hr.append hr2) q
        · rw [if_neg hl] at q; exact q.elim
      | _ => exact q.elim
    | non => simp only [binM, lc] at q; exact q.elim
    | bl _ => simp only [binM, lc] at q; exact q.elim
    | scr _ _ => simp only [binM, lc] at q; exact q.elim
    | lst hp hr =>
      simp only [binM] at q
      split at q
      · rename_i xs ys e1 e2
        exact lists e1 e2 q
      · exact q.elim
    | ref hp =>
      simp only [binM] at q
      split at q
      · rename_i xs ys e1 e2
        exact lists e1 e2 q
      · exact q.elim
  | sub =>
    simp only [binM] at q
    split at q
    · cases ra; cases rb
      exact op_sub pins s σ H _ _ v u Q I rx ry ⟨_, _, rfl, rfl, int_now sm q⟩
    · exact q.elim
  | mul =>
    simp only [binM] at q
    split at q
    · cases ra; cases rb
      split at q
      · rename_i hc
        exact op_mulM pins s σ H _ _ v u Q I rx ry ⟨_, _, rfl, rfl, hc, int_now sm q⟩
      · exact q.elim
    · rename_i xs k
      cases rb
      cases ra with
      | tup hp hr =>
        split at q
        · rename_i hc
          simp only [Bool.and_eq_true, decide_eq_true_eq, Bool.not_eq_true'] at hc
          obtain ⟨⟨⟨h1, h2⟩, h3⟩, h4⟩ := hc
          have hl := hr.len
          refine op_repT pins s σ H _ _ v u Q I rx ry ⟨_, _, _, rfl, rfl, SqTsame sm.same hp, fun e => ?_, h1, h2, by rw [← hl]; exact h3, ?_⟩
          · subst e
            cases hr
            simp at h4
          · exact mkT_now sm (hr.rep _) q
        · exact q.elim
    · rename_i x k _ _
      cases rb
      split at q
      · rename_i xs e
        split at q
        · rename_i hc
          unfold smallRep at hc
          simp only [Bool.and_eq_true, decide_eq_true_eq] at hc
          obtain ⟨⟨h1, h2⟩, h3⟩ := hc
          obtain ⟨p, vs, ex, hx, r1⟩ := lc_ok sm ra e
          obtain ⟨hl, q⟩ := mkL_ok sm (r1.rep _) q
          exact op_rep pins s σ H _ _ v u Q I rx ry ⟨_, _, vs, ex, rfl, hx, by omega, by omega, by rw [← r1.len, ← line_eq]; exact h3, q⟩
        · exact q.elim
      · exact q.elim
    · exact q.elim
  | fdiv =>
    simp only [binM] at q
    split at q
    · cases ra; cases rb
      split at q
      · rename_i hc
        exact op_fdivM pins s σ H _ _ v u Q I rx ry ⟨_, _, rfl, rfl, hc, int_now sm q⟩
      · exact q.elim
    · exact q.elim
  | mod =>
    simp only [binM] at q
    split at q
    · cases ra; cases rb
      split at q
      · rename_i hc
        exact op_modN pins s σ H _ _ v u Q I rx ry ⟨_, _, rfl, rfl, of_decide_eq_true hc, int_now sm q⟩
      · exact q.elim
    · exact q.elim
  | pow =>
    simp only [binM] at q
    split at q
    · cases ra; cases rb
      split at q
      · rename_i hc
        unfold powOk at hc
        simp only [Bool.and_eq_true, decide_eq_true_eq] at hc
        exact op_pow pins s σ H _ _ v u Q I rx ry ⟨_, _, rfl, rfl, ⟨hc.1.1, hc.1.2, hc.2⟩, int_now sm q⟩
      · exact q.elim
    · exact q.elim
  | band =>
    simp only [binM] at q
    split at q
    · cases ra; cases rb
      exact op_and pins s σ H _ _ v u Q I rx ry ⟨_, _, rfl, rfl, int_now sm q⟩
    · exact q.elim

/-- name op= e on ints -/
theorem op_aug (o : BO) (ha : augOk o = true) {pins : List (Addr × Obj)} {s : Shared} {σ : L2.St} {H : Hp} {i j : Int} {v u : Value} {Q : VK} (I : Inv X pins σ H s) (sm : Sim X.K ι F H st) (rx : RelV (.int i) v) (ry : RelV (.int j) u)
    (q : PostE X.K ι F H Q (binM o false (.int i) (.int j) st)) : wpAny (model X.prog X.w) X.A (inplaceOp (opOf o) v u) (EP X pins σ Q) X.xe s := by
  cases o with
  | add => exact iop_add pins s σ H _ _ v u Q I rx ry ⟨_, _, rfl, rfl, int_now sm q⟩
  | sub => exact iop_sub pins s σ H _ _ v u Q I rx ry ⟨_, _, rfl, rfl, int_now sm q⟩
  | mul =>
    simp only [binM] at q
    split at q
    · rename_i hc
      exact iop_mulM pins s σ H _ _ v u Q I rx ry ⟨_, _, rfl, rfl, hc, int_now sm q⟩
    · exact q.elim
  | fdiv =>
    simp only [binM] at q
    split at q
    · rename_i hc
      exact iop_fdivM pins s σ H _ _ v u Q I rx ry ⟨_, _, rfl, rfl, hc, int_now sm q⟩
    · exact q.elim
  | band => exact iop_and pins s σ H _ _ v u Q I rx ry ⟨_, _, rfl, rfl, int_now sm q⟩
  | mod => cases ha
  | pow => cases ha

/-! ### comparisons -/
theorem flatD_V {d : PyData} {v : V} (h : Dp X.K H v d) (f : flatD d = true) : flatV v = true := by
  cases h with
  | lst _ _ => cases f
  | tup _ _ => cases f
  | _ => rfl
theorem eqv_V {d e : PyData} {v w : V} (h : Dp X.K H v d) (h' : Dp X.K H w e) (f : flatD d = true) (f' : flatD e = true) : eqV v w = PyData.eqv d e := by
  cases h <;> first | (cases f; done) | skip
  all_goals (cases h' <;> first | (cases f'; done) | rfl | (simp only [eqV, PyData.eqv]))
theorem any_V {d : PyData} {v : V} (h : Dp X.K H v d) (f : flatD d = true) : ∀ {ds : List PyData} {vs : List V}, DpAll X.K H vs ds → ds.all flatD = true → vs.all flatV = true ∧ inV v vs = ds.any fun z => PyData.eqv z d
  | [], _, .nil, _ => ⟨rfl, rfl⟩
  | e :: ds, _, .cons h1 h2, g => by
    simp only [List.all_cons, Bool.and_eq_true] at g
    obtain ⟨i1, i2⟩ := any_V h f h2 g.2
    refine ⟨by simp only [List.all_cons, flatD_V h1 g.1, i1, Bool.and_self], ?_⟩
    unfold inV at i2 ⊢
    rw [List.any_cons, List.any_cons, i2, eqv_V h1 h g.1 f]
/-- what a comparison gives -/
def rC (K : PySem.W.Frag) (f : MV → MV → Store → Option Bool) : R2 := fun x y H Q => ∃ ι F v w st, Sim K ι F H st ∧ Rep K ι F v x ∧ Rep K ι F w y ∧ ∃ b, f v w st = some b ∧ Q (.bl b) H
def copOf : CO → CmpOp
  | .eq => .Eq | .ne => .NotEq | .lt => .Lt | .le => .LtE | .gt => .Gt | .ge => .GtE | .isC => .Is | .isNotC => .IsNot | .mem => .In | .nmem => .NotIn
theorem eqM_ok (hu : X.A.units + 64 < cLine) {pins : List (Addr × Obj)} {s : Shared} {σ : L2.St} {x y : V} {v u : Value} {a b : MV} {r : Bool} (I : Inv X pins σ H s) (rx : RelV x v) (ry : RelV y u) (sm : Sim X.K ι F H st) (ra : Rep X.K ι F a x) (rb : Rep X.K ι F b y) (e : eqM st a b = some r) :
    (Q (.bl r) H → wpAny (model X.prog X.w) X.A (compareOp .Eq v u) (EP X pins σ Q) X.xe s) ∧ (Q (.bl (!r)) H → wpAny (model X.prog X.w) X.A (compareOp .NotEq v u) (EP X pins σ Q) X.xe s) := by
  have gen : eqD st a b = some r → (Q (.bl r) H → wpAny (model X.prog X.w) X.A (compareOp .Eq v u) (EP X pins σ Q) X.xe s) ∧ (Q (.bl (!r)) H → wpAny (model X.prog X.w) X.A (compareOp .NotEq v u) (EP X pins σ Q) X.xe s) := fun e => by
    unfold eqD at e
    split at e
    · rename_i d d' e1 e2
      split at e
      · rename_i hs
        simp only [Option.some.injEq] at e
        rw [Bool.and_eq_true] at hs
        subst e
        exact ⟨fun q => op_eqD hu pins s σ H x y v u Q I rx ry ⟨d, d', dataOf_ok sm ra e1, dataOf_ok sm rb e2, hs.1, hs.2, q⟩,
          fun q => op_neD hu pins s σ H x y v u Q I rx ry ⟨d, d', dataOf_ok sm ra e1, dataOf_ok sm rb e2, hs.1, hs.2, q⟩⟩
      · cases e
    · cases e
  unfold eqM at e
  split at e
  · rename_i i j
    cases ra; cases rb
    simp only [Option.some.injEq] at e
    subst e
    have hd : decide (V.int i = V.int j) = decide (i = j) := by simp
    exact ⟨fun q => op_eq pins s σ H _ _ v u Q I rx ry ⟨rfl, by rw [hd]; exact q⟩, fun q => op_ne pins s σ H _ _ v u Q I rx ry ⟨rfl, by rw [hd]; exact q⟩⟩
  · exact gen e
theorem memM_ok (hu : X.A.units + 65 < cLine) {pins : List (Addr × Obj)} {s : Shared} {σ : L2.St} {x y : V} {v u : Value} {a b : MV} {r : Bool} (I : Inv X pins σ H s) (rx : RelV x v) (ry : RelV y u) (sm : Sim X.K ι F H st) (ra : Rep X.K ι F a x) (rb : Rep X.K ι F b y) (e : memM st a b = some r) :
    (Q (.bl r) H → wpAny (model X.prog X.w) X.A (compareOp .In v u) (EP X pins σ Q) X.xe s) ∧ (Q (.bl (!r)) H → wpAny (model X.prog X.w) X.A (compareOp .NotIn v u) (EP X pins σ Q) X.xe s) := by
  unfold memM at e
  split at e
  · cases e
  · rename_i d ed
    have hd := dataOf_ok sm ra ed
    split at e
    · rename_i xs
      split at e
      · rename_i ds eds
        split at e
        · rename_i hf
          rw [Bool.and_eq_true] at hf
          simp only [Option.some.injEq] at e
          subst e
          cases rb with
          | tup hp hr =>
            obtain ⟨g1, g2⟩ := any_V hd hf.1 (toDs_ok sm.same xs _ ds hr eds) hf.2
            refine ⟨fun q => op_in_seq pins s σ H _ _ v u Q I rx ry ⟨_, _, rfl, .inr (SqTsame sm.same hp), flatD_V hd hf.1, g1, ?_⟩, fun q => op_notIn_seq pins s σ H _ _ v u Q I rx ry ⟨_, _, rfl, .inr (SqTsame sm.same hp), flatD_V hd hf.1, g1, ?_⟩⟩
            · rw [g2]; exact q
            · rw [g2]; exact q
        · cases e
      · cases e
    · split at e
      · rename_i ds eds
        split at e
        · rename_i hf
          rw [Bool.and_eq_true] at hf
          simp only [Option.some.injEq] at e
          subst e
          have hy := dataOf_ok sm rb eds
          exact ⟨fun q => op_inD hu pins s σ H _ _ v u Q I rx ry ⟨d, ds, hd, hy, hf.1, hf.2, q⟩, fun q => op_notInD hu pins s σ H _ _ v u Q I rx ry ⟨d, ds, hd, hy, hf.1, hf.2, q⟩⟩
        · cases e
      · cases e
theorem isM_ok {pins : List (Addr × Obj)} {s : Shared} {σ : L2.St} {x y : V} {v u : Value} {a b : MV} {r : Bool} (I : Inv X pins σ H s) (rx : RelV x v) (ry : RelV y u) (sm : Sim X.K ι F H st) (ra : Rep X.K ι F a x) (rb : Rep X.K ι F b y) (e : isM a b = some r) :
    (Q (.bl r) H → wpAny (model X.prog X.w) X.A (compareOp .Is v u) (EP X pins σ Q) X.xe s) ∧ (Q (.bl (!r)) H → wpAny (model X.prog X.w) X.A (compareOp .IsNot v u) (EP X pins σ Q) X.xe s) := by
  unfold isM at e
  split at e
  · cases rb
    simp only [Option.some.injEq] at e
    have hx : decide (x = V.non) = r := by
      subst e
      cases ra <;> simp
    exact ⟨fun q => op_isN pins s σ H _ _ v u Q I rx ry ⟨rfl, by rw [hx]; exact q⟩, fun q => op_notN pins s σ H _ _ v u Q I rx ry ⟨rfl, by rw [hx]; exact q⟩⟩
  · cases ra; cases rb
    simp only [Option.some.injEq] at e
    subst e
    exact ⟨fun q => op_isBl pins s σ H _ _ v u Q I rx ry ⟨_, _, rfl, rfl, q⟩, fun q => op_notBl pins s σ H _ _ v u Q I rx ry ⟨_, _, rfl, rfl, q⟩⟩
  · cases e
theorem op_cmp (hu : X.A.units + 65 < cLine) (o : CO) : OpR X (compareOp (copOf o)) (rC X.K (cmpM o)) := by
  intro pins s σ H x y v u Q I rx ry h
  obtain ⟨ι, F, a, b, st, sm, ra, rb, r, e, q⟩ := h
  have neg : ∀ {z : Option Bool}, z.map (!·) = some r → z = some (!r) := fun {z} h => by
    cases z with
    | none => cases h
    | some z => simp at h; simp [← h]
  cases o with
  | eq => exact (eqM_ok (by omega) I rx ry sm ra rb e).1 q
  | ne => exact (eqM_ok (by omega) I rx ry sm ra rb (neg e)).2 (by simpa using q)
  | isC => exact (isM_ok I rx ry sm ra rb e).1 q
  | isNotC => exact (isM_ok I rx ry sm ra rb (neg e)).2 (by simpa using q)
  | mem => exact (memM_ok hu I rx ry sm ra rb e).1 q
  | nmem => exact (memM_ok hu I rx ry sm ra rb (neg e)).2 (by simpa using q)
  | lt =>
    simp only [cmpM] at e
    split at e
    · cases ra; cases rb
      simp only [Option.some.injEq] at e
      subst e
      exact op_lt pins s σ H _ _ v u Q I rx ry ⟨_, _, rfl, rfl, q⟩
    · cases e
  | le =>
    simp only [cmpM] at e
    split at e
    · cases ra; cases rb
      simp only [Option.some.injEq] at e
      subst e
      exact op_le pins s σ H _ _ v u Q I rx ry ⟨_, _, rfl, rfl, q⟩
    · cases e
  | gt =>
    simp only [cmpM] at e
    split at e
    · cases ra; cases rb
      simp only [Option.some.injEq] at e
      subst e
      exact op_gt pins s σ H _ _ v u Q I rx ry ⟨_, _, rfl, rfl, q⟩
    · cases e
  | ge =>
    simp only [cmpM] at e
    split at e
    · cases ra; cases rb
      simp only [Option.some.injEq] at e
      subst e
      exact op_ge pins s σ H _ _ v u Q I rx ry ⟨_, _, rfl, rfl, q⟩
    · cases e

/-! ### items, slices, stores, truth -/
theorem ixN_eq (n : Nat) (i : Int) : ixN n i = L2.ixN n i := rfl
theorem ix_mini {value slice : Expr} {pins : List (Addr × Obj)} {s : Shared} {σ : L2.St} {x y : V} {v u : Value} {a b : MV} (I : Inv X pins σ H s) (rx : RelV x v) (ry : RelV y u) (hs : subscripted slice false v u = operate [v, u] (getItem v u))
    (sm : Sim X.K ι F H st) (ra : Rep X.K ι F a x) (rb : Rep X.K ι F b y) (q : PostE X.K ι F H Q (idxM a b st)) : wpAny (model X.prog X.w) X.A (subscriptTail value slice v u) (EP X pins σ Q) X.xe s := by
  unfold idxM at q
  split at q
  · rename_i i
    cases rb
    split at q
    · rename_i xs e
      obtain ⟨p, vs, ex, hx, r1⟩ := sqc_ok sm ra e
      split at q
      · rename_i j ej
        split at q
        · rename_i w ew
          obtain ⟨z, ez, rz⟩ := r1.get ew
          have hz : atI vs i = some z := by
            unfold atI
            rw [← r1.len, ← ixN_eq, ej]
            exact ez
          rcases hx with hx | hx
          · exact ix_list value slice pins s σ H x (.int i) v u Q I rx ry ⟨p, vs, i, z, ex, rfl, .inl (.inl hx), hz, q.now sm rz⟩ hs
          · exact ix_tup value slice pins s σ H x (.int i) v u Q I rx ry ⟨p, vs, i, z, ex, rfl, hx, hz, q.now sm rz⟩ hs
        · exact q.elim
      · exact q.elim
    · exact q.elim
  · exact q.elim
theorem set_mini {pins : List (Addr × Obj)} {s : Shared} {σ : L2.St} {x y z : V} {ov iv u : Value} {a b c : MV} {st' : Store} {Q : Hp → Prop} (I : Inv X pins σ H s) (ro : RelV x ov) (ri : RelV y iv) (rv : RelV z u)
    (sm : Sim X.K ι F H st) (ra : Rep X.K ι F a x) (rb : Rep X.K ι F b y) (rc : Rep X.K ι F c z) (e : setM a b c st = some st') (q : ∀ H', Sim X.K ι F H' st' → Ext ι F H ι F H' → Q H') :
    wpAny (model X.prog X.w) X.A (setItem ov iv u) (fun _ s' => ∃ H', Inv X pins σ H' s' ∧ Q H') X.xe s := by
  unfold setM at e
  split at e
  · rename_i a k
    cases rb
    split at e
    · rename_i xs exs
      split at e
      · rename_i j ej
        simp only [Option.some.injEq] at e
        cases ra with
        | ref hp =>
          obtain ⟨_, vs, h2, h3⟩ := sm.obj a _ xs hp exs
          obtain ⟨s', e'⟩ := sm.write hp (h3.set rc j)
          subst e
          exact set_list pins s σ H _ _ z ov iv u Q I ro ri rv ⟨_, vs, k, j, rfl, rfl, h2, by rw [← h3.len, ← ixN_eq]; exact ej, q _ s' e'⟩
      · cases e
    · cases e
  · cases e
theorem truth_ok {x : V} {a : MV} {b : Bool} (sm : Sim X.K ι F H st) (ra : Rep X.K ι F a x) (e : truth st a = some b) : TruV X.K x H b := by
  have emp : ∀ {xs : List MV} {vs : List V}, Reps X.K ι F xs vs → (!xs.isEmpty) = !vs.isEmpty := fun {xs vs} r => by cases r <;> rfl
  unfold TruV
  cases ra with
  | non => simp only [truth, Option.some.injEq] at e; exact e.symm
  | bl b => simp only [truth, Option.some.injEq] at e; exact e.symm
  | int i => simp only [truth, Option.some.injEq] at e; exact e.symm
  | str i =>
    simp only [truth] at e
    split at e
    · rename_i hl
      simp only [Option.some.injEq] at e
      exact ⟨by rw [← line_eq]; exact hl, e.symm⟩
    · cases e
  | tup hp hr => simp only [truth, Option.some.injEq] at e; exact .inr (.inl ⟨_, SqTsame sm.same hp, by rw [← e, emp hr]⟩)
  | lst hp hr => simp only [truth, Option.some.injEq] at e; exact .inl ⟨_, .inl (.inl (sm.same _ _ hp)), by rw [← e, emp hr]⟩
  | scr _ _ => simp [truth] at e
  | @ref a p hp =>
    simp only [truth] at e
    split at e
    · rename_i xs exs
      simp only [Option.some.injEq] at e
      obtain ⟨_, vs, h2, h3⟩ := sm.obj a p xs hp exs
      exact .inl ⟨vs, .inl (.inl h2), by rw [← e, emp h3]⟩
    · cases e
end
end MP

/-! MiniB: the built-in functions and methods. -/
namespace MP
open PySem PySem.Spec PyProof.Rows L2
variable [Wi : Wish]

def rBl (K : PySem.W.Frag) (f : List MV → Store → R MV) : List V → Hp → VK → Prop := fun vs H Q => ∃ ι F ws st, Sim K ι F H st ∧ Reps K ι F ws vs ∧ PostE K ι F H Q (f ws st)
def rMt (K : PySem.W.Frag) (f : MV → List MV → Store → R MV) : V → List V → Hp → VK → Prop := fun x vs H Q => ∃ ι F w ws st, Sim K ι F H st ∧ Rep K ι F w x ∧ Reps K ι F ws vs ∧ PostE K ι F H Q (f w ws st)

theorem foldl_max_mem (xs : List Int) : ∀ x : Int, (xs.foldl max x) ∈ x :: xs ∧ ∀ y ∈ x :: xs, y ≤ xs.foldl max x := by
  induction xs with
  | nil => intro x; simp
  | cons a xs ih =>
    intro x
    obtain ⟨h1, h2⟩ := ih (max x a)
    rw [List.foldl_cons]
    refine ⟨?_, fun y hy => ?_⟩
    · rcases List.mem_cons.mp h1 with h | h
      · rw [h]
        by_cases hxa : x ≤ a
        · rw [Int.max_eq_right hxa]; simp
        · rw [Int.max_eq_left (by omega)]; simp
      · exact List.mem_cons_of_mem _ (List.mem_cons_of_mem _ h)
    · have hm := h2 (max x a) List.mem_cons_self
      rcases List.mem_cons.mp hy with rfl | hy
      · exact Int.le_trans (Int.le_max_left _ _) hm
      · rcases List.mem_cons.mp hy with rfl | hy
        · exact Int.le_trans (Int.le_max_right _ _) hm
        · exact h2 y (List.mem_cons_of_mem _ hy)
theorem foldl_min_mem (xs : List Int) : ∀ x : Int, (xs.foldl min x) ∈ x :: xs ∧ ∀ y ∈ x :: xs, xs.foldl min x ≤ y := by
  induction xs with
  | nil => intro x; simp
  | cons a xs ih =>
    intro x
    obtain ⟨h1, h2⟩ := ih (min x a)
    rw [List.foldl_cons]
    refine ⟨?_, fun y hy => ?_⟩
    · rcases List.mem_cons.mp h1 with h | h
      · rw [h]
        by_cases hxa : x ≤ a
        · rw [Int.min_eq_left hxa]; simp
        · rw [Int.min_eq_right (by omega)]; simp
      · exact List.mem_cons_of_mem _ (List.mem_cons_of_mem _ h)
    · have hm := h2 (min x a) List.mem_cons_self
      rcases List.mem_cons.mp hy with rfl | hy
      · exact Int.le_trans hm (Int.min_le_left _ _)
      · rcases List.mem_cons.mp hy with rfl | hy
        · exact Int.le_trans hm (Int.min_le_right _ _)
        · exact h2 y (List.mem_cons_of_mem _ hy)
theorem insI_perm (x : Int) : ∀ xs : List Int, (insI x xs).Perm (x :: xs)
  | [] => .refl _
  | y :: ys => by
    unfold insI
    split
    · exact .refl _
    · exact ((insI_perm x ys).cons y).trans (.swap x y ys)
theorem sortI_perm : ∀ xs : List Int, (sortI xs).Perm xs
  | [] => .refl _
  | x :: xs => by
    unfold sortI
    exact (insI_perm x _).trans ((sortI_perm xs).cons x)
theorem insI_sorted (x : Int) : ∀ xs : List Int, xs.Pairwise (· ≤ ·) → (insI x xs).Pairwise (· ≤ ·)
  | [], _ => by simp [insI]
  | y :: ys, h => by
    have h' := List.pairwise_cons.mp h
    unfold insI
    split
    · rename_i hxy
      refine List.pairwise_cons.mpr ⟨fun z hz => ?_, h⟩
      rcases List.mem_cons.mp hz with rfl | hz
      · exact hxy
      · exact Int.le_trans hxy (h'.1 z hz)
    · rename_i hxy
      refine List.pairwise_cons.mpr ⟨fun z hz => ?_, insI_sorted x ys h'.2⟩
      rcases List.mem_cons.mp ((insI_perm x ys).mem_iff.mp hz) with rfl | hz
      · omega
      · exact h'.1 z hz
theorem sortI_sorted : ∀ xs : List Int, (sortI xs).Pairwise (· ≤ ·)
  | [] => by simp [sortI]
  | x :: xs => by
    unfold sortI
    exact insI_sorted x _ (sortI_sorted xs)
theorem sorted_unique {xs ys : List Int} (p : xs.Perm ys) (h1 : xs.Pairwise (· ≤ ·)) (h2 : ys.Pairwise (· ≤ ·)) : xs = ys :=
  p.eq_of_pairwise (le := fun a b => a ≤ b) (fun a b _ _ h h' => Int.le_antisymm h h') h1 h2

section
variable {X : Cx} {ι : List Addr} {F H : Hp} {st : Store} {Q : VK}
theorem cr_lcm : CallR X (.builtin "math.lcm") (fun vs H Q => ∃ a b : Int, vs = [.int a, .int b] ∧ lcmOk a b = true ∧ Q (.int (lcmI a b)) H) := by
  intro pins s σ H vs us Q I r h
  obtain ⟨a, b, rfl, hc, q⟩ := h
  obtain ⟨t, u, rfl⟩ := Vals.int2 r
  unfold lcmOk at hc
  simp only [Bool.and_eq_true, decide_eq_true_eq] at hc
  have hm : ∀ m n : Nat, m.log2 < 13500 → n.log2 < 13500 → (max m n).log2 < 13500 := fun m n h1 h2 => by
    rcases Nat.le_total m n with h | h
    · rw [Nat.max_eq_right h]; exact h2
    · rw [Nat.max_eq_left h]; exact h1
  have h1 : (max 1 a.natAbs).log2 < 13500 := hm _ _ (by decide) hc.1
  have h2 := hm _ _ hc.1 hc.2
  have e : (((Nat.lcm 1 a.natAbs).lcm b.natAbs : Nat) : Int) = lcmI a b := by
    unfold lcmI
    rw [Nat.lcm_one_left]
  have hsz : (lcmI a b).natAbs.log2 < bitsLine := by
    unfold lcmI
    rw [Int.natAbs_natCast]
    have hle : a.natAbs.lcm b.natAbs ≤ a.natAbs * b.natAbs := by
      rcases Nat.eq_zero_or_pos (a.natAbs * b.natAbs) with h0 | h0
      · rcases Nat.mul_eq_zero.mp h0 with h | h
        · rw [h]; simp
        · rw [h]; simp
      · exact Nat.le_of_dvd h0 (Nat.lcm_dvd (Nat.dvd_mul_right _ _) (Nat.dvd_mul_left _ _))
    by_cases hz : a.natAbs.lcm b.natAbs = 0
    · rw [hz]; decide
    · refine (Nat.log2_lt hz).mpr (Nat.lt_of_le_of_lt hle ?_)
      have hb : ∀ n : Nat, n.log2 < 13500 → n < 2 ^ 13500 := fun n hn => by
        by_cases h0 : n = 0
        · rw [h0]; exact Nat.two_pow_pos _
        · exact (Nat.log2_lt h0).mp hn
      have hlt : a.natAbs * b.natAbs < 2 ^ 13500 * 2 ^ 13500 := Nat.mul_lt_mul'' (hb _ hc.1) (hb _ hc.2)
      rw [← Nat.pow_add] at hlt
      exact Nat.lt_of_lt_of_le hlt (Nat.pow_le_pow_right (by decide) (by decide))
  have g := PySem.W.mg_run_lcm a t b u (by omega) (by omega) (by rw [e]; exact hsz)
  rw [e] at g
  exact call_function_meets PySem.W.MGF.kind_lcm PySem.W.MGF.plain_lcm PySem.W.MGF.entry_lcm (PySem.W.MGF.args_lcm _ _) g.meets ⟨.int _, H, I.tok _, ⟨_, rfl⟩, q⟩
theorem cr_comb : CallR X (.builtin "math.comb") (fun vs H Q => ∃ a b : Int, vs = [.int a, .int b] ∧ combOk a b = true ∧ Q (.int (combI a b)) H) := by
  intro pins s σ H vs us Q I r h
  obtain ⟨a, b, rfl, hc, q⟩ := h
  obtain ⟨t, u, rfl⟩ := Vals.int2 r
  unfold combOk at hc
  simp only [Bool.and_eq_true, decide_eq_true_eq] at hc
  obtain ⟨⟨⟨c1, c2⟩, c3⟩, c4⟩ := hc
  have g : Gives (Builtin.«math.comb» ⟨[.int a t, .int b u], []⟩) (.int (combI a b)) := by
    by_cases hb : b > a
    · have e : combI a b = 0 := by unfold combI; rw [if_pos hb]
      rw [e]
      exact PySem.W.mc_run_comb0 a t b u (by omega) (by omega) hb
    · have e : combI a b = Builtin.Math.fallingProduct a (min b (a - b)).toNat / Builtin.Math.fallingProduct (min b (a - b)) (min b (a - b)).toNat := by unfold combI; rw [if_neg hb]
      have hm : min b (a - b) ≤ 3000 := by omega
      have e1 : Builtin.Math.maxSsize = 9223372036854775807 := by decide
      have e2 : Builtin.Math.manyFactors = 20000 := rfl
      have hl : (134217000 : Nat) ≤ bitsLine := by decide
      rw [e] at c4 ⊢
      exact PySem.W.mc_run_comb a t b u (by omega) (by omega) hb (by rw [e1]; omega) (by rw [e2]; omega) (by omega) (by omega)
  exact call_function_meets PySem.W.MGF.kind_comb PySem.W.MGF.plain_comb PySem.W.MGF.entry_comb (PySem.W.MGF.args_comb _ _) g.meets ⟨.int _, H, I.tok _, ⟨_, rfl⟩, q⟩
def blId : Bl → Value
  | .len => .builtin "len" | .abs => .builtin "abs" | .int => .type "int" | .bool => .type "bool" | .tuple => .type "tuple" | .list => .type "list"
  | .sum => .builtin "sum" | .any => .builtin "any" | .all => .builtin "all" | .min1 => .builtin "min" | .min2 => .builtin "min" | .max1 => .builtin "max" | .max2 => .builtin "max"
  | .sorted => .builtin "sorted" | .gcd => .builtin "math.gcd" | .lcm2 => .builtin "math.lcm" | .lcm3 => .builtin "math.lcm" | .comb => .builtin "math.comb" | .fact => .builtin "math.factorial"
  | .divmod => .builtin "divmod" | .str => .type "str"
theorem one_of {ws : List MV} {vs : List V} {w : MV} (r : Reps X.K ι F ws vs) (e : ws = [w]) : ∃ x, vs = [x] ∧ Rep X.K ι F w x := by
  subst e
  cases r with
  | cons h r => cases r; exact ⟨_, rfl, h⟩
theorem call_bl (hc : X.calm = true) (f : Bl) (mu : Bool) : CallR X (blId f) (rBl X.K (bltM f mu)) := by
  intro pins s σ H vs us Q I rv h
  obtain ⟨ι, F, ws, st, sm, r, q⟩ := h
  cases f with
  | len =>
    simp only [bltM] at q
    split at q
    · rename_i x
      obtain ⟨v, rfl, rx⟩ := one_of r rfl
      split at q
      · rename_i xs e
        obtain ⟨p, vs, ex, hx, r1⟩ := sqc_ok sm rx e
        rw [r1.len] at q
        exact call_len_seq pins s σ H _ us Q I rv ⟨p, vs, by rw [ex], hx.imp (fun h => .inl (.inl h)) id, q.now sm (.int _)⟩
      · split at q
        · cases rx
          split at q
          · rename_i hl
            exact call_len pins s σ H _ us Q I rv ⟨_, _, rfl, ⟨by rw [← line_eq]; exact hl, rfl⟩, q.now sm (.int _)⟩
          · exact q.elim
        · exact q.elim
    · exact q.elim
  | abs =>
    simp only [bltM] at q
    split at q
    · obtain ⟨v, rfl, rx⟩ := one_of r rfl
      cases rx
      exact call_abs pins s σ H _ us Q I rv ⟨_, rfl, q.now sm (.int _)⟩
    · exact q.elim
  | int =>
    simp only [bltM] at q
    split at q
    · obtain ⟨v, rfl, rx⟩ := one_of r rfl
      cases rx
      exact call_int1 pins s σ H _ us Q I rv (.inl ⟨_, rfl, q.now sm (.int _)⟩)
    · obtain ⟨v, rfl, rx⟩ := one_of r rfl
      cases rx
      exact call_int1 pins s σ H _ us Q I rv (.inr ⟨_, rfl, q.now sm (.int _)⟩)
    · exact q.elim
  | bool =>
    simp only [bltM] at q
    split at q
    · obtain ⟨v, rfl, rx⟩ := one_of r rfl
      cases rx
      exact call_bool1 pins s σ H _ us Q I rv (.inl ⟨_, rfl, q.now sm (.bl _)⟩)
    · obtain ⟨v, rfl, rx⟩ := one_of r rfl
      cases rx
      exact call_bool1 pins s σ H _ us Q I rv (.inr ⟨_, rfl, q.now sm (.bl _)⟩)
    · exact q.elim
  | tuple =>
    simp only [bltM] at q
    split at q
    · obtain ⟨v, rfl, rx⟩ := one_of r rfl
      split at q
      · rename_i x xs e
        cases rx with
        | tup hp hr =>
          simp only [sqc, Option.some.injEq] at e
          subst e
          exact call_tuple_of pins s σ H _ us Q I rv ⟨_, _, rfl, .inr ⟨SqTsame sm.same hp, q.now sm (.tup hp hr)⟩⟩
        | lst hp hr =>
          simp only [sqc, Option.some.injEq] at e
          subst e
          exact call_tuple_of pins s σ H _ us Q I rv ⟨_, _, rfl, .inl ⟨.inl (.inl (sm.same _ _ hp)), mkT_now sm hr q⟩⟩
        | ref hp =>
          simp only [sqc] at e
          obtain ⟨_, ws, h2, h3⟩ := sm.obj _ _ xs hp e
          exact call_tuple_of pins s σ H _ us Q I rv ⟨_, _, rfl, .inl ⟨.inl (.inl h2), mkT_now sm h3 q⟩⟩
        | _ => simp [sqc] at e
      · exact q.elim
    · exact q.elim
  | list =>
    simp only [bltM] at q
    split at q
    · obtain ⟨v, rfl, rx⟩ := one_of r rfl
      split at q
      · rename_i x xs e
        obtain ⟨p, vs, ex, hx, r1⟩ := sqc_ok sm rx e
        obtain ⟨_, q⟩ := mkL_ok sm r1 q
        exact call_list_of pins s σ H _ us Q I rv ⟨p, vs, by rw [ex], hx.imp (fun h => .inl (.inl h)) id, q⟩
      · exact q.elim
    · exact q.elim
  | sum =>
    simp only [bltM] at q
    split at q
    · obtain ⟨v, rfl, rx⟩ := one_of r rfl
      split at q
      · rename_i x xs e
        obtain ⟨p, vs, ex, hx, r1⟩ := lc_ok sm rx e
        split at q
        · rename_i is ei
          obtain ⟨rfl, _⟩ := r1.ints ei
          exact cr_sum hc pins s σ H _ us Q I rv ⟨p, is, by rw [ex], .inl (.inl hx), q.now sm (.int _)⟩
        · exact q.elim
      · exact q.elim
    · exact q.elim
  | any =>
    simp only [bltM] at q
    split at q
    · obtain ⟨v, rfl, rx⟩ := one_of r rfl
      split at q
      · rename_i x xs e
        obtain ⟨p, vs, ex, hx, r1⟩ := lc_ok sm rx e
        split at q
        · rename_i is ei
          obtain ⟨rfl, _⟩ := r1.bools ei
          exact cr_any hc pins s σ H _ us Q I rv ⟨p, is, by rw [ex], .inl (.inl hx), q.now sm (.bl _)⟩
        · exact q.elim
      · exact q.elim
    · exact q.elim
  | all =>
    simp only [bltM] at q
    split at q
    · obtain ⟨v, rfl, rx⟩ := one_of r rfl
      split at q
      · rename_i x xs e
        obtain ⟨p, vs, ex, hx, r1⟩ := lc_ok sm rx e
        split at q
        · rename_i is ei
          obtain ⟨rfl, _⟩ := r1.bools ei
          exact cr_all hc pins s σ H _ us Q I rv ⟨p, is, by rw [ex], .inl (.inl hx), q.now sm (.bl _)⟩
        · exact q.elim
      · exact q.elim
    · exact q.elim
  | min1 =>
    simp only [bltM] at q
    split at q
    · obtain ⟨v, rfl, rx⟩ := one_of r rfl
      split at q
      · rename_i x xs e
        obtain ⟨p, vs, ex, hx, r1⟩ := lc_ok sm rx e
        split at q
        · rename_i is ei
          obtain ⟨rfl, _⟩ := r1.ints ei
          split at q
          · rename_i m em
            cases is with
            | nil => cases em
            | cons a is =>
              simp only [minI, Option.some.injEq] at em
              obtain ⟨g1, g2⟩ := foldl_min_mem is a
              rw [em] at g1 g2
              refine cr_min hc pins s σ H _ us Q I rv ⟨p, a :: is, by rw [ex], .inl (.inl hx), Nat.succ_pos _, fun m' h1 h2 => ?_⟩
              have e2 : m' = m := Int.le_antisymm (h2 m g1) (g2 m' h1)
              subst e2
              exact q.now sm (.int _)
          · exact q.elim
        · exact q.elim
      · exact q.elim
    · exact q.elim
  | max1 =>
    simp only [bltM] at q
    split at q
    · obtain ⟨v, rfl, rx⟩ := one_of r rfl
      split at q
      · rename_i x xs e
        obtain ⟨p, vs, ex, hx, r1⟩ := lc_ok sm rx e
        split at q
        · rename_i is ei
          obtain ⟨rfl, _⟩ := r1.ints ei
          split at q
          · rename_i m em
            cases is with
            | nil => cases em
            | cons a is =>
              simp only [maxI, Option.some.injEq] at em
              obtain ⟨g1, g2⟩ := foldl_max_mem is a
              rw [em] at g1 g2
              refine cr_max hc pins s σ H _ us Q I rv ⟨p, a :: is, by rw [ex], .inl (.inl hx), Nat.succ_pos _, fun m' h1 h2 => ?_⟩
              have e2 : m' = m := Int.le_antisymm (g2 m' h1) (h2 m g1)
              subst e2
              exact q.now sm (.int _)
          · exact q.elim
        · exact q.elim
      · exact q.elim
    · exact q.elim
  | min2 =>
    simp only [bltM] at q
    split at q
    · cases r with
      | cons r1 r => cases r with
        | cons r2 r =>
          cases r; cases r1; cases r2
          exact call_min2 hc pins s σ H _ us Q I rv ⟨_, _, rfl, q.now sm (.int _)⟩
    · exact q.elim
  | max2 =>
    simp only [bltM] at q
    split at q
    · cases r with
      | cons r1 r => cases r with
        | cons r2 r =>
          cases r; cases r1; cases r2
          exact call_max2 hc pins s σ H _ us Q I rv ⟨_, _, rfl, q.now sm (.int _)⟩
    · exact q.elim
  | sorted =>
    simp only [bltM] at q
    split at q
    · obtain ⟨v, rfl, rx⟩ := one_of r rfl
      split at q
      · rename_i x xs e
        obtain ⟨p, vs, ex, hx, r1⟩ := lc_ok sm rx e
        split at q
        · rename_i is ei
          obtain ⟨rfl, e2⟩ := r1.ints ei
          have rs : Reps X.K ι F ((sortI is).map MV.int) ((sortI is).map V.int) := by
            generalize sortI is = js
            induction js with
            | nil => exact .nil
            | cons j js ih => exact .cons (.int j) ih
          obtain ⟨_, q⟩ := mkL_ok sm rs q
          refine cr_sortedI pins s σ H _ us Q I rv ⟨p, is, by rw [ex], .inl (.inl hx), fun ns' p' hp hs np => ?_⟩
          have e3 : ns' = sortI is := sorted_unique (hp.trans (sortI_perm is).symm) hs (sortI_sorted is)
          rw [e3]
          exact q p' np
        · exact q.elim
      · exact q.elim
    · exact q.elim
  | gcd =>
    simp only [bltM] at q
    split at q
    · cases r with
      | cons r1 r => cases r with
        | cons r2 r =>
          cases r; cases r1; cases r2
          exact cr_gcd pins s σ H _ us Q I rv ⟨_, _, rfl, q.now sm (.int _)⟩
    · exact q.elim
  | lcm2 =>
    simp only [bltM] at q
    split at q
    · cases r with
      | cons r1 r => cases r with
        | cons r2 r =>
          cases r; cases r1; cases r2
          split at q
          · rename_i hc
            exact cr_lcm pins s σ H _ us Q I rv ⟨_, _, rfl, hc, q.now sm (.int _)⟩
          · exact q.elim
    · exact q.elim
  | lcm3 => exact q.elim
  | comb =>
    simp only [bltM] at q
    split at q
    · cases r with
      | cons r1 r => cases r with
        | cons r2 r =>
          cases r; cases r1; cases r2
          split at q
          · rename_i hc
            exact cr_comb pins s σ H _ us Q I rv ⟨_, _, rfl, hc, q.now sm (.int _)⟩
          · exact q.elim
    · exact q.elim
  | fact => exact q.elim
  | divmod => exact q.elim
  | str => exact q.elim

/-! ### methods -/
def mtId : Mt → String
  | .append => "list.append" | .pop => "list.pop" | .count => "list.count" | .index => "list.index" | .extend => "list.extend"
theorem mt_mini (m : Mt) : MtR X (mtId m) (rMt X.K (methM m)) := by
  intro pins s σ H x vs v us Q I rx rv h
  obtain ⟨ι, F, w, ws, st, sm, r, rs, q⟩ := h
  cases m with
  | append =>
    simp only [methM] at q
    split at q
    · rename_i a y
      obtain ⟨z, rfl, rz⟩ := one_of rs rfl
      split at q
      · rename_i xs exs
        split at q
        · rename_i hl
          cases r with
          | ref hp =>
            obtain ⟨_, us', h2, h3⟩ := sm.obj _ _ xs hp exs
            obtain ⟨s', e'⟩ := sm.write hp (h3.append (.one rz))
            exact mt_append pins s σ H _ _ v us Q I rx rv ⟨_, us', z, rfl, rfl, h2, by rw [← h3.len, ← line_eq]; exact hl, q _ _ _ _ e' s' .non⟩
        · exact q.elim
      · exact q.elim
    · exact q.elim
  | pop =>
    simp only [methM] at q
    split at q
    · rename_i a
      cases rs
      split at q
      · rename_i xs exs
        split at q
        · rename_i y ey
          cases r with
          | ref hp =>
            obtain ⟨_, us', h2, h3⟩ := sm.obj _ _ xs hp exs
            obtain ⟨z, ez, rz⟩ := h3.get ey
            obtain ⟨s', e'⟩ := sm.write hp h3.dropLast
            exact mt_pop pins s σ H _ _ v us Q I rx rv ⟨_, us', z, rfl, rfl, h2, by rw [← h3.len]; exact ez, q _ _ _ _ e' s' (rz.mono e'.pre e'.sF)⟩
        · exact q.elim
      · exact q.elim
    · exact q.elim
  | count =>
    simp only [methM] at q
    split at q
    · rename_i k
      obtain ⟨z, rfl, rz⟩ := one_of rs rfl
      cases rz
      split at q
      · rename_i xs e
        obtain ⟨p, vs, ex, hx, r1⟩ := lc_ok sm r e
        split at q
        · rename_i is ei
          obtain ⟨rfl, _⟩ := r1.ints ei
          exact mt_lcount pins s σ H _ _ v us Q I rx rv ⟨p, is, k, ex, rfl, .inl (.inl hx), q.now sm (.int _)⟩
        · exact q.elim
      · exact q.elim
    · exact q.elim
  | index => exact q.elim
  | extend =>
    simp only [methM] at q
    split at q
    · rename_i a y
      obtain ⟨z, rfl, rz⟩ := one_of rs rfl
      split at q
      · rename_i xs ys exs eys
        split at q
        · rename_i hl
          cases r with
          | ref hp =>
            obtain ⟨_, us', h2, h3⟩ := sm.obj _ _ xs hp exs
            obtain ⟨p2, vs2, ev, hx2, r2⟩ := lc_ok sm rz eys
            obtain ⟨s', e'⟩ := sm.write hp (h3.append r2)
            exact mt_extend pins s σ H _ _ v us Q I rx rv ⟨_, p2, us', vs2, rfl, by rw [ev], h2, hx2, by rw [← h3.len, ← r2.len, ← line_eq]; exact hl, q _ _ _ _ e' s' .non⟩
        · exact q.elim
      · exact q.elim
    · exact q.elim
end
end MP

/-! MiniI: what is walked. -/
namespace MP
open PySem PySem.Spec PyProof.Rows L2
variable [Wi : Wish]

/-- the iterator J gives the items, one by one, while deps stand still -/
structure ItOk (K : PySem.W.Frag) (J : It) (items : List MV) (deps : Deps) (ι : List Addr) (F : Hp) : Prop where
  goes : ∀ ι' F' H st i, Pre ι ι' → Same F F' → Sim K ι' F' H st → depOk st deps = true → i < items.length → J.go i H
  stops : ∀ ι' F' H st, Pre ι ι' → Same F F' → Sim K ι' F' H st → depOk st deps = true → J.stop items.length H
  yields : ∀ ι' F' H st i x H', Pre ι ι' → Same F F' → Sim K ι' F' H st → depOk st deps = true → i < items.length → J.yld i H x H' →
    ∃ F'', Sim K ι' F'' H' st ∧ Ext ι' F' H ι' F'' H' ∧ ∃ m, items[i]? = some m ∧ Rep K ι' F'' m x

section
variable {K : PySem.W.Frag} {ι : List Addr} {F H : Hp} {st : Store}
/-- a sequence as it stands -/
def SrcAt (K : PySem.W.Frag) (ι : List Addr) (F : Hp) (v : V) (xs : List MV) (deps : Deps) (tup : Bool) : Prop :=
  ∃ p, v = .ref p ∧ ∀ ι' F' H st, Pre ι ι' → Same F F' → Sim K ι' F' H st → depOk st deps = true → ∃ vs, (if tup then SqT K H p vs else SqL K H p vs) ∧ Reps K ι' F' xs vs
theorem srcL_ok {x : MV} {v : V} {xs : List MV} {d : Deps} (r : Rep K ι F x v) (h : srcL st x = some (xs, d)) : SrcAt K ι F v xs d false := by
  cases r with
  | @lst ys p vs hp hr =>
    simp only [srcL, Option.some.injEq, Prod.mk.injEq] at h
    obtain ⟨rfl, rfl⟩ := h
    exact ⟨p, rfl, fun ι' F' H st h1 h2 h3 _ => ⟨vs, .inl (.inl (h3.same _ _ (h2 _ _ hp))), hr.mono h1 h2⟩⟩
  | @ref a p hp =>
    simp only [srcL] at h
    split at h
    · rename_i ys e
      simp only [Option.some.injEq, Prod.mk.injEq] at h
      obtain ⟨rfl, rfl⟩ := h
      refine ⟨p, rfl, fun ι' F' H st h1 h2 h3 h4 => ?_⟩
      simp only [depOk, Bool.and_true] at h4
      split at h4
      · rename_i zs ez
        have e2 := of_decide_eq_true h4
        subst e2
        obtain ⟨_, vs, g1, g2⟩ := h3.obj a p _ (h1 _ _ hp) ez
        exact ⟨vs, .inl (.inl g1), g2⟩
      · cases h4
    · cases h
  | _ => simp [srcL] at h
def isTupV : MV → Bool | .tup _ => true | _ => false
theorem srcOf_ok {x : MV} {v : V} {xs : List MV} {d : Deps} (r : Rep K ι F x v) (h : srcOf st x = some (xs, d)) : SrcAt K ι F v xs d (isTupV x) := by
  cases r with
  | @tup ys p vs hp hr =>
    simp only [srcOf, Option.some.injEq, Prod.mk.injEq] at h
    obtain ⟨rfl, rfl⟩ := h
    exact ⟨p, rfl, fun ι' F' H st h1 h2 h3 _ => ⟨vs, SqTsame h3.same (SqTsame h2 hp), hr.mono h1 h2⟩⟩
  | @lst ys p vs hp hr => exact srcL_ok (st := st) (.lst hp hr) h
  | @ref a p hp => exact srcL_ok (st := st) (.ref hp) h
  | _ => simp [srcOf] at h
theorem depOk_append {d e : Deps} (h : depOk st (d ++ e) = true) : depOk st d = true ∧ depOk st e = true := by
  induction d with
  | nil => exact ⟨rfl, h⟩
  | cons x d ih =>
    obtain ⟨a, xs⟩ := x
    have h' : ((match st[a]? with | some ys => decide (ys = xs) | none => false) && depOk st (d ++ e)) = true := h
    rw [Bool.and_eq_true] at h'
    obtain ⟨g1, g2⟩ := ih h'.2
    refine ⟨?_, g2⟩
    show ((match st[a]? with | some ys => decide (ys = xs) | none => false) && depOk st d) = true
    rw [h'.1, g1]
    rfl
/-- nothing laid: the heap as it was -/
theorem yAt_ok {xs : List MV} {vs : List V} {i : Nat} {x : V} (s : Sim K ι F H st) (r : Reps K ι F xs vs) (h : vs[i]? = some x) (hi : i < xs.length) :
    ∃ F'', Sim K ι F'' H st ∧ Ext ι F H ι F'' H ∧ ∃ m, xs[i]? = some m ∧ Rep K ι F'' m x := by
  obtain ⟨v, e1, e2⟩ := r.get (List.getElem?_eq_getElem hi)
  rw [h] at e1
  cases e1
  exact ⟨F, s, .refl, xs[i], List.getElem?_eq_getElem hi, e2⟩
theorem it_list {p : Addr} {v : V} {xs : List MV} {d : Deps} (h : SrcAt K ι F v xs d false) (e : v = .ref p) : ItOk K (Itl K p) xs d ι F := by
  obtain ⟨p', e', h⟩ := h
  rw [e] at e'
  cases e'
  refine ⟨fun ι' F' H st i h1 h2 h3 h4 hi => ?_, fun ι' F' H st h1 h2 h3 h4 => ?_, fun ι' F' H st i x H' h1 h2 h3 h4 hi y => ?_⟩
  · obtain ⟨vs, g1, g2⟩ := h ι' F' H st h1 h2 h3 h4
    have hl := g2.len
    exact ⟨vs, vs[i], g1, by simp [show i < vs.length by omega]⟩
  · obtain ⟨vs, g1, g2⟩ := h ι' F' H st h1 h2 h3 h4
    have hl := g2.len
    exact ⟨vs, g1, by omega⟩
  · obtain ⟨vs, g1, g2⟩ := h ι' F' H st h1 h2 h3 h4
    obtain ⟨rfl, yy⟩ := y
    exact yAt_ok h3 g2 (yy vs g1) hi
theorem it_tup {p : Addr} {v : V} {xs : List MV} {d : Deps} (h : SrcAt K ι F v xs d true) (e : v = .ref p) : ItOk K (Itt K p) xs d ι F := by
  obtain ⟨p', e', h⟩ := h
  rw [e] at e'
  cases e'
  refine ⟨fun ι' F' H st i h1 h2 h3 h4 hi => ?_, fun ι' F' H st h1 h2 h3 h4 => ?_, fun ι' F' H st i x H' h1 h2 h3 h4 hi y => ?_⟩
  · obtain ⟨vs, g1, g2⟩ := h ι' F' H st h1 h2 h3 h4
    have hl := g2.len
    exact ⟨vs, vs[i], g1, by simp [show i < vs.length by omega]⟩
  · obtain ⟨vs, g1, g2⟩ := h ι' F' H st h1 h2 h3 h4
    have hl := g2.len
    exact ⟨vs, g1, by omega⟩
  · obtain ⟨vs, g1, g2⟩ := h ι' F' H st h1 h2 h3 h4
    obtain ⟨rfl, yy⟩ := y
    exact yAt_ok h3 g2 (yy vs g1) hi
theorem rev_get {α : Type} {vs : List α} {i : Nat} (hi : i < vs.length) : vs.reverse[i]? = vs[vs.length - 1 - i]? := List.getElem?_reverse hi
theorem it_rev {p : Addr} {v : V} {xs : List MV} {d : Deps} {n : Nat} (h : SrcAt K ι F v xs d false) (e : v = .ref p) (hn : n = xs.length) : ItOk K (Itv K p n) xs.reverse d ι F := by
  obtain ⟨p', e', h⟩ := h
  rw [e] at e'
  cases e'
  subst hn
  refine ⟨fun ι' F' H st i h1 h2 h3 h4 hi => ?_, fun ι' F' H st h1 h2 h3 h4 => ?_, fun ι' F' H st i x H' h1 h2 h3 h4 hi y => ?_⟩
  · obtain ⟨vs, g1, g2⟩ := h ι' F' H st h1 h2 h3 h4
    have hl := g2.len
    rw [List.length_reverse] at hi
    exact ⟨hi, vs, vs[xs.length - 1 - i], g1, by simp [show xs.length - 1 - i < vs.length by omega]⟩
  · show xs.length ≤ xs.reverse.length
    rw [List.length_reverse]
    exact Nat.le_refl _
  · obtain ⟨vs, g1, g2⟩ := h ι' F' H st h1 h2 h3 h4
    obtain ⟨rfl, yy⟩ := y
    have hl := g2.len
    refine yAt_ok h3 g2.reverse ?_ hi
    rw [List.length_reverse] at hi
    rw [rev_get (by omega), ← hl]
    exact yy vs g1
theorem it_revT {p : Addr} {v : V} {xs : List MV} {d : Deps} {n : Nat} (h : SrcAt K ι F v xs d true) (e : v = .ref p) (hn : n = xs.length) : ItOk K (RT.ItvT K p n) xs.reverse d ι F := by
  obtain ⟨p', e', h⟩ := h
  rw [e] at e'
  cases e'
  subst hn
  refine ⟨fun ι' F' H st i h1 h2 h3 h4 hi => ?_, fun ι' F' H st h1 h2 h3 h4 => ?_, fun ι' F' H st i x H' h1 h2 h3 h4 hi y => ?_⟩
  · obtain ⟨vs, g1, g2⟩ := h ι' F' H st h1 h2 h3 h4
    have hl := g2.len
    rw [List.length_reverse] at hi
    exact ⟨hi, vs, vs[xs.length - 1 - i], g1, by simp [show xs.length - 1 - i < vs.length by omega]⟩
  · show xs.length ≤ xs.reverse.length
    rw [List.length_reverse]
    exact Nat.le_refl _
  · obtain ⟨vs, g1, g2⟩ := h ι' F' H st h1 h2 h3 h4
    obtain ⟨rfl, yy⟩ := y
    have hl := g2.len
    refine yAt_ok h3 g2.reverse ?_ hi
    rw [List.length_reverse] at hi
    rw [rev_get (by omega), ← hl]
    exact yy vs g1
theorem it_range {lo : Int} {n : Nat} : ItOk K (Itr lo n) (rangeL lo n) [] ι F := by
  have hl : (rangeL lo n).length = n := by simp [rangeL]
  refine ⟨fun ι' F' H st i h1 h2 h3 h4 hi => by rw [hl] at hi; exact hi, fun ι' F' H st h1 h2 h3 h4 => by show n ≤ (rangeL lo n).length; rw [hl]; exact Nat.le_refl _, fun ι' F' H st i x H' h1 h2 h3 h4 hi y => ?_⟩
  obtain ⟨rfl, rfl⟩ := y
  rw [hl] at hi
  exact ⟨F', h3, .refl, .int (lo + i), by simp [rangeL, hi], .int _⟩
theorem rangeL_rev (lo : Int) (n : Nat) : (rangeL lo n).reverse = rangeC (lo + (n : Int) - 1) (-1) n := by
  refine List.ext_getElem? fun i => ?_
  have hl : (rangeL lo n).length = n := by simp [rangeL]
  by_cases hi : i < n
  · rw [List.getElem?_reverse (by rw [hl]; exact hi), hl]
    simp only [rangeL, rangeC, List.getElem?_map]
    rw [List.getElem?_range (by omega), List.getElem?_range hi]
    simp only [Option.map_some]
    congr 2
    omega
  · rw [List.getElem?_eq_none (by rw [List.length_reverse, hl]; omega), List.getElem?_eq_none (by simp [rangeC]; omega)]
theorem it_rangeC {lo c : Int} {n : Nat} : ItOk K (Itc lo c n) (rangeC lo c n) [] ι F := by
  have hl : (rangeC lo c n).length = n := by simp [rangeC]
  refine ⟨fun ι' F' H st i h1 h2 h3 h4 hi => by rw [hl] at hi; exact hi, fun ι' F' H st h1 h2 h3 h4 => by show n ≤ (rangeC lo c n).length; rw [hl]; exact Nat.le_refl _, fun ι' F' H st i x H' h1 h2 h3 h4 hi y => ?_⟩
  obtain ⟨rfl, rfl⟩ := y
  rw [hl] at hi
  exact ⟨F', h3, .refl, .int (lo + (i : Nat) * c), by simp [rangeC, hi], .int _⟩
theorem it_revRange {lo : Int} {n : Nat} : ItOk K (Itc (lo + (n : Int) - 1) (-1) n) (rangeL lo n).reverse [] ι F := by
  rw [rangeL_rev]
  exact it_rangeC
/-- a new pair -/
theorem yPair_ok {m1 m2 : MV} {x1 x2 : V} {T : Addr} (s : Sim K ι F H st) (r1 : Rep K ι F m1 x1) (r2 : Rep K ι F m2 x2) (hT : H T = none) :
    ∃ F'', Sim K ι F'' (upd H T (.tup [x1, x2])) st ∧ Ext ι F H ι F'' (upd H T (.tup [x1, x2])) ∧ Rep K ι F'' (.tup [m1, m2]) (.ref T) := by
  obtain ⟨s', e'⟩ := s.frozen (o := .tup [x1, x2]) hT
  exact ⟨_, s', e', .tup (.inl (.inl upd_same)) (.cons (r1.mono Pre.refl e'.sF) (.cons (r2.mono Pre.refl e'.sF) .nil))⟩
theorem enumL_len (s : Int) (xs : List MV) : (enumL s xs).length = xs.length := by simp [enumL]
theorem enumL_get {s : Int} {xs : List MV} {i : Nat} {m : MV} (h : xs[i]? = some m) : (enumL s xs)[i]? = some (.tup [.int (s + i), m]) := by
  have hi : i < xs.length := (List.getElem?_eq_some_iff.mp h).1
  have e : (List.range xs.length)[i]? = some i := by simp [hi]
  simp only [enumL, List.getElem?_zipWith, e, h]
theorem it_enum {p : Addr} {v : V} {xs : List MV} {d : Deps} (h : SrcAt K ι F v xs d false) (e : v = .ref p) : ItOk K (Ite K p) (enumL 0 xs) d ι F := by
  obtain ⟨p', e', h⟩ := h
  rw [e] at e'
  cases e'
  refine ⟨fun ι' F' H st i h1 h2 h3 h4 hi => ?_, fun ι' F' H st h1 h2 h3 h4 => ?_, fun ι' F' H st i x H' h1 h2 h3 h4 hi y => ?_⟩
  · obtain ⟨vs, g1, g2⟩ := h ι' F' H st h1 h2 h3 h4
    have hl := g2.len
    rw [enumL_len] at hi
    exact ⟨vs, vs[i], g1, by simp [show i < vs.length by omega]⟩
  · obtain ⟨vs, g1, g2⟩ := h ι' F' H st h1 h2 h3 h4
    have hl := g2.len
    exact ⟨vs, g1, by rw [enumL_len]; omega⟩
  · obtain ⟨vs, g1, g2⟩ := h ι' F' H st h1 h2 h3 h4
    obtain ⟨T, z, rfl, hT, rfl, yy⟩ := y
    rw [enumL_len] at hi
    obtain ⟨w, e1, e2⟩ := g2.get (List.getElem?_eq_getElem hi)
    rw [yy vs g1] at e1
    cases e1
    obtain ⟨F'', a1, a2, a3⟩ := yPair_ok h3 (.int (i : Nat)) e2 hT
    refine ⟨F'', a1, a2, _, enumL_get (List.getElem?_eq_getElem hi), ?_⟩
    rw [Int.zero_add]
    exact a3
theorem zip2_len (xs ys : List MV) : (zip2 xs ys).length = min xs.length ys.length := by simp [zip2]
theorem zip2_get {xs ys : List MV} {i : Nat} {m n : MV} (h : xs[i]? = some m) (h' : ys[i]? = some n) : (zip2 xs ys)[i]? = some (.tup [m, n]) := by
  simp only [zip2, List.getElem?_zipWith, h, h']
theorem it_zip {p q : Addr} {v w : V} {xs ys : List MV} {d e : Deps} (h : SrcAt K ι F v xs d false) (h' : SrcAt K ι F w ys e false) (ev : v = .ref p) (ew : w = .ref q) : ItOk K (Itz K p q) (zip2 xs ys) (d ++ e) ι F := by
  obtain ⟨p', e1, h⟩ := h
  rw [ev] at e1
  cases e1
  obtain ⟨q', e1, h'⟩ := h'
  rw [ew] at e1
  cases e1
  refine ⟨fun ι' F' H st i h1 h2 h3 h4 hi => ?_, fun ι' F' H st h1 h2 h3 h4 => ?_, fun ι' F' H st i x H' h1 h2 h3 h4 hi y => ?_⟩
  all_goals obtain ⟨h5, h6⟩ := depOk_append h4
  all_goals obtain ⟨vs, g1, g2⟩ := h ι' F' H st h1 h2 h3 h5
  all_goals obtain ⟨ws, k1, k2⟩ := h' ι' F' H st h1 h2 h3 h6
  all_goals have hl := g2.len
  all_goals have hm := k2.len
  · rw [zip2_len] at hi
    exact ⟨vs, ws, vs[i], ws[i], g1, k1, by simp [show i < vs.length by omega], by simp [show i < ws.length by omega]⟩
  · exact ⟨vs, ws, g1, k1, by rw [zip2_len]; omega⟩
  · obtain ⟨T, z1, z2, rfl, hT, rfl, y1, y2⟩ := y
    rw [zip2_len] at hi
    have i1 : i < xs.length := by omega
    have i2 : i < ys.length := by omega
    obtain ⟨u1, e1, f1⟩ := g2.get (List.getElem?_eq_getElem i1)
    obtain ⟨u2, e2, f2⟩ := k2.get (List.getElem?_eq_getElem i2)
    rw [y1 vs g1] at e1
    rw [y2 ws k1] at e2
    cases e1
    cases e2
    obtain ⟨F'', a1, a2, a3⟩ := yPair_ok h3 f1 f2 hT
    exact ⟨F'', a1, a2, _, zip2_get (List.getElem?_eq_getElem i1) (List.getElem?_eq_getElem i2), a3⟩
theorem it_zipT {p q : Addr} {v w : V} {xs ys : List MV} {d e : Deps} (h : SrcAt K ι F v xs d true) (h' : SrcAt K ι F w ys e true) (ev : v = .ref p) (ew : w = .ref q) : ItOk K (RZ.ItzT K p q) (zip2 xs ys) (d ++ e) ι F := by
  obtain ⟨p', e1, h⟩ := h
  rw [ev] at e1
  cases e1
  obtain ⟨q', e1, h'⟩ := h'
  rw [ew] at e1
  cases e1
  refine ⟨fun ι' F' H st i h1 h2 h3 h4 hi => ?_, fun ι' F' H st h1 h2 h3 h4 => ?_, fun ι' F' H st i x H' h1 h2 h3 h4 hi y => ?_⟩
  all_goals obtain ⟨h5, h6⟩ := depOk_append h4
  all_goals obtain ⟨vs, g1, g2⟩ := h ι' F' H st h1 h2 h3 h5
  all_goals obtain ⟨ws, k1, k2⟩ := h' ι' F' H st h1 h2 h3 h6
  all_goals have hl := g2.len
  all_goals have hm := k2.len
  · rw [zip2_len] at hi
    exact ⟨vs, ws, vs[i], ws[i], g1, k1, by simp [show i < vs.length by omega], by simp [show i < ws.length by omega]⟩
  · exact ⟨vs, ws, g1, k1, by rw [zip2_len]; omega⟩
  · obtain ⟨T, z1, z2, rfl, hT, rfl, y1, y2⟩ := y
    rw [zip2_len] at hi
    have i1 : i < xs.length := by omega
    have i2 : i < ys.length := by omega
    obtain ⟨u1, e1, f1⟩ := g2.get (List.getElem?_eq_getElem i1)
    obtain ⟨u2, e2, f2⟩ := k2.get (List.getElem?_eq_getElem i2)
    rw [y1 vs g1] at e1
    rw [y2 ws k1] at e2
    cases e1
    cases e2
    obtain ⟨F'', a1, a2, a3⟩ := yPair_ok h3 f1 f2 hT
    exact ⟨F'', a1, a2, _, zip2_get (List.getElem?_eq_getElem i1) (List.getElem?_eq_getElem i2), a3⟩
end
end MP

/-! MiniT: from the row's own tree to the mini text. -/
namespace MP
open PySem PySem.Spec PyProof.Rows L2

inductive GK where | fn (i n : Nat) (ds : List MV) | val (v : MV) | bl (b : Bl) | cls (c : Nat)
structure TC where
  N : List Str
  sc : Scope
  fn : Str → Bool
  G : List (Str × GK)
  free : List Str
  mu : List (Nat × Nat)
def TC.muAt (Γ : TC) (p : Pos) : Bool := Γ.mu.contains (p.line, p.col)
def ixS : List Str → Str → Option Nat
  | [], _ => none
  | y :: ys, x => if y = x then some 0 else match ixS ys x with | some i => some (i + 1) | none => none
theorem ixS_get : ∀ {N : List Str} {x : Str} {i : Nat}, ixS N x = some i → N[i]? = some x
  | [], _, _, h => by cases h
  | y :: ys, x, i, h => by
    unfold ixS at h
    split at h
    · rename_i e
      simp only [Option.some.injEq] at h
      subst h
      simp [e]
    · split at h
      · rename_i j ej
        simp only [Option.some.injEq] at h
        subst h
        simpa using ixS_get ej
      · cases h
def visK (sc : Scope) (x : Str) : Bool := match sc.names.lookup x with | some .local => true | some .cell => true | some .free => true | _ => false
def globK (sc : Scope) (x : Str) : Bool := match sc.names.lookup x with | some .globalImplicit => true | _ => false
def stoK (Γ : TC) (x : Str) : Bool := match Γ.sc.names.lookup x with | some .local => true | some .cell => Γ.fn x | _ => false
def boM : Operator → Option BO
  | .Add => some .add | .Sub => some .sub | .Mult => some .mul | .FloorDiv => some .fdiv | .Mod => some .mod | .Pow => some .pow | .BitAnd => some .band | _ => none
def coM : CmpOp → CO
  | .Eq => .eq | .NotEq => .ne | .Lt => .lt | .LtE => .le | .Gt => .gt | .GtE => .ge | .Is => .isC | .IsNot => .isNotC | .In => .mem | .NotIn => .nmem
theorem copM (o : CmpOp) : copOf (coM o) = o := by cases o <;> rfl
theorem bopM {o : Operator} {b : BO} (h : boM o = some b) : opOf b = o := by cases o <;> simp [boM] at h <;> subst h <;> rfl
def nameStr (x : Str) : String := String.ofList (x.cps.toList.map Char.ofNat)
/-- a built-in by its name and the number of its arguments -/
def blTab1 : List (Str × Bl) := [("len", .len), ("int", .int), ("tuple", .tuple), ("abs", .abs), ("any", .any), ("all", .all), ("sum", .sum), ("list", .list), ("min", .min1), ("max", .max1), ("sorted", .sorted), ("bool", .bool)]
def blTab2 : List (Str × Bl) := [("min", .min2), ("max", .max2)]
def blOf (x : Str) (n : Nat) : Option Bl := if n = 1 then blTab1.lookup x else if n = 2 then blTab2.lookup x else none
def tyOf (x : Str) : Option Ty :=
  if x = "int" then some .int else if x = "bool" then some .bool else if x = "tuple" then some .tuple else if x = "list" then some .list else if x = "str" then some .str else none
def tyStr : Ty → String | .int => "int" | .bool => "bool" | .tuple => "tuple" | .list => "list" | .str => "str"
def freeG (Γ : TC) (x : Str) : Bool := globK Γ.sc x && Γ.free.contains x
/-- the classes of an isinstance -/
def tysOf (Γ : TC) : Expr → Option (List Ty)
  | .Name x _ => if freeG Γ x then (match tyOf x with | some t => some [t] | none => none) else none
  | _ => none
def tysOf2 (Γ : TC) : Expr → Option (List Ty)
  | .Tuple [a, b] _ _ => match tysOf Γ a, tysOf Γ b with | some s, some t => some (s ++ t) | _, _ => none
  | _ => none
def mtOf (x : Str) (n : Nat) : Option Mt :=
  if n = 1 then (if x = "append" then some .append else if x = "count" then some .count else if x = "extend" then some .extend else none) else if n = 0 then (if x = "pop" then some .pop else none) else none
def mtStr : Mt → String | .append => "append" | .pop => "pop" | .count => "count" | .index => "index" | .extend => "extend"
def plainB : Expr → Bool
  | .Name _ _ | .Constant _ _ _ | .BinOp _ _ _ _ | .UnaryOp _ _ _ | .Call _ _ _ _ | .Subscript _ _ _ | .IfExp _ _ _ _ => true
  | _ => false
/-- an expression whose test is its value's truth -/
def valT : Expr → Bool
  | .Name _ _ | .Constant _ _ _ | .BinOp _ _ _ _ | .Call _ _ _ _ | .Subscript _ _ _ | .Attribute _ _ _ | .ListComp _ _ _ _ | .List _ _ | .Tuple _ _ _ => true
  | _ => false
def notIf : Expr → Bool
  | .IfExp _ _ _ _ => false
  | _ => true
def ownIx (N : List Str) : List (Str × NameKind) → List (Str × Nat)
  | [] => []
  | (x, k) :: r => match k with
    | .local => (match ixS N x with | some i => (x, i) :: ownIx N r | none => ownIx N r)
    | .cell => (match ixS N x with | some i => (x, i) :: ownIx N r | none => ownIx N r)
    | _ => ownIx N r
def notG (Γ : TC) (f : Str) : Bool := match Γ.G.lookup f with | none => true | _ => false
def isName (x : Str) : Expr → Bool
  | .Name y _ => decide (y = x)
  | _ => false
def isTupleE : Expr → Bool
  | .Tuple _ _ _ => true
  | _ => false

def trTg (Γ : TC) : Nat → Expr → Option Tg
  | 0, _ => none
  | n + 1, .Name x _ => if stoK Γ x then (match ixS Γ.N x with | some i => some (.nm i) | none => none) else none
  | n + 1, .Tuple es _ _ => match optMap (trTg Γ n) es with | some ts => some (.tp ts) | none => none
  | _, _ => none

mutual
def tgSlots : Tg → List Nat
  | .nm i => [i]
  | .tp ts => tgsSlots ts
def tgsSlots : List Tg → List Nat
  | [] => []
  | t :: ts => tgSlots t ++ tgsSlots ts
end
def subL (xs ys : List Nat) : Bool := xs.all fun i => ys.contains i
def notSet : Expr → Bool
  | .Set _ _ _ => false
  | _ => true
mutual
def trE : Nat → TC → Expr → Option ME
  | 0, _, _ => none
  | n + 1, Γ, e => match e with
    | .Name x _ => if visK Γ.sc x then (match ixS Γ.N x with | some i => some (.var i) | none => none)
      else if globK Γ.sc x then (match Γ.G.lookup x with | some (.val v) => some (.k v) | _ => none) else none
    | .Constant c _ _ => match c with
      | .none => some (.k .non)
      | .bool b => some (.k (.bl b))
      | .int i => some (.k (.int i))
      | .str s => some (.k (.str s))
      | _ => none
    | .BinOp a o b pos => match boM o, trE n Γ a, trE n Γ b with | some bo, some ma, some mb => some (.bin bo (Γ.muAt pos) ma mb) | _, _, _ => none
    | .UnaryOp .USub a _ => match trE n Γ a with | some ma => some (.neg ma) | none => none
    | .UnaryOp .Not a _ => if !notIf a then none else match trE n Γ a with | some ma => some (.notE ma) | none => none
    | .BoolOp op vs _ => trB n Γ op vs
    | .IfExp c a b _ => if !notIf c then none else match trE n Γ c, trE n Γ a, trE n Γ b with | some mc, some ma, some mb => some (.ite mc ma mb) | _, _, _ => none
    | .Compare a [o] [b] _ => if behindInMarks o b then none else match trE n Γ a, trE n Γ b with | some ma, some mb => some (.cmp (coM o) ma mb) | _, _ => none
    | .Compare a [o, p] [b, c] _ => if behindInMarks p c then none else match trE n Γ a, trE n Γ b, trE n Γ c with | some ma, some mb, some mc => some (.chain (coM o) (coM p) ma mb mc) | _, _, _ => none
    | .Tuple es _ _ => match trL n Γ es with | some ms => some (.tupE ms) | none => none
    | .List es pos => match trL n Γ es with | some ms => some (.lstE (Γ.muAt pos) ms) | none => none
    | .Subscript a (.Slice lo hi none _) pos => match trE n Γ a, trO n Γ lo, trO n Γ hi with | some ma, some ml, some mh => some (.slc (Γ.muAt pos) ma ml mh) | _, _, _ => none
    | .Subscript a (.Slice none none (some (.UnaryOp .USub (.Constant (.int 1) _ _) _)) _) pos => match trE n Γ a with | some ma => some (.revSl (Γ.muAt pos) ma) | none => none
    | .Subscript a b _ => if plainB b then (match trE n Γ a, trE n Γ b with | some ma, some mb => some (.idx ma mb) | _, _ => none) else none
    | .Call (.Name f _) args [] pos => if !globK Γ.sc f then none else match Γ.G.lookup f with
      | some (.fn i k ds) => (match trL n Γ args with | some ms => some (.call i (ms ++ (ds.drop (ds.length - (k - args.length))).map .k)) | none => none)
      | some (.bl b) => (match args with
        | [a1, a2] => (match trE n Γ a1, trE n Γ a2 with | some m1, some m2 => some (.blt b false [m1, m2]) | _, _ => none)
        | _ => none)
      | some (.val _) => none
      | some (.cls _) => none
      | none => if !Γ.free.contains f then none else match args with
        | [a, t] => (if f = "isinstance" then (match trE n Γ a with
            | some ma => (match tysOf Γ t with
              | some ts => some (.isi ts ma)
              | none => (match tysOf2 Γ t with | some ts => some (.isi ts ma) | none => none))
            | none => none)
          else match blOf f 2, trE n Γ a, trE n Γ t with | some b, some m1, some m2 => some (.blt b (Γ.muAt pos) [m1, m2]) | _, _, _ => none)
        | [a] => (match blOf f 1, trE n Γ a with | some b, some m1 => some (.blt b (Γ.muAt pos) [m1]) | _, _ => trLR n Γ f a pos)
        | _ => none
    | .Call (.Attribute o m ap) args [] pos => if !(ap.endLine == pos.line) then none else match args with
      | [] => (match mtOf m 0, trE n Γ o with | some t, some mo => if attrPlain o then some (.meth t mo []) else none | _, _ => none)
      | [a] => (match mtOf m 1, trE n Γ o, trE n Γ a with | some t, some mo, some ma => if attrPlain o then some (.meth t mo [ma]) else none | _, _, _ => none)
      | _ => none
    | .ListComp elt [⟨tg, it, ifs, 0⟩] scope pos =>
      let own := ownIx Γ.N scope.names
      let Δ : TC := { Γ with sc := relS scope Γ.sc, fn := fun x => scope.names.lookup x == some .cell }
      if !blkC Γ.N Γ.sc scope own then none else match trI n Γ tg it, trTg Δ n tg, trE n Δ elt with
        | some (ik, src), some t, some me => if !subL (tgSlots t) (own.map (·.2)) then none else (match ifs with
          | [] => some (.comp (Γ.muAt pos) (own.map (·.2)) me t ik src [])
          | [c] => if !notIf c then none else (match trE n Δ c with | some mc => some (.comp (Γ.muAt pos) (own.map (·.2)) me t ik src [mc]) | none => none)
          | _ => none)
        | _, _, _ => none
    | .ListComp elt [⟨tg, it, [], 0⟩, ⟨tg2, it2, [], 0⟩] scope pos =>
      let own := ownIx Γ.N scope.names
      let Δ : TC := { Γ with sc := relS scope Γ.sc, fn := fun x => scope.names.lookup x == some .cell }
      if !(blkC Γ.N Γ.sc scope own && notSet it2) then none else match trI n Γ tg it, trTg Δ n tg, trI n Δ tg2 it2, trTg Δ n tg2, trE n Δ elt with
        | some (ik, src), some t, some (ik2, src2), some t2, some me => if !(subL (tgSlots t) (own.map (·.2)) && subL (tgSlots t2) (own.map (·.2))) then none else some (.comp2 (Γ.muAt pos) (own.map (·.2)) me t ik src (tgSlots t2) t2 ik2 src2)
        | _, _, _, _, _ => none
    | _ => none
def trB : Nat → TC → BoolOp → List Expr → Option ME
  | 0, _, _, _ => none
  | n + 1, Γ, op, vs => match vs with
    | [] => none
    | [a] => if !notIf a then none else trE n Γ a
    | a :: b :: r => if !notIf a then none else match trE n Γ a, trB n Γ op (b :: r) with
      | some ma, some mr => some (match op with | .And => .andE ma mr | .Or => .orE ma mr)
      | _, _ => none
def trO : Nat → TC → Option Expr → Option ME
  | 0, _, _ => none
  | n + 1, Γ, e => match e with
    | none => some (.k .non)
    | some e => trE n Γ e
def trL : Nat → TC → List Expr → Option (List ME)
  | 0, _, _ => none
  | n + 1, Γ, es => match es with
    | [] => some []
    | .Starred _ _ :: _ => none
    | e :: es => match trE n Γ e, trL n Γ es with | some m, some ms => some (m :: ms) | _, _ => none
def trI : Nat → TC → Expr → Expr → Option (IK × List ME)
  | 0, _, _, _ => none
  | n + 1, Γ, tg, it => match it with
    | .Call (.Name f _) args [] _ =>
      if freeG Γ f && notG Γ f then
        (if f = "range" then (match args with
          | [a] => (match trE n Γ a with | some ma => some (.range, [ma]) | none => none)
          | [a, b] => (match trE n Γ a, trE n Γ b with | some ma, some mb => some (.range, [ma, mb]) | _, _ => none)
          | _ => none)
        else if f = "zip" then (match args with
          | [a, b] => if isTupleE tg then (match trE n Γ a, trE n Γ b with | some ma, some mb => some (.zip, [ma, mb]) | _, _ => none) else none
          | [a, b, c] => if isTupleE tg then (match trE n Γ a, trE n Γ b, trE n Γ c with | some ma, some mb, some mc => some (.zip, [ma, mb, mc]) | _, _, _ => none) else none
          | _ => none)
        else if f = "enumerate" then (match args with
          | [a] => if isTupleE tg then (match trE n Γ a with | some ma => some (.enum 0, [ma]) | _ => none) else none
          | _ => none)
        else if f = "reversed" then (match args with
          | [.Call (.Name g _) [x] [] _] => if freeG Γ g && decide (g = "range") then (match trE n Γ x with | some mx => some (.revRange, [mx]) | none => none) else none
          | [.Call (.Name g _) [x, y] [] _] => if freeG Γ g && decide (g = "range") then (match trE n Γ x, trE n Γ y with | some mx, some my => some (.revRange, [mx, my]) | _, _ => none) else none
          | [a] => (match trE n Γ a with | some ma => some (.rev, [ma]) | none => none)
          | _ => none)
        else match trE n Γ it with | some m => some (.seq, [m]) | none => none)
      else match trE n Γ it with | some m => some (.seq, [m]) | none => none
    | .Set _ _ _ => none
    | it => match trE n Γ it with | some m => some (.seq, [m]) | none => none
/-- list(range(..)), tuple(range(..)) -/
def trLR : Nat → TC → Str → Expr → Pos → Option ME
  | 0, _, _, _, _ => none
  | n + 1, Γ, f, a, pos => if !(decide (f = "list") || decide (f = "tuple")) then trLS n Γ f a else match a with
    | .Call (.Name g _) args [] _ => if !(freeG Γ g && decide (g = "range")) then none else (match args with
      | [x] => (match trE n Γ x with | some mx => some (.listIt (Γ.muAt pos) (decide (f = "tuple")) .range [mx]) | none => none)
      | [x, y] => (match trE n Γ x, trE n Γ y with | some mx, some my => some (.listIt (Γ.muAt pos) (decide (f = "tuple")) .range [mx, my]) | _, _ => none)
      | _ => none)
    | _ => none
/-- len(set(a)), len of a set comprehension -/
def trLS : Nat → TC → Str → Expr → Option ME
  | 0, _, _, _ => none
  | n + 1, Γ, f, a => if !(decide (f = "len")) then none else match a with
    | .Call (.Name g _) [x] [] _ => if !(freeG Γ g && decide (g = "set")) then none else (match trE n Γ x with | some mx => some (.lenSet mx) | none => none)
    | .SetComp elt [⟨tg, it, [], 0⟩] scope _ =>
      let own := ownIx Γ.N scope.names
      let Δ : TC := { Γ with sc := relS scope Γ.sc, fn := fun x => scope.names.lookup x == some .cell }
      if !blkC Γ.N Γ.sc scope own then none else match trI n Γ tg it, trTg Δ n tg, trE n Δ elt with
        | some (ik, src), some t, some me => if !subL (tgSlots t) (own.map (·.2)) then none else some (.lenSetC (own.map (·.2)) me t ik src)
        | _, _, _ => none
    | _ => none
def attrPlain : Expr → Bool
  | .Name _ _ => true
  | .Subscript _ _ _ => true
  | .Attribute _ _ _ => true
  | _ => false
end
end MP

/-! MiniX: expressions: what the mini evaluator gives is what the row's expression gives. -/
namespace MP
open PySem PySem.Spec PyProof.Rows L2
variable [Wi : Wish]

theorem _root_.L2.PE.weak {X : Cx} {e : Expr} {t t' : TE} (h : PE X e t) (w : ∀ σ H Q, t' σ H Q → t σ H Q) : PE X e t' := ⟨fun pins s σ H Q I q => h.run pins s σ H Q I (w σ H Q q)⟩
theorem _root_.L2.PT.weak {X : Cx} {e : Expr} {t t' : TT} (h : PT X e t) (w : ∀ σ H Q, t' σ H Q → t σ H Q) : PT X e t' := ⟨fun pins s σ H Q I q => h.run pins s σ H Q I (w σ H Q q)⟩
theorem _root_.L2.PW.weak {X : Cx} {e : Expr} {t t' : TT} (h : PW X e t) (w : ∀ σ H Q, t' σ H Q → t σ H Q) : PW X e t' := ⟨fun wh pins s σ H Q I q => h.run wh pins s σ H Q I (w σ H Q q)⟩
theorem _root_.L2.PA.weak {X : Cx} {e : List Expr} {t t' : TA} (h : PA X e t) (w : ∀ σ H Q, t' σ H Q → t σ H Q) : PA X e t' := ⟨fun pos pins s σ H Q I q => h.run pos pins s σ H Q I (w σ H Q q)⟩
theorem _root_.L2.PI.weak {X : Cx} {tg e : Expr} {t t' : TI} (h : PI X tg e t) (w : ∀ σ H Q, t' σ H Q → t σ H Q) : PI X tg e t' := ⟨fun pins s σ H Q I q => h.run pins s σ H Q I (w σ H Q q)⟩

section
variable {X : Cx} {C : Fns} {a b c e : Expr} {es : List Expr} {ma mb mc me : ME} {ms : List ME} {pos : Pos}
/-- one part evaluated, then what follows -/
theorem step1 {m : ME} {σ : L2.St} {H : Hp} {ι : List Addr} {F : Hp} {env : Env} {st : Store} {R : MV → Store → List Addr → Hp → Hp → Prop} {Q : VK} (sm : Sim X.K ι F H st) (en : EnvR X.K ι F env σ)
    (h : PostE X.K ι F H (At X.K ι F H R) (eE C m env st))
    (q : ∀ x ι1 F1 H1 v st1, Ext ι F H ι1 F1 H1 → Sim X.K ι1 F1 H1 st1 → EnvR X.K ι1 F1 env σ → Rep X.K ι1 F1 v x → R v st1 ι1 F1 H1 → Q x H1) : (tE X.K C) m σ H Q :=
  ⟨ι, F, env, st, sm, en, h.mono fun x H1 ⟨ι1, F1, v, st1, ex, s1, r1, h1⟩ => q x ι1 F1 H1 v st1 ex s1 (en.mono ex) r1 h1⟩
theorem step1B {m : ME} {σ : L2.St} {H : Hp} {ι : List Addr} {F : Hp} {env : Env} {st : Store} {R : Bool → Store → List Addr → Hp → Hp → Prop} {Q : Bool → Hp → Prop} (sm : Sim X.K ι F H st) (en : EnvR X.K ι F env σ)
    (h : PostB X.K ι F H (fun b H1 => ∃ ι1 F1 st1, Ext ι F H ι1 F1 H1 ∧ Sim X.K ι1 F1 H1 st1 ∧ R b st1 ι1 F1 H1) (toTruth (eE C m env st)))
    (q : ∀ x ι1 F1 H1 st1, Ext ι F H ι1 F1 H1 → Sim X.K ι1 F1 H1 st1 → EnvR X.K ι1 F1 env σ → R x st1 ι1 F1 H1 → Q x H1) : tT X.K C m σ H Q :=
  ⟨ι, F, env, st, sm, en, h.mono fun x H1 ⟨ι1, F1, st1, ex, s1, h1⟩ => q x ι1 F1 H1 st1 ex s1 (en.mono ex) h1⟩
theorem step1s {ms : List ME} {σ : L2.St} {H : Hp} {ι : List Addr} {F : Hp} {env : Env} {st : Store} {R : List MV → Store → List Addr → Hp → Hp → Prop} {Q : List V → Hp → Prop} (sm : Sim X.K ι F H st) (en : EnvR X.K ι F env σ)
    (h : PostEs X.K ι F H (fun xs H1 => ∃ ι1 F1 vs st1, Ext ι F H ι1 F1 H1 ∧ Sim X.K ι1 F1 H1 st1 ∧ Reps X.K ι1 F1 vs xs ∧ R vs st1 ι1 F1 H1) (eEs C ms env st))
    (q : ∀ xs ι1 F1 H1 vs st1, Ext ι F H ι1 F1 H1 → Sim X.K ι1 F1 H1 st1 → EnvR X.K ι1 F1 env σ → Reps X.K ι1 F1 vs xs → R vs st1 ι1 F1 H1 → Q xs H1) : tEs X.K C ms σ H Q :=
  ⟨ι, F, env, st, sm, en, h.mono fun x H1 ⟨ι1, F1, v, st1, ex, s1, r1, h1⟩ => q x ι1 F1 H1 v st1 ex s1 (en.mono ex) r1 h1⟩

theorem xe_var {x : Str} {i : Nat} (hN : X.N[i]? = some x) (hv : Vis X.env.scope x) (h1 : (x == ("__debug__" : Str)) = false) (h2 : (x == ("__classdict__" : Str)) = false) : PE X (.Name x pos) ((tE X.K C) (.var i)) := by
  refine (pe_var hN hv h1 h2).weak fun σ H Q ⟨ι, F, env, st, sm, en, q⟩ => ?_
  simp only [eE] at q
  split at q
  · rename_i v e
    obtain ⟨y, ey, ry⟩ := en.2 i v e
    exact ⟨y, ey, q.now sm ry⟩
  · exact q.elim
theorem xe_const {e : Expr} {v : MV} {x : V} (h : PE X e (tC x)) (r : ∀ ι F, Rep X.K ι F v x) : PE X e ((tE X.K C) (.k v)) :=
  h.weak fun σ H Q ⟨ι, F, env, st, sm, en, q⟩ => (show PostE X.K ι F H Q (.ok v st) from q).now sm (r ι F)
theorem xe_bin {o : BO} {mu : Bool} (ha : PE X a ((tE X.K C) ma)) (hb : PE X b ((tE X.K C) mb)) : PE X (.BinOp a (opOf o) b pos) ((tE X.K C) (.bin o mu ma mb)) := by
  refine (pe_op (op_bin o mu) ha hb).weak fun σ H Q ⟨ι, F, env, st, sm, en, q⟩ => ?_
  refine step1 sm en q.bind fun x ι1 F1 H1 v st1 ex s1 en1 r1 q1 => ?_
  refine step1 s1 en1 q1.bind fun y ι2 F2 H2 w st2 ex2 s2 en2 r2 q2 => ?_
  exact ⟨ι2, F2, v, w, st2, s2, r1.mono ex2.pre ex2.sF, r2, q2⟩
theorem xe_neg (ha : PE X a ((tE X.K C) ma)) : PE X (.UnaryOp .USub a pos) ((tE X.K C) (.neg ma)) := by
  refine (pe_un un_neg ha).weak fun σ H Q ⟨ι, F, env, st, sm, en, q⟩ => ?_
  refine step1 sm en q.bind fun x ι1 F1 H1 v st1 ex s1 en1 r1 q1 => ?_
  split at q1
  · cases r1
    exact ⟨_, rfl, q1.now s1 (.int _)⟩
  · exact q1.elim
/-- the truth of a value -/
theorem truth_post {v : MV} {x : V} {ι : List Addr} {F H : Hp} {st : Store} {Q : Bool → Hp → Prop} (s : Sim X.K ι F H st) (r : Rep X.K ι F v x)
    (q : PostB X.K ι F H Q (match truth st v with | some b => R.ok b st | none => .stuck)) : ∃ k, TruV X.K x H k ∧ Q k H := by
  split at q
  · rename_i b e
    exact ⟨b, truth_ok s r e, q ι F H .refl s⟩
  · exact q.elim
theorem xt_val (ha : PE X a ((tE X.K C) ma)) (hv : valT a = true) : PT X a (tT X.K C ma) := by
  refine (pt_truth ha (fun whole => by cases a <;> first | rfl | cases hv)).weak fun σ H Q ⟨ι, F, env, st, sm, en, q⟩ => ?_
  refine step1 sm en q.bind fun x ι1 F1 H1 v st1 ex s1 en1 r1 q1 => ?_
  exact truth_post s1 r1 q1
theorem xt_dis (ha : PE X a ((tE X.K C) ma)) (he : ∀ whole, isTrue a X.env whole = (do let v ← whole; standAt a.pos; holding [v] (truthy v))) : PT X a (tT X.K C ma) := by
  refine (pt_truth ha he).weak fun σ H Q ⟨ι, F, env, st, sm, en, q⟩ => ?_
  refine step1 sm en q.bind fun x ι1 F1 H1 v st1 ex s1 en1 r1 q1 => ?_
  exact truth_post s1 r1 q1
theorem xe_not (ha : PE X a ((tE X.K C) ma)) : PE X (.UnaryOp .Not a pos) ((tE X.K C) (.notE ma)) := by
  refine (pe_notT ha).weak fun σ H Q ⟨ι, F, env, st, sm, en, q⟩ => ?_
  have q' : PostE X.K ι F H Q ((eE C ma env st).bind fun v st => (match truth st v with | some b => R.ok b st | none => .stuck).bind fun b st1 => .ok (.bl (!b)) st1) := by
    have e : (eE C (.notE ma) env st) = (eE C ma env st).bind fun v st => (match truth st v with | some b => R.ok b st | none => .stuck).bind fun b st1 => .ok (.bl (!b)) st1 := by
      simp only [eE, toTruth, R.bind_assoc] <;> rfl
    rw [← e]
    exact q
  refine step1 sm en q'.bind fun x ι1 F1 H1 v st1 ex s1 en1 r1 q1 => ?_
  obtain ⟨k, hk, ι2, F2, st2, ex2, s2, q2⟩ := truth_post s1 r1 q1.bindB
  exact ⟨k, hk, q2.now s2 (.bl _)⟩
theorem xt_not (ha : PT X a (tT X.K C ma)) : PT X (.UnaryOp .Not a pos) (tT X.K C (.notE ma)) := by
  refine (pt_not ha).weak fun σ H Q ⟨ι, F, env, st, sm, en, q⟩ => ?_
  have e : toTruth (eE C (.notE ma) env st) = (toTruth (eE C ma env st)).bind fun b st1 => .ok (!b) st1 := by
    simp only [eE, toTruth, R.bind_assoc]
    congr 1
  rw [e] at q
  refine step1B sm en q.bindB fun x ι1 F1 H1 st1 ex s1 en1 q1 => ?_
  exact q1 ι1 F1 H1 .refl s1
theorem xe_and {r : List Expr} (ha : PE X a ((tE X.K C) ma)) (hb : PE X (.BoolOp .And (b :: r) pos) ((tE X.K C) mb)) : PE X (.BoolOp .And (a :: b :: r) pos) ((tE X.K C) (.andE ma mb)) := by
  refine (pe_andT ha hb).weak fun σ H Q ⟨ι, F, env, st, sm, en, q⟩ => ?_
  refine step1 sm en q.bind fun x ι1 F1 H1 v st1 ex s1 en1 r1 q1 => ?_
  split at q1
  · rename_i et
    exact ⟨true, truth_ok s1 r1 et, by rw [if_pos rfl]; exact ⟨ι1, F1, env, st1, s1, en1, q1⟩⟩
  · rename_i et
    exact ⟨false, truth_ok s1 r1 et, by rw [if_neg Bool.false_ne_true]; exact q1.now s1 r1⟩
  · exact q1.elim
theorem xe_or {r : List Expr} (ha : PE X a ((tE X.K C) ma)) (hb : PE X (.BoolOp .Or (b :: r) pos) ((tE X.K C) mb)) : PE X (.BoolOp .Or (a :: b :: r) pos) ((tE X.K C) (.orE ma mb)) := by
  refine (pe_orT ha hb).weak fun σ H Q ⟨ι, F, env, st, sm, en, q⟩ => ?_
  refine step1 sm en q.bind fun x ι1 F1 H1 v st1 ex s1 en1 r1 q1 => ?_
  split at q1
  · rename_i et
    exact ⟨true, truth_ok s1 r1 et, by rw [if_pos rfl]; exact q1.now s1 r1⟩
  · rename_i et
    exact ⟨false, truth_ok s1 r1 et, by rw [if_neg Bool.false_ne_true]; exact ⟨ι1, F1, env, st1, s1, en1, q1⟩⟩
  · exact q1.elim
theorem and_truth {env : Env} {st : Store} : toTruth (eE C (.andE ma mb) env st) = (toTruth (eE C ma env st)).bind fun b st1 => if b = true then toTruth (eE C mb env st1) else .ok false st1 := by
  simp only [eE, toTruth, R.bind_assoc]
  congr 1
  funext v s
  cases e : truth s v with
  | none => rfl
  | some b =>
    cases b with
    | true => rfl
    | false => simp [e]
theorem or_truth {env : Env} {st : Store} : toTruth (eE C (.orE ma mb) env st) = (toTruth (eE C ma env st)).bind fun b st1 => if b = true then .ok true st1 else toTruth (eE C mb env st1) := by
  simp only [eE, toTruth, R.bind_assoc]
  congr 1
  funext v s
  cases e : truth s v with
  | none => rfl
  | some b =>
    cases b with
    | true => simp [e]
    | false => simp
theorem xw_and {r : List Expr} (ha : PT X a (tT X.K C ma)) (hb : PW X (.BoolOp .And (b :: r) pos) (tT X.K C mb)) : PW X (.BoolOp .And (a :: b :: r) pos) (tT X.K C (.andE ma mb)) := by
  refine (pw_and ha hb).weak fun σ H Q ⟨ι, F, env, st, sm, en, q⟩ => ?_
  rw [and_truth] at q
  refine step1B sm en q.bindB fun k ι1 F1 H1 st1 ex s1 en1 q1 => ?_
  cases k with
  | true => exact ⟨ι1, F1, env, st1, s1, en1, q1⟩
  | false => exact q1 ι1 F1 H1 .refl s1
theorem xw_or {r : List Expr} (ha : PT X a (tT X.K C ma)) (hb : PW X (.BoolOp .Or (b :: r) pos) (tT X.K C mb)) : PW X (.BoolOp .Or (a :: b :: r) pos) (tT X.K C (.orE ma mb)) := by
  refine (pw_or ha hb).weak fun σ H Q ⟨ι, F, env, st, sm, en, q⟩ => ?_
  rw [or_truth] at q
  refine step1B sm en q.bindB fun k ι1 F1 H1 st1 ex s1 en1 q1 => ?_
  cases k with
  | false => exact ⟨ι1, F1, env, st1, s1, en1, q1⟩
  | true => exact q1 ι1 F1 H1 .refl s1
theorem cmp_red {o : CO} {σ : L2.St} {H : Hp} {Q : VK} (h : (tE X.K C) (.cmp o ma mb) σ H Q) : (tE X.K C) ma σ H fun x H1 => (tE X.K C) mb σ H1 fun y H2 => rC X.K (cmpM o) x y H2 Q := by
  obtain ⟨ι, F, env, st, sm, en, q⟩ := h
  refine step1 sm en q.bind fun x ι1 F1 H1 v st1 ex s1 en1 r1 q1 => ?_
  refine step1 s1 en1 q1.bind fun y ι2 F2 H2 w st2 ex2 s2 en2 r2 q2 => ?_
  split at q2
  · rename_i r e
    exact ⟨ι2, F2, v, w, st2, s2, r1.mono ex2.pre ex2.sF, r2, r, e, q2.now s2 (.bl _)⟩
  · exact q2.elim
theorem xe_cmp {op : CmpOp} (hu : X.A.units + 65 < cLine) (ha : PE X a ((tE X.K C) ma)) (hb : PE X b ((tE X.K C) mb)) (hm : behindInMarks op b = false) : PE X (.Compare a [op] [b] pos) ((tE X.K C) (.cmp (coM op) ma mb)) := by
  have h := op_cmp (X := X) hu (coM op)
  rw [copM] at h
  exact (pe_cmpR h ha hb hm).weak fun σ H Q q => cmp_red q
theorem tru_red {m : ME} {σ : L2.St} {H : Hp} {Q : Bool → Hp → Prop} (h : tT X.K C m σ H Q) (hb : ∀ env st v st1, eE C m env st = .ok v st1 → ∃ b, v = .bl b) : (tE X.K C) m σ H fun x H1 => ∃ k, x = .bl k ∧ Q k H1 := by
  obtain ⟨ι, F, env, st, sm, en, q⟩ := h
  refine ⟨ι, F, env, st, sm, en, ?_⟩
  unfold toTruth at q
  cases e : eE C m env st with
  | ok v st1 =>
    obtain ⟨b, rfl⟩ := hb env st v st1 e
    rw [e] at q
    intro ι1 F1 H1 x ex s1 r1
    cases r1
    exact ⟨b, rfl, q ι1 F1 H1 ex s1⟩
  | exc c v st1 => rw [e] at q; exact q
  | stuck => rw [e] at q; exact q
theorem cmp_bl {o : CO} (env : Env) (st : Store) (v : MV) (st1 : Store) (h : eE C (.cmp o ma mb) env st = .ok v st1) : ∃ b, v = .bl b := by
  simp only [eE] at h
  cases e1 : eE C ma env st with
  | ok x s1 =>
    rw [e1] at h
    simp only [R.bind_ok] at h
    cases e2 : eE C mb env s1 with
    | ok y s2 =>
      rw [e2] at h
      simp only [R.bind_ok] at h
      split at h
      · simp only [R.ok.injEq] at h
        exact ⟨_, h.1.symm⟩
      · cases h
    | _ => rw [e2] at h; cases h
  | _ => rw [e1] at h; cases h
theorem xt_cmp {op : CmpOp} (hu : X.A.units + 65 < cLine) (ha : PE X a ((tE X.K C) ma)) (hb : PE X b ((tE X.K C) mb)) (hm : behindInMarks op b = false) : PT X (.Compare a [op] [b] pos) (tT X.K C (.cmp (coM op) ma mb)) := by
  have h := op_cmp (X := X) hu (coM op)
  rw [copM] at h
  exact (pt_cmpR h ha hb hm).weak fun σ H Q q => cmp_red (tru_red q cmp_bl)
theorem chain_red {o p : CO} {σ : L2.St} {H : Hp} {Q : VK} (h : (tE X.K C) (.chain o p ma mb mc) σ H Q) : tChain (rC X.K (cmpM o)) (rC X.K (cmpM p)) ((tE X.K C) ma) ((tE X.K C) mb) ((tE X.K C) mc) σ H Q := by
  obtain ⟨ι, F, env, st, sm, en, q⟩ := h
  refine step1 sm en q.bind fun x ι1 F1 H1 v st1 ex s1 en1 r1 q1 => ?_
  refine step1 s1 en1 q1.bind fun y ι2 F2 H2 w st2 ex2 s2 en2 r2 q2 => ?_
  split at q2
  · rename_i e
    refine ⟨ι2, F2, v, w, st2, s2, r1.mono ex2.pre ex2.sF, r2, true, e, true, rfl, ?_⟩
    rw [if_pos rfl]
    refine step1 s2 en2 q2.bind fun z ι3 F3 H3 u st3 ex3 s3 en3 r3 q3 => ?_
    split at q3
    · rename_i r e3
      exact ⟨ι3, F3, w, u, st3, s3, r2.mono ex3.pre ex3.sF, r3, r, e3, q3.now s3 (.bl _)⟩
    · exact q3.elim
  · rename_i e
    refine ⟨ι2, F2, v, w, st2, s2, r1.mono ex2.pre ex2.sF, r2, false, e, false, rfl, ?_⟩
    rw [if_neg Bool.false_ne_true]
    exact q2.now s2 (.bl _)
  · exact q2.elim
theorem chain_bl {o p : CO} (env : Env) (st : Store) (v : MV) (st1 : Store) (h : eE C (.chain o p ma mb mc) env st = .ok v st1) : ∃ b, v = .bl b := by
  simp only [eE] at h
  cases e1 : eE C ma env st with
  | ok x s1 =>
    rw [e1] at h
    simp only [R.bind_ok] at h
    cases e2 : eE C mb env s1 with
    | ok y s2 =>
      rw [e2] at h
      simp only [R.bind_ok] at h
      split at h
      · cases e3 : eE C mc env s2 with
        | ok z s3 =>
          rw [e3] at h
          simp only [R.bind_ok] at h
          split at h
          · simp only [R.ok.injEq] at h
            exact ⟨_, h.1.symm⟩
          · cases h
        | _ => rw [e3] at h; cases h
      · simp only [R.ok.injEq] at h
        exact ⟨_, h.1.symm⟩
      · cases h
    | _ => rw [e2] at h; cases h
  | _ => rw [e1] at h; cases h
theorem xe_chain {op op' : CmpOp} (hu : X.A.units + 65 < cLine) (ha : PE X a ((tE X.K C) ma)) (hb : PE X b ((tE X.K C) mb)) (hc : PE X c ((tE X.K C) mc)) (hm : lastMarks [op, op'] [b, c] = false) : PE X (.Compare a [op, op'] [b, c] pos) ((tE X.K C) (.chain (coM op) (coM op') ma mb mc)) := by
  have h := op_cmp (X := X) hu (coM op)
  have h' := op_cmp (X := X) hu (coM op')
  rw [copM] at h h'
  exact (pe_chain h h' ha hb hc hm).weak fun σ H Q q => chain_red q
theorem xt_chain {op op' : CmpOp} (hu : X.A.units + 65 < cLine) (ha : PE X a ((tE X.K C) ma)) (hb : PE X b ((tE X.K C) mb)) (hc : PE X c ((tE X.K C) mc)) (hm : lastMarks [op, op'] [b, c] = false) : PT X (.Compare a [op, op'] [b, c] pos) (tT X.K C (.chain (coM op) (coM op') ma mb mc)) := by
  have h := op_cmp (X := X) hu (coM op)
  have h' := op_cmp (X := X) hu (coM op')
  rw [copM] at h h'
  exact (pt_chain h h' ha hb hc hm).weak fun σ H Q q => chain_red (tru_red q chain_bl)
theorem xe_ite (hc : PT X c (tT X.K C mc)) (ha : PE X a ((tE X.K C) ma)) (hb : PE X b ((tE X.K C) mb)) : PE X (.IfExp c a b pos) ((tE X.K C) (.ite mc ma mb)) := by
  refine (pe_ifExp hc ha hb).weak fun σ H Q ⟨ι, F, env, st, sm, en, q⟩ => ?_
  refine step1B sm en q.bindB fun k ι1 F1 H1 st1 ex s1 en1 q1 => ?_
  cases k with
  | true => exact ⟨ι1, F1, env, st1, s1, en1, q1⟩
  | false => exact ⟨ι1, F1, env, st1, s1, en1, q1⟩
theorem xa_nil : PA X [] (tEs X.K C []) := pa_nil.weak fun σ H Q ⟨ι, F, env, st, sm, en, q⟩ => q ι F H [] .refl sm .nil
theorem xa_cons (ha : PE X e ((tE X.K C) me)) (hr : PA X es (tEs X.K C ms)) (hs : starEach (e :: es) X.env = (false, eval e X.env) :: starEach es X.env) : PA X (e :: es) (tEs X.K C (me :: ms)) := by
  refine (pa_cons ha hr hs).weak fun σ H Q ⟨ι, F, env, st, sm, en, q⟩ => ?_
  refine step1 sm en q.bind fun x ι1 F1 H1 v st1 ex s1 en1 r1 q1 => ?_
  refine step1s s1 en1 q1.bindEs fun xs ι2 F2 H2 vs st2 ex2 s2 en2 r2 q2 => ?_
  exact q2 ι2 F2 H2 _ .refl s2 (.cons (r1.mono ex2.pre ex2.sF) r2)
theorem xe_tup {k : Nat} (h : PA X es (tEs X.K C ms)) : PE X (.Tuple es k pos) ((tE X.K C) (.tupE ms)) := by
  refine (pe_tup h).weak fun σ H Q ⟨ι, F, env, st, sm, en, q⟩ => ?_
  refine step1s sm en q.bindEs fun xs ι1 F1 H1 vs st1 ex s1 en1 r1 q1 => ?_
  exact mkT_ok s1 r1 q1
theorem xe_lst {mu : Bool} (h : PA X es (tEs X.K C ms)) : PE X (.List es pos) ((tE X.K C) (.lstE mu ms)) := by
  refine (pe_lst h).weak fun σ H Q ⟨ι, F, env, st, sm, en, q⟩ => ?_
  refine step1s sm en q.bindEs fun xs ι1 F1 H1 vs st1 ex s1 en1 r1 q1 => ?_
  exact mkL_ok s1 r1 q1
theorem xe_idx (ha : PE X a ((tE X.K C) ma)) (hb : PE X b ((tE X.K C) mb)) (hs : PlainIx b) : PE X (.Subscript a b pos) ((tE X.K C) (.idx ma mb)) := by
  have hr : IxR X (rB X.K idxM) := by
    intro value slice pins s σ H x y v u Q I rx ry ⟨ι, F, w1, w2, st, sm, r1, r2, q⟩ hs
    exact ix_mini I rx ry hs sm r1 r2 q
  refine (pe_ix hr ha hb hs).weak fun σ H Q ⟨ι, F, env, st, sm, en, q⟩ => ?_
  refine step1 sm en q.bind fun x ι1 F1 H1 v st1 ex s1 en1 r1 q1 => ?_
  refine step1 s1 en1 q1.bind fun y ι2 F2 H2 w st2 ex2 s2 en2 r2 q2 => ?_
  exact ⟨ι2, F2, v, w, st2, s2, r1.mono ex2.pre ex2.sF, r2, q2⟩
/-- a slice's part -/
def tOM (K : PySem.W.Frag) (C : Fns) (m : ME) : TO := fun σ H Q => tE K C m σ H fun x H1 => ∃ o, (x = .non ∧ o = none ∨ ∃ i, x = .int i ∧ o = some i) ∧ Q o H1
theorem _root_.L2.PO.weak {e : Option Expr} {t t' : TO} (h : PO X e t) (w : ∀ σ H Q, t' σ H Q → t σ H Q) : PO X e t' := ⟨fun pins s σ H Q I q => h.run pins s σ H Q I (w σ H Q q)⟩
theorem xo_none : PO X none (tOM X.K C (.k .non)) := by
  refine L2.PO.weak po_none fun σ H Q ⟨ι, F, env, st, sm, en, q⟩ => ?_
  obtain ⟨o, h, q⟩ := (show PostE X.K ι F H _ (.ok .non st) from q).now sm .non
  rcases h with ⟨_, rfl⟩ | ⟨i, h, _⟩
  · exact q
  · cases h
theorem xo_some (h : PE X e ((tE X.K C) me)) : PO X (some e) (tOM X.K C me) := by
  refine ⟨fun pins s σ H Q I hw => ?_⟩
  rw [evalPart_some]
  refine thn (h.run pins s σ H _ I hw) fun u s1 ⟨x, H1, I1, r1, o, hx, q⟩ => ?_
  rcases hx with ⟨rfl, rfl⟩ | ⟨i, rfl, rfl⟩
  · cases r1
    exact ⟨none, H1, I1, .none, q⟩
  · obtain ⟨t, rfl⟩ := r1
    exact ⟨some i, H1, I1, .int i t, q⟩
theorem sIx_eq (n d : Nat) (o : Option Int) : sIx n d o = HT.sIx n d o := by cases o <;> rfl
theorem cut_ok {ι : List Addr} {F : Hp} {xs : List MV} {vs : List V} (r : Reps X.K ι F xs vs) (lo hi : Option Int) : Reps X.K ι F (cutM xs lo hi) (cutV vs lo hi) := by
  unfold cutM cutV
  rw [sIx_eq, sIx_eq, r.len]
  exact (r.drop _).take _
theorem cutM_whole {xs : List MV} {lo hi : Option Int} (h1 : sIx xs.length 0 lo = 0) (h2 : sIx xs.length xs.length hi = xs.length) : cutM xs lo hi = xs := by
  unfold cutM
  rw [h1, h2, Nat.sub_zero, List.drop_zero, List.take_length]
theorem sl_mini (mu : Bool) {pins : List (Addr × Obj)} {s : Shared} {σ : L2.St} {H : Hp} {x : V} {v vl vu : Value} {lo hi : Option Int} {sl : Addr} {Q : VK} {ι : List Addr} {F : Hp} {w l h : MV} {st : Store} (I : Inv X pins σ H s) (rx : RelV x v) (hs : s.heap.IsSliceOf sl vl vu .none) (pl : IsPart vl lo) (pu : IsPart vu hi)
    (sm : Sim X.K ι F H st) (r : Rep X.K ι F w x) (el : optI l = some lo) (eh : optI h = some hi) (q : PostE X.K ι F H Q (slcM mu w l h st)) :
    ∃ T id, typeLookup (.type T) "__getitem__" = pure (some (.builtin id)) ∧ s.TypeIs v T ∧ wpAny (model X.prog X.w) X.A (getItem v (.ref sl)) (EP X pins σ Q) X.xe s := by
  unfold slcM at q
  rw [el, eh] at q
  simp only at q
  cases r with
  | @tup xs p vs hp hr =>
    simp only at q
    refine sl_tupA pins s σ H _ v vl vu lo hi sl Q I rx hs pl pu ⟨p, vs, rfl, SqTsame sm.same hp, fun hw => ?_, fun hw => ?_⟩
    · rw [← sIx_eq, ← sIx_eq, ← hr.len] at hw
      rw [cutM_whole hw.1 hw.2] at q
      exact q.now sm (.tup hp hr)
    · exact mkT_now sm (cut_ok hr lo hi) q
  | scr hp hr =>
    simp only at q
    obtain ⟨_, q⟩ := mkL_ok sm (cut_ok hr lo hi) q
    exact sl_list pins s σ H _ v vl vu lo hi sl Q I rx hs pl pu ⟨_, _, rfl, SqLsame sm.same hp, q⟩
  | lst hp hr =>
    simp only [lc] at q
    obtain ⟨_, q⟩ := mkL_ok sm (cut_ok hr lo hi) q
    exact sl_list pins s σ H _ v vl vu lo hi sl Q I rx hs pl pu ⟨_, _, rfl, .inl (.inl (sm.same _ _ hp)), q⟩
  | ref hp =>
    simp only [lc] at q
    split at q
    · rename_i xs e
      obtain ⟨_, vs, h2, h3⟩ := sm.obj _ _ xs hp e
      obtain ⟨_, q⟩ := mkL_ok sm (cut_ok h3 lo hi) q
      exact sl_list pins s σ H _ v vl vu lo hi sl Q I rx hs pl pu ⟨_, _, rfl, .inl (.inl h2), q⟩
    · exact q.elim
  | _ => simp only [lc] at q; exact q.elim
theorem noX_post {ι : List Addr} {F H : Hp} {Q : VK} {r : R MV} {k : MV → Store → R MV} (h : PostE X.K ι F H Q (r.noX.bind k)) : PostE X.K ι F H Q (r.bind k) := by
  cases r with
  | ok v st => exact h
  | exc c v st => exact h.elim
  | stuck => exact h
theorem xe_revSl {mu : Bool} {k : Nat} {p1 p2 p3 : Pos} (ha : PE X a ((tE X.K C) ma)) : PE X (.Subscript a (.Slice none none (some (.UnaryOp .USub (.Constant (.int 1) k p1) p2)) p3) pos) ((tE X.K C) (.revSl mu ma)) := by
  refine (pe_revL ha).weak fun σ H Q ⟨ι, F, env, st, sm, en, q⟩ => ?_
  simp only [eE] at q
  refine step1 sm en q.bind fun x ι1 F1 H1 v st1 ex s1 en1 r1 q1 => ?_
  unfold revM at q1
  split at q1
  · rename_i xs e
    obtain ⟨p, vs, rfl, hS, rr⟩ := lc_ok s1 r1 e
    exact ⟨p, vs, rfl, .inl (.inl hS), (mkL_ok s1 rr.reverse q1).2⟩
  · exact q1.elim
theorem xe_slc {mu : Bool} {lo hi : Option Expr} {ml mh : ME} {p2 : Pos} (ha : PE X a ((tE X.K C) ma)) (hl : PO X lo (tOM X.K C ml)) (hh : PO X hi (tOM X.K C mh)) : PE X (.Subscript a (.Slice lo hi none p2) pos) ((tE X.K C) (.slc mu ma ml mh)) := by
  have hr : SlR X (fun x lo hi H Q => ∃ ι F w l h st, Sim X.K ι F H st ∧ Rep X.K ι F w x ∧ optI l = some lo ∧ optI h = some hi ∧ PostE X.K ι F H Q (slcM mu w l h st)) := by
    intro pins s σ H x v vl vu lo hi sl Q I rx hs pl pu ⟨ι, F, w, l, h, st, sm, r, el, eh, q⟩
    exact sl_mini mu I rx hs pl pu sm r el eh q
  refine (pe_slice hr ha hl hh).weak fun σ H Q ⟨ι, F, env, st, sm, en, q⟩ => ?_
  refine step1 sm en q.bind fun x ι1 F1 H1 v st1 ex s1 en1 r1 q1 => ?_
  have part : ∀ {l : MV} {x : V} {ι : List Addr} {F : Hp}, Rep X.K ι F l x → ∀ o, optI l = some o → (x = .non ∧ o = none ∨ ∃ i, x = .int i ∧ o = some i) := fun {l x ι F} r o e => by
    cases r with
    | non => simp only [optI, Option.some.injEq] at e; exact .inl ⟨rfl, e.symm⟩
    | int i => simp only [optI, Option.some.injEq] at e; exact .inr ⟨i, rfl, e.symm⟩
    | _ => cases e
  refine step1 s1 en1 q1.bind fun y ι2 F2 H2 l st2 ex2 s2 en2 r2 q2 => ?_
  have hl' : ∃ lo, optI l = some lo := by
    cases eo : optI l with
    | some o => exact ⟨o, rfl⟩
    | none =>
      exfalso
      cases e3 : eE C mh env st2 with
      | ok h st3 =>
        rw [e3] at q2
        simp only [R.noX_ok, R.bind_ok, slcM, eo] at q2
        exact q2
      | exc c v st3 => rw [e3] at q2; exact q2
      | stuck => rw [e3] at q2; exact q2
  obtain ⟨lo', el⟩ := hl'
  refine ⟨lo', part r2 lo' el, ?_⟩
  refine step1 s2 en2 (noX_post q2).bind fun z ι3 F3 H3 h st3 ex3 s3 en3 r3 q3 => ?_
  have hh' : ∃ hi, optI h = some hi := by
    cases eo : optI h with
    | some o => exact ⟨o, rfl⟩
    | none =>
      exfalso
      simp only [slcM, el, eo] at q3
      exact q3
  obtain ⟨hi', eh⟩ := hh'
  exact ⟨hi', part r3 hi' eh, ι3, F3, v, l, h, st3, s3, (r1.mono ex2.pre ex2.sF).mono ex3.pre ex3.sF, el, eh, q3⟩
end
end MP

/-! MiniEa: an own exception, two classes above Exception, made by an __init__ that says super().__init__(text) and keeps one field. -/
namespace MP
open PySem PySem.W PySem.Calls PyProof.Rows
abbrev bmOf (D : Addr) : List Value := .ref D :: ESX.exTail
def scI : Scope := { kind := .function, names := [(Str.ofString "self", .local), (Str.ofString "at", .local), (Str.ofString "__class__", .free), (Str.ofString "super", .globalImplicit)], isGenerator := false, isCoroutine := false, more := [] }
def argsI (pa pb : Pos) : Arguments := { posonlyargs := [], args := [{ arg := "self", annotation := none, pos := pa }, { arg := "at", annotation := none, pos := pb }], vararg := none, kwonlyargs := [], kw_defaults := [], kwarg := none, defaults := [] }
structure PosI where
  (p0 p1 p2 p3 p4 p5 p6 p7 p8 p9 pa pb : Pos)
  kd : Nat
  msg : Str
  line : (p2.endLine == p4.line) = true
def bodyI (p : PosI) : List Stmt := [.Expr (.Call (.Attribute (.Call (.Name "super" p.p0) [] [] p.p1) "__init__" p.p2) [.Constant (.str p.msg) p.kd p.p3] [] p.p4) p.p5,
  .Assign [.Attribute (.Name "self" p.p6) "at" p.p7] (.Name "at" p.p8) p.p9]
abbrev fnI (p : PosI) (qual : Str) (kV doc pm : Value) (an : Option Addr) (cda : Addr) (ct : Value) (cc : Addr) : FuncData := ksFn "__init__" qual (argsI p.pa p.pb) (bodyI p) scI .none kV doc pm an (.ref cda) ct cc
/-- what stands in the program of such a class -/
structure BadC (prog : Program) (K : Frag) (C : Addr) : Prop where
  cls : ∃ D nm q N bs sn sub ab col dd k0 k1 k2 k3 k5, K.lookup C = some (excClassObj nm q C N bs (bmOf D) true sn sub ab col dd k0 k1 k2 k3 k5 "Exception.__new__") ∧ alongIn K "__init__" (bmOf D) = some (some (.builtin "Exception.__init__"))
  fn : ∃ fI cc cda oc od osl p qual kV doc pm an ct, K.lookup fI = some ⟨oc, od, .func (fnI p qual kV doc pm an cda ct cc), osl⟩ ∧ findIn K (.ref C) "__init__" = some (some (.ref fI)) ∧ typeIn K (.ref fI) = some (.type "function") ∧
    codeIn K (.ref cda) qual = true ∧ p.msg.length ≤ sizeLine ∧ (∃ cl cld csl, K.lookup cc = some ⟨cl, cld, .cell (some (.ref C)), csl⟩) ∧
    ∃ ccl cdd vs ccs file tf, K.lookup cda = some ⟨ccl, cdd, .fields vs, ccs⟩ ∧ vs[2]? = some (.str file tf) ∧ ((prog.main.file : Str) == file) = true
  top : (prog.main.scope.names.lookup ("super" : Str)).isSome = false
  opq : nsIn K cStatics "thirdparty.any" = some none
  sa : findIn K (.ref C) "__setattr__" = some (some (.builtin "object.__setattr__"))
  no : findIn K (.ref C) "at" = some none
  tyC : typeIn K (.ref C) = some (.type "type")
  exC : subIn K (.ref C) (.type "BaseException") = some true
  kC : keepIn K (.ref C) = true
  xf : L2.XfC K C
  exm : exmOne K (.ref C) (.ref C) = some true
section
variable {prog : Program} {w : World} {A : Around} {R : Result → Shared → Prop} {K : Frag} {C D fI cc cda : Addr}
theorem bindI (p : PosI) (qual : Str) (kV doc pm : Value) (an : Option Addr) (cda : Addr) (ct : Value) (cc : Addr) (e v : Value) : bindArgs (fnI p qual kV doc pm an cda ct cc) ⟨[e, v], []⟩ = pure [(Str.ofString "self", e), (Str.ofString "at", v)] := by first | kernel_rfl | rfl
open Builtin Builtin.ObjectAttr
theorem ex_pass (D : Addr) (self : Value) (C : Addr) : refuseLoop self "__setattr__" (.ref C :: bmOf D) = pure () := by
  rw [refuseLoop_ref, refuseLoop_ref]
  exact F.store_Exception.passes _
theorem ex_mro {cd : ClassData} (hcd : clsIn K C = some cd) (hm : cd.mro = .ref C :: bmOf D) {b : Value} (hb : (Value.ref C :: bmOf D).contains b = true) : mroIn K C b = some true := by
  unfold mroIn
  rw [hcd, Option.bind_some, hm, if_neg (show ¬ (List.isEmpty (Value.ref C :: bmOf D) = true) from Bool.false_ne_true), hb]
theorem ex_has (X : String) (hX : ESX.exTail.contains (.type X) = true) : (Value.ref C :: bmOf D).contains (.type X) = true := by
  rw [List.contains_cons, List.contains_cons, hX, Bool.or_true, Bool.or_true]
theorem ex_hT (D : Addr) (X : String) : (bmOf D).contains (.type X) = ESX.exTail.contains (.type X) := by
  rw [List.contains_cons]; rfl

theorem ex_isa {M : Model} {h : Heap} {x : Addr} {ox : Obj} {cd : ClassData} (X : K.In h) (hx : h.get? x = some ox) (hc : ox.cls = .ref C) (hcd : clsIn K C = some cd) (hm : cd.mro = .ref C :: bmOf D) {b : Value} (hb : (Value.ref C :: bmOf D).contains b = true) : Looks M h (isInstance (.ref x) b) true := by
  have LT : Looks M h (typeOf (.ref x)) (.ref C) := fun A Q E s k q => wpAny_typeOf_ref (k _ _ hx) (by rw [hc]; exact q)
  exact LT.andThen (looks_mroIn X (ex_mro hcd hm hb))
/-- self.at = v, the first field -/
theorem ex_store {hp : Heap} {g : Array GenState} {d : Drawn} {t : Nat} {os : OsState} {tk : Tok} {v : Value} {x : Addr} {fv : Array Value} {cd : ClassData} {name : Str}
    (X : K.In hp) (hx : hp.get? x = some { cls := .ref C, data := .fields fv }) (hcd : clsIn K C = some cd) (hm : cd.mro = .ref C :: bmOf D) (hh : cd.hasDict = true) (ha : findIn K (.ref C) name = some none)
    (hq : ∀ h' tk' dx, (∀ b o, b ≠ x → hp.get? b = some o → h'.get? b = some o) → hp.objs.size ≤ dx → dx ≠ x → h'.get? x = some { cls := .ref C, dict := some dx, data := .fields fv } →
      h'.Ns1 dx (fun y => if y = name then some v else none) → R (.ok (.ret .none)) ⟨h', g, d, tk', os⟩) :
    codeAny (model prog w) A (.call (.builtin "object.__setattr__") ⟨[.ref x, .str name tk, v], []⟩) R ⟨hp, g, d, t, os⟩ := by
  have SF := F.store_object
  have sub : Looks (model prog w) hp (isInstance (.ref x) (.type "object")) true := ex_isa X hx rfl hcd hm (ex_has "object" (by decide +kernel))
  refine codeAny_call_builtin SF.slot.plain SF.entry (@check_slot (model prog w) _ _ ⟨hp, g, d, t, os⟩ "object.__setattr__" "object" "__setattr__" (.ref x) [.str name tk, v] [] _ SF.kind SF.split sub (SF.args (.ref x) (.str name tk) v) ?_)
  have hty : Looks (model prog w) hp (typeOf (.ref x)) (.ref C) := fun A Q E s k q => wpAny_typeOf_ref (k _ _ hx) q
  have hmr : Looks (model prog w) hp (mroOf (.ref C)) cd.mro := (looks_clsIn X hcd).andThen .now
  have L3 : Looks (model prog w) hp (storeTaker? none) none := .now
  have hcls : Looks (model prog w) hp (classData C) cd := looks_clsIn X hcd
  have hxs : x ≠ hp.objs.size := Nat.ne_of_lt (Heap.lt_size hx)
  rw [osa_eq, refuse_eq]
  refine wpAny_bind (wpAny_bind (hty.at (wpAny_bind (hmr.at ?_))))
  rw [hm, ex_pass]
  refine wpAny_pure (wpAny_bind (hty.at (wpAny_bind ((looks_findIn X ha).at (wpAny_bind (L3.at ?_))))))
  show wpAny _ _ (storeInOwnDict (.ref x) (.ref C) (.str name tk) name v false) _ _ _
  obtain ⟨nm, bs, mro, ns, qn, hd, sn, sb, ab, col, del⟩ := cd
  dsimp only at hh
  subst hh
  unfold storeInOwnDict ownDictForStores
  repeat (first | with_reducible refine HandSPX.store_in_new ?_ ?_ | with_reducible refine wpAny_loadPart_at hx ?_ | with_reducible refine hcls.at ?_ | wp_step)
  · exact ⟨_, #[], _, (Heap.get?_update_ne _ _ _ _ hxs.symm).trans (Heap.get?_push_at rfl rfl), rfl, fun e he => absurd he (by simp), fun _ => rfl⟩
  · intro h' tk' hn' hs
    have hx1 : (hp.push { cls := .type "dict", data := .dict #[] }).get? x = some { cls := .ref C, data := .fields fv } := Heap.get?_push_of_some _ hx
    refine hq h' tk' hp.objs.size (fun b o hb ho => ?_) (Nat.le_refl _) hxs.symm ?_ hn'
    · exact (hs.2 b (Nat.ne_of_lt (Heap.lt_size ho))).trans ((Heap.get?_update_ne _ _ _ _ hb).trans (Heap.get?_push_of_some _ ho))
    · exact (hs.2 x hxs).trans (Heap.get?_update_self _ hx1 rfl)
end
end MP

/-! MiniEb: its __init__, run. -/
namespace MP
open PySem PySem.W PySem.Calls PyProof.Rows
theorem evI (p : PosI) (env : PySem.Env) : eval (.Call (.Attribute (.Call (.Name "super" p.p0) [] [] p.p1) "__init__" p.p2) [.Constant (.str p.msg) p.kd p.p3] [] p.p4) env = (do
      let ov ← attributeBase (.Call (.Name "super" p.p0) [] [] p.p1) "__init__" env (eval (.Call (.Name "super" p.p0) [] [] p.p1) env)
      standAt p.p2.atName
      let (f, first) ← holding [ov] (getMethod ov "__init__" (do return (← importBound (.Call (.Name "super" p.p0) [] [] p.p1) env).getD true))
      callWith p.p4 f first (backTo p.p4 (starEach [.Constant (.str p.msg) p.kd p.p3] env)) []) := by
  rw [arm_eval_Call]
  have hpos : methodCallPos true (.Call (.Name "super" p.p0) [] [] p.p1) env p.p2 p.p4 = pure p.p4 := by unfold methodCallPos; simp [p.line]
  have hf : methodCallForm (([.Constant (.str p.msg) p.kd p.p3] : List Expr).length + ([] : List Keyword).length) (backTo p.p4 (starEach [.Constant (.str p.msg) p.kd p.p3] env)) (backToKw p.p4 (keywordEach [] env)) = true := rfl
  unfold methodCall
  rw [hf, hpos]
  unfold calleeOf
  simp only [if_true, pure_bind]
  rfl
section
variable {prog : Program} {w : World} {A : Around} {R : Result → Shared → Prop} {K : Frag} {C D fI cc cda : Addr}
theorem ex_init {s : Shared} {v : Value} {e t0 : Addr} {p : PosI} {qual : Str} {kV doc pm ct oc cl ccl : Value} {an od cld cdd : Option Addr} {osl csl ccs : Array (Option Value)} {vs : Array Value} {file : Str} {tf : Tok} {mg mb : Str → Option Value}
    {nm q : Str} {N : Addr} {bs : List Value} {sn : List Str} {sub : List Value} {ab : Bool} {col : Option Bool} {dd : Option Addr} {k0 k1 k2 k3 k5 : Option Value}
    (lkC : K.lookup C = some (excClassObj nm q C N bs (bmOf D) true sn sub ab col dd k0 k1 k2 k3 k5 "Exception.__new__")) (hal : alongIn K "__init__" (bmOf D) = some (some (.builtin "Exception.__init__")))
    (lkF : K.lookup fI = some ⟨oc, od, .func (fnI p qual kV doc pm an cda ct cc), osl⟩) (hcd : codeIn K (.ref cda) qual = true) (hms : p.msg.length ≤ sizeLine)
    (lkc : K.lookup cc = some ⟨cl, cld, .cell (some (.ref C)), csl⟩) (lka : K.lookup cda = some ⟨ccl, cdd, .fields vs, ccs⟩) (hvs : vs[2]? = some (.str file tf)) (hfile : ((prog.main.file : Str) == file) = true)
    (htop : (prog.main.scope.names.lookup ("super" : Str)).isSome = false) (hopq : nsIn K cStatics "thirdparty.any" = some none) (hsa : findIn K (.ref C) "__setattr__" = some (some (.builtin "object.__setattr__"))) (hno : findIn K (.ref C) "at" = some none)
    (kin : K.In s.heap) (lim : s.heap.NoLimit) (room : A.depth < recursionLimit) (hg : s.heap.Ns mainGlobals mg) (hmg : mg "super" = none) (hb : s.heap.Ns builtinsNs mb) (hmb : mb "super" = bootBuiltins "super")
    (he : s.heap.get? e = some (HandSPX.excO C t0)) (hKe : K.lookup e = none)
    (hq : ∀ s' dx t1, (∀ b o, b ≠ e → s.heap.get? b = some o → s'.heap.get? b = some o) → s.heap.objs.size ≤ dx → dx ≠ e → s'.heap.get? e = some { cls := .ref C, dict := some dx, data := .fields #[.ref t1, .none, .none, .none, .bool false, .none] } →
      s'.heap.Ns1 dx (fun y => if y = "at" then some v else none) → s'.gens = s.gens → s'.drawn = s.drawn → s'.os = s.os → R (.ok (.ret .none)) s') :
    codeAny (model prog w) A (.call (.ref fI) ⟨[.ref e, v], []⟩) R s := by
  have hcl : clsIn K C = some { name := nm, bases := bs, mro := .ref C :: bmOf D, ns := N, qualname := q, hasDict := true, slotNames := sn, subclasses := sub, abstract := ab, collection := col, hasDel := false } := by unfold clsIn; rw [lkC] <;> rfl
  obtain ⟨hp, g, d, t, os⟩ := s
  refine ks_codeAny_call_defAt (fd := fnI p qual kV doc pm an cda ct cc) (body := bodyI p) (binds := [("self", .ref e), ("at", v)]) room (kin _ _ lkF) rfl lim (codeRec_of kin hcd) rfl (BindsTo.of_eq (bindI ..)) (show ∀ x ∈ scI.names, x.2 ≠ .cell by decide +kernel) (fun x hx => ?_) (fun h0 hns kp0 => ?_) rfl rfl rfl
  · have hx' : x = (Str.ofString "self", Value.ref e) ∨ x = (Str.ofString "at", v) := by simpa using hx
    rcases hx' with rfl | rfl <;> rfl
  have X0 : K.In h0 := kin.keeps kp0
  unfold bodyI
  refine ks_wpAt_execs_cons (ks_wpAt_Expr_any (ks_wpAt_MethodCall (ks_wpAt_super_base (file := file) (tf := tf) rfl rfl rfl rfl (X0 _ _ lkF) rfl rfl rfl (X0 _ _ lka) rfl hvs hfile htop ?_) (evI p _)))
  refine ks_loadName_global rfl rfl (loadGlobal_builtin (hg.keeps kp0) hmg (hb.keeps kp0) (hmb.trans PyProof.Rows.Boot.«super») ⟨rfl, ?_⟩)
  refine wpAny_loadName_free rfl rfl rfl ⟨_, X0 _ _ lkc, rfl⟩ ?_
  refine wpAny_loadName_local rfl rfl hns rfl ?_
  refine ks_wpAny_isType_cls (X0 _ _ lkC) rfl ⟨rfl, ?_⟩
  refine ks_wpAny_call_super (X0 _ _ lkC) rfl (kp0 _ _ he) rfl (fun c z => by cases z) (looks_mroIn X0 (ex_mro hcl rfl (by simp))) (fun h1 hso kp1 => ?_)
  have X1 : K.In h1 := X0.keeps kp1
  have he1 := kp1 _ _ (kp0 _ _ he)
  have hCC : e ≠ C := fun z => by
    have a := X0 _ _ lkC
    rw [← z, kp0 _ _ he] at a
    cases a
  refine ESX.getMethod_super hso (looks_opaque X1 hopq) (l₀ := .ref C :: bmOf D) ((looks_clsIn X1 hcl).andThen .now) (ESX.drop_own C _) X1 hal hCC rfl (ex_isa X1 he1 rfl hcl rfl (ex_has "Exception" (by decide +kernel))) ?_
  refine ESX.callWith_bound (x := e) (spliced_cons (wpAny_Constant_str (k := p.kd) (pos := p.p3) (spliced_nil ?_)))
  have kb : ∀ b o, h1.get? b = some o → (h1.push (ESX.bw e)).get? b = some o := fun b o z => Heap.get?_push_of_some _ z
  refine ⟨Heap.get?_push_at rfl rfl, ESX.call_bw (e := e) (t0 := t0) (kb _ _ (X1 _ _ lkC)) (kb _ _ he1) (Heap.get?_push_at rfl rfl) (by show (1 : Nat) ≤ sizeLine; decide) (fun h2 t1 kp2 he2 => ?_)⟩
  have kn : ∀ b o, b ≠ e → h0.get? b = some o → h2.get? b = some o := fun b o n z => kp2 b o n (kb _ _ (kp1 _ _ z))
  have X2 : K.In h2 := fun b o z => kn b o (fun y => by rw [y, hKe] at z; cases z) (X0 b o z)
  have hL : hp.objs.size ≠ e := fun z => Nat.ne_of_lt (Heap.lt_size he) z.symm
  have ns2 : h2.Ns hp.objs.size (fun x => [(Str.ofString "self", Value.ref e), (Str.ofString "at", v)].reverse.lookup x) := hns.at fun o z => kn _ o hL z
  show PySem.wpAt _ _ _ _ _ _ _
  refine ks_wpAt_execs_cons (ks_wpAt_Assign_Attr (wpAt_of_wpAny (ESX.ldL (v := v) ns2 rfl (ESX.ldL (v := .ref e) ns2 rfl ?_))))
  have I2 : InstAt h2 e (HandSPX.excO C t1) C none := ⟨he2, rfl, rfl, trivial⟩
  refine set_plain X2 I2 hsa (ex_store X2 he2 hcl rfl rfl hno fun h3 tk3 dx kp3 hdx hne he3 hn3 => ?_)
  show PySem.wpAt _ _ _ _ _ _ _
  refine wpAt_of_wpAny (wpAny_execs_nil ?_)
  have hsz : hp.objs.size ≤ h2.objs.size := by
    obtain ⟨o, _, _, z, _⟩ := ns2
    exact Nat.le_of_lt (Heap.lt_size z)
  exact hq ⟨h3, g, d, tk3, os⟩ dx t1 (fun b o n z => kp3 b o n (kn b o n (kp0 _ _ z))) (Nat.le_trans hsz hdx) hne he3 hn3 rfl rfl rfl
end
end MP

/-! MiniEc: such an exception, made. -/
namespace MP
open PySem PySem.Spec PyProof.Rows L2
/-- C(v) -/
def tBad (C : Addr) (ta : TA) : L2.St → Hp → XK → Prop := fun σ H Q => ta σ H fun vs H1 => ∃ v, vs = [v] ∧ ∀ d, H1 d = none → Q (.ref C) (some d) (upd H1 d (.xd [(Str.ofString "at", v)]))
theorem pmk_bad {X : Cx} {x : Str} {C : Addr} {e : Expr} {p pos : Pos} {ta : TA} (B : BadC X.prog X.K C) (hdp : X.A.depth + 5 < recursionLimit) (hg : Gl X x) (hm : X.mg x = some (.ref C)) (hs : X.mg "super" = none) (ha : PA X [e] ta)
    (hdb : (x == ("__debug__" : Str)) = false) (he : starEach [e] X.env = (false, eval e X.env) :: starEach [] X.env) :
    PMk X (.Call (.Name x p) [e] [] pos) (tBad C ta) := by
  intro pins s σ H Q I h
  obtain ⟨D, nm, q, N, bs, sn, sub, ab, col, dd, k0, k1, k2, k3, k5, lkC, hal⟩ := B.cls
  obtain ⟨fI, cc, cda, oc, od, osl, pI, qual, kV, doc, pm, an, ct, lkF, iC, tI, hcd, hms, ⟨cl, cld, csl, lkc⟩, ccl, cdd, vs0, ccs, file, tf, lka, hvs, hfile⟩ := B.fn
  refine wpAny_Call_Name_kw (ld_glob I hg hm ?_ hdb)
  refine PySem.W.callWith_K (h₀ := X.base) I.ok.mod.kin B.kC (thn (ha.run pos pins s σ H _ I h) fun us s1 ⟨vs, H1, I1, r1, v, ev, q2⟩ => ⟨I1.kIn, ?_⟩) he rfl
  show wpAny _ _ (call (.ref C) us) _ _ _
  subst ev
  cases r1 with
  | @cons _ u0 _ ur ra rw' =>
    cases rw'
    obtain ⟨hp, g, dr, tk, os⟩ := s1
    have hsz : hp.objs.size ≤ hp.objs.size + 1 := Nat.le_succ _
    have kk : ∀ b o, hp.get? b = some o → ((hp.push (PySem.W.kdv_tup [u0])).push (PySem.HandSPX.excO C hp.objs.size)).get? b = some o := fun b o z => Heap.get?_push_of_some _ (Heap.get?_push_of_some _ z)
    have hget : ((hp.push (PySem.W.kdv_tup [u0])).push (PySem.HandSPX.excO C hp.objs.size)).get? (hp.objs.size + 1) = some (PySem.HandSPX.excO C hp.objs.size) := by heap_get
    obtain ⟨mb, b1, b2⟩ := I1.mod.blt
    have hKe : X.K.lookup (hp.objs.size + 1) = none := by
      cases z : X.K.lookup (hp.objs.size + 1) with
      | none => rfl
      | some o =>
        have y := Heap.lt_size (I1.kIn _ _ z)
        exact absurd y (by show ¬ hp.objs.size + 1 < hp.objs.size; omega)
    refine wpAny_call (PySem.HandSPX.call_own F.excBase_Exception (ex_hT D) (I1.kIn _ _ lkC) (PySem.W.looks_findIn I1.kIn iC) (fun self => PySem.W.bind_fn I1.kIn self tI) (by show (1 : Nat) ≤ sizeLine; decide)
      (ex_init lkC hal lkF hcd hms lkc lka hvs hfile B.top B.opq B.sa B.no (I1.kIn.keeps kk) ((I1.mod.nolimit.keeps I1.bk).keeps kk) ?_ ((I1.mod.glob.keeps I1.bk).keeps kk) hs ((b1.keeps I1.bk).keeps kk) (b2 _ (by decide)) hget hKe fun s' dx t1 kp hdx hne hes hns hgn hdr hos => ?_))
    · rw [make_depth]
      omega
    · refine ⟨rfl, ?_⟩
      obtain ⟨h', g', dr', tk', os'⟩ := s'
      obtain rfl : g' = g := hgn
      obtain rfl : dr' = dr := hdr
      obtain rfl : os' = os := hos
      have hne0 : ∀ {b : Addr} {o : Obj}, hp.get? b = some o → b ≠ hp.objs.size + 1 := fun {b o} z => Nat.ne_of_lt (Nat.lt_succ_of_lt (Heap.lt_size z))
      obtain ⟨G, g1, g2⟩ := restrict h' fun b => decide (b ≠ hp.objs.size + 1)
      have gk : ∀ b, b ≠ hp.objs.size + 1 → G.get? b = h'.get? b := fun b hb => g1 b (decide_eq_true hb)
      have gn : G.get? (hp.objs.size + 1) = none := g2 _ (by simp)
      have hdx2 : hp.objs.size ≤ dx := by
        have y : ((hp.push (PySem.W.kdv_tup [u0])).push (PySem.HandSPX.excO C hp.objs.size)).objs.size ≤ dx := hdx
        rw [Heap.size_push, Heap.size_push] at y
        omega
      have hnd : H1 dx = none := I1.hok.fresh hdx2
      have J : Inv X pins σ (upd H1 dx (.xd [(Str.ofString "at", v)])) ⟨G, g', dr', tk', os'⟩ := I1.laid (t' := tk') (a := dx) (o := .xd [(Str.ofString "at", v)]) (h' := G) (fun b o z => (gk b (hne0 z)).trans (kp b o (hne0 z) (kk b o z))) hdx2
        ⟨_, hns.at fun o y => (gk dx hne).trans y, relO_put (f := Str.ofString "at") (fs := []) ra fun g => True.intro⟩
      refine ⟨hp.objs.size + 1, _, _, ⟨G, g', dr', tk', os'⟩, _, .ref C, some dx, rfl, J, fun b o z => ?_, gn, hes, ⟨rfl, rfl⟩, rfl, rfl, ?_, rfl, I1.bare, raises_own B.exC B.tyC, q2 dx hnd⟩
      · by_cases hb : b = hp.objs.size + 1
        · rw [hb, gn] at z
          cases z
        · exact (gk b hb).symm.trans z
      · rw [upd_ne (Ne.symm hne)]
        exact I1.hok.fresh hsz
end MP

/-! MiniY: calls, comprehensions, what is walked. -/
namespace MP
open PySem PySem.Spec PyProof.Rows L2
variable [Wi : Wish]

section
variable {X : Cx} {C : Fns} {a b c e : Expr} {es : List Expr} {ma mb mc me : ME} {ms : List ME} {pos p : Pos} {x : Str}
theorem mem_of_lookup {β : Type} : ∀ {l : List (Str × β)} {x : Str} {b : β}, l.lookup x = some b → (x, b) ∈ l
  | (y, c) :: l, x, b, h => by
    rw [List.lookup_cons] at h
    cases e : x == y with
    | true =>
      rw [e] at h
      simp only [Option.some.injEq] at h
      rw [beq_iff_eq] at e
      subst h; subst e
      exact List.mem_cons_self
    | false =>
      rw [e] at h
      exact List.mem_cons_of_mem _ (mem_of_lookup h)
theorem boot_tab1 : ∀ p ∈ blTab1, bootBuiltins p.1 = some (blId p.2) := by
  intro p hp
  unfold blTab1 at hp
  simp only [List.mem_cons, List.not_mem_nil, or_false] at hp
  rcases hp with rfl | rfl | rfl | rfl | rfl | rfl | rfl | rfl | rfl | rfl | rfl | rfl <;> decide +kernel
theorem boot_tab2 : ∀ p ∈ blTab2, bootBuiltins p.1 = some (blId p.2) := by
  intro p hp
  unfold blTab2 at hp
  simp only [List.mem_cons, List.not_mem_nil, or_false] at hp
  rcases hp with rfl | rfl <;> decide +kernel
theorem boot_bl {x : Str} {n : Nat} {b : Bl} (h : blOf x n = some b) : bootBuiltins x = some (blId b) := by
  unfold blOf at h
  split at h
  · exact boot_tab1 _ (mem_of_lookup h)
  · split at h
    · exact boot_tab2 _ (mem_of_lookup h)
    · cases h
theorem blId_ty (b : Bl) : (∃ id, blId b = .builtin id) ∨ ∃ T, blId b = .type T := by cases b <;> first | exact .inl ⟨_, rfl⟩ | exact .inr ⟨_, rfl⟩
theorem bl_red {f : Bl} {mu : Bool} {σ : L2.St} {H : Hp} {Q : VK} (h : (tE X.K C) (.blt f mu ms) σ H Q) : tCB (rBl X.K (bltM f mu)) (tEs X.K C ms) σ H Q := by
  obtain ⟨ι, F, env, st, sm, en, q⟩ := h
  refine step1s sm en q.bindEs fun xs ι1 F1 H1 vs st1 ex s1 en1 r1 q1 => ?_
  exact ⟨ι1, F1, vs, st1, s1, r1, q1⟩
theorem xe_blt {f : Bl} {mu : Bool} (hc : X.calm = true) (hg : Gl X x) (hm : X.mg x = none) (hv : bootBuiltins x = some (blId f)) (ha : PA X (e :: es) (tEs X.K C ms)) (hn : x ≠ "__name__") (hdb : (x == ("__debug__" : Str)) = false)
    (he : starEach (e :: es) X.env = (false, eval e X.env) :: starEach es X.env) (hpl : (backTo pos (starEach es X.env)).any (·.1) = false) : PE X (.Call (.Name x p) (e :: es) [] pos) ((tE X.K C) (.blt f mu ms)) := by
  rcases blId_ty f with ⟨id, e1⟩ | ⟨T, e1⟩
  · have h := call_bl (X := X) hc f mu
    rw [e1] at h hv
    exact (pe_callB h hg hm hv ha hn hdb he hpl).weak fun σ H Q q => bl_red q
  · have h := call_bl (X := X) hc f mu
    rw [e1] at h hv
    exact (pe_callTy h hg hm hv ha hn hdb he hpl).weak fun σ H Q q => bl_red q
theorem xe_bltG {f : Bl} {mu : Bool} {id : String} (hc : X.calm = true) (hg : Gl X x) (hm : X.mg x = some (.builtin id)) (hid : blId f = .builtin id) (ha : PA X (e :: es) (tEs X.K C ms)) (hdb : (x == ("__debug__" : Str)) = false)
    (he : starEach (e :: es) X.env = (false, eval e X.env) :: starEach es X.env) (hpl : (backTo pos (starEach es X.env)).any (·.1) = false) : PE X (.Call (.Name x p) (e :: es) [] pos) ((tE X.K C) (.blt f mu ms)) := by
  have h := call_bl (X := X) hc f mu
  rw [hid] at h
  exact (pe_callBfun h hg hm ha hdb he hpl).weak fun σ H Q q => bl_red q

/-! ### isinstance -/
def tyName : MV → Option String
  | .non => some "NoneType" | .bl _ => some "bool" | .int _ => some "int" | .str _ => some "str" | .tup _ => some "tuple" | .lst _ => some "list" | .ref _ => some "list" | .scr _ => none
theorem tyX_ok {ι : List Addr} {F H : Hp} {st : Store} {v : MV} {x : V} (sm : Sim X.K ι F H st) (r : Rep X.K ι F v x) (hv : ∀ xs, v ≠ .scr xs) : ∃ n, tyName v = some n ∧ TyX X.K H x (.type n) := by
  cases r with
  | non => exact ⟨_, rfl, .base .non⟩
  | bl b => exact ⟨_, rfl, .base (.bl b)⟩
  | int b => exact ⟨_, rfl, .base (.int b)⟩
  | str b => exact ⟨_, rfl, .base (.str b)⟩
  | lst hp hr => exact ⟨_, rfl, .base (.lst (sm.same _ _ hp))⟩
  | @ref a p hp =>
    have ha : a < st.length := by rw [← sm.len]; exact (List.getElem?_eq_some_iff.mp hp).1
    obtain ⟨_, vs, h2, h3⟩ := sm.obj a p _ hp (List.getElem?_eq_getElem ha)
    exact ⟨_, rfl, .base (.lst h2)⟩
  | scr _ _ => exact absurd rfl (hv _)
  | tup hp hr =>
    rcases SqTsame sm.same hp with (h | ⟨o, h⟩) | ⟨o, its, n, hk, hcl, _⟩
    · exact ⟨_, rfl, .base (.tup h)⟩
    · exact ⟨_, rfl, .fTuple h⟩
    · exact ⟨_, rfl, .kTuple hk hcl⟩
theorem kit_ok {v : MV} {n : String} (h : tyName v = some n) (t : Ty) (hv : ∀ a, v = .ref a → True) : PySem.W.kitOne X.K (.type n) (.type (tyStr t)) = some (isTy v t) := by
  cases v <;> simp only [tyName, Option.some.injEq] at h <;> first | (subst h; cases t <;> first | exact kit_ty (r := true) (by decide +kernel) | exact kit_ty (r := false) (by decide +kernel)) | cases h
theorem kits_ok {v : MV} {n : String} (h : tyName v = some n) : ∀ ts : List Ty, PySem.W.kitAny X.K (.type n) (ts.map fun t => .type (tyStr t)) = some (ts.any (isTy v))
  | [] => rfl
  | t :: ts => by
    rw [List.map_cons, List.any_cons]
    refine kitAny_cons (kit_ok h t fun _ _ => trivial) (fun e => ?_) (fun e => ?_)
    · rw [e, Bool.false_or]; exact kits_ok h ts
    · rw [e, Bool.true_or]
theorem isi_red {ts : List Ty} {σ : L2.St} {H : Hp} {Q : VK} (h : (tE X.K C) (.isi ts ma) σ H Q) : (tE X.K C) ma σ H fun x H1 => ∃ ι F v st, Sim X.K ι F H1 st ∧ Rep X.K ι F v x ∧ (∀ xs, v ≠ .scr xs) ∧ PostE X.K ι F H1 Q (.ok (.bl (ts.any (isTy v))) st) := by
  obtain ⟨ι, F, env, st, sm, en, q⟩ := h
  refine step1 sm en q.bind fun x ι1 F1 H1 v st1 ex s1 en1 r1 q1 => ?_
  split at q1
  · exact q1.elim
  · rename_i hv
    exact ⟨ι1, F1, v, st1, s1, r1, fun xs e => hv xs e, q1⟩
theorem pe_ty {t : Ty} (hg : Gl X (tyStr t : Str)) (hm : X.mg (tyStr t : Str) = none) : PE X (.Name (tyStr t : Str) p) (tC (.ty (tyStr t))) := by
  cases t <;> exact pe_bltn hg hm (by decide +kernel) rfl (by decide) (by decide)
theorem xe_isi1 {t : Ty} {p2 : Pos} (hg : Gl X ("isinstance" : Str)) (hm : X.mg ("isinstance" : Str) = none) (ha : PE X a ((tE X.K C) ma)) (hg2 : Gl X (tyStr t : Str)) (hm2 : X.mg (tyStr t : Str) = none)
    (he : starEach [a, .Name (tyStr t : Str) p2] X.env = (false, eval a X.env) :: starEach [.Name (tyStr t : Str) p2] X.env) :
    PE X (.Call (.Name "isinstance" p) [a, .Name (tyStr t : Str) p2] [] pos) ((tE X.K C) (.isi [t] ma)) := by
  refine (pe_callB call_isi hg hm boot_isinstance (pa_cons ha (pa_cons (pe_ty hg2 hm2) pa_nil) he) (by decide) (by decide) he (by rfl)).weak fun σ H Q q => ?_
  obtain ⟨ι, F, env, st, sm, en, q⟩ := isi_red q
  refine ⟨ι, F, env, st, sm, en, q.mono fun x H1 ⟨ι1, F1, v, st1, s1, r1, hv, q1⟩ => ?_⟩
  obtain ⟨n, e1, e2⟩ := tyX_ok s1 r1 hv
  refine ⟨x, .ty (tyStr t), _, _, isTy v t, rfl, .ty _, e2, kit_ok e1 t fun _ _ => trivial, ?_⟩
  have q2 := q1.now s1 (.bl _)
  simp only [List.any_cons, List.any_nil, Bool.or_false] at q2
  exact q2
theorem xe_isi2 {t u : Ty} {p2 p3 p4 : Pos} {k : Nat} (hg : Gl X ("isinstance" : Str)) (hm : X.mg ("isinstance" : Str) = none) (ha : PE X a ((tE X.K C) ma)) (hg2 : Gl X (tyStr t : Str)) (hm2 : X.mg (tyStr t : Str) = none) (hg3 : Gl X (tyStr u : Str)) (hm3 : X.mg (tyStr u : Str) = none)
    (he : starEach [a, .Tuple [.Name (tyStr t : Str) p2, .Name (tyStr u : Str) p3] k p4] X.env = (false, eval a X.env) :: starEach [.Tuple [.Name (tyStr t : Str) p2, .Name (tyStr u : Str) p3] k p4] X.env) :
    PE X (.Call (.Name "isinstance" p) [a, .Tuple [.Name (tyStr t : Str) p2, .Name (tyStr u : Str) p3] k p4] [] pos) ((tE X.K C) (.isi [t, u] ma)) := by
  refine (pe_callB call_isiT hg hm boot_isinstance (pa_cons ha (pa_cons (pe_tup (pa_cons (pe_ty hg2 hm2) (pa_cons (pe_ty hg3 hm3) pa_nil))) pa_nil) he) (by decide) (by decide) he (by rfl)).weak fun σ H Q q => ?_
  obtain ⟨ι, F, env, st, sm, en, q⟩ := isi_red q
  refine ⟨ι, F, env, st, sm, en, q.mono fun x H1 ⟨ι1, F1, v, st1, s1, r1, hv, q1⟩ => ?_⟩
  refine ⟨by show 2 ≤ sizeLine; rw [sizeLine_eq]; decide, fun tp htp => ?_⟩
  obtain ⟨s2, ex2⟩ := s1.frozen (o := .tup [.ty (tyStr t), .ty (tyStr u)]) htp
  have r2 := r1.mono (K := X.K) ex2.pre ex2.sF
  obtain ⟨n, e1, e2⟩ := tyX_ok s2 r2 hv
  refine ⟨x, tp, _, _, _, _, rfl, upd_same, .cons (.ty _) (.cons (.ty _) .nil), e2, kits_ok e1 [t, u], ?_⟩
  exact q1 _ _ _ _ ex2 s2 (.bl _)

/-! ### methods of lists -/
theorem tyV_mt {m : Mt} {ι : List Addr} {F H : Hp} {st : Store} {w : MV} {x : V} (sm : Sim X.K ι F H st) (r : Rep X.K ι F w x) (h : isLs w = true) : tyV X.K "list" x H := by
  cases r with
  | lst hp hr => exact .inl ⟨rfl, _, .inl (.inl (sm.same _ _ hp))⟩
  | @ref a p hp =>
    have ha : a < st.length := by rw [← sm.len]; exact (List.getElem?_eq_some_iff.mp hp).1
    obtain ⟨_, vs, h2, h3⟩ := sm.obj a p _ hp (List.getElem?_eq_getElem ha)
    exact .inl ⟨rfl, _, .inl (.inl h2)⟩
  | _ => cases h
theorem xe_meth1 {m : Mt} {nm : Str} {id : String} {ap : Pos} (hid : mtId m = id) (hpa : PlainAttrs "list") (hsl : Slot "list" nm id) (hty : typeOf (.builtin id) = pure (.type "method_descriptor")) (ho : PE X a ((tE X.K C) ma)) (hb : PE X b ((tE X.K C) mb)) (hbase : attributeBase a nm X.env (eval a X.env) = eval a X.env) (hline : (ap.endLine == pos.line) = true) (hs : starEach [b] X.env = (false, eval b X.env) :: starEach [] X.env)
    (hfew : ((backTo pos (starEach [b] X.env)).all (fun x => !x.1) && (backToKw pos (keywordEach [] X.env)).all (fun x => x.1.isSome) && decide (([b] : List Expr).length + ([] : List Keyword).length + (if ([] : List Keyword).isEmpty then 0 else 1) < 30)) = true) :
    PE X (.Call (.Attribute a nm ap) [b] [] pos) ((tE X.K C) (.meth m ma [mb])) := by
  subst hid
  refine (pe_bm hpa hsl hty (mt_mini m) ho (pa_cons hb pa_nil hs) hbase hfew hline hs (by rfl)).weak fun σ H Q ⟨ι, F, env, st, sm, en, q⟩ => ?_
  have q' : PostE X.K ι F H Q ((eE C ma env st).bind fun x st1 => if isLs x then (eE C mb env st1).bind fun y st2 => methM m x [y] st2 else .stuck) := by
    have e : eE C (.meth m ma [mb]) env st = (eE C ma env st).bind fun x st1 => if isLs x then (eE C mb env st1).bind fun y st2 => methM m x [y] st2 else .stuck := by
      simp only [eE, eEs, R.bind_assoc, R.bind_ok]
    rw [← e]
    exact q
  refine step1 sm en q'.bind fun x ι1 F1 H1 v st1 ex s1 en1 r1 q1 => ?_
  by_cases hv : isLs v = true
  · refine ⟨tyV_mt (m := m) s1 r1 hv, ?_⟩
    rw [if_pos hv] at q1
    refine step1 s1 en1 q1.bind fun y ι2 F2 H2 w st2 ex2 s2 en2 r2 q3 => ?_
    exact ⟨ι2, F2, v, [w], st2, s2, r1.mono ex2.pre ex2.sF, .one r2, q3⟩
  · rw [if_neg hv] at q1
    exact q1.elim
theorem xe_pop {ap : Pos} (ho : PE X a ((tE X.K C) ma)) (hbase : attributeBase a ("pop" : Str) X.env (eval a X.env) = eval a X.env) (hline : (ap.endLine == pos.line) = true) :
    PE X (.Call (.Attribute a "pop" ap) [] [] pos) ((tE X.K C) (.meth .pop ma [])) := by
  refine (pe_bm0 PySem.F.plainAttrs_list PySem.F.slot_list_pop PySem.F.type_list_pop (mt_mini .pop) ho hbase hline).weak fun σ H Q ⟨ι, F, env, st, sm, en, q⟩ => ?_
  have q' : PostE X.K ι F H Q ((eE C ma env st).bind fun x st1 => if isLs x then methM .pop x [] st1 else .stuck) := by
    have e : eE C (.meth .pop ma []) env st = (eE C ma env st).bind fun x st1 => if isLs x then methM .pop x [] st1 else .stuck := by
      simp only [eE, eEs, R.bind_assoc, R.bind_ok]
    rw [← e]
    exact q
  refine step1 sm en q'.bind fun x ι1 F1 H1 v st1 ex s1 en1 r1 q1 => ?_
  by_cases hv : isLs v = true
  · rw [if_pos hv] at q1
    exact ⟨tyV_mt (m := .pop) s1 r1 hv, ι1, F1, v, [], st1, s1, r1, .nil, q1⟩
  · rw [if_neg hv] at q1
    exact q1.elim

/-! ### own functions -/
/-- the promise of the function i -/
def spF (Cl : Nat → Addr) (K : PySem.W.Frag) (C : Fns) (i n : Nat) : Sp := fun vs H Q E => ∃ ι F args st, Sim K ι F H st ∧ Reps K ι F args vs ∧ args.length = n ∧ PostE (Wi := ⟨Cl, E⟩) K ι F H Q (C i args st)
def FnAt (X : Cx) (C : Fns) (x : Str) (i : Nat) (ds : List MV) : Prop :=
  ∃ k f fd ps dsV dvs, FnOk X.prog X.w X.K X.mg X.base (L2.CX X.prog X.w) k f fd ps (spF Wi.C X.K C i ps.length) ∧ Room k X.A ∧ X.mg x = some (.ref f) ∧ PySem.W.keepIn X.K (.ref f) = true ∧ Binds X.K fd ps dsV ∧ Vals dvs dsV ∧
    (∀ ι F, Reps X.K ι F ds dvs) ∧ (∀ args st, args.length ≠ ps.length → C i args st = .stuck)
/-- the wish as one with slots -/
def wX (Wi : Wish) : WX := fun cls d _ H => Wi.E cls d H
theorem eEs_append {env : Env} : ∀ {ms : List ME} {ds : List MV} {st : Store}, eEs C (ms ++ ds.map .k) env st = (eEs C ms env st).bind fun xs st1 => .ok (xs ++ ds) st1
  | [], [], st => by simp [eEs]
  | [], d :: ds, st => by
    have ih := @eEs_append env [] ds st
    simp only [List.nil_append, eEs, R.bind_ok] at ih ⊢
    simp only [List.map_cons, eEs, eE, R.bind_ok, ih]
  | m :: ms, ds, st => by
    simp only [List.cons_append, eEs, R.bind_assoc, R.bind_ok]
    congr 1
    funext x s
    rw [eEs_append, R.bind_assoc]
    simp only [R.bind_ok]
theorem call_red {i : Nat} {ds : List MV} {dvs : List V} {n : Nat} {σ : L2.St} {H : Hp} {Q : VK} (hd : ∀ ι F, Reps X.K ι F ds dvs) (hl : ∀ args st, args.length ≠ n → C i args st = .stuck) (h : (tE X.K C) (.call i (ms ++ ds.map .k)) σ H Q) : tCall (spF Wi.C X.K C i n) dvs Wi.E (tEs X.K C ms) σ H Q := by
  obtain ⟨ι, F, env, st, sm, en, q⟩ := h
  simp only [eE, eEs_append, R.bind_assoc, R.bind_ok] at q
  refine step1s sm en q.bindEs fun xs ι1 F1 H1 vs st1 ex s1 en1 r1 q1 => ?_
  refine ⟨ι1, F1, vs ++ ds, st1, s1, r1.append (hd _ _), ?_, q1⟩
  by_cases hn : (vs ++ ds).length = n
  · exact hn
  · rw [hl _ _ hn] at q1
    exact q1.elim
/-- what is never reached -/
theorem pe_false {e : Expr} {t : TE} (h : ∀ σ H Q, ¬ t σ H Q) : PE X e t := ⟨fun _ _ σ H Q _ q => (h σ H Q q).elim⟩
theorem xe_call {i : Nat} {ds : List MV} (tk : Passes (L2.CX X.prog X.w) X Wi.E) (F : FnAt X C x i ds) (hg : Gl X x) (ha : PA X (e :: es) (tEs X.K C ms)) (hdb : (x == ("__debug__" : Str)) = false)
    (he : starEach (e :: es) X.env = (false, eval e X.env) :: starEach es X.env) (hpl : (backTo pos (starEach es X.env)).any (·.1) = false) : PE X (.Call (.Name x p) (e :: es) [] pos) ((tE X.K C) (.call i (ms ++ ds.map .k))) := by
  obtain ⟨k, f, fd, ps, dsV, dvs, F, hr, hm, hk, hb, hd, hds, hl⟩ := F
  exact (pe_call F hr hg hm hk hb hd tk ha hdb he hpl).weak fun σ H Q q => call_red hds hl q
theorem xe_call0 {i : Nat} {ds : List MV} (tk : Passes (L2.CX X.prog X.w) X Wi.E) (F : FnAt X C x i ds) (hg : Gl X x) (hdb : (x == ("__debug__" : Str)) = false) : PE X (.Call (.Name x p) [] [] pos) ((tE X.K C) (.call i (ds.map .k))) := by
  obtain ⟨k, f, fd, ps, dsV, dvs, F, hr, hm, hk, hb, hd, hds, hl⟩ := F
  refine (pe_call0 F hr hg hm hk hb hd tk hdb).weak fun σ H Q q => ?_
  have h := call_red (ms := []) hds hl q
  obtain ⟨ι, F, env, st, sm, en, q⟩ := h
  exact q ι F H [] .refl sm .nil
end
end MP

/-! MiniZ: what is walked, targets, comprehensions. -/
namespace MP
open PySem PySem.Spec PyProof.Rows L2
variable [Wi : Wish]

section
variable {X : Cx} {C : Fns} {a b c e tg : Expr} {es : List Expr} {ma mb mc me : ME} {ms : List ME} {pos p : Pos} {x : Str}
def PostI (K : PySem.W.Frag) (ι : List Addr) (F H : Hp) (R : It → Hp → Prop) (ik : IK) : MP.R (List MV) → Prop
  | .ok vs st => match itemsM ik vs st with
    | some (items, deps) => ∀ ι' F' H' J, Ext ι F H ι' F' H' → Sim K ι' F' H' st → ItOk K J items deps ι' F' → R J H'
    | none => False
  | .exc c v st => PostX K ι F H c v st
  | .stuck => False
def tIt (K : PySem.W.Frag) (C : Fns) (ik : IK) (src : List ME) : TI := fun σ H R => ∃ ι F env st, Sim K ι F H st ∧ EnvR K ι F env σ ∧ PostI K ι F H R ik (srcX ik (eEs C src env st))
theorem postI_ok {K : PySem.W.Frag} {ι : List Addr} {F H : Hp} {R : It → Hp → Prop} {ik : IK} {r : MP.R (List MV)} (h : PostI K ι F H R ik (srcX ik r)) (hk : ik ≠ .seq := by intro z; cases z) :
    ∃ vs st items deps, r = .ok vs st ∧ itemsM ik vs st = some (items, deps) ∧ ∀ ι' F' H' J, Ext ι F H ι' F' H' → Sim K ι' F' H' st → ItOk K J items deps ι' F' → R J H' := by
  cases r with
  | ok vs st =>
    simp only [srcX_ok, PostI] at h
    split at h
    · rename_i items deps e
      exact ⟨vs, st, items, deps, rfl, e, h⟩
    · exact h.elim
  | exc c v st => cases ik <;> first | exact absurd rfl hk | exact h.elim
  | stuck => cases ik <;> first | exact absurd rfl hk | exact h.elim
theorem es_one {m : ME} {env : Env} {st st1 : Store} {vs : List MV} (h : eEs C [m] env st = .ok vs st1) : ∃ v, vs = [v] ∧ eE C m env st = .ok v st1 := by
  simp only [eEs, R.bind_ok] at h
  cases e : eE C m env st with
  | ok v s =>
    rw [e] at h
    simp only [R.bind_ok, R.ok.injEq] at h
    obtain ⟨rfl, rfl⟩ := h
    exact ⟨v, rfl, rfl⟩
  | exc c v s => rw [e] at h; cases h
  | stuck => rw [e] at h; cases h
theorem xi_seq {m : ME} (he : PE X e ((tE X.K C) m)) : PI X tg e (tIt X.K C .seq [m]) := by
  refine ⟨fun pins s σ H R I ⟨ι, F, env, st, sm, en, q⟩ => ?_⟩
  cases e1 : eE C m env st with
  | stuck =>
    simp only [srcX, eEs, e1] at q
    exact q.elim
  | exc c v st1 =>
    refine (pi_list he).run pins s σ H R I ⟨ι, F, env, st, sm, en, ?_⟩
    simp only [srcX, eEs, e1] at q
    rw [e1]
    exact q
  | ok v st1 =>
  have q1 : PostI X.K ι F H R .seq (.ok [v] st1) := by
    have e : srcX .seq (eEs C [m] env st) = .ok [v] st1 := by simp only [srcX, eEs, e1, MP.R.bind_ok]
    rw [← e]
    exact q
  clear q
  simp only [PostI] at q1
  split at q1
  rotate_left
  · exact q1.elim
  rename_i items deps e2
  have q := q1
  simp only [itemsM] at e2
  have lists : isTupV v = false → wpAny (model X.prog X.w) X.A (eval e X.env) (fun v s1 => wpAny (model X.prog X.w) X.A (pyIter v) (PIE X pins σ tg R) X.xe s1) X.xe s := fun hv => by
    refine (pi_list he).run pins s σ H R I ⟨ι, F, env, st, sm, en, ?_⟩
    rw [e1]
    intro ι1 F1 H1 x ex s1 r1
    have hS := srcOf_ok r1 e2
    rw [hv] at hS
    obtain ⟨p, ep, _⟩ := id hS
    have hI := it_list hS ep
    subst ep
    refine ⟨p, rfl, ?_, q ι1 F1 H1 _ ex s1 hI⟩
    cases r1 with
    | lst hp hr => exact ⟨_, .inl (.inl (s1.same _ _ hp))⟩
    | @ref a p hp =>
      have ha : a < st1.length := by rw [← s1.len]; exact (List.getElem?_eq_some_iff.mp hp).1
      obtain ⟨_, vs, h2, h3⟩ := s1.obj a p _ hp (List.getElem?_eq_getElem ha)
      exact ⟨_, .inl (.inl h2)⟩
    | tup _ _ => cases hv
    | scr _ _ => simp [srcOf] at e2
  cases v with
  | tup xs =>
    refine (pi_tup he).run pins s σ H R I ⟨ι, F, env, st, sm, en, ?_⟩
    rw [e1]
    intro ι1 F1 H1 x ex s1 r1
    have hS := srcOf_ok r1 e2
    cases r1 with
    | @tup _ p vs hp hr => exact ⟨p, rfl, ⟨_, SqTsame s1.same hp⟩, q ι1 F1 H1 _ ex s1 (it_tup hS rfl)⟩
  | _ => exact lists rfl
/-- the arguments' reading -/
theorem es_red {ms : List ME} {σ : L2.St} {H : Hp} {ι : List Addr} {F : Hp} {env : Env} {st st1 : Store} {vs : List MV} {Q : List V → Hp → Prop} (sm : Sim X.K ι F H st) (en : EnvR X.K ι F env σ) (e : eEs C ms env st = .ok vs st1)
    (q : ∀ ι1 F1 H1 xs, Ext ι F H ι1 F1 H1 → Sim X.K ι1 F1 H1 st1 → Reps X.K ι1 F1 vs xs → Q xs H1) : tEs X.K C ms σ H Q := ⟨ι, F, env, st, sm, en, by rw [e]; exact q⟩
theorem small_ok {i : Int} (h : small62 i = true) : -(2 ^ 62) ≤ i ∧ i < 2 ^ 62 := by
  unfold small62 at h
  simp only [Bool.and_eq_true, decide_eq_true_eq] at h
  exact h
theorem xi_range1 (hg : Gl X ("range" : Str)) (hm : X.mg ("range" : Str) = none) (ha : PA X [a] (tEs X.K C [ma])) (hs : starEach [a] X.env = [(false, eval a X.env)]) : PI X tg (.Call (.Name "range" p) [a] [] pos) (tIt X.K C .range [ma]) := by
  refine (pi_range1 hg hm ha hs).weak fun σ H R ⟨ι, F, env, st, sm, en, q⟩ => ?_
  obtain ⟨vs, st1, items, deps, e1, e2, q⟩ := postI_ok q
  obtain ⟨v, rfl, _⟩ := es_one e1
  refine es_red sm en e1 fun ι1 F1 H1 xs ex s1 r1 => ?_
  cases r1 with
  | cons r rr =>
    cases rr
    cases r with
    | int n =>
      simp only [itemsM] at e2
      split at e2
      · rename_i hn
        simp only [Option.some.injEq, Prod.mk.injEq] at e2
        obtain ⟨rfl, rfl⟩ := e2
        exact ⟨n, rfl, (small_ok hn).1, (small_ok hn).2, q ι1 F1 H1 _ ex s1 it_range⟩
      · cases e2
    | _ => simp [itemsM] at e2
theorem es_two {m n : ME} {env : Env} {st st1 : Store} {vs : List MV} (h : eEs C [m, n] env st = .ok vs st1) : ∃ v w, vs = [v, w] := by
  simp only [eEs, R.bind_ok] at h
  cases e : eE C m env st with
  | ok v s =>
    rw [e] at h
    simp only [R.bind_ok] at h
    cases e2 : eE C n env s with
    | ok w s2 =>
      rw [e2] at h
      simp only [R.bind_ok, R.ok.injEq] at h
      exact ⟨v, w, h.1.symm⟩
    | exc c v s => rw [e2] at h; cases h
    | stuck => rw [e2] at h; cases h
  | exc c v s => rw [e] at h; cases h
  | stuck => rw [e] at h; cases h
theorem xi_range2 (hg : Gl X ("range" : Str)) (hm : X.mg ("range" : Str) = none) (ha : PA X [a, b] (tEs X.K C [ma, mb])) (hs : starEach [a, b] X.env = [(false, eval a X.env), (false, eval b X.env)]) (hs2 : starEach [b] X.env = [(false, eval b X.env)]) : PI X tg (.Call (.Name "range" p) [a, b] [] pos) (tIt X.K C .range [ma, mb]) := by
  refine (pi_range2 hg hm ha hs hs2).weak fun σ H R ⟨ι, F, env, st, sm, en, q⟩ => ?_
  obtain ⟨vs, st1, items, deps, e1, e2, q⟩ := postI_ok q
  obtain ⟨v, w, rfl⟩ := es_two e1
  refine es_red sm en e1 fun ι1 F1 H1 xs ex s1 r1 => ?_
  cases r1 with
  | cons r rr =>
    cases rr with
    | cons r' rr =>
      cases rr
      cases r with
      | int n =>
        cases r' with
        | int k =>
          simp only [itemsM] at e2
          split at e2
          · rename_i hn
            rw [Bool.and_eq_true] at hn
            simp only [Option.some.injEq, Prod.mk.injEq] at e2
            obtain ⟨rfl, rfl⟩ := e2
            exact ⟨n, k, rfl, ⟨(small_ok hn.1).1, (small_ok hn.1).2, (small_ok hn.2).1, (small_ok hn.2).2⟩, q ι1 F1 H1 _ ex s1 it_range⟩
          · cases e2
        | _ => simp [itemsM] at e2
      | _ => simp [itemsM] at e2
theorem xi_rev (hg : Gl X ("reversed" : Str)) (hm : X.mg ("reversed" : Str) = none) (ha : PE X a ((tE X.K C) ma)) (hs : starEach [a] X.env = (false, eval a X.env) :: starEach [] X.env) : PI X tg (.Call (.Name "reversed" p) [a] [] pos) (tIt X.K C .rev [ma]) := by
  refine (RT.pi_revA hg hm ha hs).weak fun σ H R ⟨ι, F, env, st, sm, en, q⟩ => ?_
  obtain ⟨vs, st1, items, deps, e1, e2, q⟩ := postI_ok q
  obtain ⟨v, rfl, e0⟩ := es_one e1
  clear e1
  have e1 := e0
  clear e0
  refine ⟨ι, F, env, st, sm, en, ?_⟩
  rw [e1]
  intro ι1 F1 H1 x ex s1 r1
  simp only [itemsM] at e2
  split at e2
  · rename_i xs d e3
    simp only [Option.some.injEq, Prod.mk.injEq] at e2
    obtain ⟨rfl, rfl⟩ := e2
    have hS := srcOf_ok r1 e3
    obtain ⟨p, ep, hp⟩ := id hS
    cases r1 with
    | tup h1 h2 =>
      simp only [srcOf, Option.some.injEq, Prod.mk.injEq] at e3
      obtain ⟨rfl, rfl⟩ := e3
      exact ⟨_, _, rfl, .inr ⟨SqTsame s1.same h1, q ι1 F1 H1 _ ex s1 (it_revT hS rfl h2.len.symm)⟩⟩
    | lst h1 h2 =>
      simp only [srcOf, Option.some.injEq, Prod.mk.injEq] at e3
      obtain ⟨rfl, rfl⟩ := e3
      exact ⟨_, _, rfl, .inl ⟨.inl (.inl (s1.same _ _ h1)), q ι1 F1 H1 _ ex s1 (it_rev hS rfl h2.len.symm)⟩⟩
    | @ref a p' h1 =>
      have ha : a < st1.length := by rw [← s1.len]; exact (List.getElem?_eq_some_iff.mp h1).1
      obtain ⟨_, vs, h2, h3⟩ := s1.obj a p' _ h1 (List.getElem?_eq_getElem ha)
      have e4 : xs = st1[a] := by
        simp only [srcOf, List.getElem?_eq_getElem ha, Option.some.injEq, Prod.mk.injEq] at e3
        exact e3.1.symm
      subst e4
      exact ⟨_, _, rfl, .inl ⟨.inl (.inl h2), q ι1 F1 H1 _ ex s1 (it_rev hS rfl h3.len.symm)⟩⟩
    | _ => simp [srcOf] at e3
  · cases e2
theorem xi_revRange1 {p2 pos2 : Pos} (hg : Gl X ("reversed" : Str)) (hm : X.mg ("reversed" : Str) = none) (hg2 : Gl X ("range" : Str)) (hm2 : X.mg ("range" : Str) = none) (ha : PE X a ((tE X.K C) ma))
    (na : starEach [a] X.env = (false, eval a X.env) :: starEach [] X.env) (hs : starEach [.Call (.Name "range" p2) [a] [] pos2] X.env = (false, eval (.Call (.Name "range" p2) [a] [] pos2) X.env) :: starEach [] X.env) : PI X tg (.Call (.Name "reversed" p) [.Call (.Name "range" p2) [a] [] pos2] [] pos) (tIt X.K C .revRange [ma]) := by
  refine (pi_revR hg hm (prg_1 hg2 hm2 ha na) hs).weak fun σ H R ⟨ι, F, env, st, sm, en, q⟩ => ?_
  obtain ⟨vs, st1, items, deps, e1, e2, q⟩ := postI_ok q
  obtain ⟨v, rfl, e0⟩ := es_one e1
  refine ⟨ι, F, env, st, sm, en, ?_⟩
  rw [e0]
  intro ι1 F1 H1 x ex s1 r1
  cases r1 with
  | int n =>
    simp only [itemsM] at e2
    split at e2
    · rename_i hn
      simp only [Option.some.injEq, Prod.mk.injEq] at e2
      obtain ⟨rfl, rfl⟩ := e2
      have h := q ι1 F1 H1 (Itc (0 + ((n - 0).toNat : Int) - 1) (-1) (n - 0).toNat) ex s1 (by rw [Int.sub_zero]; exact it_revRange)
      exact ⟨n, rfl, by decide, by decide, (small_ok hn).1, (small_ok hn).2, h⟩
    · cases e2
  | _ => simp [itemsM] at e2
theorem xi_revRange2 {p2 pos2 : Pos} (hg : Gl X ("reversed" : Str)) (hm : X.mg ("reversed" : Str) = none) (hg2 : Gl X ("range" : Str)) (hm2 : X.mg ("range" : Str) = none) (ha : PE X a ((tE X.K C) ma)) (hb : PE X b ((tE X.K C) mb))
    (na : starEach [a, b] X.env = (false, eval a X.env) :: starEach [b] X.env) (nb : starEach [b] X.env = (false, eval b X.env) :: starEach [] X.env) (hp : (backTo pos2 (starEach [b] X.env)).any (·.1) = false)
    (hs : starEach [.Call (.Name "range" p2) [a, b] [] pos2] X.env = (false, eval (.Call (.Name "range" p2) [a, b] [] pos2) X.env) :: starEach [] X.env) : PI X tg (.Call (.Name "reversed" p) [.Call (.Name "range" p2) [a, b] [] pos2] [] pos) (tIt X.K C .revRange [ma, mb]) := by
  refine (pi_revR hg hm (prg_2 hg2 hm2 ha hb na nb hp) hs).weak fun σ H R0 ⟨ι, F, env, st, sm, en, q⟩ => ?_
  obtain ⟨vs, st2, items, deps, e1, e2, q⟩ := postI_ok q
  simp only [eEs] at e1
  cases ea : eE C ma env st with
  | exc c v s => rw [ea] at e1; cases e1
  | stuck => rw [ea] at e1; cases e1
  | ok v s =>
  rw [ea] at e1
  simp only [R.bind_ok] at e1
  cases eb : eE C mb env s with
  | exc c v s => rw [eb] at e1; cases e1
  | stuck => rw [eb] at e1; cases e1
  | ok w s2 =>
  rw [eb] at e1
  simp only [R.bind_ok, R.ok.injEq] at e1
  obtain ⟨rfl, rfl⟩ := e1
  refine ⟨ι, F, env, st, sm, en, ?_⟩
  rw [ea]
  intro ι1 F1 H1 x ex s1 r1
  refine ⟨ι1, F1, env, s, s1, en.mono ex, ?_⟩
  rw [eb]
  intro ι2 F2 H2 y ex2 s3 r2
  have r1' := r1.mono ex2.pre ex2.sF
  cases r1' with
  | int i =>
    cases r2 with
    | int j =>
      simp only [itemsM] at e2
      split at e2
      · rename_i hn
        rw [Bool.and_eq_true] at hn
        simp only [Option.some.injEq, Prod.mk.injEq] at e2
        obtain ⟨rfl, rfl⟩ := e2
        exact ⟨i, j, rfl, rfl, (small_ok hn.1).1, (small_ok hn.1).2, (small_ok hn.2).1, (small_ok hn.2).2, q ι2 F2 H2 _ (ex.trans ex2) s3 it_revRange⟩
      · cases e2
    | _ => simp [itemsM] at e2
  | _ => simp [itemsM] at e2
/-- a list that is read now -/
theorem srcL_now {ι : List Addr} {F H : Hp} {st : Store} {v : MV} {x : V} {xs : List MV} {d : Deps} (s : Sim X.K ι F H st) (r : Rep X.K ι F v x) (h : srcL st v = some (xs, d)) : ∃ p vs, x = .ref p ∧ SqL X.K H p vs := by
  cases r with
  | lst h1 h2 => exact ⟨_, _, rfl, .inl (.inl (s.same _ _ h1))⟩
  | @ref a p' h1 =>
    have ha : a < st.length := by rw [← s.len]; exact (List.getElem?_eq_some_iff.mp h1).1
    obtain ⟨_, vs, h2, h3⟩ := s.obj a p' _ h1 (List.getElem?_eq_getElem ha)
    exact ⟨_, _, rfl, .inl (.inl h2)⟩
  | _ => simp [srcL] at h
theorem xi_enum {elts : List Expr} {kk : Nat} {tpos : Pos} (hg : Gl X ("enumerate" : Str)) (hm : X.mg ("enumerate" : Str) = none) (ha : PA X [a] (tEs X.K C [ma])) (hs : starEach [a] X.env = [(false, eval a X.env)]) : PI X (.Tuple elts kk tpos) (.Call (.Name "enumerate" p) [a] [] pos) (tIt X.K C (.enum 0) [ma]) := by
  refine (pi_enum hg hm ha hs).weak fun σ H R ⟨ι, F, env, st, sm, en, q⟩ => ?_
  obtain ⟨vs, st1, items, deps, e1, e2, q⟩ := postI_ok q
  obtain ⟨v, rfl, _⟩ := es_one e1
  refine es_red sm en e1 fun ι1 F1 H1 xs ex s1 r1 => ?_
  cases r1 with
  | cons r rr =>
    cases rr
    simp only [itemsM] at e2
    split at e2
    · rename_i ys d e3
      simp only [if_true] at e2
      simp only [Option.some.injEq, Prod.mk.injEq] at e2
      obtain ⟨rfl, rfl⟩ := e2
      obtain ⟨p, us, rfl, hu⟩ := srcL_now s1 r e3
      exact ⟨p, us, rfl, hu, q ι1 F1 H1 _ ex s1 (it_enum (srcL_ok r e3) rfl)⟩
    · cases e2
theorem xi_zip {elts : List Expr} {kk : Nat} {tpos : Pos} (hg : Gl X ("zip" : Str)) (hm : X.mg ("zip" : Str) = none) (ha : PA X [a, b] (tEs X.K C [ma, mb])) (hs : starEach [a, b] X.env = (false, eval a X.env) :: starEach [b] X.env) (hpl : (backTo pos (starEach [b] X.env)).any (·.1) = false) :
    PI X (.Tuple elts kk tpos) (.Call (.Name "zip" p) [a, b] [] pos) (tIt X.K C .zip [ma, mb]) := by
  refine (RZ.pi_zipA hg hm ha hs hpl).weak fun σ H R ⟨ι, F, env, st, sm, en, q⟩ => ?_
  obtain ⟨vs, st1, items, deps, e1, e2, q⟩ := postI_ok q
  obtain ⟨v, w, rfl⟩ := es_two e1
  refine es_red sm en e1 fun ι1 F1 H1 xs ex s1 r1 => ?_
  cases r1 with
  | cons r rr =>
    cases rr with
    | cons r' rr =>
      cases rr
      simp only [itemsM] at e2
      split at e2
      · rename_i ys zs heq
        simp only [List.cons.injEq, and_true] at heq
        obtain ⟨rfl, rfl⟩ := heq
        simp only [Option.some.injEq, Prod.mk.injEq] at e2
        obtain ⟨rfl, rfl⟩ := e2
        cases r with
        | tup h1 h2 =>
          cases r' with
          | tup h3 h4 =>
            refine ⟨_, _, _, _, rfl, .inr ⟨SqTsame s1.same h1, SqTsame s1.same h3, ?_⟩⟩
            exact q ι1 F1 H1 _ ex s1 (it_zipT (srcOf_ok (st := st1) (.tup h1 h2) rfl) (srcOf_ok (st := st1) (.tup h3 h4) rfl) rfl rfl)
      · rename_i y z heq
        simp only [List.cons.injEq, and_true] at heq
        obtain ⟨rfl, rfl⟩ := heq
        split at e2
        · rename_i xs d ys e' e3 e4
          simp only [Option.some.injEq, Prod.mk.injEq] at e2
          obtain ⟨rfl, rfl⟩ := e2
          obtain ⟨p, us, rfl, hu⟩ := srcL_now s1 r e3
          obtain ⟨p2, us2, rfl, hu2⟩ := srcL_now s1 r' e4
          exact ⟨p, p2, us, us2, rfl, .inl ⟨hu, hu2, q ι1 F1 H1 _ ex s1 (it_zip (srcL_ok r e3) (srcL_ok r' e4) rfl rfl)⟩⟩
        · cases e2
      · rename_i heq
        cases heq
      · cases e2

/-! ### targets -/
theorem wipe_get : ∀ (vs : List Nat) (σ : L2.St) (j : Nat), (wipe σ vs)[j]? = if j ∈ vs then (if j < σ.length then some none else none) else σ[j]?
  | [], σ, j => by simp [wipe]
  | v :: vs, σ, j => by
    unfold wipe
    by_cases hj : v = j
    · subst hj
      rw [List.getElem?_set_self']
      have hl : (wipe σ vs).length = σ.length := wipe_length σ vs
      by_cases hlt : v < σ.length
      · rw [List.getElem?_eq_getElem (by rw [hl]; exact hlt)]
        simp [hlt]
      · rw [List.getElem?_eq_none (by rw [hl]; omega)]
        simp [hlt]
    · rw [List.getElem?_set_ne hj, wipe_get vs σ j]
      have : j ∈ v :: vs ↔ j ∈ vs := by simp [Ne.symm hj]
      simp only [this]
theorem wipe_set {vs : List Nat} {σ : L2.St} {i : Nat} {v : Option V} (h : i ∈ vs) : wipe (σ.set i v) vs = wipe σ vs := by
  apply List.ext_getElem?
  intro j
  rw [wipe_get, wipe_get, List.length_set]
  by_cases hj : j ∈ vs
  · rw [if_pos hj, if_pos hj]
  · have hne : i ≠ j := fun e => hj (by rw [← e]; exact h)
    rw [if_neg hj, if_neg hj, List.getElem?_set_ne hne]
theorem wipe_wipe {vs : List Nat} {σ : L2.St} : wipe (wipe σ vs) vs = wipe σ vs := by
  apply List.ext_getElem?
  intro j
  rw [wipe_get, wipe_get, wipe_length]
  by_cases hj : j ∈ vs
  · rw [if_pos hj, if_pos hj]
  · rw [if_neg hj, if_neg hj]
theorem wipeE_get : ∀ (vs : List Nat) (σ : Env) (j : Nat), (wipeE vs σ)[j]? = if j ∈ vs then (if j < σ.length then some none else none) else σ[j]?
  | [], σ, j => by simp [wipeE]
  | v :: vs, σ, j => by
    have hl : ∀ (vs : List Nat) (σ : Env), (wipeE vs σ).length = σ.length := by
      intro vs
      induction vs with
      | nil => intro σ; rfl
      | cons v vs ih => intro σ; unfold wipeE; rw [List.length_set, ih]
    unfold wipeE
    by_cases hj : v = j
    · subst hj
      rw [List.getElem?_set_self']
      by_cases hlt : v < σ.length
      · rw [List.getElem?_eq_getElem (by rw [hl]; exact hlt)]
        simp [hlt]
      · rw [List.getElem?_eq_none (by rw [hl]; omega)]
        simp [hlt]
    · rw [List.getElem?_set_ne hj, wipeE_get vs σ j]
      have : j ∈ v :: vs ↔ j ∈ vs := by simp [Ne.symm hj]
      simp only [this]
theorem wipeE_length (vs : List Nat) (σ : Env) : (wipeE vs σ).length = σ.length := by
  induction vs with
  | nil => rfl
  | cons v vs ih => unfold wipeE; rw [List.length_set, ih]
theorem EnvR.wipe {K : PySem.W.Frag} {ι : List Addr} {F : Hp} {env : Env} {σ : L2.St} (h : EnvR K ι F env σ) (vs : List Nat) : EnvR K ι F (wipeE vs env) (L2.wipe σ vs) := by
  refine ⟨by rw [wipeE_length, wipe_length]; exact h.1, fun i v e => ?_⟩
  rw [wipeE_get] at e
  by_cases hi : i ∈ vs
  · rw [if_pos hi] at e
    split at e <;> cases e
  · rw [if_neg hi] at e
    obtain ⟨x, e1, e2⟩ := h.2 i v e
    exact ⟨x, by rw [wipe_get, if_neg hi]; exact e1, e2⟩
theorem EnvR.set {K : PySem.W.Frag} {ι : List Addr} {F : Hp} {env : Env} {σ : L2.St} {i : Nat} {m : MV} {v : V} (h : EnvR K ι F env σ) (hi : i < env.length) (r : Rep K ι F m v) : EnvR K ι F (env.set i (some m)) (σ.set i (some v)) := by
  refine ⟨by rw [List.length_set, List.length_set]; exact h.1, fun j w e => ?_⟩
  by_cases hj : i = j
  · subst hj
    rw [List.getElem?_set_self hi] at e
    cases e
    exact ⟨v, List.getElem?_set_self (by rw [← h.1]; exact hi), r⟩
  · rw [List.getElem?_set_ne hj] at e
    obtain ⟨x, e1, e2⟩ := h.2 j w e
    exact ⟨x, by rw [List.getElem?_set_ne hj]; exact e1, e2⟩
/-- a target's reading -/
def tGm (K : PySem.W.Frag) (t : Tg) : TG := fun v σ H Q => ∃ ι F env m env1, Same F H ∧ EnvR K ι F env σ ∧ Rep K ι F m v ∧ asgT t m env = some env1 ∧ ∀ σ1, EnvR K ι F env1 σ1 → (∀ vs, (∀ i ∈ tgSlots t, i ∈ vs) → wipe σ1 vs = wipe σ vs) → Q σ1 H
def tGms (K : PySem.W.Frag) (ts : List Tg) : TGs := fun v σ H Q => ∃ ι F env m env1, Same F H ∧ EnvR K ι F env σ ∧ Reps K ι F m v ∧ asgTs ts m env = some env1 ∧ ∀ σ1, EnvR K ι F env1 σ1 → (∀ vs, (∀ i ∈ tgsSlots ts, i ∈ vs) → wipe σ1 vs = wipe σ vs) → Q σ1 H
theorem _root_.L2.PG.weak {X : Cx} {e : Expr} {t t' : TG} (h : PG X e t) (w : ∀ v σ H Q, t' v σ H Q → t v σ H Q) : PG X e t' := ⟨fun pins s σ H v u Q I r q => h.run pins s σ H v u Q I r (w v σ H Q q)⟩
theorem _root_.L2.PGs.weak {X : Cx} {e : List Expr} {t t' : TGs} (h : PGs X e t) (w : ∀ v σ H Q, t' v σ H Q → t v σ H Q) : PGs X e t' := ⟨fun pins s σ H v u Q I r q => h.run pins s σ H v u Q I r (w v σ H Q q)⟩
theorem xg_name {i : Nat} (hN : X.N.Nodup) (hi : X.N[i]? = some x) (hx : Loc X.env.scope x) (hf : X.fn x = true ∨ X.env.scope.names.lookup x = some .local) : PG X (.Name x pos) (tGm X.K (.nm i)) := by
  refine (pg_name hN hi hx hf).weak fun v σ H Q ⟨ι, F, env, m, env1, sF, en, r, e, q⟩ => ?_
  simp only [asgT] at e
  split at e
  · rename_i hi
    simp only [Option.some.injEq] at e
    subst e
    exact q _ (en.set hi r) fun vs h => wipe_set (h i (by simp [tgSlots]))
  · cases e
theorem xgs_nil : PGs X [] (tGms X.K []) := pgs_nil.weak fun v σ H Q ⟨ι, F, env, m, env1, sF, en, r, e, q⟩ => by
  cases r with
  | nil =>
    simp only [asgTs, Option.some.injEq] at e
    subst e
    exact ⟨rfl, q σ en fun _ _ => rfl⟩
  | cons _ _ => simp [asgTs] at e
theorem xgs_cons {t : Tg} {ts : List Tg} (h1 : PG X e (tGm X.K t)) (h2 : PGs X es (tGms X.K ts)) (hs : (assignEach (e :: es) X.env).map (·.2) = assign e X.env :: (assignEach es X.env).map (·.2)) : PGs X (e :: es) (tGms X.K (t :: ts)) := by
  refine (pgs_cons h1 h2 hs).weak fun v σ H Q ⟨ι, F, env, m, env1, sF, en, r, e, q⟩ => ?_
  cases r with
  | nil => simp [asgTs] at e
  | cons r rr =>
    simp only [asgTs] at e
    split at e
    · rename_i env2 e2
      refine ⟨_, _, rfl, ι, F, env, _, env2, sF, en, r, e2, fun σ1 en1 w1 => ⟨ι, F, env2, _, env1, sF, en1, rr, e, fun σ2 en2 w2 => q σ2 en2 fun vs hv => ?_⟩⟩
      rw [w2 vs fun i hi => hv i (by simp [tgsSlots, hi]), w1 vs fun i hi => hv i (by simp [tgsSlots, hi])]
    · cases e
theorem asgTs_len : ∀ {ts : List Tg} {xs : List MV} {env env1 : Env}, asgTs ts xs env = some env1 → xs.length = ts.length
  | [], [], _, _, _ => rfl
  | [], _ :: _, _, _, h => by simp [asgTs] at h
  | _ :: _, [], _, _, h => by simp [asgTs] at h
  | t :: ts, x :: xs, _, _, h => by
    simp only [asgTs] at h
    split at h
    · rw [List.length_cons, asgTs_len h, List.length_cons]
    · cases h
theorem _root_.L2.PG.or {X : Cx} {e : Expr} {t u : TG} (h : PG X e t) (k : PG X e u) : PG X e (fun v σ H Q => t v σ H Q ∨ u v σ H Q) := ⟨fun pins s σ H v w Q I r q => q.elim (h.run pins s σ H v w Q I r) (k.run pins s σ H v w Q I r)⟩
theorem xg_tup {k : Nat} {ts : List Tg} (hc : X.calm = true) (h : PGs X es (tGms X.K ts)) (hn : (assignEach es X.env).length = ts.length) (hst : (assignEach es X.env).findIdx? (·.1) = none) : PG X (.Tuple es k pos) (tGm X.K (.tp ts)) := by
  refine ((pg_tup hc h hn hst).or (pg_lst hc h hn hst)).weak fun v σ H Q ⟨ι, F, env, m, env1, sF, en, r, e, q⟩ => ?_
  cases r with
  | tup hp hr =>
    simp only [asgT] at e
    exact .inl ⟨_, _, rfl, SqTsame sF hp, by rw [← hr.len]; exact asgTs_len e, ι, F, env, _, env1, sF, en, hr, e, fun σ1 e1 w1 => q σ1 e1 fun vs hv => w1 vs fun i hi => hv i (by simpa [tgSlots] using hi)⟩
  | lst hp hr =>
    simp only [asgT] at e
    exact .inr ⟨_, _, rfl, .inl (.inl (sF _ _ hp)), by rw [← hr.len]; exact asgTs_len e, ι, F, env, _, env1, sF, en, hr, e, fun σ1 e1 w1 => q σ1 e1 fun vs hv => w1 vs fun i hi => hv i (by simpa [tgSlots] using hi)⟩
  | _ => simp [asgT] at e
end
end MP

/-! MiniZ3: zip of three sequences. -/
namespace MP
open PySem PySem.Spec PyProof.Rows L2
section
variable {P : Program} {w : World} {A : Around} {K : PySem.W.Frag}
def SqX (K : PySem.W.Frag) (H : Hp) (t : Bool) (p : Addr) (vs : List V) : Prop := if t then SqT K H p vs else SqL K H p vs
def ItAt (t : Bool) (h : Heap) (it l : Addr) (i : Nat) : Prop := if t then h.IsTupleIter it l i else h.IsListIter it l i
def SeqAtX (t : Bool) (h : Heap) (l : Addr) (xs : Array Value) : Prop := if t then h.IsTuple l xs else h.IsList l xs
theorem ItAt.obj {t : Bool} {h : Heap} {it l : Addr} {i : Nat} (x : ItAt t h it l i) : ∃ o, h.get? it = some o ∧ ∀ v, o.data ≠ .cell v := by
  cases t with
  | true => obtain ⟨o, e, _, d⟩ := (show h.IsTupleIter it l i from x); exact ⟨o, e, fun v q => by rw [d] at q; cases q⟩
  | false => obtain ⟨o, e, _, d⟩ := (show h.IsListIter it l i from x); exact ⟨o, e, fun v q => by rw [d] at q; cases q⟩
theorem ItAt.keep {t : Bool} {h h' : Heap} {it l : Addr} {i : Nat} (x : ItAt t h it l i) (k : ∀ o, h.get? it = some o → h'.get? it = some o) : ItAt t h' it l i := by
  cases t with
  | true => exact (show h.IsTupleIter it l i from x).at k
  | false => exact (show h.IsListIter it l i from x).at k
theorem drawsX (t : Bool) (hh : A.handled = none) (it l : Addr) (hne : l ≠ it) (items : Array Value) :
    Draws P w A it [it, l] items.size (fun i v => items[i]? = some v) (fun i h => ItAt t h it l i ∧ SeqAtX t h l items) := by
  cases t with
  | true => exact Draws.tuple hh it l hne items
  | false => exact Draws.list hh it l hne items
theorem SqX.at {X : Cx} {pins : List (Addr × Obj)} {σ : L2.St} {H : Hp} {s : Shared} {t : Bool} {a : Addr} {xs : List V} (I : L2.Inv X pins σ H s) (h : SqX X.K H t a xs) :
    ∃ its : List Value, Vals xs its ∧ SeqAtX t s.heap a its.toArray ∧ a < s.heap.objs.size := by
  cases t with
  | true =>
    obtain ⟨its, rv, p, _⟩ := I.tuple (show SqT X.K H a xs from h)
    obtain ⟨o, ho, _⟩ := id p
    exact ⟨its, rv, p, Heap.lt_size ho⟩
  | false =>
    obtain ⟨its, rv, p, _⟩ := I.list (show SqL X.K H a xs from h)
    exact ⟨its, rv, p.isList, p.lt⟩
theorem SqX.inj {X : Cx} {pins : List (Addr × Obj)} {σ : L2.St} {H : Hp} {s : Shared} {t : Bool} {a : Addr} {xs ys : List V} (I : L2.Inv X pins σ H s) (h : SqX X.K H t a xs) (h' : SqX X.K H t a ys) : xs = ys := by
  cases t with
  | true => exact I.tuple_inj h h'
  | false => exact I.list_inj h h'
/-- three sequences as they stand at each turn, the items in new triples -/
def Itz3 (K : PySem.W.Frag) (t1 t2 t3 : Bool) (a b c : Addr) : It :=
  ⟨fun i H => ∃ (xs ys zs : List V) (x y z : V), SqX K H t1 a xs ∧ SqX K H t2 b ys ∧ SqX K H t3 c zs ∧ xs[i]? = some x ∧ ys[i]? = some y ∧ zs[i]? = some z,
    fun i H v H' => ∃ T x y z, v = .ref T ∧ H T = none ∧ H' = upd H T (.tup [x, y, z]) ∧ (∀ xs, SqX K H t1 a xs → xs[i]? = some x) ∧ (∀ ys, SqX K H t2 b ys → ys[i]? = some y) ∧ ∀ zs, SqX K H t3 c zs → zs[i]? = some z,
    fun i H => ∃ xs ys zs : List V, SqX K H t1 a xs ∧ SqX K H t2 b ys ∧ SqX K H t3 c zs ∧ i ≤ xs.length ∧ i ≤ ys.length ∧ i ≤ zs.length ∧ (i = xs.length ∨ i = ys.length ∨ i = zs.length)⟩
theorem turn_zip3 {elts : List Expr} {kk : Nat} {tpos : Pos} {a b c z TI TO i1 i2 i3 : Addr} (t1 t2 t3 : Bool) (D : ZipSep3 z TI TO i1 i2 i3 [i1, a] [i2, b] [i3, c]) (n1 : a ≠ i1) (n2 : b ≠ i2) (n3 : c ≠ i3) :
    Turn P w K (.Tuple elts kk tpos) (Itz3 K t1 t2 t3 a b c) [z, TI, TO, i1, i2, i3] z (fun i h => IsZip h z TI TO .none ∧ IsTupOf3 h TI (.ref i1) (.ref i2) (.ref i3) ∧ (∃ x y u, IsTupOf3 h TO x y u) ∧ ItAt t1 h i1 a i ∧ ItAt t2 h i2 b i ∧ ItAt t3 h i3 c i) where
  mem := by simp
  obj := fun i h st c' hc => by
    obtain ⟨hz, hTI, ⟨x, y, u, hTO⟩, h1, h2, h3⟩ := st
    have e' : c' = z ∨ c' = TI ∨ c' = TO ∨ c' = i1 ∨ c' = i2 ∨ c' = i3 := by simpa using hc
    rcases e' with q | q | q | q | q | q
    · rw [q]; exact ⟨_, hz, fun v q => nomatch q⟩
    · rw [q]; exact ⟨_, hTI, fun v q => nomatch q⟩
    · rw [q]; exact ⟨_, hTO, fun v q => nomatch q⟩
    · rw [q]; exact h1.obj
    · rw [q]; exact h2.obj
    · rw [q]; exact h3.obj
  keep := fun i h h' st k => by
    obtain ⟨hz, hTI, ⟨x, y, u, hTO⟩, h1, h2, h3⟩ := st
    exact ⟨k z (by simp) _ hz, k TI (by simp) _ hTI, ⟨x, y, u, k TO (by simp) _ hTO⟩, h1.keep fun o q => k i1 (by simp) o q, h2.keep fun o q => k i2 (by simp) o q, h3.keep fun o q => k i3 (by simp) o q⟩
  item := by
    intro X hP hw hK hc i pins s σ H E I hf st hg
    subst hP hw hK
    obtain ⟨hz, hTI, ⟨x0, y0, u0, hTO⟩, h1, h2, h3⟩ := st
    obtain ⟨xs, ys, zs, x, y, wv, hqx, hqy, hqz, hx, hy, hz'⟩ := hg
    obtain ⟨its, rv, p, _⟩ := hqx.at I
    obtain ⟨its2, rv2, p2, _⟩ := hqy.at I
    obtain ⟨its3, rv3, p3, _⟩ := hqz.at I
    obtain ⟨u, hu, ru⟩ := rv.get hx
    obtain ⟨u2, hu2, ru2⟩ := rv2.get hy
    obtain ⟨u3, hu3, ru3⟩ := rv3.get hz'
    have hzl : z < s.heap.objs.size := Heap.lt_size hz
    have hh : X.A.in1.handled = none := I.ok.hd hc
    refine wpAny_pyNext_zipD3_item D (drawsX t1 hh i1 a n1 its.toArray) (drawsX t2 hh i2 b n2 its2.toArray) (drawsX t3 hh i3 c n3 its3.toArray) hz hTI hTO ⟨h1, p⟩ ⟨h2, p2⟩ ⟨h3, p3⟩
      (by simpa using (List.getElem?_eq_some_iff.mp hu).1) (by simpa using (List.getElem?_eq_some_iff.mp hu2).1) (by simpa using (List.getElem?_eq_some_iff.mp hu3).1) fun v1 v2 v3 h' tk e1 e2 e3 z' TO' h1' h2' h3' hT hsz hk => ?_
    obtain rfl : u = v1 := by
      have : its[i]? = some v1 := by simpa using e1
      rw [hu] at this; exact Option.some.inj this
    obtain rfl : u2 = v2 := by
      have : its2[i]? = some v2 := by simpa using e2
      rw [hu2] at this; exact Option.some.inj this
    obtain rfl : u3 = v3 := by
      have : its3[i]? = some v3 := by simpa using e3
      rw [hu3] at this; exact Option.some.inj this
    refine ⟨_, rfl, wpAny_letOwnedTupleGo_zip (s := { s with heap := h', toks := tk }) z' fun h'' z'' sb => ?_⟩
    have hT2 : h''.get? s.heap.objs.size = some { cls := .type "tuple", data := .seq #[u, u2, u3] } := (sb.2 _ (Nat.ne_of_gt hzl)).trans hT
    have new : ObjOk X.prog X.w (upd H s.heap.objs.size (.tup [x, y, wv])) h'' s.heap.objs.size (.tup [x, y, wv]) :=
      ⟨by show 3 ≤ sizeLine; decide, [u, u2, u3], .cons ru (.cons ru2 (.cons ru3 .nil)), ⟨_, hT2, rfl, _, rfl⟩⟩
    have I1 := I.turnedNew (t' := tk) (ch := [z, TI, TO, i1, i2, i3]) (fun c o hb q => (sb.2 c (fun q' => hb (by simp [q']))).trans (hk c o (fun q' => hb (by simp [q'])) (fun q' => hb (by simp [q'])) (fun q' => hb (by simp [q'])) (fun q' => hb (by simp [q'])) (fun q' => hb (by simp [q'])) q)) hf (Nat.le_refl _) new
    refine ⟨.ref s.heap.objs.size, _, I1, rfl, ⟨_, x, y, wv, rfl, I.hok.fresh (Nat.le_refl _), rfl, fun l hl => by rw [SqX.inj I hl hqx]; exact hx, fun l hl => by rw [SqX.inj I hl hqy]; exact hy, fun l hl => by rw [SqX.inj I hl hqz]; exact hz'⟩, ⟨z'', ?_, ⟨u, u2, u3, ?_⟩, ?_, ?_, ?_⟩, fun c' hcm => ?_⟩
    · exact (sb.2 _ D.TIz).trans (hk _ _ D.TIz D.TITO D.TIi1 D.TIi2 D.TIi3 hTI)
    · exact (sb.2 _ D.TOz).trans TO'
    · exact h1'.1.keep fun o q => (sb.2 _ fun e => D.zi1 e.symm).trans q
    · exact h2'.1.keep fun o q => (sb.2 _ fun e => D.zi2 e.symm).trans q
    · exact h3'.1.keep fun o q => (sb.2 _ fun e => D.zi3 e.symm).trans q
    · have hlt : c' < s.heap.objs.size := by
        have e' : c' = z ∨ c' = TI ∨ c' = TO ∨ c' = i1 ∨ c' = i2 ∨ c' = i3 := by simpa using hcm
        rcases e' with q | q | q | q | q | q
        · rw [q]; exact hzl
        · rw [q]; exact Heap.lt_size hTI
        · rw [q]; exact Heap.lt_size hTO
        · rw [q]; obtain ⟨_, e1, _⟩ := h1.obj; exact Heap.lt_size e1
        · rw [q]; obtain ⟨_, e2, _⟩ := h2.obj; exact Heap.lt_size e2
        · rw [q]; obtain ⟨_, e3, _⟩ := h3.obj; exact Heap.lt_size e3
      rw [upd_ne (Nat.ne_of_lt hlt)]
      exact (hf c' hcm).1
  done := by
    intro X hP hw hK hc i pins s σ H E I hf st hg
    subst hP hw hK
    obtain ⟨hz, hTI, ⟨x0, y0, u0, hTO⟩, h1, h2, h3⟩ := st
    obtain ⟨xs, ys, zs, hqx, hqy, hqz, l1, l2, l3, hend⟩ := hg
    obtain ⟨its, rv, p, _⟩ := hqx.at I
    obtain ⟨its2, rv2, p2, _⟩ := hqy.at I
    obtain ⟨its3, rv3, p3, _⟩ := hqz.at I
    have e1 := rv.length
    have e2 := rv2.length
    have e3 := rv3.length
    have hh : X.A.in1.handled = none := I.ok.hd hc
    refine wpAny_pyNext_zipD3_end D (drawsX t1 hh i1 a n1 its.toArray) (drawsX t2 hh i2 b n2 its2.toArray) (drawsX t3 hh i3 c n3 its3.toArray) hz hTI hTO ⟨h1, p⟩ ⟨h2, p2⟩ ⟨h3, p3⟩
      (by rw [List.size_toArray]; omega) (by rw [List.size_toArray]; omega) (by rw [List.size_toArray]; omega) (by rw [List.size_toArray, List.size_toArray, List.size_toArray]; omega) fun h' tk hk => ⟨rfl, I.turnedL (t' := tk) (ch := [z, TI, TO, i1, i2, i3]) (fun c o hb q =>
      hk c o (fun q' => hb (by simp [q'])) (fun q' => hb (by simp [q'])) (fun q' => hb (by simp [q'])) (fun q' => hb (by simp [q'])) (fun q' => hb (by simp [q'])) q) hf⟩
  self := fun A i s Q E st h => wpAny_pyIter_zip st.1 h
/-- what is walked: three sequences -/
def iZip3 (K : PySem.W.Frag) (ta : TA) : TI := fun σ H R => ta σ H fun vs H1 => ∃ (t1 t2 t3 : Bool) (a b c : Addr) (xs ys zs : List V), vs = [.ref a, .ref b, .ref c] ∧ SqX K H1 t1 a xs ∧ SqX K H1 t2 b ys ∧ SqX K H1 t3 c zs ∧ R (Itz3 K t1 t2 t3 a b c) H1
def itObj (t : Bool) (l : Addr) : Obj := { cls := .type (if t then "tuple_iterator" else "list_iterator"), data := .fields #[.ref l, .int 0 0] }
theorem beginsX (t : Bool) (l : Addr) (items : Array Value) : Begins (.ref l) (itObj t l) fun h => SeqAtX t h l items := by
  cases t with
  | true => exact begins_tuple l items
  | false => exact begins_list l items
theorem itObj_at {t : Bool} {h : Heap} {it l : Addr} (e : h.get? it = some (itObj t l)) : ItAt t h it l 0 := by
  cases t with
  | true => exact ⟨_, e, rfl, rfl⟩
  | false => exact ⟨_, e, rfl, rfl⟩
theorem pi_zip3 {X : Cx} {e e2 e3 : Expr} {ta : TA} {p pos tpos : Pos} {elts : List Expr} {kk : Nat} (hg : Gl X "zip") (hm : X.mg "zip" = none) (ha : PA X [e, e2, e3] ta)
    (hs : starEach [e, e2, e3] X.env = (false, eval e X.env) :: starEach [e2, e3] X.env) (hpl : (backTo pos (starEach [e2, e3] X.env)).any (·.1) = false) :
    PI X (.Tuple elts kk tpos) (.Call (.Name "zip" p) [e, e2, e3] [] pos) (iZip3 X.K ta) := by
  refine ⟨fun pins s σ H R I h => ?_⟩
  refine Call_ (ld_blt I hg hm PyProof.Rows.boot_zip (PyProof.Rows.callWith_type1 (thn (ha.run pos pins s σ H _ I h) fun us s1 ⟨vs, H1, I1, r1, q1⟩ => ?_) hs hpl))
  obtain ⟨t1, t2, t3, a, b, c, xs, ys, zs, ex, hqx, hqy, hqz, q⟩ := q1
  subst ex
  cases r1 with
  | cons r rr =>
    cases rr with
    | cons r' rr =>
      cases rr with
      | cons r'' rr =>
        cases rr
        cases r
        cases r'
        cases r''
        obtain ⟨its, rv, p1, g1⟩ := hqx.at I1
        obtain ⟨its2, rv2, p2, g2⟩ := hqy.at I1
        obtain ⟨its3, rv3, p3, g3⟩ := hqz.at I1
        refine zip_begins3 (beginsX t1 a its.toArray) (beginsX t2 b its2.toArray) (beginsX t3 c its3.toArray) p1 p2 p3 fun h' hz hTI hTO h1 h2 h3 hsz hk => wpAny_pyIter_zip hz ?_
        have I2 : L2.Inv X pins σ H1 { s1 with heap := h' } := I1.kept (t' := s1.toks) hk
        refine ⟨s1.heap.objs.size + 5, [s1.heap.objs.size + 5, s1.heap.objs.size + 3, s1.heap.objs.size + 4, s1.heap.objs.size, s1.heap.objs.size + 1, s1.heap.objs.size + 2], _, _, H1, rfl, I2,
          turn_zip3 t1 t2 t3 (zip_sep3 (fp1 := [a]) (fp2 := [b]) (fp3 := [c]) (fun x hx => by rw [List.mem_singleton.mp hx]; exact g1) (fun x hx => by rw [List.mem_singleton.mp hx]; exact g2) (fun x hx => by rw [List.mem_singleton.mp hx]; exact g3)) (Nat.ne_of_lt g1) (Nat.ne_of_lt (Nat.lt_succ_of_lt g2)) (Nat.ne_of_lt (Nat.lt_succ_of_lt (Nat.lt_succ_of_lt g3))),
          ⟨hz, hTI, ⟨_, _, _, hTO⟩, itObj_at h1, itObj_at h2, itObj_at h3⟩, fun c' hcm => ?_, q⟩
        have hle : s1.heap.objs.size ≤ c' := by
          have e' : c' = s1.heap.objs.size + 5 ∨ c' = s1.heap.objs.size + 3 ∨ c' = s1.heap.objs.size + 4 ∨ c' = s1.heap.objs.size ∨ c' = s1.heap.objs.size + 1 ∨ c' = s1.heap.objs.size + 2 := by simpa using hcm
          rcases e' with z | z | z | z | z | z
          · rw [z]; exact Nat.le_add_right _ _
          · rw [z]; exact Nat.le_add_right _ _
          · rw [z]; exact Nat.le_add_right _ _
          · rw [z]; exact Nat.le_refl _
          · rw [z]; exact Nat.le_add_right _ _
          · rw [z]; exact Nat.le_add_right _ _
        exact I1.fpOk hle (I1.hok.fresh hle)
end

variable [Wi : Wish]
section
variable {K : PySem.W.Frag} {ι : List Addr} {F H : Hp} {st : Store}
theorem zip3_len : ∀ (xs ys zs : List MV), (zip3 xs ys zs).length = min xs.length (min ys.length zs.length)
  | [], _, _ => by simp [zip3]
  | _ :: _, [], _ => by simp [zip3]
  | _ :: _, _ :: _, [] => by simp [zip3]
  | x :: xs, y :: ys, z :: zs => by
    simp only [zip3, List.length_cons, zip3_len xs ys zs]
    omega
theorem zip3_get : ∀ {xs ys zs : List MV} {i : Nat} {m n o : MV}, xs[i]? = some m → ys[i]? = some n → zs[i]? = some o → (zip3 xs ys zs)[i]? = some (.tup [m, n, o])
  | [], _, _, _, _, _, _, h, _, _ => by simp at h
  | _ :: _, [], _, _, _, _, _, _, h, _ => by simp at h
  | _ :: _, _ :: _, [], _, _, _, _, _, _, h => by simp at h
  | x :: xs, y :: ys, z :: zs, 0, m, n, o, h1, h2, h3 => by
    simp at h1 h2 h3
    subst h1; subst h2; subst h3
    rfl
  | x :: xs, y :: ys, z :: zs, i + 1, m, n, o, h1, h2, h3 => by
    simp only [zip3, List.getElem?_cons_succ] at *
    exact zip3_get h1 h2 h3
theorem yTrip_ok {m1 m2 m3 : MV} {x1 x2 x3 : V} {T : Addr} (s : Sim K ι F H st) (r1 : Rep K ι F m1 x1) (r2 : Rep K ι F m2 x2) (r3 : Rep K ι F m3 x3) (hT : H T = none) :
    ∃ F'', Sim K ι F'' (upd H T (.tup [x1, x2, x3])) st ∧ Ext ι F H ι F'' (upd H T (.tup [x1, x2, x3])) ∧ Rep K ι F'' (.tup [m1, m2, m3]) (.ref T) := by
  obtain ⟨s', e'⟩ := s.frozen (o := .tup [x1, x2, x3]) hT
  exact ⟨_, s', e', .tup (.inl (.inl upd_same)) (.cons (r1.mono Pre.refl e'.sF) (.cons (r2.mono Pre.refl e'.sF) (.cons (r3.mono Pre.refl e'.sF) .nil)))⟩
theorem it_zip3 {t1 t2 t3 : Bool} {p q r : Addr} {u v w : V} {xs ys zs : List MV} {d e f : Deps} (h : SrcAt K ι F u xs d t1) (h' : SrcAt K ι F v ys e t2) (h'' : SrcAt K ι F w zs f t3) (eu : u = .ref p) (ev : v = .ref q) (ew : w = .ref r) : ItOk K (Itz3 K t1 t2 t3 p q r) (zip3 xs ys zs) (d ++ (e ++ f)) ι F := by
  obtain ⟨p', e1, h⟩ := h
  rw [eu] at e1
  cases e1
  obtain ⟨q', e1, h'⟩ := h'
  rw [ev] at e1
  cases e1
  obtain ⟨r', e1, h''⟩ := h''
  rw [ew] at e1
  cases e1
  refine ⟨fun ι' F' H st i h1 h2 h3 h4 hi => ?_, fun ι' F' H st h1 h2 h3 h4 => ?_, fun ι' F' H st i x H' h1 h2 h3 h4 hi y => ?_⟩
  all_goals obtain ⟨h5, h6⟩ := depOk_append h4
  all_goals obtain ⟨h6, h7⟩ := depOk_append h6
  all_goals obtain ⟨vs, g1, g2⟩ := h ι' F' H st h1 h2 h3 h5
  all_goals obtain ⟨ws, k1, k2⟩ := h' ι' F' H st h1 h2 h3 h6
  all_goals obtain ⟨us, m1, m2⟩ := h'' ι' F' H st h1 h2 h3 h7
  all_goals have hl := g2.len
  all_goals have hm := k2.len
  all_goals have hn := m2.len
  · rw [zip3_len] at hi
    exact ⟨vs, ws, us, vs[i], ws[i], us[i], g1, k1, m1, by simp [show i < vs.length by omega], by simp [show i < ws.length by omega], by simp [show i < us.length by omega]⟩
  · exact ⟨vs, ws, us, g1, k1, m1, by rw [zip3_len]; omega, by rw [zip3_len]; omega, by rw [zip3_len]; omega, by rw [zip3_len]; omega⟩
  · obtain ⟨T, z1, z2, z3, rfl, hT, rfl, y1, y2, y3⟩ := y
    rw [zip3_len] at hi
    have i1 : i < xs.length := by omega
    have i2 : i < ys.length := by omega
    have i3 : i < zs.length := by omega
    obtain ⟨u1, e1, f1⟩ := g2.get (List.getElem?_eq_getElem i1)
    obtain ⟨u2, e2, f2⟩ := k2.get (List.getElem?_eq_getElem i2)
    obtain ⟨u3, e3, f3⟩ := m2.get (List.getElem?_eq_getElem i3)
    rw [y1 vs g1] at e1
    rw [y2 ws k1] at e2
    rw [y3 us m1] at e3
    cases e1
    cases e2
    cases e3
    obtain ⟨F'', a1, a2, a3⟩ := yTrip_ok h3 f1 f2 f3 hT
    exact ⟨F'', a1, a2, _, zip3_get (List.getElem?_eq_getElem i1) (List.getElem?_eq_getElem i2) (List.getElem?_eq_getElem i3), a3⟩
theorem SrcAt.now {v : V} {xs : List MV} {d : Deps} {t : Bool} (h : SrcAt K ι F v xs d t) (s : Sim K ι F H st) (hd : depOk st d = true) : ∃ p vs, v = .ref p ∧ SqX K H t p vs := by
  obtain ⟨p, e, h⟩ := h
  obtain ⟨vs, g, _⟩ := h ι F H st Pre.refl Same.rfl' s hd
  exact ⟨p, vs, e, g⟩
theorem srcOf_dep {x : MV} {xs : List MV} {d : Deps} (h : srcOf st x = some (xs, d)) : depOk st d = true := by
  unfold srcOf at h
  split at h
  · cases h; rfl
  · cases h; rfl
  · split at h
    · rename_i ys e
      cases h
      simp [depOk, e]
    · cases h
  · cases h
end
section
variable {X : Cx} {C : Fns} {a b c : Expr} {ma mb mc : ME} {p pos : Pos}
theorem es_three {env : Env} {st st1 : Store} {vs : List MV} (h : eEs C [ma, mb, mc] env st = .ok vs st1) : ∃ u v w, vs = [u, v, w] := by
  simp only [eEs] at h
  cases e1 : eE C ma env st with
  | ok u s =>
    rw [e1] at h
    simp only [R.bind_ok] at h
    cases e2 : eE C mb env s with
    | ok v s2 =>
      rw [e2] at h
      simp only [R.bind_ok] at h
      cases e3 : eE C mc env s2 with
      | ok w s3 =>
        rw [e3] at h
        simp only [R.bind_ok, R.ok.injEq] at h
        exact ⟨u, v, w, h.1.symm⟩
      | _ => rw [e3] at h; cases h
    | _ => rw [e2] at h; cases h
  | _ => rw [e1] at h; cases h
theorem xi_zip3 {elts : List Expr} {kk : Nat} {tpos : Pos} (hg : Gl X ("zip" : Str)) (hm : X.mg ("zip" : Str) = none) (ha : PA X [a, b, c] (tEs X.K C [ma, mb, mc])) (hs : starEach [a, b, c] X.env = (false, eval a X.env) :: starEach [b, c] X.env) (hpl : (backTo pos (starEach [b, c] X.env)).any (·.1) = false) :
    PI X (.Tuple elts kk tpos) (.Call (.Name "zip" p) [a, b, c] [] pos) (tIt X.K C .zip [ma, mb, mc]) := by
  refine (pi_zip3 hg hm ha hs hpl).weak fun σ H R ⟨ι, F, env, st, sm, en, q⟩ => ?_
  obtain ⟨vs, st1, items, deps, e1, e2, q⟩ := postI_ok q
  obtain ⟨u, v, w, rfl⟩ := es_three e1
  refine es_red sm en e1 fun ι1 F1 H1 xs ex s1 r1 => ?_
  cases r1 with
  | cons r rr =>
    cases rr with
    | cons r' rr =>
      cases rr with
      | cons r'' rr =>
        cases rr
        have e2 : (match srcOf st1 u, srcOf st1 v, srcOf st1 w with | some (xs, d), some (ys, e), some (zs, f) => some (zip3 xs ys zs, d ++ (e ++ f)) | _, _, _ => none) = some (items, deps) := by
          simp only [itemsM] at e2
          exact e2
        split at e2
        · rename_i xs d ys e' zs f e3 e4 e5
          simp only [Option.some.injEq, Prod.mk.injEq] at e2
          obtain ⟨rfl, rfl⟩ := e2
          have S1 := srcOf_ok r e3
          have S2 := srcOf_ok r' e4
          have S3 := srcOf_ok r'' e5
          obtain ⟨p1, u1, rfl, g1⟩ := S1.now s1 (srcOf_dep e3)
          obtain ⟨p2, u2, rfl, g2⟩ := S2.now s1 (srcOf_dep e4)
          obtain ⟨p3, u3, rfl, g3⟩ := S3.now s1 (srcOf_dep e5)
          exact ⟨_, _, _, p1, p2, p3, u1, u2, u3, rfl, g1, g2, g3, q ι1 F1 H1 _ ex s1 (it_zip3 S1 S2 S3 rfl rfl rfl)⟩
        · cases e2
end
end MP

/-! MiniEd: an exception that leaves an expression: out of a call, out of a comprehension. -/
namespace MP
open PySem PySem.Spec PyProof.Rows L2
/-- an exception that a call or a comprehension let out: in flight, or noted at the running frame L -/
def XEc (X : Cx) (L : Addr) (E : XK) (u : Value) (s' : Shared) : Prop :=
  ∃ (a : Addr) (B : Heap) (sI : Shared) (pins : List (Addr × Obj)) (σ : L2.St) (H : Hp) (cls : Value) (d : Option Addr), u = .ref a ∧ L2.Inv X pins σ H sI ∧ (∀ b o, sI.heap.get? b = some o → b ∉ frs X.stack → B.get? b = some o) ∧
    sI.heap.UpToSlots s'.heap ∧ (HandSPX.FlyingZ B X.stack a (Zc cls d) s'.heap ∨ HandSPX.HeldZ B X.stack a (Zc cls d) L s'.heap) ∧ H a = none ∧ s'.os = sI.os ∧ AllBare s'.gens ∧ E cls d H
def TakesC (X : Cx) (L : Addr) (E : XK) : Prop := ∀ u s', XEc X L E u s' → X.xe u s'
/-- the frame that runs, and what is wished of its exceptions -/
def GoodX (X : Cx) (E : XK) : Prop := ∃ (e0 : PySem.Env) (r : List PySem.Env) (L : Addr), X.stack = e0 :: r ∧ e0.frame = some L ∧ X.env.frame = some L ∧ TakesC X L E
theorem goodX_of {X : Cx} {E : XK} (hs : X.stack = X.env :: X.outer) (hf : X.env.frame = some X.env.locals) (tk : Takes X (fun cls d _ H => E cls d H)) : GoodX X E :=
  ⟨X.env, X.outer, X.env.locals, hs, hf, hf, fun u s' ⟨a, B, sI, pins, σ, H, cls, d, e, I, nb, up, sky, r⟩ => tk u s' ⟨a, B, sI, pins, σ, H, cls, d, e, I, nb, up, .inr sky, r⟩⟩
theorem xec_call {X : Cx} {L : Addr} {E : XK} {pins : List (Addr × Obj)} {σ : L2.St} {H : Hp} {s s' : Shared} {u : Value} (I : L2.Inv X pins σ H s) (c : L2.CX X.prog X.w X.stack H s E u s') : XEc X L E u s' := by
  obtain ⟨a, B, H', cls, d, eu, fl, hok, ub, na, eo, ag, hE⟩ := c
  obtain ⟨G, t1, t2⟩ := restrict s'.heap fun b => (B.get? b).isSome || decide (b ∈ frs X.stack)
  have inG : ∀ b, (∃ o, B.get? b = some o) ∨ b ∈ frs X.stack → G.get? b = s'.heap.get? b := fun b hb => t1 b (by
    rcases hb with ⟨o, z⟩ | z
    · simp [z]
    · simp [z])
  have kB : ∀ b o, B.get? b = some o → G.get? b = some o := fun b o z => (inG b (.inl ⟨o, z⟩)).trans (fl.1 b o z)
  have out : ∀ b o, G.get? b = some o → s'.heap.get? b = some o ∧ (b ∉ frs X.stack → B.get? b = some o) := fun b o z => by
    cases q : ((B.get? b).isSome || decide (b ∈ frs X.stack)) with
    | false => rw [t2 b q] at z; cases z
    | true =>
      rw [t1 b q] at z
      refine ⟨z, fun hb => ?_⟩
      cases y : B.get? b with
      | none => simp [y, hb] at q
      | some o' =>
        have y2 := fl.1 b o' y
        rw [z] at y2
        exact y2.symm ▸ rfl
  have slots : ∀ b o, s.heap.get? b = some o → b ∈ frs X.stack → ∃ sl, G.get? b = some { o with slots := sl } := fun b o z hb => by
    obtain ⟨sl, q⟩ := ub.slot b o z hb
    exact ⟨sl, (inG b (.inr hb)).trans q⟩
  refine ⟨a, B, ⟨G, s'.gens, s'.drawn, s'.toks, s.os⟩, pins, σ, H', cls, d, eu, ?_, fun b o z hb => (out b o z).2 hb, Heap.UpToSlots.of_keeps fun b o z => (out b o z).1, .inl fl, na, eo, ag, hE⟩
  have U : Un (frs X.stack) [] H H' s.heap G := ⟨fun b o z n hb _ => kB b o (ub.keep b o z n hb), fun b o z _ hb _ => slots b o z hb, fun b o z n _ => ub.free b o z n, fun b o z _ => by
    by_cases hb : b ∈ frs X.stack
    · obtain ⟨sl, q⟩ := slots b o z hb
      exact ⟨_, q⟩
    · obtain ⟨o', q⟩ := ub.there b o z hb
      exact ⟨o', kB b o' q⟩, ub.tups, ub.frzs, ub.tbls⟩
  exact I.call (ch := []) (h' := G) (g' := s'.gens) (t' := s'.toks) (d' := s'.drawn) (H' := H') U (hok.kept kB) ag (fun _ z => nomatch z)
theorem passes_of_good {X : Cx} {E : XK} (g : GoodX X E) : Passes (L2.CX X.prog X.w) X E := by
  obtain ⟨e0, r, L, h1, h2, h3, tk⟩ := g
  exact fun pins σ H s e s' I c => tk e s' (xec_call I c)
end MP

/-! MiniEe: a comprehension whose turns may raise. -/
namespace MP
open PySem PySem.Spec PyProof.Rows L2
section
variable {M : Model} {A : Around} {E : Value → Shared → Prop} {s : Shared} {env : PySem.Env}
/-- what a comprehension's block leaves, its environment known -/
def cPost (M : Model) (A : Around) (E : Value → Shared → Prop) (use : Option (Value → Sem Unit)) (Q : Value → Shared → Prop) (acc : Value) (ce : PySem.Env) (r : Result) (s' : Shared) : Prop :=
  match r with
  | .ok _ => compPost M A E use Q acc ce.locals (.ok .next) s'
  | .error x => ∃ m, s'.heap.Ns ce.locals m ∧ ∀ h', Heap.SameBut ce.locals s'.heap h' → wpAny M A (passOn "comprehension.variables-let-go" x ce : Sem Value) (fun _ _ => False) E { s' with heap := h' }
theorem comp_any {e : Expr} {scope : Scope} {pos : Pos} {newAcc first : Sem Value} {g : Comprehension} {gs : List Comprehension} {cl : List (Str × Addr)} {use : Option (Value → Sem Unit)} {Q : Value → Shared → Prop}
    (hcl : clausesOf e = g :: gs) (hs : ∀ x, foldedSetIterable g.iter env x = pure x) (hclos : closureFor scope env = pure cl) (hkind : scope.kind = .function) (hnames : ∀ x ∈ scope.names, x.2 = .local → scope.names.lookup x.1 = some .local)
    (h : wpAny M A first (fun x s1 => wpAny M A (pyIter x) (fun it s2 => wpAny M A newAcc (fun acc s3 => wpAny M A (newFunctionEnv scope env.globals cl [] env.qual none .none (some env)) (fun ce s4 =>
        codeAny M A (.compStart e 0 it acc { ce with scope := relabel scope env }) (cPost M A E use Q acc { ce with scope := relabel scope env }) s4) E s3) E s2) E s1) E s) :
    wpAny M A (comprehension e scope env pos newAcc false first use) Q E s := by
  unfold comprehension
  rw [hclos, hcl]
  have up : ∀ {α : Type} {t : Sem α} {P P' : α → Shared → Prop} {s : Shared}, wpAny M A t P E s → (∀ a s, P a s → P' a s) → wpAny M A t P' E s := fun h q => wpAny_mono h q fun _ _ z => z
  refine wpAny_bind (up h fun x s1 h1 => wpAny_bind (wpAny_standAt (wpAny_bind (wpAny_of_eq (hs x) (wpAny_bind (wpAny_holding (up h1 fun it s2 h2 => wpAny_standIf (wpAny_bind (up h2 fun acc s3 h3 => wpAny_bind (wpAny_pure (wpAny_bind (up h3 fun ce s4 h4 => ?_))))))))))))
  dsimp only
  have k1 : ∀ {l : List (Str × NameKind)}, (∀ x ∈ l, x ∈ scope.names) → ∀ x ∈ l, x.2 = .local → PySem.Env.kindOf { ce with scope := relabel scope env } x.1 = some .local := fun hl x hx q => lookup_relabel_local (hnames x (hl x hx) q)
  have k2 : ∀ x ∈ (scope.names.filter fun x => (x.2 == .local || x.2 == .cell) && x.1 != (".0" : Str)).reverse, x ∈ scope.names := fun x hx => (List.mem_filter.mp (List.mem_reverse.mp hx)).1
  refine wpAny_holding (wpAny_bind (wpAny_attempt (wpAny_holding (wpAny_run (codeAny_mono h4 fun r s' hr => ?_)))))
  cases r with
  | error x =>
    obtain ⟨m, hn, hr⟩ := hr
    exact wpAny_bind (wpAny_holding (wpAny_comp_letGo (cenv := { ce with scope := relabel scope env }) hkind _ s' m (k1 k2) hn fun h' m' _ q => wpAny_mono (hr h' q) (fun _ _ f => f.elim) fun _ _ y => y))
  | ok f =>
    cases use with
    | none =>
      obtain ⟨m, hn, hr⟩ := hr
      exact wpAny_bind (wpAny_holding (wpAny_comp_letGo (cenv := { ce with scope := relabel scope env }) hkind _ s' m (k1 k2) hn fun h' m' _ q => wpAny_pure (hr h' q)))
    | some u =>
      have hr : wpAny M A (u acc) (fun _ s2 => ∃ m, s2.heap.Ns ce.locals m ∧ ∀ h', Heap.SameBut ce.locals s2.heap h' → Q .none { s2 with heap := h' }) E s' := hr
      refine wpAny_bind (wpAny_rule (wpAny_bind (wpAny_holding (up hr fun _ s2 ⟨m, hn, hq⟩ => ?_))))
      exact wpAny_bind (wpAny_comp_letGo (cenv := { ce with scope := relabel scope env }) hkind _ s2 m (k1 fun x hx => by
        rcases List.mem_append.mp hx with h1 | h1
        · exact k2 x (List.mem_of_mem_drop h1)
        · exact k2 x (List.mem_of_mem_take h1)) hn fun h' m' _ q => wpAny_pure (hq h' q))
end
end MP

/-! MiniEf: an exception leaves a comprehension's block. -/
namespace MP
open PySem PySem.Spec PyProof.Rows L2
theorem note_same {x : Value} {e1 e2 : PySem.Env} (h : e1.frame = e2.frame) : noteFrame x e1 = noteFrame x e2 := by
  unfold noteFrame PySem.frameOf
  rw [h]
theorem frames_but {h h' B B' : Heap} : ∀ {l : List PySem.Env}, h.FunFrames B l → (∀ L ∈ frs l, h'.get? L = h.get? L) → (∀ L ∈ frs l, B'.get? L = none) → h'.FunFrames B' l
  | [], _, _, _ => trivial
  | e :: l, ⟨hk, ⟨L, o, hf, _, ho, hd⟩, hr⟩, k, n => by
    have hm : L ∈ frs (e :: l) := List.mem_filterMap.mpr ⟨e, List.mem_cons_self, hf⟩
    have sub : ∀ b ∈ frs l, b ∈ frs (e :: l) := fun b hb => by
      obtain ⟨e', he, q⟩ := List.mem_filterMap.mp hb
      exact List.mem_filterMap.mpr ⟨e', List.mem_cons_of_mem _ he, q⟩
    exact ⟨hk, ⟨L, o, hf, n L hm, (k L hm).trans ho, hd⟩, frames_but hr (fun b hb => k b (sub b hb)) fun b hb => n b (sub b hb)⟩
/-- the context of a block whose exceptions are wished for -/
abbrev blkX (X : Cx) (s : Shared) (H : Hp) (scope : Scope) (ce : PySem.Env) (fp : List Addr) (xe : Value → Shared → Prop) : Cx := { X.blk s H scope ce fp with xe := xe }
theorem inv_wish {X : Cx} {s3 : Shared} {H3 : Hp} {scope : Scope} {ce : PySem.Env} {fp : List Addr} {xe : Value → Shared → Prop} {pins : List (Addr × Obj)} {σ : L2.St} {H : Hp} {s : Shared} (I : L2.Inv (X.blk s3 H3 scope ce fp) pins σ H s) : L2.Inv (blkX X s3 H3 scope ce fp xe) pins σ H s := I.wish xe
theorem inv_unwish {X : Cx} {s3 : Shared} {H3 : Hp} {scope : Scope} {ce : PySem.Env} {fp : List Addr} {xe : Value → Shared → Prop} {pins : List (Addr × Obj)} {σ : L2.St} {H : Hp} {s : Shared} (I : L2.Inv (blkX X s3 H3 scope ce fp xe) pins σ H s) : L2.Inv (X.blk s3 H3 scope ce fp) pins σ H s := I.wish (fun _ _ => False)
/-- out of the block -/
theorem leave_blk {X : Cx} {E : XK} {pins : List (Addr × Obj)} {σ : L2.St} {H3 : Hp} {s3 : Shared} {scope : Scope} {ce : PySem.Env} {fp : List Addr} {xe : Value → Shared → Prop} {use : Option (Value → Sem Unit)} {Qf : Value → Shared → Prop} {acc : Value} {e0 : PySem.Env} {r : List PySem.Env} {L : Addr}
    (hs : X.stack = e0 :: r) (hf0 : e0.frame = some L) (tk : TakesC X L E) (I3 : L2.Inv X pins σ H3 s3) (hce : ce.frame = some L) (hcl : ce.locals = s3.heap.objs.size) (f3 : ∀ b ∈ fp, FpOk X pins H3 b)
    {u : Value} {s' : Shared} (x : XEc (blkX X s3 H3 scope ce fp xe) L E u s') : notedBy (model X.prog X.w) X.A ce (fun e s1 => cPost (model X.prog X.w) X.A X.xe use Qf acc ce (.error e) s1) u s' := by
  obtain ⟨a, B, sI, pb, σb, H', cls, d, rfl, Ib, nb, up, sky, na, os, ag, hE⟩ := x
  have nb : ∀ b o, sI.heap.get? b = some o → b ∉ frs X.stack → B.get? b = some o := nb
  have hfr : X.A.frames = some (e0 :: r) := by rw [I3.ok.frames, hs]
  have I0 : L2.Inv X pins σ H' sI := I3.call' (ch := fp) Ib.os Ib.base Ib.hok Ib.bare fun b hb => ⟨(f3 b hb).2.2.2.1, (f3 b hb).2.1, (f3 b hb).2.2.2.2.1, (f3 b hb).2.2.2.2.2⟩
  have nC : H' ce.locals = none := Ib.free
  obtain ⟨c0, c1, c2, c3, c4, c5⟩ := I3.fpOk (H' := H') (b := ce.locals) (by rw [hcl]; exact Nat.le_refl _) nC
  obtain ⟨m, hn, _⟩ := Ib.loc
  have hn : sI.heap.Ns ce.locals m := hn
  have cfr : ce.locals ∉ frs X.stack := fun z => by
    rcases List.mem_cons.mp (I3.stkSub _ z) with z | z
    · exact c1 z
    · exact c2 z
  have core : ∀ h1, HandSPX.HeldZ B (e0 :: r) a (Zc cls d) L h1 → s'.heap.UpToSlots h1 → cPost (model X.prog X.w) X.A X.xe use Qf acc ce (.error (.ref a)) { s' with heap := h1 } := fun h1 hh up1 => by
    obtain ⟨k1, k2, k3, oe, vs, T, oT, ts, he, hz, hd, h1', hnT, hTe, hT, hdT, ht⟩ := hh
    have hnB : h1.Ns ce.locals m := hn.at fun o z => k1 _ _ (nb _ o z cfr)
    refine ⟨m, hnB, fun h2 sb => ?_⟩
    have aC : a ≠ ce.locals := fun z => by
      obtain ⟨o, es, ep, z1, z2, _⟩ := hnB
      rw [← z, he] at z1
      cases z1
      rw [hd] at z2
      cases z2
    have TC : T ≠ ce.locals := fun z => by
      obtain ⟨o, es, ep, z1, z2, _⟩ := hnB
      rw [← z, hT] at z1
      cases z1
      rw [hdT] at z2
      cases z2
    have hide : ∀ {G : Heap} {b : Addr} {o : Obj}, (PySem.W.hideAll G [ce.locals]).get? b = some o → G.get? b = some o ∧ b ≠ ce.locals := fun {G b o} z => ⟨PySem.W.of_hideAll _ z, fun y => by
      rw [PySem.W.hideAll_none _ (by rw [y]; exact .head _)] at z
      cases z⟩
    have gone : ∀ {G : Heap} {b : Addr}, G.get? b = none → (PySem.W.hideAll G [ce.locals]).get? b = none := fun {G b} z => by
      cases y : (PySem.W.hideAll G [ce.locals]).get? b with
      | none => rfl
      | some o => rw [(hide y).1] at z; cases z
    have keep : ∀ {G : Heap} {b : Addr} {o : Obj}, G.get? b = some o → b ≠ ce.locals → (PySem.W.hideAll G [ce.locals]).get? b = some o := fun {G b o} z y => PySem.W.hideAll_get _ z (by simpa using y)
    have fr2 : ∀ L' ∈ frs (e0 :: r), L' ≠ ce.locals := fun L' z y => cfr (by rw [hs, ← y]; exact z)
    have held2 : HandSPX.HeldZ (PySem.W.hideAll B [ce.locals]) (e0 :: r) a (Zc cls d) L h2 :=
      ⟨fun b o z => (sb.2 b (hide z).2).trans (k1 b o (hide z).1), gone k2, frames_but k3 (fun L' z => sb.2 L' (fr2 L' z)) (fun L' z => gone (k3.mem z).1),
        oe, vs, T, oT, ts, (sb.2 a aC).trans he, hz, hd, h1', gone hnT, hTe, (sb.2 T TC).trans hT, hdT, ht⟩
    unfold PySem.passOn
    refine wpAny_bind (wpAny_field ((sb.2 a aC).trans he) hd h1' ?_)
    rw [if_neg (show ¬ ((Value.ref T == Value.none) = true) from by simp)]
    have fin : wpAny (model X.prog X.w) X.A (setFlight (.ref a) ce.frame) (fun _ s4 => wpAny (model X.prog X.w) X.A (throw (.ref a) : Sem Value) (fun _ _ => False) X.xe s4) X.xe { s' with heap := h2 } := by
      rw [hce]
      refine HandSPX.setFlight_onZ held2 fun h3 hh3 up3 => wpAny_throw (tk _ _ ?_)
      refine ⟨a, PySem.W.hideAll B [ce.locals], { sI with heap := PySem.W.hideAll sI.heap [ce.locals], toks := sI.toks }, pins, σ, H', cls, d, rfl, I0.turned (t' := sI.toks) (fun b o y z => keep z y) c0 c1 c3 c4 c5, fun b o z y => keep (nb b o (hide z).1 y) (hide z).2, fun b o z y => ?_, .inr (by rw [hs]; exact hh3), na, os, ag, hE⟩
      obtain ⟨sl1, z1⟩ := up b o (hide z).1 y
      obtain ⟨sl2, z2⟩ := up1 b _ z1 y
      obtain ⟨sl3, z3⟩ := up3 b _ ((sb.2 b (hide z).2).trans z2) y
      exact ⟨sl3, z3⟩
    first
      | exact wpAny_bind (wpAny_pure (wpAny_bind fin))
      | exact wpAny_bind fin
  show wpAny _ X.A (noteFrame (.ref a) ce) _ _ _
  rw [note_same (e2 := e0) (hce.trans hf0.symm)]
  have sky : HandSPX.FlyingZ B (e0 :: r) a (Zc cls d) s'.heap ∨ HandSPX.HeldZ B (e0 :: r) a (Zc cls d) L s'.heap := by rw [← hs]; exact sky
  rcases sky with fl | hh
  · exact HandSPX.looks_onZ Zc.steady hfr hf0 fl fun h1 hh up1 => core h1 hh up1
  · exact HandSPX.againZ hf0 hh.2.2.2 (core s'.heap hh (Heap.UpToSlots.refl _))
end MP

/-! MiniEg: list comprehensions whose turns may raise. -/
namespace MP
open PySem PySem.Spec PyProof.Rows L2
section
variable {X : Cx} {E : XK} {elt tg iter : Expr} {ifs : List Expr} {scope : Scope} {own : List (Str × Nat)} {pos pos' : Pos} {wi : TI} {g : TG} {tt : TT} {te : TE}
/-- the parts of such a comprehension, in its block -/
structure Parts (X : Cx) (E : XK) (elt tg : Expr) (ifs : List Expr) (scope : Scope) (g : TG) (tt : TT) (te : TE) : Prop where
  g : ∀ (s : Shared) (H : Hp) (C : Addr) (cl : List (Str × Addr)) (fp : List Addr) (xe : Value → Shared → Prop), GoodX (blkX X s H scope (compEnvC scope cl C X.env) fp xe) E → PG (blkX X s H scope (compEnvC scope cl C X.env) fp xe) tg g
  t : ∀ (s : Shared) (H : Hp) (C : Addr) (cl : List (Str × Addr)) (fp : List Addr) (xe : Value → Shared → Prop), GoodX (blkX X s H scope (compEnvC scope cl C X.env) fp xe) E → PTs (blkX X s H scope (compEnvC scope cl C X.env) fp xe) ifs tt
  e : ∀ (s : Shared) (H : Hp) (C : Addr) (cl : List (Str × Addr)) (fp : List Addr) (xe : Value → Shared → Prop), GoodX (blkX X s H scope (compEnvC scope cl C X.env) fp xe) E → PE (blkX X s H scope (compEnvC scope cl C X.env) fp xe) elt te
theorem lc_x {pins : List (Addr × Obj)} {s : Shared} {σ : L2.St} {H : Hp} {Q : VK} {use : Option (Value → Sem Unit)} {Qf : Value → Shared → Prop}
    (hc : X.calm = true) (hN : X.N.Nodup) (gx : GoodX X E) (I : L2.Inv X pins σ H s) (hi : PI X tg iter wi) (ok : BlkOk X.N X.env.scope scope own) (P : Parts X E elt tg ifs scope g tt te) (hs : ∀ x, foldedSetIterable iter X.env x = pure x)
    (h : tLc wi g tt te (own.map (·.2)) σ H Q)
    (fin : ∀ D C s' m H', L2.Inv X pins σ H' s' → Q (.ref D) H' → s'.heap.Ns C m → FpOk X pins H' C → compPost (model X.prog X.w) X.A X.xe use Qf (.ref D) C (.ok .next) s') :
    wpAny (model X.prog X.w) X.A (comprehension (.ListComp elt [⟨tg, iter, ifs, 0⟩] scope pos) scope X.env pos' (newList []) false (eval iter X.env) use) Qf X.xe s := by
  obtain ⟨e0, r0, L, hst, hf0, hfe, tk⟩ := gx
  have hfree : ∀ y ∈ scope.names, y.2 = .free → ∃ c, X.env.cells.lookup y.1 = some c := fun y hy z => (ok.free y hy z).elim (fun k => I.ok.has _ (.inl k)) fun k => I.ok.has _ (.inr k)
  refine comp_any (use := use) rfl hs (closure_ok hfree) ok.kind (fun y hy z => by rw [ok.uniq y hy, z]) (thn (hi.run pins s σ H _ I h) fun xv s1 hx => thn hx fun itv s2 h2 => ?_)
  obtain ⟨it, fp, tn, J, H2, ei, I2, T, st2, f2, q⟩ := h2
  subst ei
  refine wpAny_newObj_type (newEnv_comp ?_) (by show 0 ≤ sizeLine; decide)
  obtain ⟨D, hD⟩ : ∃ D, s2.heap.objs.size = D := ⟨_, rfl⟩
  rw [hD]
  obtain ⟨Wv, ⟨m0, w0⟩, turn⟩ := q D (I2.hok.fresh (Nat.le_of_eq hD))
  obtain ⟨s3, hs3⟩ : ∃ s3 : Shared, ({ s2 with heap := s2.heap.push { cls := .type "list", data := .seq ([] : List Value).toArray } } : Shared) = s3 := ⟨_, rfl⟩
  have h3 : s3.heap = s2.heap.push { cls := .type "list", data := .seq ([] : List Value).toArray } := by rw [← hs3]
  have k3 : ∀ b o, s2.heap.get? b = some o → s3.heap.get? b = some o := fun b o z => by rw [h3]; exact Heap.get?_push_of_some _ z
  have I3 : L2.Inv X pins σ (upd H2 D (.lst [])) s3 := by
    subst hs3
    refine I2.laid (t' := s2.toks) (fun b o z => Heap.get?_push_of_some _ z) (Nat.le_of_eq hD) ⟨Nat.zero_le _, [], 0, .nil, ?_⟩
    subst hD
    exact Heap.get?_push_size _ rfl
  have f3 : ∀ b ∈ fp, FpOk X pins (upd H2 D (.lst [])) b ∧ b < s3.heap.objs.size := fun b hb => by
    obtain ⟨o, z, _⟩ := T.obj _ _ st2 b hb
    have hlt := Heap.lt_size z
    exact ⟨⟨by rw [upd_ne (by rw [← hD]; exact Nat.ne_of_lt hlt)]; exact (f2 b hb).1, (f2 b hb).2⟩, Heap.lt_size (k3 b o z)⟩
  have st3 : tn 0 s3.heap := T.keep _ _ _ st2 fun b _ o z => k3 b o z
  rw [hs3]
  have I4 := block_start I3 ok hN f3
  have P1 := P.g s3 (upd H2 D (.lst [])) s3.heap.objs.size (cellsFrom (s3.heap.objs.size + 1) scope.names (cloFrom X.env.cells scope.names [])) fp
  have P2 := P.t s3 (upd H2 D (.lst [])) s3.heap.objs.size (cellsFrom (s3.heap.objs.size + 1) scope.names (cloFrom X.env.cells scope.names [])) fp
  have P3 := P.e s3 (upd H2 D (.lst [])) s3.heap.objs.size (cellsFrom (s3.heap.objs.size + 1) scope.names (cloFrom X.env.cells scope.names [])) fp
  show codeAny _ _ (.compStart (.ListComp elt [⟨tg, iter, ifs, 0⟩] scope pos) 0 (.ref it) (.ref D) (compEnvC scope (cellsFrom (s3.heap.objs.size + 1) scope.names (cloFrom X.env.cells scope.names [])) s3.heap.objs.size X.env))
    (cPost (model X.prog X.w) X.A X.xe use Qf (.ref D) (compEnvC scope (cellsFrom (s3.heap.objs.size + 1) scope.names (cloFrom X.env.cells scope.names [])) s3.heap.objs.size X.env)) { s3 with heap := pushCells (s3.heap.push { cls := .type "dict", data := .dict #[] }) scope.names }
  have cfr : (compEnvC scope (cellsFrom (s3.heap.objs.size + 1) scope.names (cloFrom X.env.cells scope.names [])) s3.heap.objs.size X.env).frame = some L := hfe
  have cL : (compEnvC scope (cellsFrom (s3.heap.objs.size + 1) scope.names (cloFrom X.env.cells scope.names [])) s3.heap.objs.size X.env).locals = s3.heap.objs.size := rfl
  generalize compEnvC scope (cellsFrom (s3.heap.objs.size + 1) scope.names (cloFrom X.env.cells scope.names [])) s3.heap.objs.size X.env = ce at I4 P1 P2 P3 cfr cL ⊢
  generalize upd H2 D (.lst []) = H3 at I3 I4 P1 P2 P3 w0 f3
  have st4 : tn 0 (pushCells (s3.heap.push { cls := .type "dict", data := .dict #[] }) scope.names) := T.keep _ _ _ st3 fun b _ o z => pushCells_keeps _ _ _ _ (Heap.get?_push_of_some _ z)
  generalize hs4 : ({ s3 with heap := pushCells (s3.heap.push { cls := .type "dict", data := .dict #[] }) scope.names } : Shared) = s4 at I4 ⊢
  replace st4 : tn 0 s4.heap := by rw [← hs4]; exact st4
  -- the block's wish
  let xe : Value → Shared → Prop := notedBy (model X.prog X.w) X.A ce fun e s1 => cPost (model X.prog X.w) X.A X.xe use Qf (.ref D) ce (.error e) s1
  have gb : GoodX (blkX X s3 H3 scope ce fp xe) E := ⟨e0, r0, L, hst, hf0, cfr, fun u s' x => leave_blk hst hf0 tk I3 cfr cL (fun b hb => (f3 b hb).1) x⟩
  have pg := P1 xe gb
  have pt := P2 xe gb
  have pe := P3 xe gb
  have stat : ∀ {σ' : L2.St} {H' : Hp} {s' : Shared}, L2.Inv (blkX X s3 H3 scope ce fp xe) [] σ' H' s' → (∀ b ∈ fp, H' b = none) → ∀ b ∈ fp, FpOk (blkX X s3 H3 scope ce fp xe) [] H' b := fun I' hn b hb =>
    ⟨hn b hb, (I'.ok.exf b hb).1, I'.ok.exfs b hb, .inl hb, fun x c z => (I'.ok.exf b hb).2 x c z, fun p hp => absurd (show p ∈ ([] : List (Addr × Obj)) ++ [] from hp) (by simp)⟩
  have loop : codeAny (model X.prog X.w) X.A (.compLoop (.ListComp elt [⟨tg, iter, ifs, 0⟩] scope pos) 0 (.ref it) (.ref D) ce) (cPost (model X.prog X.w) X.A X.xe use Qf (.ref D) ce) s4 := by
    refine compLoop_any (fun n s' => ∃ i H', L2.Inv (blkX X s3 H3 scope ce fp xe) [] (wipe σ (own.map (·.2))) H' s' ∧ tn i s'.heap ∧ (∀ b ∈ fp, H' b = none) ∧ Wv i n H') ?_ m0 ⟨0, H3, I4.wish xe, st4, fun b hb => (f3 b hb).1.1, w0⟩
    rintro n s5 ⟨i, H5, I5, st5, n5, w5⟩
    rcases turn i n H5 w5 with ⟨stop, qq⟩ | ⟨go, Nx, hNx, step⟩
    · refine thnF (T.done (blkX X s3 H3 scope ce fp xe) rfl rfl rfl hc i [] s5 _ H5 (fun _ _ => False) I5 (stat I5 n5) st5 stop) fun rv s6 ⟨er, I6⟩ => ?_
      subst er
      have I7 : L2.Inv X pins σ H5 s6 := I3.call' (ch := fp) I6.os I6.base I6.hok I6.bare fun b hb => ⟨(f3 b hb).1.2.2.2.1, (f3 b hb).1.2.1, (f3 b hb).1.2.2.2.2.1, (f3 b hb).1.2.2.2.2.2⟩
      have nC : H5 ce.locals = none := I6.free
      obtain ⟨m, hn, _⟩ := I6.loc
      have hn : s6.heap.Ns ce.locals m := hn
      exact fin D ce.locals s6 m H5 I7 qq hn (I3.fpOk (by rw [cL]; exact Nat.le_refl _) nC)
    · refine thnF (T.item (blkX X s3 H3 scope ce fp xe) rfl rfl rfl hc i [] s5 _ H5 (fun _ _ => False) I5 (stat I5 n5) st5 go) fun rv s6 ⟨u, er, h6⟩ => ?_
      subst er
      refine thnF h6 fun _ s7 ⟨x, H7, I7, r7, y7, st7, n7⟩ => ?_
      refine wpAny_mono (pg.run _ s7 _ H7 x u _ (I7.pinned (stat I7 n7) (T.obj _ _ st7)) r7 (step x H7 y7)) (fun _ s8 ⟨σ8, H8, I8, hw8, q8⟩ => ?_) fun _ _ z => z
      refine wpAny_mono (pt.run _ s8 σ8 H8 _ I8 q8) (fun b s9 ⟨H9, I9, q9⟩ => ?_) fun _ _ z => z
      have next : ∀ {s' : Shared} {H' : Hp}, L2.Inv (blkX X s3 H3 scope ce fp xe) ([] ++ pinsAt fp s7.heap) σ8 H' s' → Nx H' → ∃ m, m < n ∧ ∃ i H', L2.Inv (blkX X s3 H3 scope ce fp xe) [] (wipe σ (own.map (·.2))) H' s' ∧ tn i s'.heap ∧ (∀ b ∈ fp, H' b = none) ∧ Wv i m H' := fun {s' H'} I' nx => by
        obtain ⟨m', hm, w'⟩ := hNx H' nx
        have pin : ∀ b ∈ fp, ∀ o, s7.heap.get? b = some o → s'.heap.get? b = some o ∧ H' b = none := fun b hb o z =>
          let y := I'.pin (b, o) (List.mem_append_right _ (List.mem_append_right _ (mem_pinsAt hb z)))
          ⟨y.1, y.2.1⟩
        refine ⟨m', hm, i + 1, H', (I'.unpinned (pins := [])).weak (by rw [← hw8, wipe_length]) (fun j v z => ?_), T.keep _ _ _ st7 fun b hb o z => (pin b hb o z).1, fun b hb => ?_, w'⟩
        · rw [← hw8] at z
          exact (wipe_some z).1
        · obtain ⟨o, z, _⟩ := T.obj _ _ st7 b hb
          exact (pin b hb o z).2
      cases b with
      | false =>
        simp only [Bool.false_eq_true, if_false] at q9 ⊢
        exact next I9 q9
      | true =>
        simp only [if_true] at q9 ⊢
        refine wpAny_mono (pe.run _ s9 σ8 H9 _ I9 q9) (fun z s10 ⟨yv, H10, I10, r10, ac, hD10, hz10, nx⟩ => ?_) fun _ _ z => z
        exact app_ok (X := blkX X s3 H3 scope ce fp xe) I10 hD10 hz10 r10 fun s11 I11 => next I11 nx
  exact codeAny_compStart_list loop (T.self X.A 0 _ _ _ st4 loop)
theorem pe_lcX (hc : X.calm = true) (hN : X.N.Nodup) (gx : GoodX X E) (hi : PI X tg iter wi) (ok : BlkOk X.N X.env.scope scope own) (P : Parts X E elt tg ifs scope g tt te) (hs : ∀ x, foldedSetIterable iter X.env x = pure x) :
    PE X (.ListComp elt [⟨tg, iter, ifs, 0⟩] scope pos) (tLc wi g tt te (own.map (·.2))) := by
  refine ⟨fun pins s σ H Q I h => ?_⟩
  rw [eval_ListComp]
  refine lc_x hc hN gx I hi ok P hs h fun D C s' m H' I' q hn f => ⟨m, hn, fun h'' sb => ?_⟩
  exact ⟨.ref D, H', I'.turned (t' := s'.toks) (fun b o hb z => (sb.2 b hb).trans z) f.1 f.2.1 f.2.2.2.1 f.2.2.2.2.1 f.2.2.2.2.2, rfl, q⟩
theorem ps_setLcX {i : Nat} {y : Str} {py spos : Pos} (hc : X.calm = true) (hN : X.N.Nodup) (gx : GoodX X E) (hy : X.N[i]? = some y) (hyl : X.env.scope.names.lookup y = some .local)
    (hsw : swapsWith (.ListComp elt [⟨tg, iter, ifs, 0⟩] scope pos) (some (.Name y py)) spos.line X.env = pure true) (hi : PI X tg iter wi) (ok : BlkOk X.N X.env.scope scope own) (P : Parts X E elt tg ifs scope g tt te) (hs : ∀ x, foldedSetIterable iter X.env x = pure x) :
    PS X (.Assign [.Name y py] (.ListComp elt [⟨tg, iter, ifs, 0⟩] scope pos) spos) (tAsg (tLc wi g tt te (own.map (·.2))) (gName i)) := by
  refine ⟨fun pins s σ H D I h => ?_⟩
  rw [exec_Assign_Name_used _ _ _ _ hsw]
  refine wpAny_bind (wpAny_standAt (wpAny_bind ?_))
  show wpAny _ X.A (comprehension (.ListComp elt [⟨tg, iter, ifs, 0⟩] scope pos) scope X.env (firstIterPos [⟨tg, iter, ifs, 0⟩] pos) (newList []) false (eval iter X.env) (some (assign (.Name y py) X.env)) >>= fun _ => _) _ _ s
  have h : tLc wi g tt te (own.map (·.2)) σ H (fun x H1 => gName i x σ H1 D.nx) := h
  refine wpAny_bind (thn (lc_x (Qf := fun _ s' => SP X pins D .next s') hc hN gx I hi ok P hs h fun L C s' m H' I' q hn f => ?_) fun _ s' hq => wpAny_pure (wpAny_pure hq))
  show wpAny _ _ (assign (.Name y py) X.env (.ref L)) _ _ _
  refine wpAny_assign_Name (store_ok2 (v := V.ref L) I' hN hy (.inl hyl) rfl (fun s2 J ⟨a, sb, ha⟩ => ?_) (.inr hyl))
  have haC : C ≠ a := ha.elim (fun z => by rw [z]; exact f.2.1) fun z y => f.2.2.2.2.1 _ a z y.symm
  exact ⟨m, hn.sameBut sb haC, fun h3 sb3 => ⟨_, H', J.turned (t' := s2.toks) (fun b o hb z => (sb3.2 b hb).trans z) f.1 f.2.1 f.2.2.2.1 f.2.2.2.2.1 f.2.2.2.2.2, q⟩⟩
end
end MP

/-! MiniC: comprehensions. -/
namespace MP
open PySem PySem.Spec PyProof.Rows L2
variable [Wi : Wish]

section
variable {K : PySem.W.Frag} {ι ι' ι1 ι2 : List Addr} {F F' F1 F2 H H' H1 H2 : Hp} {st : Store} {Q : VK} {D : Addr}
/-- a thing that is no part of the state is changed -/
theorem Sim.other (s : Sim K ι F H st) {o : HO} (h1 : D ∉ ι) (h2 : F D = none) : Sim K ι F (upd H D o) st := by
  refine ⟨fun b u e => ?_, s.len, s.inj, fun a p xs e1 e2 => ?_⟩
  · rw [upd_ne (ne_of_none e h2)]
    exact s.same b u e
  · obtain ⟨g1, vs, g2, g3⟩ := s.obj a p xs e1 e2
    have hp : p ≠ D := fun z => h1 (z ▸ mem_of_get e1)
    exact ⟨g1, vs, by rw [upd_ne hp]; exact g2, g3⟩
theorem Ext.other (e : Ext ι F H ι' F' H') {o : HO} (h : H D = none) : Ext ι F H ι' F' (upd H' D o) :=
  ⟨e.pre, e.sF, fun p u q n => by rw [upd_ne (ne_of_none q h)]; exact e.old p u q n, e.fresh, e.newF, fun p u q => by rw [upd_ne (ne_of_none q h)]; exact e.there p u q⟩
/-- it becomes a part of the state -/
theorem Sim.take (s : Sim K ι F H st) {xs : List MV} {vs : List V} (e : Ext ι1 F1 H1 ι F H) (h : H1 D = none) (h1 : D ∉ ι) (h2 : F D = none) (hD : H D = some (.lst vs)) (r : Reps K ι F xs vs) (mu : Bool) :
    ∃ ι' F' st', mkL mu xs st = (if xs.length ≤ line then .ok (if mu then .ref st.length else .lst xs) st' else .stuck) ∧ Sim K ι' F' H st' ∧ Ext ι1 F1 H1 ι' F' H ∧ Rep K ι' F' (if mu then .ref st.length else .lst xs) (.ref D) := by
  cases mu with
  | true =>
    refine ⟨ι ++ [D], F, st ++ [xs], by simp [mkL], ⟨s.same, by rw [List.length_append, List.length_append, s.len]; rfl, fun a b q e1 e2 => ?_, fun a q ys e1 e2 => ?_⟩, ⟨e.pre.trans pre_snoc, e.sF, e.old, fun p m n => ?_, e.newF, e.there⟩, .ref ?_⟩
    · have at' : ∀ {a : Nat} {q : Addr}, (ι ++ [D])[a]? = some q → ι[a]? = some q ∨ (a = ι.length ∧ q = D) := fun {a q} e => by
        by_cases ha : a < ι.length
        · rw [List.getElem?_append_left ha] at e; exact .inl e
        · rw [List.getElem?_append_right (by omega)] at e
          have e2 : a - ι.length = 0 := by
            have := (List.getElem?_eq_some_iff.mp e).1
            simp at this
            omega
          rw [e2] at e
          exact .inr ⟨by omega, (Option.some.inj e).symm⟩
      rcases at' e1 with g1 | ⟨g1, f1⟩ <;> rcases at' e2 with g2 | ⟨g2, f2⟩
      · exact s.inj a b q g1 g2
      · rw [f2] at g1; exact absurd (mem_of_get g1) h1
      · rw [f1] at g2; exact absurd (mem_of_get g2) h1
      · omega
    · by_cases ha : a < ι.length
      · rw [List.getElem?_append_left ha] at e1
        rw [List.getElem?_append_left (by rw [← s.len]; exact ha)] at e2
        obtain ⟨g1, ws, g2, g3⟩ := s.obj a q ys e1 e2
        exact ⟨g1, ws, g2, g3.mono pre_snoc Same.rfl'⟩
      · rw [List.getElem?_append_right (by omega)] at e1
        rw [List.getElem?_append_right (by rw [← s.len]; omega)] at e2
        have h0 : a - ι.length = 0 := by
          have := (List.getElem?_eq_some_iff.mp e1).1
          simp at this
          omega
        rw [h0] at e1
        rw [← s.len, h0] at e2
        have e3 : D = q := Option.some.inj e1
        have e4 : xs = ys := Option.some.inj e2
        subst e3
        subst e4
        exact ⟨h2, vs, hD, r.mono pre_snoc Same.rfl'⟩
    · rcases List.mem_append.mp m with m | m
      · exact e.fresh p m n
      · have e' : p = D := by simpa using m
        rw [e']; exact h
    · rw [List.getElem?_append_right (by rw [s.len]; exact Nat.le_refl _), s.len, Nat.sub_self]
      rfl
  | false =>
    have sF : Same F (upd F D (.lst vs)) := fun b u q => by rw [upd_ne (ne_of_none q h2)]; exact q
    refine ⟨ι, upd F D (.lst vs), st, by simp [mkL], ⟨fun b u q => ?_, s.len, s.inj, fun a p ys e1 e2 => ?_⟩, ⟨e.pre, fun b u q => sF b u (e.sF b u q), e.old, e.fresh, fun p n n' => ?_, e.there⟩, .lst upd_same (r.mono Pre.refl sF)⟩
    · by_cases hb : b = D
      · subst hb; rw [upd_same] at q; cases q; exact hD
      · rw [upd_ne hb] at q; exact s.same b u q
    · obtain ⟨g1, ws, g2, g3⟩ := s.obj a p ys e1 e2
      have hp : p ≠ D := fun z => h1 (z ▸ mem_of_get e1)
      exact ⟨by rw [upd_ne hp]; exact g1, ws, g2, g3.mono Pre.refl sF⟩
    · by_cases hb : p = D
      · rw [hb]; exact h
      · rw [upd_ne hb] at n'; exact e.newF p n n'
/-- the rest, whatever state it is begun in -/
theorem PostE.bindAt {r : R MV} {k : MV → Store → R MV} (e0 : Ext ι1 F1 H1 ι F H) (h : PostE K ι1 F1 H1 Q (r.bind k)) : PostE K ι F H (At K ι F H fun v st1 _ _ _ => PostE K ι1 F1 H1 Q (k v st1)) r := by
  cases r with
  | ok v st => exact fun ι' F' H' x e s p => ⟨ι', F', v, st, e, s, p, h⟩
  | exc c v st => exact fun ι2 F2 H2 d x e2 => h ι2 F2 H2 d x (e0.trans e2)
  | stuck => exact h
theorem PostE.bindBAt {r : R Bool} {k : Bool → Store → R MV} (e0 : Ext ι1 F1 H1 ι F H) (h : PostE K ι1 F1 H1 Q (r.bind k)) :
    PostB K ι F H (fun b H2 => ∃ ι2 F2 st2, Ext ι F H ι2 F2 H2 ∧ Sim K ι2 F2 H2 st2 ∧ PostE K ι1 F1 H1 Q (k b st2)) r := by
  cases r with
  | ok v st => exact fun ι' F' H' e s => ⟨ι', F', st, e, s, h⟩
  | exc c v st => exact fun ι2 F2 H2 d x e2 => h ι2 F2 H2 d x (e0.trans e2)
  | stuck => exact h
end

section
variable {X : Cx} {C : Fns} {pos : Pos}
/-- one turn of a comprehension -/
def turnC (C : Fns) (t : Tg) (ifs : List ME) (me : ME) (env : Env) : MV → Store → R (Option MV) := fun x s => match asgT t x env with
  | none => .stuck
  | some env1 => (eIfs C ifs env1 s).bind fun b s1 => if b then (eE C me env1 s1).bind fun y s2 => .ok (some y) s2 else .ok none s1
theorem eE_comp {mu : Bool} {own : List Nat} {me : ME} {t : Tg} {ik : IK} {src ifs : List ME} {env : Env} {st : Store} : eE C (.comp mu own me t ik src ifs) env st = (srcX ik (eEs C src env st)).bind fun vs st1 => match itemsM ik vs st1 with
    | none => .stuck
    | some (items, deps) => (compL deps (turnC C t ifs me (wipeE own env)) items [] st1).bind fun xs st2 => mkL mu xs st2 := by
  simp only [eE]
  rfl
/-- the tests -/
def tIfs (K : PySem.W.Frag) (C : Fns) (ms : List ME) : TT := fun σ H Q => ∃ ι F env st, Sim K ι F H st ∧ EnvR K ι F env σ ∧ PostB K ι F H Q (eIfs C ms env st)
theorem _root_.L2.PTs.weak {X : Cx} {e : List Expr} {t t' : TT} (h : PTs X e t) (w : ∀ σ H Q, t' σ H Q → t σ H Q) : PTs X e t' := ⟨fun pins s σ H Q I q => h.run pins s σ H Q I (w σ H Q q)⟩
theorem xts_nil : PTs X [] (tIfs X.K C []) := pts_nil.weak fun σ H Q ⟨ι, F, env, st, sm, en, q⟩ => q ι F H .refl sm
theorem xts_one {c : Expr} {mc : ME} (h : PT X c (tT X.K C mc)) : PTs X [c] (tIfs X.K C [mc]) := by
  refine (pts_one h).weak fun σ H Q ⟨ι, F, env, st, sm, en, q⟩ => ?_
  simp only [eIfs] at q
  refine step1B sm en q.bindB fun k ι1 F1 H1 st1 ex s1 en1 q1 => ?_
  cases k with
  | true => exact q1 ι1 F1 H1 .refl s1
  | false => exact q1 ι1 F1 H1 .refl s1
theorem comp_red {mu : Bool} {own : List Nat} {me : ME} {t : Tg} {ik : IK} {src ifs : List ME} (hsub : ∀ i ∈ tgSlots t, i ∈ own) {σ : L2.St} {H : Hp} {Q : VK} (h : tE X.K C (.comp mu own me t ik src ifs) σ H Q) :
    tLc (tIt X.K C ik src) (tGm X.K t) (tIfs X.K C ifs) (tE X.K C me) own σ H Q := by
  obtain ⟨ι, F, env, st, sm, en, q⟩ := h
  rw [eE_comp] at q
  refine ⟨ι, F, env, st, sm, en, ?_⟩
  cases e1 : srcX ik (eEs C src env st) with
  | exc c v st1 => rw [e1] at q; exact q
  | stuck => rw [e1] at q; exact q
  | ok vs st1 =>
    rw [e1] at q
    simp only [R.bind_ok] at q
    simp only [PostI]
    split
    · rename_i items deps e2
      rw [e2] at q
      simp only at q
      intro ι1 F1 H1 J ex1 s1 hJ D hD
      have q := q.ext ex1
      have en1 : EnvR X.K ι1 F1 env σ := en.mono ex1
      -- the invariant
      refine ⟨fun i m H' => m = items.length - i ∧ i ≤ items.length ∧ ∃ ι' F' st' acc avs, Sim X.K ι' F' H' st' ∧ Ext ι1 F1 H1 ι' F' H' ∧ H' D = some (.lst avs) ∧ D ∉ ι' ∧ F' D = none ∧ Reps X.K ι' F' acc.reverse avs ∧
        PostE X.K ι1 F1 H1 Q ((compL deps (turnC C t ifs me (wipeE own env)) (items.drop i) acc st').bind fun xs st2 => mkL mu xs st2),
        ⟨items.length, by simp, Nat.zero_le _, ι1, F1, st1, [], [], s1.other (s1.notι hD) (s1.notF hD), Ext.refl.other hD, upd_same, s1.notι hD, s1.notF hD, .nil, by rw [List.drop_zero]; exact q⟩, ?_⟩
      rintro i m H' ⟨rfl, hi, ι', F', st', acc, avs, s', ex', hD', hDι, hDF, ra, q'⟩
      by_cases hlt : i < items.length
      · -- a turn
        rw [List.drop_eq_getElem_cons hlt] at q'
        simp only [compL] at q'
        have hdep : depOk st' deps = true := by
          by_cases hd : depOk st' deps = true
          · exact hd
          · rw [if_neg hd] at q'; exact q'.elim
        rw [if_pos hdep] at q'
        have go := hJ.goes ι' F' H' st' i ex'.pre ex'.sF s' hdep hlt
        refine .inr ⟨go, fun H2 => (fun i m H' => m = items.length - i ∧ i ≤ items.length ∧ ∃ ι' F' st' acc avs, Sim X.K ι' F' H' st' ∧ Ext ι1 F1 H1 ι' F' H' ∧ H' D = some (.lst avs) ∧ D ∉ ι' ∧ F' D = none ∧ Reps X.K ι' F' acc.reverse avs ∧
          PostE X.K ι1 F1 H1 Q ((compL deps (turnC C t ifs me (wipeE own env)) (items.drop i) acc st').bind fun xs st2 => mkL mu xs st2)) (i + 1) (items.length - (i + 1)) H2, fun H2 h2 => ⟨_, by omega, h2⟩, fun x H2 hy => ?_⟩
        obtain ⟨F2, s2, ex2, m, em, rm⟩ := hJ.yields ι' F' H' st' i x H2 ex'.pre ex'.sF s' hdep hlt hy
        rw [List.getElem?_eq_getElem hlt] at em
        have em' : items[i] = m := Option.some.inj em
        rw [em'] at q'
        cases ea : asgT t m (wipeE own env) with
        | none =>
          have et : turnC C t ifs me (wipeE own env) m st' = .stuck := by simp only [turnC, ea]
          rw [et] at q'; exact q'.elim
        | some env1 =>
          have et : turnC C t ifs me (wipeE own env) m st' = (eIfs C ifs env1 st').bind fun b s1 => if b then (eE C me env1 s1).bind fun y s2 => .ok (some y) s2 else .ok none s1 := by simp only [turnC, ea]
          rw [et] at q'
          have exA := ex'.trans ex2
          refine ⟨ι', F2, wipeE own env, m, env1, s2.same, (en1.mono exA).wipe own, rm, ea, fun σ1 en2 w1 => ⟨?_, ?_⟩⟩
          · rw [w1 own hsub, wipe_wipe]
          · have hD2 : H2 D = some (.lst avs) := ex2.old D _ hD' hDι
            have hDF2 : F2 D = none := by
              cases z : F2 D with
              | none => rfl
              | some o => exact absurd (ex2.newF D hDF (by rw [z]; simp)) (by rw [hD']; simp)
            rw [R.bind_assoc, R.bind_assoc] at q'
            refine ⟨ι', F2, env1, st', s2, en2, (PostE.bindBAt (ι := ι') (F := F2) (H := H2) exA q').mono fun b H3 hb => ?_⟩
            obtain ⟨ι3, F3, st3, ex3, s3, q3⟩ := hb
            have hDι3 : D ∉ ι3 := fun z => by
              have := ex3.fresh D z hDι
              rw [hD2] at this; cases this
            have hD3 : H3 D = some (.lst avs) := ex3.old D _ hD2 hDι
            have hDF3 : F3 D = none := by
              cases z : F3 D with
              | none => rfl
              | some o => exact absurd (ex3.newF D hDF2 (by rw [z]; simp)) (by rw [hD2]; simp)
            have exB := exA.trans ex3
            cases b with
            | false =>
              simp only [Bool.false_eq_true, if_false, R.bind_ok] at q3 ⊢
              exact ⟨trivial, hlt, ι3, F3, st3, acc, avs, s3, exB, hD3, hDι3, hDF3, (ra.mono ex2.pre ex2.sF).mono ex3.pre ex3.sF, q3⟩
            | true =>
              simp only [if_true] at q3 ⊢
              simp only [R.bind_assoc, R.bind_ok] at q3
              refine ⟨ι3, F3, env1, st3, s3, en2.mono ex3, (PostE.bindAt (ι := ι3) (F := F3) (H := H3) exB q3).mono fun y H4 hy => ?_⟩
              obtain ⟨ι4, F4, w, st4, ex4, s4, rw4, q4⟩ := hy
              have hDι4 : D ∉ ι4 := fun z => by
                have := ex4.fresh D z hDι3
                rw [hD3] at this; cases this
              have hD4 : H4 D = some (.lst avs) := ex4.old D _ hD3 hDι3
              have hDF4 : F4 D = none := by
                cases z : F4 D with
                | none => rfl
                | some o => exact absurd (ex4.newF D hDF3 (by rw [z]; simp)) (by rw [hD3]; simp)
              have ra4 := ((ra.mono ex2.pre ex2.sF).mono ex3.pre ex3.sF).mono ex4.pre ex4.sF
              have hll := ra4.len
              rw [List.length_reverse] at hll
              by_cases hacc : acc.length < line
              · rw [if_pos hacc] at q4
                refine ⟨avs, hD4, by rw [← hll, ← line_eq]; exact hacc, trivial, hlt, ι4, F4, st4, w :: acc, avs ++ [y], s4.other hDι4 hDF4, (exB.trans ex4).other hD, upd_same, hDι4, hDF4, ?_, q4⟩
                rw [List.reverse_cons]
                exact ra4.append (.one rw4)
              · rw [if_neg hacc] at q4
                exact q4.elim
      · -- the end
        have hz : i = items.length := by omega
        subst hz
        rw [List.drop_length] at q'
        simp only [compL] at q'
        have hdep : depOk st' deps = true := by
          by_cases hd : depOk st' deps = true
          · exact hd
          · rw [if_neg hd] at q'; exact q'.elim
        rw [if_pos hdep] at q'
        simp only [R.bind_ok] at q'
        refine .inl ⟨hJ.stops ι' F' H' st' ex'.pre ex'.sF s' hdep, ?_⟩
        obtain ⟨ι2, F2, st2, em, s2, ex2, r2⟩ := s'.take ex' hD hDι hDF hD' ra mu
        rw [em] at q'
        split at q'
        · exact q' ι2 F2 H' (.ref D) ex2 s2 r2
        · exact q'.elim
    · rename_i e2
      rw [e2] at q
      exact q
theorem xe_comp {elt tg iter : Expr} {ifs : List Expr} {scope : Scope} {own : List (Str × Nat)} {mu : Bool} {me : ME} {t : Tg} {ik : IK} {src mifs : List ME} (hc : X.calm = true) (hN : X.N.Nodup) (gx : GoodX X Wi.E) (hi : PI X tg iter (tIt X.K C ik src)) (ok : BlkOk X.N X.env.scope scope own) (hsub : ∀ i ∈ tgSlots t, i ∈ own.map (·.2))
    (P : Parts X Wi.E elt tg ifs scope (tGm X.K t) (tIfs X.K C mifs) (tE X.K C me)) (hs : ∀ x, foldedSetIterable iter X.env x = pure x) :
    PE X (.ListComp elt [⟨tg, iter, ifs, 0⟩] scope pos) (tE X.K C (.comp mu (own.map (·.2)) me t ik src mifs)) :=
  (pe_lcX hc hN gx hi ok P hs).weak fun σ H Q q => comp_red hsub q
end
end MP

/-! MiniC2: list(range(..)), tuple(range(..)). -/
namespace MP
open PySem PySem.Spec PyProof.Rows L2
variable [Wi : Wish]
section
variable {X : Cx} {C : Fns} {a b : Expr} {ma mb : ME} {p p2 pos pos2 : Pos}
theorem reps_rg {K : PySem.W.Frag} {ι : List Addr} {F : Hp} (lo hi : Int) : Reps K ι F (rangeL lo (hi - lo).toNat) (rgV lo hi) := by
  unfold rangeL rgV
  induction (List.range (hi - lo).toNat) with
  | nil => exact .nil
  | cons k ks ih => exact .cons (.int _) ih
theorem rg_ok {lo hi : Int} (h1 : small62 lo = true) (h2 : small62 hi = true) (h : (rgV lo hi).length ≤ sizeLine) : RgOk lo hi := by
  rw [rgV_length] at h
  exact ⟨(small_ok h1).1, (small_ok h1).2, (small_ok h2).1, (small_ok h2).2, h⟩
theorem small_0 : small62 0 = true := by decide
theorem noX_ok {r : R (List MV)} {k : List MV → Store → R MV} {ι : List Addr} {F H : Hp} {Q : VK} (h : PostE X.K ι F H Q ((srcX .range r).bind k)) : ∃ vs st, r = .ok vs st ∧ PostE X.K ι F H Q (k vs st) := by
  cases r with
  | ok vs st => exact ⟨vs, st, rfl, h⟩
  | exc c v st => exact h.elim
  | stuck => exact h.elim
theorem xe_rg1 {mu tup : Bool} {f : Str} (hc : X.calm = true) (hf : (f = "list" ∧ tup = false) ∨ (f = "tuple" ∧ tup = true)) (hg : Gl X f) (hm : X.mg f = none) (hg2 : Gl X "range") (hm2 : X.mg "range" = none) (ha : PE X a ((tE X.K C) ma))
    (na : starEach [a] X.env = (false, eval a X.env) :: starEach [] X.env) (hdb : (f == ("__debug__" : Str)) = false) : PE X (.Call (.Name f p) [.Call (.Name "range" p2) [a] [] pos2] [] pos) ((tE X.K C) (.listIt mu tup .range [ma])) := by
  have key : ∀ σ H Q, (tE X.K C) (.listIt mu tup .range [ma]) σ H Q → tRg1 ((tE X.K C) ma) σ H fun lo hi H1 => RgOk lo hi ∧ ∀ q, H1 q = none → Q (.ref q) (upd H1 q (if tup then .tup (rgV lo hi) else .lst (rgV lo hi))) := fun σ H Q ⟨ι, F, env, st, sm, en, q⟩ => by
    simp only [eE] at q
    obtain ⟨vs, st1, e1, q1⟩ := noX_ok q
    obtain ⟨v, rfl, e2⟩ := es_one e1
    refine ⟨ι, F, env, st, sm, en, ?_⟩
    rw [e2]
    intro ι1 F1 H1 x ex s1 r1
    have q2 := q1.ext ex
    cases r1 with
    | int n =>
      simp only [itemsM] at q2
      split at q2
      · exact q2.elim
      · rename_i items deps he
        split at he
        · rename_i hn
          simp only [Option.some.injEq, Prod.mk.injEq] at he
          obtain ⟨rfl, rfl⟩ := he
          have rr : Reps X.K ι1 F1 (rangeL 0 n.toNat) (rgV 0 n) := by
            have := reps_rg (K := X.K) (ι := ι1) (F := F1) 0 n
            rwa [Int.sub_zero] at this
          refine ⟨n, rfl, ?_⟩
          cases tup with
          | true =>
            obtain ⟨l1, l2⟩ := mkT_ok s1 rr q2
            exact ⟨rg_ok small_0 hn l1, l2⟩
          | false =>
            obtain ⟨l1, l2⟩ := mkL_ok s1 rr q2
            exact ⟨rg_ok small_0 hn l1, l2⟩
        · cases he
    | _ => simp [itemsM] at q2; exact q2.elim
  rcases hf with ⟨rfl, rfl⟩ | ⟨rfl, rfl⟩
  · exact (pe_listRg hc hg hm (prg_1 hg2 hm2 ha na) rfl).weak fun σ H Q q => key σ H Q q
  · exact (pe_tupRg hc hg hm (prg_1 hg2 hm2 ha na) rfl).weak fun σ H Q q => key σ H Q q
theorem xe_rg2 {mu tup : Bool} {f : Str} (hc : X.calm = true) (hf : (f = "list" ∧ tup = false) ∨ (f = "tuple" ∧ tup = true)) (hg : Gl X f) (hm : X.mg f = none) (hg2 : Gl X "range") (hm2 : X.mg "range" = none) (ha : PE X a ((tE X.K C) ma)) (hb : PE X b ((tE X.K C) mb))
    (na : starEach [a, b] X.env = (false, eval a X.env) :: starEach [b] X.env) (nb : starEach [b] X.env = (false, eval b X.env) :: starEach [] X.env) (hp : (backTo pos2 (starEach [b] X.env)).any (·.1) = false) (hdb : (f == ("__debug__" : Str)) = false) : PE X (.Call (.Name f p) [.Call (.Name "range" p2) [a, b] [] pos2] [] pos) ((tE X.K C) (.listIt mu tup .range [ma, mb])) := by
  have key : ∀ σ H Q, (tE X.K C) (.listIt mu tup .range [ma, mb]) σ H Q → tRg2 ((tE X.K C) ma) ((tE X.K C) mb) σ H fun lo hi H1 => RgOk lo hi ∧ ∀ q, H1 q = none → Q (.ref q) (upd H1 q (if tup then .tup (rgV lo hi) else .lst (rgV lo hi))) := fun σ H Q ⟨ι, F, env, st, sm, en, q⟩ => by
    simp only [eE] at q
    obtain ⟨vs, st2, e1, q1⟩ := noX_ok q
    simp only [eEs] at e1
    cases ea : eE C ma env st with
    | exc c v s => rw [ea] at e1; cases e1
    | stuck => rw [ea] at e1; cases e1
    | ok v s =>
    rw [ea] at e1
    simp only [R.bind_ok] at e1
    cases eb : eE C mb env s with
    | exc c v s => rw [eb] at e1; cases e1
    | stuck => rw [eb] at e1; cases e1
    | ok w s2 =>
    rw [eb] at e1
    simp only [R.bind_ok, R.ok.injEq] at e1
    obtain ⟨rfl, rfl⟩ := e1
    refine ⟨ι, F, env, st, sm, en, ?_⟩
    rw [ea]
    intro ι1 F1 H1 x ex s1 r1
    refine ⟨ι1, F1, env, s, s1, en.mono ex, ?_⟩
    rw [eb]
    intro ι2 F2 H2 y ex2 s3 r2
    have q2 := q1.ext (ex.trans ex2)
    have r1' := r1.mono ex2.pre ex2.sF
    cases r1' with
    | int i =>
      cases r2 with
      | int j =>
        simp only [itemsM] at q2
        split at q2
        · exact q2.elim
        · rename_i items deps he
          split at he
          · rename_i hn
            rw [Bool.and_eq_true] at hn
            simp only [Option.some.injEq, Prod.mk.injEq] at he
            obtain ⟨rfl, rfl⟩ := he
            have rr : Reps X.K ι2 F2 (rangeL i (j - i).toNat) (rgV i j) := reps_rg i j
            refine ⟨i, j, rfl, rfl, ?_⟩
            cases tup with
            | true =>
              obtain ⟨l1, l2⟩ := mkT_ok s3 rr q2
              exact ⟨rg_ok hn.1 hn.2 l1, l2⟩
            | false =>
              obtain ⟨l1, l2⟩ := mkL_ok s3 rr q2
              exact ⟨rg_ok hn.1 hn.2 l1, l2⟩
          · cases he
      | _ => simp [itemsM] at q2; exact q2.elim
    | _ => simp [itemsM] at q2; exact q2.elim
  rcases hf with ⟨rfl, rfl⟩ | ⟨rfl, rfl⟩
  · exact (pe_listRg hc hg hm (prg_2 hg2 hm2 ha hb na nb hp) rfl).weak fun σ H Q q => key σ H Q q
  · exact (pe_tupRg hc hg hm (prg_2 hg2 hm2 ha hb na nb hp) rfl).weak fun σ H Q q => key σ H Q q
end
end MP

/-! MiniC3: comprehensions of two clauses. -/
namespace MP
open PySem PySem.Spec PyProof.Rows L2
/-- no exception is wished for -/
abbrev wish0 (Wi : Wish) : Wish := ⟨Wi.C, fun _ _ _ => False⟩
theorem post0 {Wi Wi' : Wish} {K : PySem.W.Frag} {ι : List Addr} {F H : Hp} {Q : VK} {r : R MV} (h : @PostE Wi K ι F H Q r.noX) : @PostE Wi' K ι F H Q r := by
  cases r with
  | ok v st => exact h
  | exc c v st => exact h.elim
  | stuck => exact h
theorem tYes_if {σ : L2.St} {H : Hp} {A B : Hp → Prop} (h : A H) : tYes σ H (fun b H3 => if b = true then A H3 else B H3) := by show (if true = true then A H else B H); rw [if_pos rfl]; exact h
variable [Wi : Wish]
section
variable {X : Cx} {C : Fns} {pos : Pos}
def turn2 (C : Fns) (t2 : Tg) (me : ME) (own2 : List Nat) (env1 : Env) : MV → Store → R (Option MV) := fun y s => match asgT t2 y (wipeE own2 env1) with
  | none => .stuck
  | some env2 => (eE C me env2 s).noX.bind fun z s3 => .ok (some z) s3
def turn1 (C : Fns) (t t2 : Tg) (me : ME) (own own2 : List Nat) (ik2 : IK) (src2 : List ME) (env : Env) : MV → List MV → Store → R (List MV) := fun x acc s => match asgT t x (wipeE own env) with
  | none => .stuck
  | some env1 => (eEs C src2 env1 s).noX.bind fun vs2 s2 => match itemsM ik2 vs2 s2 with
    | none => .stuck
    | some (items2, deps2) => compL deps2 (turn2 C t2 me own2 env1) items2 acc.reverse s2
theorem eE_comp2 {mu : Bool} {own own2 : List Nat} {me : ME} {t t2 : Tg} {ik ik2 : IK} {src src2 : List ME} {env : Env} {st : Store} : eE C (.comp2 mu own me t ik src own2 t2 ik2 src2) env st = (srcX ik (eEs C src env st)).bind fun vs st1 => match itemsM ik vs st1 with
    | none => .stuck
    | some (items, deps) => (outL deps (turn1 C t t2 me own own2 ik2 src2 env) items [] st1).bind fun xs st2 => mkL mu xs st2 := by
  simp only [eE]
  rfl
theorem comp2_red {mu : Bool} {own : List Nat} {me : ME} {t t2 : Tg} {ik ik2 : IK} {src src2 : List ME} (hsub : ∀ i ∈ tgSlots t, i ∈ own) {σ : L2.St} {H : Hp} {Q : VK} (h : tE X.K C (.comp2 mu own me t ik src (tgSlots t2) t2 ik2 src2) σ H Q) :
    tLc2 (tIt X.K C ik src) (tGm X.K t) tYes (@tIt (wish0 Wi) X.K C ik2 src2) (tGm X.K t2) tYes (@tE (wish0 Wi) X.K C me) own (tgSlots t2) σ H Q := by
  obtain ⟨ι, F, env, st, sm, en, q⟩ := h
  rw [eE_comp2] at q
  refine ⟨ι, F, env, st, sm, en, ?_⟩
  cases e1 : srcX ik (eEs C src env st) with
  | exc c v st1 => rw [e1] at q; exact q
  | stuck => rw [e1] at q; exact q
  | ok vs st1 =>
    rw [e1] at q
    simp only [R.bind_ok] at q
    simp only [PostI]
    split
    · rename_i items deps e2
      rw [e2] at q
      simp only at q
      intro ι1 F1 H1 J ex1 s1 hJ D hD
      have q := q.ext ex1
      have en1 : EnvR X.K ι1 F1 env σ := en.mono ex1
      -- a state: acc what is gathered
      let St : List MV → Hp → Store → Prop := fun acc H' st' => ∃ ι' F' avs, Sim X.K ι' F' H' st' ∧ Ext ι1 F1 H1 ι' F' H' ∧ H' D = some (.lst avs) ∧ D ∉ ι' ∧ F' D = none ∧ Reps X.K ι' F' acc avs
      refine ⟨fun i m H' => m = items.length - i ∧ i ≤ items.length ∧ ∃ st' acc, St acc H' st' ∧ PostE X.K ι1 F1 H1 Q ((outL deps (turn1 C t t2 me own (tgSlots t2) ik2 src2 env) (items.drop i) acc st').bind fun xs st2 => mkL mu xs st2),
        ⟨items.length, by simp, Nat.zero_le _, st1, [], ⟨ι1, F1, [], s1.other (s1.notι hD) (s1.notF hD), Ext.refl.other hD, upd_same, s1.notι hD, s1.notF hD, .nil⟩, by rw [List.drop_zero]; exact q⟩, ?_⟩
      rintro i m H' ⟨rfl, hi, st', acc, ⟨ι', F', avs, s', ex', hD', hDι, hDF, ra⟩, q'⟩
      by_cases hlt : i < items.length
      · rw [List.drop_eq_getElem_cons hlt] at q'
        simp only [outL] at q'
        have hdep : depOk st' deps = true := by
          by_cases hd : depOk st' deps = true
          · exact hd
          · rw [if_neg hd] at q'; exact q'.elim
        rw [if_pos hdep] at q'
        have go := hJ.goes ι' F' H' st' i ex'.pre ex'.sF s' hdep hlt
        refine .inr ⟨go, fun H2 => (fun i m H' => m = items.length - i ∧ i ≤ items.length ∧ ∃ st' acc, St acc H' st' ∧ PostE X.K ι1 F1 H1 Q ((outL deps (turn1 C t t2 me own (tgSlots t2) ik2 src2 env) (items.drop i) acc st').bind fun xs st2 => mkL mu xs st2)) (i + 1) (items.length - (i + 1)) H2, fun H2 h2 => ⟨_, by omega, h2⟩, fun x H2 hy => ?_⟩
        obtain ⟨F2, s2, ex2, m, em, rm⟩ := hJ.yields ι' F' H' st' i x H2 ex'.pre ex'.sF s' hdep hlt hy
        rw [List.getElem?_eq_getElem hlt] at em
        have em' : items[i] = m := Option.some.inj em
        rw [em'] at q'
        cases ea : asgT t m (wipeE own env) with
        | none =>
          have et : turn1 C t t2 me own (tgSlots t2) ik2 src2 env m acc st' = .stuck := by simp only [turn1, ea]
          rw [et] at q'; exact q'.elim
        | some env1 =>
          have et : turn1 C t t2 me own (tgSlots t2) ik2 src2 env m acc st' = (eEs C src2 env1 st').noX.bind fun vs2 s2 => match itemsM ik2 vs2 s2 with
            | none => .stuck
            | some (items2, deps2) => compL deps2 (turn2 C t2 me (tgSlots t2) env1) items2 acc.reverse s2 := by simp only [turn1, ea]
          rw [et] at q'
          have exA := ex'.trans ex2
          refine ⟨ι', F2, wipeE own env, m, env1, s2.same, (en1.mono exA).wipe own, rm, ea, fun σ1 en2 w1 => ⟨?_, ?_⟩⟩
          · rw [w1 own hsub, wipe_wipe]
          · refine tYes_if ?_
            have hD2 : H2 D = some (.lst avs) := ex2.old D _ hD' hDι
            have hDF2 : F2 D = none := by
              cases z : F2 D with
              | none => rfl
              | some o => exact absurd (ex2.newF D hDF (by rw [z]; simp)) (by rw [hD']; simp)
            refine ⟨ι', F2, env1, st', s2, en2, ?_⟩
            cases e3 : eEs C src2 env1 st' with
            | exc c v z => rw [e3] at q'; exact q'.elim
            | stuck => rw [e3] at q'; exact q'.elim
            | ok vs2 st3 =>
              rw [e3] at q'
              rw [srcX_ok]
              simp only [R.noX_ok, R.bind_ok] at q'
              simp only [PostI]
              cases e4 : itemsM ik2 vs2 st3 with
              | none => rw [e4] at q'; exact q'.elim
              | some z =>
              obtain ⟨items2, deps2⟩ := z
              rw [e4] at q'
              simp only at q' ⊢
              intro ι3 F3 H3 J1 ex3 s3 hJ1
              have hDι3 : D ∉ ι3 := fun z => by
                have := ex3.fresh D z hDι
                rw [hD2] at this; cases this
              have hD3 : H3 D = some (.lst avs) := ex3.old D _ hD2 hDι
              have hDF3 : F3 D = none := by
                cases z : F3 D with
                | none => rfl
                | some o => exact absurd (ex3.newF D hDF2 (by rw [z]; simp)) (by rw [hD2]; simp)
              have exB := exA.trans ex3
              have en3 := en2.mono ex3
              -- the inner loop
              let In : Nat → Nat → Hp → Prop := fun j k H' => k = items2.length - j ∧ j ≤ items2.length ∧ ∃ ι' F' st' accr avs, Sim X.K ι' F' H' st' ∧ Ext ι1 F1 H1 ι' F' H' ∧ Pre ι3 ι' ∧ Same F3 F' ∧ H' D = some (.lst avs) ∧ D ∉ ι' ∧ F' D = none ∧ Reps X.K ι' F' accr.reverse avs ∧
                PostE X.K ι1 F1 H1 Q (((compL deps2 (turn2 C t2 me (tgSlots t2) env1) (items2.drop j) accr st').bind fun acc1 st1 => outL deps (turn1 C t t2 me own (tgSlots t2) ik2 src2 env) (items.drop (i + 1)) acc1 st1).bind fun xs st2 => mkL mu xs st2)
              refine ⟨In, ⟨items2.length, by simp, Nat.zero_le _, ι3, F3, st3, acc.reverse, avs, s3, exB, Pre.refl, Same.rfl', hD3, hDι3, hDF3, by rw [List.reverse_reverse]; exact (ra.mono ex2.pre ex2.sF).mono ex3.pre ex3.sF, by rw [List.drop_zero]; exact q'⟩, ?_⟩
              rintro j k H4 ⟨rfl, hj, ι4, F4, st4, accr, av4, s4, ex4, pre4, sF4, hD4, hDι4, hDF4, ra4, q4⟩
              by_cases hlt2 : j < items2.length
              · rw [List.drop_eq_getElem_cons hlt2] at q4
                simp only [compL] at q4
                have hdep2 : depOk st4 deps2 = true := by
                  by_cases hd : depOk st4 deps2 = true
                  · exact hd
                  · rw [if_neg hd] at q4; exact q4.elim
                rw [if_pos hdep2] at q4
                refine .inr ⟨hJ1.goes ι4 F4 H4 st4 j pre4 sF4 s4 hdep2 hlt2, fun H5 => In (j + 1) (items2.length - (j + 1)) H5, fun H5 h5 => ⟨_, by omega, h5⟩, fun y H5 hy2 => ?_⟩
                obtain ⟨F5, s5, ex5, m2, em2, rm2⟩ := hJ1.yields ι4 F4 H4 st4 j y H5 pre4 sF4 s4 hdep2 hlt2 hy2
                rw [List.getElem?_eq_getElem hlt2] at em2
                rw [Option.some.inj em2] at q4
                cases ea2 : asgT t2 m2 (wipeE (tgSlots t2) env1) with
                | none =>
                  have et : turn2 C t2 me (tgSlots t2) env1 m2 st4 = .stuck := by simp only [turn2, ea2]
                  rw [et] at q4; exact q4.elim
                | some env2 =>
                  have et : turn2 C t2 me (tgSlots t2) env1 m2 st4 = (eE C me env2 st4).noX.bind fun z s3 => .ok (some z) s3 := by simp only [turn2, ea2]
                  rw [et] at q4
                  have exC := ex4.trans ex5
                  have sF5 : Same F3 F5 := fun p o z => ex5.sF p o (sF4 p o z)
                  refine ⟨ι4, F5, wipeE (tgSlots t2) env1, m2, env2, s5.same, ⟨((en2.mono ex3).wipe (tgSlots t2)).1, fun n v hv => ?_⟩, rm2, ea2, fun σ3 en5 w3 => ⟨?_, ?_⟩⟩
                  · obtain ⟨x1, h1, h2⟩ := ((en2.mono ex3).wipe (tgSlots t2)).2 n v hv
                    exact ⟨x1, h1, h2.mono pre4 sF5⟩
                  · rw [w3 (tgSlots t2) (fun _ h => h), wipe_wipe]
                  · refine tYes_if ?_
                    have hD5 : H5 D = some (.lst av4) := ex5.old D _ hD4 hDι4
                    have hDF5 : F5 D = none := by
                      cases z : F5 D with
                      | none => rfl
                      | some o => exact absurd (ex5.newF D hDF4 (by rw [z]; simp)) (by rw [hD4]; simp)
                    simp only [R.bind_assoc, R.bind_ok] at q4
                    refine ⟨ι4, F5, env2, st4, s5, en5, post0 (Wi := Wi) ((PostE.bindAt (ι := ι4) (F := F5) (H := H5) exC q4).mono fun w H6 hw => ?_)⟩
                    obtain ⟨ι6, F6, wv, st6, ex6, s6, rw6, q6⟩ := hw
                    have hDι6 : D ∉ ι6 := fun z => by
                      have := ex6.fresh D z hDι4
                      rw [hD5] at this; cases this
                    have hD6 : H6 D = some (.lst av4) := ex6.old D _ hD5 hDι4
                    have hDF6 : F6 D = none := by
                      cases z : F6 D with
                      | none => rfl
                      | some o => exact absurd (ex6.newF D hDF5 (by rw [z]; simp)) (by rw [hD5]; simp)
                    have ra6 := (ra4.mono ex5.pre ex5.sF).mono ex6.pre ex6.sF
                    have hll := ra6.len
                    rw [List.length_reverse] at hll
                    by_cases hacc : accr.length < line
                    · rw [if_pos hacc] at q6
                      refine ⟨av4, hD6, by rw [← hll, ← line_eq]; exact hacc, rfl, hlt2, ι6, F6, st6, wv :: accr, av4 ++ [w], s6.other hDι6 hDF6, (exC.trans ex6).other hD, pre4.trans ex6.pre, fun p o z => ex6.sF p o (sF5 p o z), upd_same, hDι6, hDF6, ?_, by rw [R.bind_assoc]; exact q6⟩
                      rw [List.reverse_cons]
                      exact ra6.append (.one rw6)
                    · rw [if_neg hacc] at q6
                      exact q6.elim
              · have hz : j = items2.length := by omega
                subst hz
                rw [List.drop_length] at q4
                simp only [compL] at q4
                have hdep2 : depOk st4 deps2 = true := by
                  by_cases hd : depOk st4 deps2 = true
                  · exact hd
                  · rw [if_neg hd] at q4; exact q4.elim
                rw [if_pos hdep2] at q4
                simp only [R.bind_ok] at q4
                exact .inl ⟨hJ1.stops ι4 F4 H4 st4 pre4 sF4 s4 hdep2, trivial, hlt, st4, accr.reverse, ⟨ι4, F4, av4, s4, ex4, hD4, hDι4, hDF4, ra4⟩, q4⟩
      · have hz : i = items.length := by omega
        subst hz
        rw [List.drop_length] at q'
        simp only [outL] at q'
        have hdep : depOk st' deps = true := by
          by_cases hd : depOk st' deps = true
          · exact hd
          · rw [if_neg hd] at q'; exact q'.elim
        rw [if_pos hdep] at q'
        simp only [R.bind_ok] at q'
        refine .inl ⟨hJ.stops ι' F' H' st' ex'.pre ex'.sF s' hdep, ?_⟩
        obtain ⟨ι2, F2, st2, em, s2, ex2, r2⟩ := s'.take ex' hD hDι hDF hD' ra mu
        rw [em] at q'
        split at q'
        · exact q' ι2 F2 H' (.ref D) ex2 s2 r2
        · exact q'.elim
    · rename_i e2
      rw [e2] at q
      exact q
theorem xe_comp2 {elt tg iter tg2 iter2 : Expr} {scope : Scope} {own : List (Str × Nat)} {mu : Bool} {me : ME} {t t2 : Tg} {ik ik2 : IK} {src src2 : List ME} (hc : X.calm = true) (hN : X.N.Nodup) (hi : PI X tg iter (tIt X.K C ik src)) (ok : BlkOk X.N X.env.scope scope own)
    (hsub : ∀ i ∈ tgSlots t, i ∈ own.map (·.2)) (hsub2 : ∀ i ∈ tgSlots t2, i ∈ own.map (·.2))
    (hg : ∀ (s : Shared) (H : Hp) (C' : Addr) (cl : List (Str × Addr)) (fp : List Addr), PG (X.blk s H scope (compEnvC scope cl C' X.env) fp) tg (tGm X.K t))
    (hi2 : ∀ (s : Shared) (H : Hp) (C' : Addr) (cl : List (Str × Addr)) (fp : List Addr), PI (X.blk s H scope (compEnvC scope cl C' X.env) fp) tg2 iter2 (@tIt (wish0 Wi) X.K C ik2 src2))
    (hg2 : ∀ (s : Shared) (H : Hp) (C' : Addr) (cl : List (Str × Addr)) (fp : List Addr), PG (X.blk s H scope (compEnvC scope cl C' X.env) fp) tg2 (tGm X.K t2))
    (he : ∀ (s : Shared) (H : Hp) (C' : Addr) (cl : List (Str × Addr)) (fp : List Addr), PE (X.blk s H scope (compEnvC scope cl C' X.env) fp) elt (@tE (wish0 Wi) X.K C me))
    (hs : ∀ x, foldedSetIterable iter X.env x = pure x) (hs2 : ∀ env x, foldedSetIterable iter2 env x = pure x) :
    PE X (.ListComp elt [⟨tg, iter, [], 0⟩, ⟨tg2, iter2, [], 0⟩] scope pos) (tE X.K C (.comp2 mu (own.map (·.2)) me t ik src (tgSlots t2) t2 ik2 src2)) :=
  (pe_lc2 hc hN hi ok hsub2 hg (fun _ _ _ _ _ => pts_nil) hi2 hg2 (fun _ _ _ _ _ => pts_nil) he hs hs2).weak fun σ H Q q => comp2_red hsub q
/-- within the block, nothing is wished -/
theorem goodX_blk0 {s : Shared} {H : Hp} {scope : Scope} {C' : Addr} {cl : List (Str × Addr)} {fp : List Addr} (g : GoodX X Wi.E) : GoodX (X.blk s H scope (compEnvC scope cl C' X.env) fp) (wish0 Wi).E := by
  obtain ⟨e0, r0, L, hst, hf0, hfe, tk⟩ := g
  exact ⟨e0, r0, L, hst, hf0, hfe, fun u s' ⟨a, B, sI, pins, σ, H, cls, d, e, I, nb, up, sky, r1, r2, r3, hE⟩ => hE.elim⟩
end
end MP

/-! MiniSe: len(set(xs)), ints. -/
namespace MP
open PySem PySem.Spec PyProof.Rows L2
variable [Wi : Wish]
theorem firstMet_addI (ns : List Int) : firstMet (fun i => ns.getD i 0) ns.length = ns.foldl addI [] := by
  unfold firstMet
  have e : (List.range ns.length).map (fun i => ns.getD i 0) = ns := by
    apply List.ext_getElem
    · simp
    · intro i h1 h2
      simp [List.getD_eq_getElem?_getD, List.getElem?_eq_getElem h2]
  rw [e]
  rfl
section
variable {X : Cx} {C : Fns} {a : Expr} {ma : ME} {p p2 pos pos2 : Pos}
theorem pe_lenSetG {ta : TE} (hc : X.calm = true) (hg : Gl X "len") (hm : X.mg "len" = none) (hg2 : Gl X "set") (hm2 : X.mg "set" = none) (ha : PE X a ta)
    (na : starEach [a] X.env = (false, eval a X.env) :: starEach [] X.env) : PE X (.Call (.Name "len" p) [.Call (.Name "set" p2) [a] [] pos2] [] pos)
      (fun σ H Q => ta σ H fun x H1 => ∃ (l : Addr) (ns : List Int), x = V.ref l ∧ SqL X.K H1 l (ns.map V.int) ∧ ns.length < 64 ∧ Q (.int ((ns.foldl addI []).length : Nat)) H1) := by
  refine ⟨fun pins s σ H Q I h => ?_⟩
  refine Call_ (ld_blt I hg hm PySem.boot_len ?_)
  refine PyProof.Rows.callWith_builtin1 (PyProof.Rows.args_cons ?_ rfl) rfl rfl
  refine Call_ (ld_blt I hg2 hm2 PyProof.Rows.boot_set ?_)
  refine PyProof.Rows.callWith_type1 (PyProof.Rows.args_cons (thn (ha.run pins s σ H _ I h) fun v s1 ⟨x, H1, I1, r1, q1⟩ => PyProof.Rows.args_nil ?_) na) na rfl
  obtain ⟨l, ns, rfl, hq, h1, q1⟩ := q1
  cases r1
  obtain ⟨its, r, pl, hz⟩ := I1.list hq
  have hl : its.toArray.size = ns.length := by rw [List.size_toArray, ← r.length, List.length_map]
  have hlen : (ns.foldl addI []).length ≤ ns.length := by
    have g : ∀ (l acc : List Int), (l.foldl addI acc).length ≤ acc.length + l.length := by
      intro l
      induction l with
      | nil => intro acc; simp
      | cons x l ih =>
        intro acc
        have := ih (addI acc x)
        have k : (addI acc x).length ≤ acc.length + 1 := by
          unfold addI
          split
          · omega
          · simp
        simp only [List.foldl_cons, List.length_cons]
        omega
    simpa using g ns []
  refine call_set_list (I1.ok.hd hc) pl.isList (ns := ns) (by simpa using r.ints) (by unfold scanBound; omega) fun h' tk hS hk => ?_
  rw [hl, firstMet_addI] at hS
  refine PyProof.Rows.args_nil ?_
  obtain ⟨o, es, ep, t, ho, hex, hd, _, _, _, hf, hn⟩ := hS
  have I2 : Inv X pins σ H1 { s1 with heap := h', toks := tk } := I1.kept fun b o e => hk b o (Heap.lt_size e) e
  refine call_len_set ho hex hd hf (by rw [hn] <;> omega) ⟨.int ((ns.foldl addI []).length : Nat), H1, I2.tok _, ⟨_, by rw [hn]⟩, q1⟩
theorem xe_lenSet (hc : X.calm = true) (hg : Gl X "len") (hm : X.mg "len" = none) (hg2 : Gl X "set") (hm2 : X.mg "set" = none) (ha : PE X a (tE X.K C ma))
    (na : starEach [a] X.env = (false, eval a X.env) :: starEach [] X.env) : PE X (.Call (.Name "len" p) [.Call (.Name "set" p2) [a] [] pos2] [] pos) (tE X.K C (.lenSet ma)) := by
  refine (pe_lenSetG hc hg hm hg2 hm2 ha na).weak fun σ H Q ⟨ι, F, env, st, sm, en, q⟩ => ?_
  simp only [eE] at q
  refine step1 sm en q.bind fun x ι1 F1 H1 v st1 ex s1 en1 r1 q1 => ?_
  split at q1
  · rename_i xs e
    obtain ⟨l, vs, rfl, hx, rr⟩ := lc_ok s1 r1 e
    split at q1
    · rename_i is ei
      obtain ⟨rfl, _⟩ := rr.ints ei
      split at q1
      · rename_i hl
        exact ⟨l, is, rfl, .inl (.inl hx), hl, q1.now s1 (.int _)⟩
      · exact q1.elim
    · exact q1.elim
  · exact q1.elim
end
end MP

/-! MiniSc: the size of a set comprehension of tuples of ints. -/
namespace MP
open PySem PySem.Spec PyProof.Rows L2
section
variable {X : Cx}
/-- a tuple into a set -/
theorem addT_ok {pins : List (Addr × Obj)} {σ : L2.St} {H : Hp} {s : Shared} {E : Value → Shared → Prop} {D b : Addr} {L : List (Addr × List Int)} {k : List Int} {Q : Value → Shared → Prop} (hu : X.A.units + 64 < cLine) (I : L2.Inv X pins σ H s)
    (hD : H D = some (SetTO X.prog X.w D L)) (hL : ∀ p ∈ L, SqT X.K H p.1 (p.2.map V.int)) (hb : SqT X.K H b (k.map V.int)) (hfew : L.length + 1 < 64)
    (h : ∀ s' L', L2.Inv X pins σ (upd H D (SetTO X.prog X.w D L')) s' → (k ∈ L.map (·.2) → L' = L) → (k ∉ L.map (·.2) → L'.Perm ((b, k) :: L)) → Q .none s') :
    wpAny (model X.prog X.w) X.A (call (.builtin "set.add") [.ref D, .ref b]) Q E s := by
  have R0 : SetT0 X.prog X.w s.heap D L := (I.hok D _ hD).1
  obtain ⟨es, ep, t, R⟩ := R0.full fun p hp => I.isT (hL p hp)
  have hx := I.isT hb
  obtain ⟨o, ho, hex, hd⟩ := R.ob
  refine wpAny_call_entry F.slot_set_add ⟨o, ho, hex.1⟩ F.entry_set_add ?_ (F.args_set_add_2 _ _)
  unfold Builtin.«set.add» Builtin.Frozenset.oneOther
  simp only [List.isEmpty_nil, bind_assoc]
  unfold Builtin.Frozenset.addrOf setAdd
  refine wpAny_bind (wpAny_pure ?_)
  try dsimp only
  refine wpAny_bind (wpAny_pure ?_)
  try dsimp only
  refine wpAny_bind ?_
  refine wpAny_holding ?_
  refine wpAny_bind (wpAny_pyHash_tuple (by first | omega | (show X.A.units + 1 < cLine; omega) | (simp; omega)) hx ?_)
  refine add_at (s := { s with toks := s.toks + (k.length + 1) }) R hx (by first | omega | (show X.A.units + 1 < cLine; omega) | (simp; omega)) hfew fun b' h' L' es' ep' t' sb R' c1 c2 => ?_
  show wpAny _ _ (ret Value.none) _ _ _
  obtain ⟨o', ho', _⟩ := R'.ob
  exact wpAny_pure ⟨_, rfl, h _ L' (I.write (e := D) (t' := s.toks + (k.length + 1)) (by rw [hD]; trivial) (.inl rfl) (fun b u hb hu => (sb.2 b hb).trans hu) ⟨o', ho'⟩ (setTO_new R'.t0)) c1 c2⟩
variable {E : XK} {elt tg iter : Expr} {scope : Scope} {own : List (Str × Nat)} {pos pos' : Pos} {wi : TI} {g : TG} {tt : TT} {te : TE}
def SetIs (X : Cx) (D : Addr) (H : Hp) (L : List (Addr × List Int)) : Prop := H D = some (SetTO X.prog X.w D L) ∧ ∀ p ∈ L, SqT X.K H p.1 (p.2.map V.int)
def tSt (X : Cx) (wi : TI) (g : TG) (te : TE) (vs : List Nat) : L2.St → Hp → (Nat → Hp → Prop) → Prop := fun σ H Q => wi σ H fun J H1 => ∀ D, H1 D = none → ∃ W : Nat → Nat → Hp → Prop, (∃ m, W 0 m (upd H1 D (SetTO X.prog X.w D []))) ∧ ∀ i m H, W i m H →
  (J.stop i H ∧ ∃ L, SetIs X D H L ∧ Q L.length H) ∨ (J.go i H ∧ ∃ Nx : Hp → Prop, (∀ H', Nx H' → ∃ m', m' < m ∧ W (i + 1) m' H') ∧ ∀ x H', J.yld i H x H' → g x (wipe σ vs) H' fun σ2 H2 => wipe σ2 vs = wipe σ vs ∧
    te σ2 H2 fun y H4 => ∃ (b : Addr) (k : List Int) (L : List (Addr × List Int)), y = .ref b ∧ SqT X.K H4 b (k.map V.int) ∧ SetIs X D H4 L ∧ L.length + 1 < 64 ∧
      ∀ L', (k ∈ L.map (·.2) → L' = L) → (k ∉ L.map (·.2) → L'.Perm ((b, k) :: L)) → Nx (upd H4 D (SetTO X.prog X.w D L')))
theorem sc_x {pins : List (Addr × Obj)} {s : Shared} {σ : L2.St} {H : Hp} {Q : Nat → Hp → Prop} {use : Option (Value → Sem Unit)} {Qf : Value → Shared → Prop}
    (hu : X.A.units + 64 < cLine) (hc : X.calm = true) (hN : X.N.Nodup) (gx : GoodX X E) (I : L2.Inv X pins σ H s) (hi : PI X tg iter wi) (ok : BlkOk X.N X.env.scope scope own) (P : Parts X E elt tg [] scope g tt te) (hs : ∀ x, foldedSetIterable iter X.env x = pure x)
    (h : tSt X wi g te (own.map (·.2)) σ H Q)
    (fin : ∀ D C s' m H' L, L2.Inv X pins σ H' s' → SetIs X D H' L → Q L.length H' → s'.heap.Ns C m → FpOk X pins H' C → compPost (model X.prog X.w) X.A X.xe use Qf (.ref D) C (.ok .next) s') :
    wpAny (model X.prog X.w) X.A (comprehension (.SetComp elt [⟨tg, iter, [], 0⟩] scope pos) scope X.env pos' (newSet (.type "set")) false (eval iter X.env) use) Qf X.xe s := by
  obtain ⟨e0, r0, L, hst, hf0, hfe, tk⟩ := gx
  have hfree : ∀ y ∈ scope.names, y.2 = .free → ∃ c, X.env.cells.lookup y.1 = some c := fun y hy z => (ok.free y hy z).elim (fun k => I.ok.has _ (.inl k)) fun k => I.ok.has _ (.inr k)
  refine comp_any (use := use) rfl hs (closure_ok hfree) ok.kind (fun y hy z => by rw [ok.uniq y hy, z]) (thn (hi.run pins s σ H _ I h) fun xv s1 hx => thn hx fun itv s2 h2 => ?_)
  obtain ⟨it, fp, tn, J, H2, ei, I2, T, st2, f2, q⟩ := h2
  subst ei
  refine PpSet.newSet_ok (newEnv_comp ?_)
  obtain ⟨D, hD⟩ : ∃ D, s2.heap.objs.size = D := ⟨_, rfl⟩
  rw [hD]
  obtain ⟨Wv, ⟨m0, w0⟩, turn⟩ := q D (I2.hok.fresh (Nat.le_of_eq hD))
  obtain ⟨s3, hs3⟩ : ∃ s3 : Shared, ({ s2 with heap := s2.heap.push { cls := .type "set", dict := none, data := .set #[] 0 (.fresh 0 0 (!X.w.params.followText "set-order")) } } : Shared) = s3 := ⟨_, rfl⟩
  have h3 : s3.heap = s2.heap.push { cls := .type "set", dict := none, data := .set #[] 0 (.fresh 0 0 (!X.w.params.followText "set-order")) } := by rw [← hs3]
  have k3 : ∀ b o, s2.heap.get? b = some o → s3.heap.get? b = some o := fun b o z => by rw [h3]; exact Heap.get?_push_of_some _ z
  have I3 : L2.Inv X pins σ (upd H2 D (SetTO X.prog X.w D [])) s3 := by
    subst hs3
    refine I2.laid (t' := s2.toks) (fun b o z => Heap.get?_push_of_some _ z) (Nat.le_of_eq hD) ?_
    subst hD
    exact setTO_new (setTR_fresh (Heap.get?_push_size _ rfl)).t0
  have f3 : ∀ b ∈ fp, FpOk X pins (upd H2 D (SetTO X.prog X.w D [])) b ∧ b < s3.heap.objs.size := fun b hb => by
    obtain ⟨o, z, _⟩ := T.obj _ _ st2 b hb
    have hlt := Heap.lt_size z
    exact ⟨⟨by rw [upd_ne (by rw [← hD]; exact Nat.ne_of_lt hlt)]; exact (f2 b hb).1, (f2 b hb).2⟩, Heap.lt_size (k3 b o z)⟩
  have st3 : tn 0 s3.heap := T.keep _ _ _ st2 fun b _ o z => k3 b o z
  rw [hs3]
  have I4 := block_start I3 ok hN f3
  have P1 := P.g s3 (upd H2 D (SetTO X.prog X.w D [])) s3.heap.objs.size (cellsFrom (s3.heap.objs.size + 1) scope.names (cloFrom X.env.cells scope.names [])) fp
  have P3 := P.e s3 (upd H2 D (SetTO X.prog X.w D [])) s3.heap.objs.size (cellsFrom (s3.heap.objs.size + 1) scope.names (cloFrom X.env.cells scope.names [])) fp
  show codeAny _ _ (.compStart (.SetComp elt [⟨tg, iter, [], 0⟩] scope pos) 0 (.ref it) (.ref D) (compEnvC scope (cellsFrom (s3.heap.objs.size + 1) scope.names (cloFrom X.env.cells scope.names [])) s3.heap.objs.size X.env))
    (cPost (model X.prog X.w) X.A X.xe use Qf (.ref D) (compEnvC scope (cellsFrom (s3.heap.objs.size + 1) scope.names (cloFrom X.env.cells scope.names [])) s3.heap.objs.size X.env)) { s3 with heap := pushCells (s3.heap.push { cls := .type "dict", data := .dict #[] }) scope.names }
  have cfr : (compEnvC scope (cellsFrom (s3.heap.objs.size + 1) scope.names (cloFrom X.env.cells scope.names [])) s3.heap.objs.size X.env).frame = some L := hfe
  have cL : (compEnvC scope (cellsFrom (s3.heap.objs.size + 1) scope.names (cloFrom X.env.cells scope.names [])) s3.heap.objs.size X.env).locals = s3.heap.objs.size := rfl
  generalize compEnvC scope (cellsFrom (s3.heap.objs.size + 1) scope.names (cloFrom X.env.cells scope.names [])) s3.heap.objs.size X.env = ce at I4 P1 P3 cfr cL ⊢
  generalize upd H2 D (SetTO X.prog X.w D []) = H3 at I3 I4 P1 P3 w0 f3
  have st4 : tn 0 (pushCells (s3.heap.push { cls := .type "dict", data := .dict #[] }) scope.names) := T.keep _ _ _ st3 fun b _ o z => pushCells_keeps _ _ _ _ (Heap.get?_push_of_some _ z)
  generalize hs4 : ({ s3 with heap := pushCells (s3.heap.push { cls := .type "dict", data := .dict #[] }) scope.names } : Shared) = s4 at I4 ⊢
  replace st4 : tn 0 s4.heap := by rw [← hs4]; exact st4
  let xe : Value → Shared → Prop := notedBy (model X.prog X.w) X.A ce fun e s1 => cPost (model X.prog X.w) X.A X.xe use Qf (.ref D) ce (.error e) s1
  have gb : GoodX (blkX X s3 H3 scope ce fp xe) E := ⟨e0, r0, L, hst, hf0, cfr, fun u s' x => leave_blk hst hf0 tk I3 cfr cL (fun b hb => (f3 b hb).1) x⟩
  have pg := P1 xe gb
  have pe := P3 xe gb
  have stat : ∀ {σ' : L2.St} {H' : Hp} {s' : Shared}, L2.Inv (blkX X s3 H3 scope ce fp xe) [] σ' H' s' → (∀ b ∈ fp, H' b = none) → ∀ b ∈ fp, FpOk (blkX X s3 H3 scope ce fp xe) [] H' b := fun I' hn b hb =>
    ⟨hn b hb, (I'.ok.exf b hb).1, I'.ok.exfs b hb, .inl hb, fun x c z => (I'.ok.exf b hb).2 x c z, fun p hp => absurd (show p ∈ ([] : List (Addr × Obj)) ++ [] from hp) (by simp)⟩
  have loop : codeAny (model X.prog X.w) X.A (.compLoop (.SetComp elt [⟨tg, iter, [], 0⟩] scope pos) 0 (.ref it) (.ref D) ce) (cPost (model X.prog X.w) X.A X.xe use Qf (.ref D) ce) s4 := by
    refine PpSet.compLoopS_any (fun n s' => ∃ i H', L2.Inv (blkX X s3 H3 scope ce fp xe) [] (wipe σ (own.map (·.2))) H' s' ∧ tn i s'.heap ∧ (∀ b ∈ fp, H' b = none) ∧ Wv i n H') ?_ m0 ⟨0, H3, I4.wish xe, st4, fun b hb => (f3 b hb).1.1, w0⟩
    rintro n s5 ⟨i, H5, I5, st5, n5, w5⟩
    rcases turn i n H5 w5 with ⟨stop, L5, qL, qq⟩ | ⟨go, Nx, hNx, step⟩
    · refine thnF (T.done (blkX X s3 H3 scope ce fp xe) rfl rfl rfl hc i [] s5 _ H5 (fun _ _ => False) I5 (stat I5 n5) st5 stop) fun rv s6 ⟨er, I6⟩ => ?_
      subst er
      have I7 : L2.Inv X pins σ H5 s6 := I3.call' (ch := fp) I6.os I6.base I6.hok I6.bare fun b hb => ⟨(f3 b hb).1.2.2.2.1, (f3 b hb).1.2.1, (f3 b hb).1.2.2.2.2.1, (f3 b hb).1.2.2.2.2.2⟩
      have nC : H5 ce.locals = none := I6.free
      obtain ⟨m, hn, _⟩ := I6.loc
      have hn : s6.heap.Ns ce.locals m := hn
      exact fin D ce.locals s6 m H5 L5 I7 qL qq hn (I3.fpOk (by rw [cL]; exact Nat.le_refl _) nC)
    · refine thnF (T.item (blkX X s3 H3 scope ce fp xe) rfl rfl rfl hc i [] s5 _ H5 (fun _ _ => False) I5 (stat I5 n5) st5 go) fun rv s6 ⟨u, er, h6⟩ => ?_
      subst er
      refine thnF h6 fun _ s7 ⟨x, H7, I7, r7, y7, st7, n7⟩ => ?_
      refine wpAny_mono (pg.run _ s7 _ H7 x u _ (I7.pinned (stat I7 n7) (T.obj _ _ st7)) r7 (step x H7 y7)) (fun _ s8 ⟨σ8, H8, I8, hw8, q8⟩ => ?_) fun _ _ z => z
      refine wpAny_pure ?_
      rw [if_pos rfl]
      refine wpAny_mono (pe.run _ s8 σ8 H8 _ I8 q8) (fun z s10 ⟨yv, H10, I10, r10, b, k, Lk, ey, hb, ⟨hD10, hT10⟩, hfew, nx⟩ => ?_) fun _ _ z => z
      subst ey
      cases r10
      exact addT_ok (X := blkX X s3 H3 scope ce fp xe) hu I10 hD10 hT10 hb hfew fun s11 L' I11 c1 c2 => by
        obtain ⟨m', hm, w'⟩ := hNx _ (nx L' c1 c2)
        have pin : ∀ b ∈ fp, ∀ o, s7.heap.get? b = some o → s11.heap.get? b = some o ∧ (upd H10 D (SetTO X.prog X.w D L')) b = none := fun b hb o z =>
          let y := I11.pin (b, o) (List.mem_append_right _ (List.mem_append_right _ (mem_pinsAt hb z)))
          ⟨y.1, y.2.1⟩
        refine ⟨m', hm, i + 1, _, (I11.unpinned (pins := [])).weak (by rw [← hw8, wipe_length]) (fun j v z => ?_), T.keep _ _ _ st7 fun b hb o z => (pin b hb o z).1, fun b hb => ?_, w'⟩
        · rw [← hw8] at z
          exact (wipe_some z).1
        · obtain ⟨o, z, _⟩ := T.obj _ _ st7 b hb
          exact (pin b hb o z).2
  exact PpSet.codeAny_compStart_set loop (T.self X.A 0 _ _ _ st4 loop)
theorem pe_lenSetC {p : Pos} (hu : X.A.units + 64 < cLine) (hc : X.calm = true) (hN : X.N.Nodup) (gx : GoodX X E) (hg : Gl X "len") (hm : X.mg "len" = none) (hi : PI X tg iter wi) (ok : BlkOk X.N X.env.scope scope own) (P : Parts X E elt tg [] scope g tt te) (hs : ∀ x, foldedSetIterable iter X.env x = pure x) :
    PE X (.Call (.Name "len" p) [.SetComp elt [⟨tg, iter, [], 0⟩] scope pos] [] pos') (fun σ H Q => tSt X wi g te (own.map (·.2)) σ H fun n H' => Q (.int (n : Nat)) H') := by
  refine ⟨fun pins s σ H Q I h => ?_⟩
  refine Call_ (ld_blt I hg hm PySem.boot_len ?_)
  refine PyProof.Rows.callWith_builtin1 (PyProof.Rows.args_cons ?_ rfl) rfl rfl
  rw [PpSet.eval_SetComp]
  refine sc_x hu hc hN gx I hi ok P hs h fun D C s' m H' L I' ⟨qD, qT⟩ q hn f => ⟨m, hn, fun h'' sb => ?_⟩
  have I2 := I'.turned (t' := s'.toks) (fun b o hb z => (sb.2 b hb).trans z) f.1 f.2.1 f.2.2.2.1 f.2.2.2.2.1 f.2.2.2.2.2
  have R0 : SetT0 X.prog X.w h'' D L := (I2.hok D _ qD).1
  obtain ⟨es, ep, t, R⟩ := R0.full fun p hp => I2.isT (qT p hp)
  obtain ⟨o, ho, hex, hd⟩ := R.ob
  have hsz : es.size = L.length := R.size (s := { s' with heap := h'' })
  have hfw := R.few
  refine PyProof.Rows.args_nil ?_
  refine call_len_set ho hex hd (R.fits (s := { s' with heap := h'' })) (by rw [hsz] <;> omega) ⟨.int (L.length : Nat), H', I2.tok _, ⟨_, by rw [hsz]⟩, q⟩
end
end MP

/-! MiniSd: the size of a set comprehension, as the evaluator says. -/
namespace MP
open PySem PySem.Spec PyProof.Rows L2
variable [Wi : Wish]
section
variable {X : Cx} {C : Fns}
def turnS (C : Fns) (t : Tg) (me : ME) (env : Env) : MV → Store → R MV := fun x s => match asgT t x env with
  | none => .stuck
  | some env1 => eE C me env1 s
theorem eE_setC {own : List Nat} {me : ME} {t : Tg} {ik : IK} {src : List ME} {env : Env} {st : Store} : eE C (.lenSetC own me t ik src) env st = (srcX ik (eEs C src env st)).bind fun vs st1 => match itemsM ik vs st1 with
    | none => .stuck
    | some (items, deps) => (setL deps (turnS C t me (wipeE own env)) items [] st1).bind fun ks st2 => .ok (.int (ks.length : Nat)) st2 := by
  simp only [eE]
  rfl
theorem tupInts_ok {K : PySem.W.Frag} {ι : List Addr} {F : Hp} {w : MV} {y : V} {k : List Int} (r : Rep K ι F w y) (h : tupInts w = some k) : ∃ b, y = .ref b ∧ SqT K F b (k.map V.int) := by
  cases r with
  | tup hp hr =>
    simp only [tupInts] at h
    obtain ⟨rfl, _⟩ := hr.ints h
    exact ⟨_, rfl, hp⟩
  | _ => cases h
theorem set_red {own : List Nat} {me : ME} {t : Tg} {ik : IK} {src : List ME} (hsub : ∀ i ∈ tgSlots t, i ∈ own) {σ : L2.St} {H : Hp} {Q : VK} (h : tE X.K C (.lenSetC own me t ik src) σ H Q) :
    tSt X (tIt X.K C ik src) (tGm X.K t) (tE X.K C me) own σ H fun n H' => Q (.int (n : Nat)) H' := by
  obtain ⟨ι, F, env, st, sm, en, q⟩ := h
  rw [eE_setC] at q
  refine ⟨ι, F, env, st, sm, en, ?_⟩
  cases e1 : srcX ik (eEs C src env st) with
  | exc c v st1 => rw [e1] at q; exact q
  | stuck => rw [e1] at q; exact q
  | ok vs st1 =>
    rw [e1] at q
    simp only [R.bind_ok] at q
    simp only [PostI]
    split
    · rename_i items deps e2
      rw [e2] at q
      simp only at q
      intro ι1 F1 H1 J ex1 s1 hJ D hD
      have q := q.ext ex1
      have en1 : EnvR X.K ι1 F1 env σ := en.mono ex1
      let W : Nat → Nat → Hp → Prop := fun i m H' => m = items.length - i ∧ i ≤ items.length ∧ ∃ ι' F' st' acc L, Sim X.K ι' F' H' st' ∧ Ext ι1 F1 H1 ι' F' H' ∧ H' D = some (SetTO X.prog X.w D L) ∧ D ∉ ι' ∧ F' D = none ∧ (∀ p ∈ L, SqT X.K F' p.1 (p.2.map V.int)) ∧ (L.map (·.2)).Perm acc ∧
        PostE X.K ι1 F1 H1 Q ((setL deps (turnS C t me (wipeE own env)) (items.drop i) acc st').bind fun ks st2 => .ok (.int (ks.length : Nat)) st2)
      refine ⟨W, ⟨items.length, by simp, Nat.zero_le _, ι1, F1, st1, [], [], s1.other (s1.notι hD) (s1.notF hD), Ext.refl.other hD, upd_same, s1.notι hD, s1.notF hD, fun p hp => absurd hp (by simp), .nil, by rw [List.drop_zero]; exact q⟩, ?_⟩
      rintro i m H' ⟨rfl, hi, ι', F', st', acc, L, s', ex', hD', hDι, hDF, hT, hP, q'⟩
      by_cases hlt : i < items.length
      · rw [List.drop_eq_getElem_cons hlt] at q'
        simp only [setL] at q'
        have hdep : depOk st' deps = true := by
          by_cases hd : depOk st' deps = true
          · exact hd
          · rw [if_neg hd] at q'; exact q'.elim
        rw [if_pos hdep] at q'
        have go := hJ.goes ι' F' H' st' i ex'.pre ex'.sF s' hdep hlt
        refine .inr ⟨go, fun H2 => W (i + 1) (items.length - (i + 1)) H2, fun H2 h2 => ⟨_, by omega, h2⟩, fun x H2 hy => ?_⟩
        obtain ⟨F2, s2, ex2, m, em, rm⟩ := hJ.yields ι' F' H' st' i x H2 ex'.pre ex'.sF s' hdep hlt hy
        rw [List.getElem?_eq_getElem hlt] at em
        have em' : items[i] = m := Option.some.inj em
        rw [em'] at q'
        cases ea : asgT t m (wipeE own env) with
        | none =>
          have et : turnS C t me (wipeE own env) m st' = .stuck := by simp only [turnS, ea]
          rw [et] at q'; exact q'.elim
        | some env1 =>
          have et : turnS C t me (wipeE own env) m st' = eE C me env1 st' := by simp only [turnS, ea]
          rw [et] at q'
          have exA := ex'.trans ex2
          refine ⟨ι', F2, wipeE own env, m, env1, s2.same, (en1.mono exA).wipe own, rm, ea, fun σ1 en2 w1 => ⟨?_, ?_⟩⟩
          · rw [w1 own hsub, wipe_wipe]
          · have hD2 : H2 D = some (SetTO X.prog X.w D L) := ex2.old D _ hD' hDι
            have hDF2 : F2 D = none := by
              cases z : F2 D with
              | none => rfl
              | some o => exact absurd (ex2.newF D hDF (by rw [z]; simp)) (by rw [hD']; simp)
            rw [R.bind_assoc] at q'
            refine ⟨ι', F2, env1, st', s2, en2, (PostE.bindAt (ι := ι') (F := F2) (H := H2) exA q').mono fun y H4 hy => ?_⟩
            obtain ⟨ι4, F4, w, st4, ex4, s4, rw4, q4⟩ := hy
            have hDι4 : D ∉ ι4 := fun z => by
              have := ex4.fresh D z hDι
              rw [hD2] at this; cases this
            have hD4 : H4 D = some (SetTO X.prog X.w D L) := ex4.old D _ hD2 hDι
            have hDF4 : F4 D = none := by
              cases z : F4 D with
              | none => rfl
              | some o => exact absurd (ex4.newF D hDF2 (by rw [z]; simp)) (by rw [hD2]; simp)
            have exB := exA.trans ex4
            have hT4 : ∀ p ∈ L, SqT X.K F4 p.1 (p.2.map V.int) := fun p hp => SqTsame ex4.sF (SqTsame ex2.sF (hT p hp))
            split at q4
            · rename_i k ek
              obtain ⟨b, rfl, hb⟩ := tupInts_ok rw4 ek
              have hll : L.length = acc.length := by
                have := hP.length_eq
                rwa [List.length_map] at this
              split at q4
              · rename_i hfew
                refine ⟨b, k, L, rfl, SqTsame s4.same hb, ⟨hD4, fun p hp => SqTsame s4.same (hT4 p hp)⟩, by omega, fun L' c1 c2 => ⟨rfl, hlt, ι4, F4, st4, addK acc k, L', s4.other hDι4 hDF4, ?_, upd_same, hDι4, hDF4, ?_, ?_, q4⟩⟩
                · exact exB.other hD
                · intro p hp
                  by_cases hk : k ∈ L.map (·.2)
                  · rw [c1 hk] at hp
                    exact hT4 p hp
                  · rcases List.mem_cons.mp ((c2 hk).mem_iff.mp hp) with rfl | hp
                    · exact hb
                    · exact hT4 p hp
                · unfold addK
                  by_cases hk : k ∈ L.map (·.2)
                  · rw [c1 hk, if_pos (by simpa using hP.mem_iff.mp hk)]
                    exact hP
                  · rw [if_neg (by simpa using fun z => hk (hP.mem_iff.mpr z))]
                    exact (show (L'.map (·.2)).Perm (k :: L.map (·.2)) from (c2 hk).map (·.2)).trans (hP.cons k)
              · exact q4.elim
            · exact q4.elim
      · have hz : i = items.length := by omega
        subst hz
        rw [List.drop_length] at q'
        simp only [setL] at q'
        have hdep : depOk st' deps = true := by
          by_cases hd : depOk st' deps = true
          · exact hd
          · rw [if_neg hd] at q'; exact q'.elim
        rw [if_pos hdep] at q'
        simp only [R.bind_ok] at q'
        have hll : L.length = acc.length := by
          have := hP.length_eq
          rwa [List.length_map] at this
        refine .inl ⟨hJ.stops ι' F' H' st' ex'.pre ex'.sF s' hdep, L, ⟨hD', fun p hp => SqTsame s'.same (hT p hp)⟩, ?_⟩
        rw [hll]
        exact q' ι' F' H' _ ex' s' (.int _)
    · rename_i e2
      rw [e2] at q
      exact q
theorem xe_lenSetC {elt tg iter : Expr} {scope : Scope} {own : List (Str × Nat)} {me : ME} {t : Tg} {ik : IK} {src : List ME} {tt : TT} {p pos pos' : Pos} (hu : X.A.units + 64 < cLine) (hc : X.calm = true) (hN : X.N.Nodup) (gx : GoodX X Wi.E) (hg : Gl X "len") (hm : X.mg "len" = none) (hi : PI X tg iter (tIt X.K C ik src)) (ok : BlkOk X.N X.env.scope scope own) (hsub : ∀ i ∈ tgSlots t, i ∈ own.map (·.2))
    (P : Parts X Wi.E elt tg [] scope (tGm X.K t) tt (tE X.K C me)) (hs : ∀ x, foldedSetIterable iter X.env x = pure x) :
    PE X (.Call (.Name "len" p) [.SetComp elt [⟨tg, iter, [], 0⟩] scope pos] [] pos') (tE X.K C (.lenSetC (own.map (·.2)) me t ik src)) :=
  (pe_lenSetC hu hc hN gx hg hm hi ok P hs).weak fun σ H Q q => set_red hsub q
end
end MP

/-! MiniM: the translated expression gives what the row's expression gives. -/
namespace MP
open PySem PySem.Spec PyProof.Rows L2
variable [Wi : Wish]

/-- names that may be read -/
def okName (x : Str) : Bool := !(x == ("__debug__" : Str)) && !(x == ("__classdict__" : Str)) && !decide (x = ("__name__" : Str))
structure Good (Γ : TC) (C : Fns) (X : Cx) : Prop where
  hN : X.N = Γ.N
  nd : Γ.N.Nodup
  sc : X.env.scope = Γ.sc
  hfn : X.fn = Γ.fn
  calm : X.calm = true
  ru : X.A.units + 65 < cLine
  okN : Γ.N.all okName = true
  okG : ∀ x g, Γ.G.lookup x = some g → okName x = true
  okF : ∀ x ∈ Γ.free, okName x = true ∧ X.mg x = none
  val : ∀ x v, Γ.G.lookup x = some (.val v) → ∃ u w, X.mg x = some u ∧ RelV w u ∧ ∀ ι F, Rep X.K ι F v w
  bl : ∀ x b, Γ.G.lookup x = some (.bl b) → ∃ id, blId b = .builtin id ∧ X.mg x = some (.builtin id)
  gx : GoodX X Wi.E
  dp : X.A.depth + 5 < recursionLimit
  sup : X.mg "super" = none
  cls : ∀ x c, Γ.G.lookup x = some (.cls c) → BadC X.prog X.K (Wi.C c) ∧ X.mg x = some (.ref (Wi.C c))
  fns : ∀ x i k ds, Γ.G.lookup x = some (.fn i k ds) → ∀ j, FnAt X C x i (ds.drop j)

theorem okName_1 {x : Str} (h : okName x = true) : (x == ("__debug__" : Str)) = false := by
  unfold okName at h
  simp only [Bool.and_eq_true, Bool.not_eq_true'] at h
  exact h.1.1
theorem okName_2 {x : Str} (h : okName x = true) : (x == ("__classdict__" : Str)) = false := by
  unfold okName at h
  simp only [Bool.and_eq_true, Bool.not_eq_true'] at h
  exact h.1.2
theorem okName_3 {x : Str} (h : okName x = true) : x ≠ "__name__" := by
  unfold okName at h
  simp only [Bool.and_eq_true, Bool.not_eq_true', decide_eq_false_iff_not] at h
  exact h.2
theorem vis_ok {sc : Scope} {x : Str} (h : visK sc x = true) : Vis sc x := by
  unfold visK at h
  split at h
  · exact .inl (by assumption)
  · exact .inr (.inl (by assumption))
  · exact .inr (.inr (by assumption))
  · cases h
theorem glob_ok {X : Cx} {x : Str} (h : globK X.env.scope x = true) : Gl X x := by
  unfold globK at h
  split at h
  · rename_i e; exact e
  · cases h
theorem relabel_eq (scope : Scope) (env : PySem.Env) : relabel scope env = relS scope env.scope := rfl

section
variable {Γ : TC} {C : Fns} {X : Cx}
theorem Good.blk (g : Good Γ C X) (s : Shared) (H : Hp) (C' : Addr) (cl : List (Str × Addr)) (fp : List Addr) (scope : Scope) (xe : Value → Shared → Prop) (gx : GoodX (blkX X s H scope (compEnvC scope cl C' X.env) fp xe) Wi.E) :
    Good { Γ with sc := relS scope Γ.sc, fn := fun x => scope.names.lookup x == some .cell } C (blkX X s H scope (compEnvC scope cl C' X.env) fp xe) where
  hN := g.hN
  nd := g.nd
  sc := by show relabel scope X.env = _; rw [← g.sc]; rfl
  hfn := rfl
  calm := g.calm
  ru := g.ru
  okN := g.okN
  okG := g.okG
  okF := g.okF
  val := g.val
  bl := g.bl
  gx := gx
  dp := g.dp
  sup := g.sup
  cls := g.cls
  fns := g.fns
theorem star_plain {e : Expr} {es : List Expr} {env : PySem.Env} (h : ∀ v p, e ≠ .Starred v p) : starEach (e :: es) env = (false, eval e env) :: starEach es env := by
  cases e <;> first | rfl | exact absurd rfl (h _ _)
theorem notStar {n : Nat} {e : Expr} {m : ME} (h : trE n Γ e = some m) : ∀ v p, e ≠ .Starred v p := by
  intro v p z
  subst z
  cases n <;> simp [trE] at h
theorem star_nil (env : PySem.Env) (pos : Pos) : (backTo pos (starEach [] env)).any (·.1) = false := rfl
/-- what a list of arguments gives -/
structure ArgsOk (X : Cx) (C : Fns) (es : List Expr) (ms : List ME) : Prop where
  pa : PA X es (tEs X.K C ms)
  plain : ∀ pos, (backTo pos (starEach es X.env)).any (·.1) = false
theorem ArgsOk.cons {X : Cx} {e : Expr} {es : List Expr} {m : ME} {ms : List ME} (h : PE X e (tE X.K C m)) (hs : ∀ v p, e ≠ .Starred v p) (r : ArgsOk X C es ms) : ArgsOk X C (e :: es) (m :: ms) :=
  ⟨xa_cons h r.pa (star_plain hs), fun pos => by
    rw [star_plain hs]
    show (false || (backTo pos (starEach es X.env)).any (·.1)) = false
    rw [r.plain pos]
    rfl⟩
theorem ArgsOk.nil {X : Cx} : ArgsOk X C [] [] := ⟨xa_nil, fun _ => rfl⟩
theorem plainIx_ok {b : Expr} (h : plainB b = true) : PlainIx b := by
  intro o i
  cases b <;> first | rfl | cases h
theorem base_ok {o : Expr} {m : Str} {env : PySem.Env} (h : attrPlain o = true) : attributeBase o m env (eval o env) = eval o env := by
  cases o <;> first | rfl | simp [attrPlain] at h
theorem folded_ok {it : Expr} (h : ∀ a b c, it ≠ .Set a b c) (env : PySem.Env) (x : Value) : foldedSetIterable it env x = pure x := by
  cases it <;> first | rfl | exact absurd rfl (h _ _ _)

/-! ### the targets -/
theorem tg_ok (g : Good Γ C X) : ∀ (n : Nat) (e : Expr) (t : Tg), trTg Γ n e = some t → PG X e (tGm X.K t) := by
  intro n
  induction n with
  | zero => intro e t h; cases e <;> simp [trTg] at h
  | succ n ih =>
    intro e t h
    cases e with
    | Name x pos =>
      simp only [trTg] at h
      split at h
      · rename_i hs
        split at h
        · rename_i i ei
          simp only [Option.some.injEq] at h
          subst h
          have hl : Loc X.env.scope x ∧ (X.fn x = true ∨ X.env.scope.names.lookup x = some .local) := by
            unfold stoK at hs
            rw [g.sc, g.hfn]
            split at hs
            · rename_i e; exact ⟨.inl e, .inr e⟩
            · rename_i e; exact ⟨.inr e, .inl hs⟩
            · cases hs
          exact xg_name (by rw [g.hN]; exact g.nd) (by rw [g.hN]; exact ixS_get ei) hl.1 hl.2
        · cases h
      · cases h
    | Tuple es k pos =>
      simp only [trTg] at h
      split at h
      · rename_i ts ets
        simp only [Option.some.injEq] at h
        subst h
        have all : ∀ (es : List Expr) (ts : List Tg), optMap (trTg Γ n) es = some ts → PGs X es (tGms X.K ts) ∧ (assignEach es X.env).length = ts.length ∧ (assignEach es X.env).findIdx? (·.1) = none := by
          intro es
          induction es with
          | nil => intro ts h; simp only [optMap, Option.some.injEq] at h; subst h; exact ⟨xgs_nil, rfl, rfl⟩
          | cons e es ihs =>
            intro ts h
            simp only [optMap] at h
            split at h
            · cases h
            · rename_i t et
              split at h
              · cases h
              · rename_i ts' ets
                simp only [Option.some.injEq] at h
                subst h
                obtain ⟨h1, h2, h3⟩ := ihs ts' ets
                have hst : assignEach (e :: es) X.env = (false, assign e X.env) :: assignEach es X.env := by
                  cases e <;> first | rfl | (cases n <;> simp [trTg] at et)
                refine ⟨xgs_cons (ih e t et) h1 (by rw [hst]; rfl), by rw [hst, List.length_cons, h2, List.length_cons], ?_⟩
                rw [hst, List.findIdx?_cons]
                simp [h3]
        obtain ⟨h1, h2, h3⟩ := all es ts ets
        exact xg_tup g.calm h1 h2 h3
      · cases h
    | _ => simp [trTg] at h
end

/-! ### the whole -/
structure AllE (C : Fns) (n : Nat) : Prop where
  e : ∀ [Wi : Wish] Γ X e m, Good Γ C X → trE n Γ e = some m → PE X e (tE X.K C m) ∧ ((∀ c a b p, e ≠ .IfExp c a b p) → PT X e (tT X.K C m))
  b : ∀ [Wi : Wish] Γ X op vs m pos, Good Γ C X → trB n Γ op vs = some m → PE X (.BoolOp op vs pos) (tE X.K C m) ∧ PW X (.BoolOp op vs pos) (tT X.K C m)
  o : ∀ [Wi : Wish] Γ X e m, Good Γ C X → trO n Γ e = some m → PO X e (tOM X.K C m)
  l : ∀ [Wi : Wish] Γ X es ms, Good Γ C X → trL n Γ es = some ms → ArgsOk X C es ms
  r : ∀ [Wi : Wish] Γ X f p a pos m, Good Γ C X → Gl X f → X.mg f = none → trLR n Γ f a pos = some m → PE X (.Call (.Name f p) [a] [] pos) (tE X.K C m)
  i : ∀ [Wi : Wish] Γ X tg it ik src, Good Γ C X → trI n Γ tg it = some (ik, src) → PI X tg it (tIt X.K C ik src) ∧ ∀ x, foldedSetIterable it X.env x = pure x
  s : ∀ [Wi : Wish] Γ X f p a pos m, Good Γ C X → Gl X f → X.mg f = none → trLS n Γ f a = some m → PE X (.Call (.Name f p) [a] [] pos) (tE X.K C m)

section
variable {C : Fns} {Γ : TC} {X : Cx}
theorem notIf_ok {e : Expr} (h : ¬ (!notIf e) = true) : ∀ c a b p, e ≠ .IfExp c a b p := by
  intro c a b p z
  subst z
  exact h rfl
theorem AllE.zero : AllE C 0 := by
  refine ⟨fun Γ X e m _ h => ?_, fun Γ X op vs m pos _ h => ?_, fun Γ X e m _ h => ?_, fun Γ X es ms _ h => ?_, fun Γ X f p a pos m _ _ _ h => ?_, fun Γ X tg it ik src _ h => ?_, fun Γ X f p a pos m _ _ _ h => ?_⟩
  · simp [trE] at h
  · simp [trB] at h
  · simp [trO] at h
  · simp [trL] at h
  · simp [trLR] at h
  · simp [trI] at h
  · simp [trLS] at h
theorem AllE.b_succ {n : Nat} (A : AllE C n) : ∀ Γ X op vs m pos, Good Γ C X → trB (n + 1) Γ op vs = some m → PE X (.BoolOp op vs pos) (tE X.K C m) ∧ PW X (.BoolOp op vs pos) (tT X.K C m) := by
  intro Γ X op vs m pos g h
  simp only [trB] at h
  split at h
  · cases h
  · split at h
    · cases h
    · rename_i a hn
      obtain ⟨h1, h2⟩ := A.e Γ X a m g h
      refine ⟨pe_one h1, ?_⟩
      cases op with
      | And => exact pw_and1 (h2 (notIf_ok hn))
      | Or => exact pw_or1 (h2 (notIf_ok hn))
  · split at h
    · cases h
    · rename_i a b r hn
      split at h
      · rename_i ma mr e1 e2
        simp only [Option.some.injEq] at h
        obtain ⟨h1, h2⟩ := A.e Γ X a ma g e1
        obtain ⟨h3, h4⟩ := A.b Γ X op (b :: r) mr pos g e2
        cases op with
        | And => subst h; exact ⟨xe_and h1 h3, xw_and (h2 (notIf_ok hn)) h4⟩
        | Or => subst h; exact ⟨xe_or h1 h3, xw_or (h2 (notIf_ok hn)) h4⟩
      · cases h
theorem AllE.o_succ {n : Nat} (A : AllE C n) : ∀ Γ X e m, Good Γ C X → trO (n + 1) Γ e = some m → PO X e (tOM X.K C m) := by
  intro Γ X e m g h
  simp only [trO] at h
  split at h
  · simp only [Option.some.injEq] at h
    subst h
    exact xo_none
  · exact xo_some (A.e Γ X _ m g h).1
theorem AllE.l_succ {n : Nat} (A : AllE C n) : ∀ Γ X es ms, Good Γ C X → trL (n + 1) Γ es = some ms → ArgsOk X C es ms := by
  intro Γ X es ms g h
  simp only [trL] at h
  split at h
  · simp only [Option.some.injEq] at h
    subst h
    exact .nil
  · cases h
  · split at h
    · rename_i m ms' e1 e2
      simp only [Option.some.injEq] at h
      subst h
      exact (A.l Γ X _ ms' g e2).cons (A.e Γ X _ m g e1).1 (notStar e1)
    · cases h
theorem freeG_ok (g : Good Γ C X) {x : Str} (h : freeG Γ x = true) : Gl X x ∧ X.mg x = none ∧ okName x = true := by
  unfold freeG at h
  rw [Bool.and_eq_true] at h
  have hm : x ∈ Γ.free := by simpa using h.2
  exact ⟨glob_ok (by rw [g.sc]; exact h.1), (g.okF x hm).2, (g.okF x hm).1⟩
theorem AllE.r_succ {n : Nat} (A : AllE C n) : ∀ Γ X f p a pos m, Good Γ C X → Gl X f → X.mg f = none → trLR (n + 1) Γ f a pos = some m → PE X (.Call (.Name f p) [a] [] pos) (tE X.K C m) := by
  intro Γ X f p a pos m g hg hm h
  simp only [trLR] at h
  split at h
  · exact A.s Γ X f p a pos m g hg hm h
  · rename_i hf
    have hf : (f = "list" ∧ decide (f = "tuple") = false) ∨ (f = "tuple" ∧ decide (f = "tuple") = true) := by
      simp only [Bool.not_eq_true, Bool.not_eq_false', Bool.or_eq_true, decide_eq_true_eq] at hf
      rcases hf with rfl | rfl
      · exact .inl ⟨rfl, by decide⟩
      · exact .inr ⟨rfl, by decide⟩
    have hdb : (f == ("__debug__" : Str)) = false := by
      rcases hf with ⟨rfl, _⟩ | ⟨rfl, _⟩ <;> decide
    split at h
    · rename_i g2 p2 args pos2
      split at h
      · cases h
      · rename_i h2
        simp only [Bool.not_eq_true, Bool.not_eq_false', Bool.and_eq_true, decide_eq_true_eq] at h2
        obtain ⟨h3, rfl⟩ := h2
        obtain ⟨hg2, hm2, _⟩ := freeG_ok g h3
        split at h
        · rename_i x
          split at h
          · rename_i mx e1
            simp only [Option.some.injEq] at h
            subst h
            exact xe_rg1 g.calm hf hg hm hg2 hm2 (A.e Γ X x mx g e1).1 (star_plain (notStar e1)) hdb
          · cases h
        · rename_i x y
          split at h
          · rename_i mx my e1 e2
            simp only [Option.some.injEq] at h
            subst h
            exact xe_rg2 g.calm hf hg hm hg2 hm2 (A.e Γ X x mx g e1).1 (A.e Γ X y my g e2).1 (star_plain (notStar e1)) (star_plain (notStar e2)) ((ArgsOk.nil.cons (A.e Γ X y my g e2).1 (notStar e2)).plain pos2) hdb
          · cases h
        · cases h
    · cases h
theorem AllE.s_succ {n : Nat} (A : AllE C n) : ∀ Γ X f p a pos m, Good Γ C X → Gl X f → X.mg f = none → trLS (n + 1) Γ f a = some m → PE X (.Call (.Name f p) [a] [] pos) (tE X.K C m) := by
  intro Γ X f p a pos m g hg hm h
  simp only [trLS] at h
  split at h
  · cases h
  · rename_i hf
    obtain rfl : f = "len" := by simpa using hf
    split at h
    · rename_i g2 p2 x pos2
      split at h
      · cases h
      · rename_i h2
        simp only [Bool.not_eq_true, Bool.not_eq_false', Bool.and_eq_true, decide_eq_true_eq] at h2
        obtain ⟨h3, rfl⟩ := h2
        obtain ⟨hg2, hm2, _⟩ := freeG_ok g h3
        split at h
        · rename_i mx e1
          simp only [Option.some.injEq] at h
          subst h
          exact xe_lenSet g.calm hg hm hg2 hm2 (A.e Γ X x mx g e1).1 (star_plain (notStar e1))
        · cases h
    · rename_i elt tg it scope cpos
      split at h
      · cases h
      · rename_i hb
        have hb : blkC Γ.N Γ.sc scope (ownIx Γ.N scope.names) = true := by simpa using hb
        split at h
        · rename_i ik src t me ei et ee
          split at h
          · cases h
          · rename_i hsub
            have hsub : ∀ i ∈ tgSlots t, i ∈ (ownIx Γ.N scope.names).map (·.2) := fun i hi => by
              have h' : subL (tgSlots t) ((ownIx Γ.N scope.names).map (·.2)) = true := by simpa using hsub
              unfold subL at h'
              have := List.all_eq_true.mp h' i hi
              simpa using this
            simp only [Option.some.injEq] at h
            subst h
            obtain ⟨hi, hfold⟩ := A.i Γ X tg it ik src g ei
            have ok : BlkOk X.N X.env.scope scope (ownIx Γ.N scope.names) := by rw [g.hN, g.sc]; exact blkOk_by hb
            exact xe_lenSetC (tt := tIfs X.K C []) (by have := g.ru; omega) g.calm (by rw [g.hN]; exact g.nd) g.gx hg hm hi ok hsub
              ⟨fun s H C' cl fp xe gx => tg_ok (g.blk s H C' cl fp scope xe gx) n tg t et, fun s H C' cl fp xe gx => xts_nil, fun s H C' cl fp xe gx => (A.e _ _ elt me (g.blk s H C' cl fp scope xe gx) ee).1⟩ hfold
        · cases h
    · cases h
theorem AllE.i_succ {n : Nat} (A : AllE C n) : ∀ Γ X tg it ik src, Good Γ C X → trI (n + 1) Γ tg it = some (ik, src) → PI X tg it (tIt X.K C ik src) ∧ ∀ x, foldedSetIterable it X.env x = pure x := by
  intro Γ X tg it ik src g h
  have seq : ∀ {it : Expr}, (match trE n Γ it with | some m => some (IK.seq, [m]) | none => none) = some (ik, src) → PI X tg it (tIt X.K C ik src) := fun {it} h => by
    split at h
    · rename_i m e
      simp only [Option.some.injEq, Prod.mk.injEq] at h
      obtain ⟨rfl, rfl⟩ := h
      exact xi_seq (A.e Γ X it m g e).1
    · cases h
  have st1 : ∀ {a : Expr} {m : ME}, trE n Γ a = some m → starEach [a] X.env = [(false, eval a X.env)] := fun {a m} e => star_plain (notStar e)
  simp only [trI] at h
  split at h
  · rename_i f fp args pos
    refine ⟨?_, fun x => folded_ok (by intro a b c z; cases z) _ x⟩
    split at h
    · rename_i hf
      rw [Bool.and_eq_true] at hf
      obtain ⟨hg, hm, hk⟩ := freeG_ok g hf.1
      split at h
      · rename_i er
        subst er
        split at h
        · rename_i a
          split at h
          · rename_i ma e1
            simp only [Option.some.injEq, Prod.mk.injEq] at h
            obtain ⟨rfl, rfl⟩ := h
            exact xi_range1 hg hm (ArgsOk.nil.cons (A.e Γ X a ma g e1).1 (notStar e1)).pa (st1 e1)
          · cases h
        · rename_i a b
          split at h
          · rename_i ma mb e1 e2
            simp only [Option.some.injEq, Prod.mk.injEq] at h
            obtain ⟨rfl, rfl⟩ := h
            have AB := (ArgsOk.nil.cons (A.e Γ X b mb g e2).1 (notStar e2)).cons (A.e Γ X a ma g e1).1 (notStar e1)
            exact xi_range2 hg hm AB.pa (by rw [star_plain (notStar e1), st1 e2]) (st1 e2)
          · cases h
        · cases h
      · split at h
        · rename_i er
          subst er
          split at h
          · rename_i a b
            split at h
            · rename_i ht
              split at h
              · rename_i ma mb e1 e2
                simp only [Option.some.injEq, Prod.mk.injEq] at h
                obtain ⟨rfl, rfl⟩ := h
                cases tg with
                | Tuple elts kk tpos =>
                  have AB := (ArgsOk.nil.cons (A.e Γ X b mb g e2).1 (notStar e2)).cons (A.e Γ X a ma g e1).1 (notStar e1)
                  exact xi_zip hg hm AB.pa (star_plain (notStar e1)) ((ArgsOk.nil.cons (A.e Γ X b mb g e2).1 (notStar e2)).plain pos)
                | _ => cases ht
              · cases h
            · cases h
          · rename_i a b c
            split at h
            · rename_i ht
              split at h
              · rename_i ma mb mc e1 e2 e3
                simp only [Option.some.injEq, Prod.mk.injEq] at h
                obtain ⟨rfl, rfl⟩ := h
                cases tg with
                | Tuple elts kk tpos =>
                  have BC := (ArgsOk.nil.cons (A.e Γ X c mc g e3).1 (notStar e3)).cons (A.e Γ X b mb g e2).1 (notStar e2)
                  have AB := BC.cons (A.e Γ X a ma g e1).1 (notStar e1)
                  exact xi_zip3 hg hm AB.pa (star_plain (notStar e1)) (BC.plain pos)
                | _ => cases ht
              · cases h
            · cases h
          · cases h
        · split at h
          · rename_i er
            subst er
            split at h
            · rename_i a
              split at h
              · rename_i ht
                split at h
                · rename_i ma e1
                  simp only [Option.some.injEq, Prod.mk.injEq] at h
                  obtain ⟨rfl, rfl⟩ := h
                  cases tg with
                  | Tuple elts kk tpos => exact xi_enum hg hm (ArgsOk.nil.cons (A.e Γ X a ma g e1).1 (notStar e1)).pa (st1 e1)
                  | _ => cases ht
                · cases h
              · cases h
            · cases h
          · split at h
            · rename_i er
              subst er
              have rg : ∀ {g2 : Str}, (freeG Γ g2 && decide (g2 = "range")) = true → g2 = "range" ∧ Gl X "range" ∧ X.mg "range" = none := fun {g2} z => by
                rw [Bool.and_eq_true, decide_eq_true_eq] at z
                obtain ⟨z1, rfl⟩ := z
                obtain ⟨z2, z3, _⟩ := freeG_ok g z1
                exact ⟨rfl, z2, z3⟩
              split at h
              · rename_i g2 p2 x pos2
                split at h
                · rename_i z
                  obtain ⟨rfl, hg2, hm2⟩ := rg z
                  split at h
                  · rename_i mx e1
                    simp only [Option.some.injEq, Prod.mk.injEq] at h
                    obtain ⟨rfl, rfl⟩ := h
                    exact xi_revRange1 hg hm hg2 hm2 (A.e Γ X x mx g e1).1 (star_plain (notStar e1)) (star_plain (by intro a b z; cases z))
                  · cases h
                · cases h
              · rename_i g2 p2 x y pos2
                split at h
                · rename_i z
                  obtain ⟨rfl, hg2, hm2⟩ := rg z
                  split at h
                  · rename_i mx my e1 e2
                    simp only [Option.some.injEq, Prod.mk.injEq] at h
                    obtain ⟨rfl, rfl⟩ := h
                    exact xi_revRange2 hg hm hg2 hm2 (A.e Γ X x mx g e1).1 (A.e Γ X y my g e2).1 (star_plain (notStar e1)) (star_plain (notStar e2)) ((ArgsOk.nil.cons (A.e Γ X y my g e2).1 (notStar e2)).plain pos2) (star_plain (by intro a b z; cases z))
                  · cases h
                · cases h
              · rename_i a _ _
                split at h
                · rename_i ma e1
                  simp only [Option.some.injEq, Prod.mk.injEq] at h
                  obtain ⟨rfl, rfl⟩ := h
                  exact xi_rev hg hm (A.e Γ X a ma g e1).1 (star_plain (notStar e1))
                · cases h
              · cases h
            · exact seq h
    · exact seq h
  · cases h
  · rename_i hset hcall
    exact ⟨seq h, fun x => folded_ok (fun a b c z => by subst z; exact hcall a b c rfl) _ x⟩
end
end MP

/-! MiniN: the translated expression, the whole. -/
namespace MP
open PySem PySem.Spec PyProof.Rows L2
variable [Wi : Wish]
section
variable {C : Fns} {Γ : TC} {X : Cx}
/-- a value with its test -/
theorem both {e : Expr} {m : ME} (h : PE X e (tE X.K C m)) (hv : valT e = true) : PE X e (tE X.K C m) ∧ ((∀ c a b p, e ≠ .IfExp c a b p) → PT X e (tT X.K C m)) := ⟨h, fun _ => xt_val h hv⟩
theorem e_name {n : Nat} (g : Good Γ C X) {x : Str} {pos : Pos} {m : ME} (h : trE (n + 1) Γ (.Name x pos) = some m) : PE X (.Name x pos) (tE X.K C m) := by
  simp only [trE] at h
  split at h
  · rename_i hv
    split at h
    · rename_i i ei
      simp only [Option.some.injEq] at h
      subst h
      have hi := ixS_get ei
      have ok := List.all_eq_true.mp g.okN x (List.mem_of_getElem? hi)
      exact xe_var (by rw [g.hN]; exact hi) (by rw [g.sc]; exact vis_ok hv) (okName_1 ok) (okName_2 ok)
    · cases h
  · split at h
    · rename_i hg
      split at h
      · rename_i v ev
        simp only [Option.some.injEq] at h
        subst h
        obtain ⟨u, w, h1, h2, h3⟩ := g.val x v ev
        exact xe_const (pe_glob (glob_ok (by rw [g.sc]; exact hg)) h1 h2 (okName_1 (g.okG x _ ev))) h3
      · cases h
    · cases h
theorem e_const {n : Nat} {c : Const} {k : Nat} {pos : Pos} {m : ME} (h : trE (n + 1) Γ (.Constant c k pos) = some m) : PE X (.Constant c k pos) (tE X.K C m) := by
  simp only [trE] at h
  split at h
  · simp only [Option.some.injEq] at h; subst h; exact xe_const pe_non fun _ _ => .non
  · simp only [Option.some.injEq] at h; subst h; exact xe_const pe_bl fun _ _ => .bl _
  · simp only [Option.some.injEq] at h; subst h; exact xe_const pe_int fun _ _ => .int _
  · simp only [Option.some.injEq] at h; subst h; exact xe_const pe_str fun _ _ => .str _
  · cases h
theorem tysOf_ok (g : Good Γ C X) {t : Expr} {ts : List Ty} (h : tysOf Γ t = some ts) : ∃ (ty : Ty) (p : Pos), ts = [ty] ∧ t = .Name (tyStr ty : Str) p ∧ Gl X (tyStr ty : Str) ∧ X.mg (tyStr ty : Str) = none := by
  cases t with
  | Name x p =>
    simp only [tysOf] at h
    split at h
    · rename_i hf
      split at h
      · rename_i ty ety
        simp only [Option.some.injEq] at h
        have hx : x = (tyStr ty : Str) := by
          unfold tyOf at ety
          repeat' split at ety
          all_goals first
            | (cases ety; rename_i e; exact e)
            | (cases ety; assumption)
            | cases ety
        subst hx
        obtain ⟨h1, h2, _⟩ := freeG_ok g hf
        exact ⟨ty, p, h.symm, rfl, h1, h2⟩
      · cases h
    · cases h
  | _ => simp [tysOf] at h
theorem e_isi (g : Good Γ C X) {a t : Expr} {ma : ME} {m : ME} {p pos : Pos} (ha : PE X a (tE X.K C ma)) (hs : ∀ v p, a ≠ .Starred v p) (hf : Gl X ("isinstance" : Str)) (hm : X.mg ("isinstance" : Str) = none)
    (h : (match tysOf Γ t with | some ts => some (ME.isi ts ma) | none => (match tysOf2 Γ t with | some ts => some (ME.isi ts ma) | none => none)) = some m) : PE X (.Call (.Name "isinstance" p) [a, t] [] pos) (tE X.K C m) := by
  split at h
  · rename_i ts ets
    simp only [Option.some.injEq] at h
    subst h
    obtain ⟨ty, q, rfl, rfl, h1, h2⟩ := tysOf_ok g ets
    exact xe_isi1 hf hm ha h1 h2 (star_plain hs)
  · split at h
    · rename_i ts ets
      simp only [Option.some.injEq] at h
      subst h
      cases t with
      | Tuple es k q =>
        match es, ets with
        | [t1, t2], ets =>
          simp only [tysOf2] at ets
          split at ets
          · rename_i s1 s2 e1 e2
            simp only [Option.some.injEq] at ets
            subst ets
            obtain ⟨ty1, q1, rfl, rfl, h1, h2⟩ := tysOf_ok g e1
            obtain ⟨ty2, q2, rfl, rfl, h3, h4⟩ := tysOf_ok g e2
            exact xe_isi2 hf hm ha h1 h2 h3 h4 (star_plain hs)
          · cases ets
        | [], ets => simp [tysOf2] at ets
        | [_], ets => simp [tysOf2] at ets
        | _ :: _ :: _ :: _, ets => simp [tysOf2] at ets
      | _ => simp [tysOf2] at ets
    · cases h
theorem e_call {n : Nat} (A : AllE C n) (g : Good Γ C X) {f : Str} {p pos : Pos} {args : List Expr} {m : ME} (h : trE (n + 1) Γ (.Call (.Name f p) args [] pos) = some m) : PE X (.Call (.Name f p) args [] pos) (tE X.K C m) := by
  simp only [trE] at h
  split at h
  · cases h
  · rename_i hgl
    have hg : Gl X f := glob_ok (by rw [g.sc]; simpa using hgl)
    split at h
    · rename_i i k ds ef
      split at h
      · rename_i ms ems
        simp only [Option.some.injEq] at h
        subst h
        have AO := A.l Γ X args ms g ems
        have ok := okName_1 (g.okG f _ ef)
        cases args with
        | nil =>
          have em : ms = [] := by
            cases n with
            | zero => simp [trL] at ems
            | succ n => simp only [trL, Option.some.injEq] at ems; exact ems.symm
          subst em
          exact xe_call0 (passes_of_good g.gx) (g.fns f i k ds ef _) hg ok
        | cons a as =>
          have hs : starEach (a :: as) X.env = (false, eval a X.env) :: starEach as X.env := by
            cases n with
            | zero => simp [trL] at ems
            | succ n =>
              simp only [trL] at ems
              split at ems
              · rename_i heq
                cases heq
              · cases ems
              · rename_i hne heq
                simp only [List.cons.injEq] at heq
                obtain ⟨rfl, rfl⟩ := heq
                split at ems
                · rename_i e1 e2
                  exact star_plain (notStar e1)
                · cases ems
          have hp := AO.plain pos
          rw [hs] at hp
          exact xe_call (passes_of_good g.gx) (g.fns f i k ds ef _) hg AO.pa ok hs (by
            have hp' : (false || (backTo pos (starEach as X.env)).any (·.1)) = false := hp
            rw [Bool.false_or] at hp'
            exact hp')
      · cases h
    · rename_i b ef
      split at h
      · rename_i a1 a2
        split at h
        · rename_i m1 m2 e1 e2
          simp only [Option.some.injEq] at h
          subst h
          obtain ⟨id, h1, h2⟩ := g.bl f b ef
          have B := ArgsOk.nil.cons (A.e Γ X a2 m2 g e2).1 (notStar e2)
          have AB := B.cons (A.e Γ X a1 m1 g e1).1 (notStar e1)
          exact xe_bltG g.calm hg h2 h1 AB.pa (okName_1 (g.okG f _ ef)) (star_plain (notStar e1)) (B.plain pos)
        · cases h
      · cases h
    · cases h
    · cases h
    · split at h
      · cases h
      · rename_i hfr
        have hmem : f ∈ Γ.free := by simpa using hfr
        obtain ⟨ok, hm⟩ := g.okF f hmem
        split at h
        · rename_i a t
          split at h
          · rename_i ef
            subst ef
            split at h
            · rename_i ma ema
              exact e_isi g (A.e Γ X a ma g ema).1 (notStar ema) hg hm h
            · cases h
          · split at h
            · rename_i b m1 m2 eb e1 e2
              simp only [Option.some.injEq] at h
              subst h
              have B := ArgsOk.nil.cons (A.e Γ X t m2 g e2).1 (notStar e2)
              have AB := B.cons (A.e Γ X a m1 g e1).1 (notStar e1)
              exact xe_blt g.calm hg hm (boot_bl eb) AB.pa (okName_3 ok) (okName_1 ok) (star_plain (notStar e1)) (B.plain pos)
            · cases h
        · rename_i a
          split at h
          · rename_i b m1 eb e1
            simp only [Option.some.injEq] at h
            subst h
            have AB := ArgsOk.nil.cons (A.e Γ X a m1 g e1).1 (notStar e1)
            exact xe_blt g.calm hg hm (boot_bl eb) AB.pa (okName_3 ok) (okName_1 ok) (star_plain (notStar e1)) (star_nil _ pos)
          · exact A.r Γ X f p a pos m g hg hm h
        · cases h
theorem mtOf_1 {m : Str} {t : Mt} (h : mtOf m 1 = some t) : (m = "append" ∧ t = .append) ∨ (m = "count" ∧ t = .count) ∨ (m = "extend" ∧ t = .extend) := by
  unfold mtOf at h
  rw [if_pos rfl] at h
  split at h
  · rename_i e
    exact .inl ⟨e, (Option.some.inj h).symm⟩
  · split at h
    · rename_i e
      exact .inr (.inl ⟨e, (Option.some.inj h).symm⟩)
    · split at h
      · rename_i e
        exact .inr (.inr ⟨e, (Option.some.inj h).symm⟩)
      · cases h
theorem mtOf_0 {m : Str} {t : Mt} (h : mtOf m 0 = some t) : m = "pop" ∧ t = .pop := by
  unfold mtOf at h
  rw [if_neg (by decide), if_pos rfl] at h
  split at h
  · rename_i e
    cases h
    exact ⟨e, rfl⟩
  · cases h
theorem e_meth {n : Nat} (A : AllE C n) (g : Good Γ C X) {o : Expr} {f : Str} {ap pos : Pos} {args : List Expr} {m : ME} (h : trE (n + 1) Γ (.Call (.Attribute o f ap) args [] pos) = some m) : PE X (.Call (.Attribute o f ap) args [] pos) (tE X.K C m) := by
  simp only [trE] at h
  split at h
  · cases h
  · rename_i hl
    have hl : (ap.endLine == pos.line) = true := by simpa using hl
    split at h
    · split at h
      · rename_i t mo et eo
        split at h
        · rename_i hp
          simp only [Option.some.injEq] at h
          subst h
          obtain ⟨rfl, rfl⟩ := mtOf_0 et
          exact xe_pop (A.e Γ X o mo g eo).1 (base_ok hp) hl
        · cases h
      · cases h
    · rename_i a
      split at h
      · rename_i t mo ma et eo ea
        split at h
        · rename_i hp
          simp only [Option.some.injEq] at h
          subst h
          have hs := star_plain (env := X.env) (es := []) (notStar ea)
          rcases mtOf_1 et with ⟨rfl, rfl⟩ | ⟨rfl, rfl⟩ | ⟨rfl, rfl⟩
          · exact xe_meth1 rfl PySem.F.plainAttrs_list PySem.F.slot_list_append PySem.F.type_list_append (A.e Γ X o mo g eo).1 (A.e Γ X a ma g ea).1 (base_ok hp) hl hs (by rw [hs]; rfl)
          · exact xe_meth1 rfl PySem.F.plainAttrs_list PySem.F.slot_list_count PySem.F.type_list_count (A.e Γ X o mo g eo).1 (A.e Γ X a ma g ea).1 (base_ok hp) hl hs (by rw [hs]; rfl)
          · exact xe_meth1 rfl PySem.F.plainAttrs_list PySem.F.slot_list_extend PySem.F.type_list_extend (A.e Γ X o mo g eo).1 (A.e Γ X a ma g ea).1 (base_ok hp) hl hs (by rw [hs]; rfl)
        · cases h
      · cases h
    · cases h
/-- a comprehension's parts -/
structure CompParts (C : Fns) (Γ : TC) (X : Cx) (elt tg it : Expr) (ifs : List Expr) (scope : Scope) (pos : Pos) (m : ME) : Prop where
  ex : ∃ (me : ME) (t : Tg) (ik : IK) (src mifs : List ME), m = .comp (Γ.muAt pos) ((ownIx Γ.N scope.names).map (·.2)) me t ik src mifs ∧ PI X tg it (tIt X.K C ik src) ∧ BlkOk X.N X.env.scope scope (ownIx Γ.N scope.names) ∧ (∀ i ∈ tgSlots t, i ∈ (ownIx Γ.N scope.names).map (·.2)) ∧
    Parts X Wi.E elt tg ifs scope (tGm X.K t) (tIfs X.K C mifs) (tE X.K C me) ∧ (∀ x, foldedSetIterable it X.env x = pure x)
theorem comp_parts {n : Nat} (A : AllE C n) (g : Good Γ C X) {elt tg it : Expr} {ifs : List Expr} {scope : Scope} {pos : Pos} {m : ME} (h : trE (n + 1) Γ (.ListComp elt [⟨tg, it, ifs, 0⟩] scope pos) = some m) : CompParts C Γ X elt tg it ifs scope pos m := by
  simp only [trE] at h
  split at h
  · cases h
  · rename_i hb
    have hb : blkC Γ.N Γ.sc scope (ownIx Γ.N scope.names) = true := by simpa using hb
    split at h
    · rename_i ik src t me ei et ee
      split at h
      · cases h
      · rename_i hsub
        have hsub : ∀ i ∈ tgSlots t, i ∈ (ownIx Γ.N scope.names).map (·.2) := fun i hi => by
          have h' : subL (tgSlots t) ((ownIx Γ.N scope.names).map (·.2)) = true := by simpa using hsub
          unfold subL at h'
          have := List.all_eq_true.mp h' i hi
          simpa using this
        obtain ⟨hi, hfold⟩ := A.i Γ X tg it ik src g ei
        have ok : BlkOk X.N X.env.scope scope (ownIx Γ.N scope.names) := by rw [g.hN, g.sc]; exact blkOk_by hb
        have fin : ∀ (mifs : List ME), (∀ (s : Shared) (H : Hp) (C' : Addr) (cl : List (Str × Addr)) (fp : List Addr) (xe : Value → Shared → Prop), GoodX (blkX X s H scope (compEnvC scope cl C' X.env) fp xe) Wi.E → PTs (blkX X s H scope (compEnvC scope cl C' X.env) fp xe) ifs (tIfs X.K C mifs)) →
            CompParts C Γ X elt tg it ifs scope pos (.comp (Γ.muAt pos) ((ownIx Γ.N scope.names).map (·.2)) me t ik src mifs) := fun mifs ht =>
          ⟨me, t, ik, src, mifs, rfl, hi, ok, hsub, ⟨fun s H C' cl fp xe gx => tg_ok (g.blk s H C' cl fp scope xe gx) n tg t et, ht, fun s H C' cl fp xe gx => (A.e _ _ elt me (g.blk s H C' cl fp scope xe gx) ee).1⟩, hfold⟩
        split at h
        · simp only [Option.some.injEq] at h
          subst h
          exact fin [] fun s H C' cl fp xe gx => xts_nil
        · rename_i c
          split at h
          · cases h
          · rename_i hn
            split at h
            · rename_i mc ec
              simp only [Option.some.injEq] at h
              subst h
              exact fin [mc] fun s H C' cl fp xe gx => xts_one ((A.e _ _ c mc (g.blk s H C' cl fp scope xe gx) ec).2 (notIf_ok hn))
            · cases h
        · cases h
    · cases h
theorem e_comp {n : Nat} (A : AllE C n) (g : Good Γ C X) {elt tg it : Expr} {ifs : List Expr} {scope : Scope} {pos : Pos} {m : ME} (h : trE (n + 1) Γ (.ListComp elt [⟨tg, it, ifs, 0⟩] scope pos) = some m) : PE X (.ListComp elt [⟨tg, it, ifs, 0⟩] scope pos) (tE X.K C m) := by
  obtain ⟨me, t, ik, src, mifs, rfl, hi, ok, hsub, P, hs⟩ := (comp_parts A g h).ex
  exact xe_comp g.calm (by rw [g.hN]; exact g.nd) g.gx hi ok hsub P hs
theorem subL_ok {xs ys : List Nat} (h : subL xs ys = true) : ∀ i ∈ xs, i ∈ ys := fun i hi => by
  unfold subL at h
  have := List.all_eq_true.mp h i hi
  simpa using this
theorem Good.blk0 (g : Good Γ C X) (s : Shared) (H : Hp) (C' : Addr) (cl : List (Str × Addr)) (fp : List Addr) (scope : Scope) :
    @Good (wish0 Wi) { Γ with sc := relS scope Γ.sc, fn := fun x => scope.names.lookup x == some .cell } C (X.blk s H scope (compEnvC scope cl C' X.env) fp) :=
  @Good.mk (wish0 Wi) _ _ _ g.hN g.nd (by show relabel scope X.env = _; rw [← g.sc]; rfl) rfl g.calm g.ru g.okN g.okG g.okF g.val g.bl (goodX_blk0 g.gx) g.dp g.sup g.cls g.fns
theorem e_comp2 {n : Nat} (A : AllE C n) (g : Good Γ C X) {elt tg it tg2 it2 : Expr} {ifs ifs2 : List Expr} {as as2 : Int} {scope : Scope} {pos : Pos} {m : ME} (h : trE (n + 1) Γ (.ListComp elt [⟨tg, it, ifs, as⟩, ⟨tg2, it2, ifs2, as2⟩] scope pos) = some m) : PE X (.ListComp elt [⟨tg, it, ifs, as⟩, ⟨tg2, it2, ifs2, as2⟩] scope pos) (tE X.K C m) := by
  unfold trE at h
  split at h <;> try (first | (rename_i he; cases he; done) | (cases h; done))
  rename_i elt' tg' it' tg2' it2' scope' pos' he
  cases he
  simp only at h
  split at h
  · cases h
  · rename_i hb
    have hb : (blkC Γ.N Γ.sc scope (ownIx Γ.N scope.names) && notSet it2) = true := by simpa using hb
    rw [Bool.and_eq_true] at hb
    split at h
    · rename_i ik src t ik2 src2 t2 me ei et ei2 et2 ee
      split at h
      · cases h
      · rename_i hsub
        have hsub : (subL (tgSlots t) ((ownIx Γ.N scope.names).map (·.2)) && subL (tgSlots t2) ((ownIx Γ.N scope.names).map (·.2))) = true := by simpa using hsub
        rw [Bool.and_eq_true] at hsub
        simp only [Option.some.injEq] at h
        subst h
        obtain ⟨hi, hfold⟩ := A.i Γ X tg it ik src g ei
        have ok : BlkOk X.N X.env.scope scope (ownIx Γ.N scope.names) := by rw [g.hN, g.sc]; exact blkOk_by hb.1
        refine xe_comp2 g.calm (by rw [g.hN]; exact g.nd) hi ok (subL_ok hsub.1) (subL_ok hsub.2) (fun s H C' cl fp => @tg_ok (wish0 Wi) _ _ _ (g.blk0 s H C' cl fp scope) n tg t et)
          (fun s H C' cl fp => (@AllE.i _ _ A (wish0 Wi) _ _ tg2 it2 ik2 src2 (g.blk0 s H C' cl fp scope) ei2).1) (fun s H C' cl fp => @tg_ok (wish0 Wi) _ _ _ (g.blk0 s H C' cl fp scope) n tg2 t2 et2)
          (fun s H C' cl fp => (@AllE.e _ _ A (wish0 Wi) _ _ elt me (g.blk0 s H C' cl fp scope) ee).1) hfold (fun env x => folded_ok (fun a b c z => ?_) env x)
        rw [z] at hb
        cases hb.2
    · cases h
theorem e_revSl {n : Nat} (A : AllE C n) (g : Good Γ C X) {a : Expr} {lo hi : Option Expr} {s : Expr} {p pos : Pos} {m : ME} (h : trE (n + 1) Γ (.Subscript a (.Slice lo hi (some s) p) pos) = some m) : PE X (.Subscript a (.Slice lo hi (some s) p) pos) (tE X.K C m) := by
  unfold trE at h
  split at h <;> try (first | (rename_i he; cases he; done) | (cases h; done))
  · rename_i he
    cases he
    split at h
    · rename_i ma e1
      simp only [Option.some.injEq] at h
      subst h
      exact xe_revSl (A.e Γ X a ma g e1).1
    · cases h
  · rename_i he
    cases he
    rw [if_neg (by simp [plainB])] at h
    cases h
theorem AllE.e_succ {n : Nat} (A : AllE C n) : ∀ Γ X e m, Good Γ C X → trE (n + 1) Γ e = some m → PE X e (tE X.K C m) ∧ ((∀ c a b p, e ≠ .IfExp c a b p) → PT X e (tT X.K C m)) := by
  intro Γ X e m g h
  cases e with
  | Name x pos => exact both (e_name g h) rfl
  | Constant c k pos => exact both (e_const h) rfl
  | BinOp a o b pos =>
    simp only [trE] at h
    split at h
    · rename_i bo ma mb e1 e2 e3
      simp only [Option.some.injEq] at h
      subst h
      have := xe_bin (X := X) (C := C) (pos := pos) (o := bo) (mu := Γ.muAt pos) (A.e Γ X a ma g e2).1 (A.e Γ X b mb g e3).1
      rw [bopM e1] at this
      exact both this rfl
    · cases h
  | UnaryOp op a pos =>
    cases op with
    | USub =>
      simp only [trE] at h
      split at h
      · rename_i ma e1
        simp only [Option.some.injEq] at h
        subst h
        have hn := xe_neg (pos := pos) (A.e Γ X a ma g e1).1
        exact ⟨hn, fun _ => xt_dis hn fun _ => rfl⟩
      · cases h
    | Not =>
      simp only [trE] at h
      split at h
      · cases h
      · rename_i hn
        split at h
        · rename_i ma e1
          simp only [Option.some.injEq] at h
          subst h
          obtain ⟨h1, h2⟩ := A.e Γ X a ma g e1
          exact ⟨xe_not h1, fun _ => xt_not (h2 (notIf_ok hn))⟩
        · cases h
    | _ => simp [trE] at h
  | BoolOp op vs pos =>
    simp only [trE] at h
    obtain ⟨h1, h2⟩ := A.b Γ X op vs m pos g h
    exact ⟨h1, fun _ => h2.pt⟩
  | IfExp c a b pos =>
    simp only [trE] at h
    split at h
    · cases h
    · rename_i hn
      split at h
      · rename_i mc ma mb e1 e2 e3
        simp only [Option.some.injEq] at h
        subst h
        exact ⟨xe_ite ((A.e Γ X c mc g e1).2 (notIf_ok hn)) (A.e Γ X a ma g e2).1 (A.e Γ X b mb g e3).1, fun z => absurd rfl (z c a b pos)⟩
      · cases h
  | Compare a ops bs pos =>
    match ops, bs, h with
    | [o], [b], h =>
      simp only [trE] at h
      split at h
      · cases h
      · rename_i hb
        split at h
        · rename_i ma mb e1 e2
          simp only [Option.some.injEq] at h
          subst h
          have hb : behindInMarks o b = false := by simpa using hb
          exact ⟨xe_cmp g.ru (A.e Γ X a ma g e1).1 (A.e Γ X b mb g e2).1 hb, fun _ => xt_cmp g.ru (A.e Γ X a ma g e1).1 (A.e Γ X b mb g e2).1 hb⟩
        · cases h
    | [o, p], [b, c], h =>
      simp only [trE] at h
      split at h
      · cases h
      · rename_i hb
        split at h
        · rename_i ma mb mc e1 e2 e3
          simp only [Option.some.injEq] at h
          subst h
          have hb : lastMarks [o, p] [b, c] = false := by
            show behindInMarks p c = false
            simpa using hb
          exact ⟨xe_chain g.ru (A.e Γ X a ma g e1).1 (A.e Γ X b mb g e2).1 (A.e Γ X c mc g e3).1 hb, fun _ => xt_chain g.ru (A.e Γ X a ma g e1).1 (A.e Γ X b mb g e2).1 (A.e Γ X c mc g e3).1 hb⟩
        · cases h
    | [], _, h => simp [trE] at h
    | [_], [], h => simp [trE] at h
    | [_], _ :: _ :: _, h => simp [trE] at h
    | [_, _], [], h => simp [trE] at h
    | [_, _], [_], h => simp [trE] at h
    | [_, _], _ :: _ :: _ :: _, h => simp [trE] at h
    | _ :: _ :: _ :: _, _, h => simp [trE] at h
  | Tuple es k pos =>
    simp only [trE] at h
    split at h
    · rename_i ms e1
      simp only [Option.some.injEq] at h
      subst h
      exact both (xe_tup (A.l Γ X es ms g e1).pa) rfl
    · cases h
  | List es pos =>
    simp only [trE] at h
    split at h
    · rename_i ms e1
      simp only [Option.some.injEq] at h
      subst h
      exact both (xe_lst (A.l Γ X es ms g e1).pa) rfl
    · cases h
  | Subscript a b pos =>
    have ix : trE (n + 1) Γ (.Subscript a b pos) = (if plainB b then (match trE n Γ a, trE n Γ b with | some ma, some mb => some (.idx ma mb) | _, _ => none) else none) → PE X (.Subscript a b pos) (tE X.K C m) ∧ ((∀ c a' b' p, (Expr.Subscript a b pos) ≠ .IfExp c a' b' p) → PT X (.Subscript a b pos) (tT X.K C m)) := fun e => by
      rw [e] at h
      split at h
      · rename_i hp
        split at h
        · rename_i ma mb e1 e2
          simp only [Option.some.injEq] at h
          subst h
          exact both (xe_idx (A.e Γ X a ma g e1).1 (A.e Γ X b mb g e2).1 (plainIx_ok hp)) rfl
        · cases h
      · cases h
    cases b with
    | Slice lo hi st p =>
      cases st with
      | none =>
        simp only [trE] at h
        split at h
        · rename_i ma ml mh e1 e2 e3
          simp only [Option.some.injEq] at h
          subst h
          exact both (xe_slc (A.e Γ X a ma g e1).1 (A.o Γ X lo ml g e2) (A.o Γ X hi mh g e3)) rfl
        · cases h
      | some s => exact both (e_revSl A g h) rfl
    | _ => exact ix (by simp only [trE] <;> rfl)
  | Call f args kws pos =>
    cases kws with
    | cons k ks => cases f <;> simp [trE] at h
    | nil =>
      cases f with
      | Name x p => exact both (e_call A g h) rfl
      | Attribute o x p => exact both (e_meth A g h) rfl
      | _ => simp [trE] at h
  | ListComp elt gens scope pos =>
    match gens, h with
    | [⟨tg, it, ifs, as⟩], h =>
      cases as with
      | ofNat k =>
        cases k with
        | zero => exact both (e_comp A g h) rfl
        | succ k =>
          have h' : (none : Option ME) = some m := h
          cases h'
      | negSucc k =>
        have h' : (none : Option ME) = some m := h
        cases h'
    | [], h => simp [trE] at h
    | [⟨tg, it, ifs, as⟩, ⟨tg2, it2, ifs2, as2⟩], h =>
      exact both (e_comp2 A g h) rfl
    | _ :: _ :: _ :: _, h => simp [trE] at h
  | _ => simp [trE] at h
theorem all_e (C : Fns) : ∀ n, AllE C n
  | 0 => .zero
  | n + 1 => let A := all_e C n; ⟨A.e_succ, A.b_succ, A.o_succ, A.l_succ, A.r_succ, A.i_succ, A.s_succ⟩
end
end MP

/-! MiniP: statements. -/
namespace MP
open PySem PySem.Spec PyProof.Rows L2
variable [Wi : Wish]

def PostS (K : PySem.W.Frag) (ι : List Addr) (F H : Hp) (D : Ends) : Fl → Prop
  | .next env st => ∀ ι' F' H' σ', Ext ι F H ι' F' H' → Sim K ι' F' H' st → EnvR K ι' F' env σ' → D.nx σ' H'
  | .brk env st => ∀ ι' F' H' σ', Ext ι F H ι' F' H' → Sim K ι' F' H' st → EnvR K ι' F' env σ' → D.bk σ' H'
  | .cont env st => ∀ ι' F' H' σ', Ext ι F H ι' F' H' → Sim K ι' F' H' st → EnvR K ι' F' env σ' → D.ct σ' H'
  | .ret v st => ∀ ι' F' H' x, Ext ι F H ι' F' H' → Sim K ι' F' H' st → Rep K ι' F' v x → D.rt x H'
  | .exc c v _ st => PostX K ι F H c v st
  | .stuck => False
section
variable {K : PySem.W.Frag} {ι ι' : List Addr} {F F' H H' : Hp} {D D' : Ends} {Q : VK}
theorem PostS.ext {r : Fl} (e : Ext ι F H ι' F' H') (h : PostS K ι F H D r) : PostS K ι' F' H' D r := by
  cases r with
  | next env st => exact fun ι2 F2 H2 σ e2 s en => h ι2 F2 H2 σ (e.trans e2) s en
  | brk env st => exact fun ι2 F2 H2 σ e2 s en => h ι2 F2 H2 σ (e.trans e2) s en
  | cont env st => exact fun ι2 F2 H2 σ e2 s en => h ι2 F2 H2 σ (e.trans e2) s en
  | ret v st => exact fun ι2 F2 H2 x e2 s r => h ι2 F2 H2 x (e.trans e2) s r
  | exc c v en st => exact fun ι2 F2 H2 d x e2 => h ι2 F2 H2 d x (e.trans e2)
  | stuck => exact h
theorem PostS.bind {env : Env} {r : R MV} {k : MV → Store → Fl} (h : PostS K ι F H D (r.fl env k)) : PostE K ι F H (At K ι F H fun v st1 ι1 F1 H1 => PostS K ι1 F1 H1 D (k v st1)) r := by
  cases r with
  | ok v st => exact fun ι' F' H' x e s p => ⟨ι', F', v, st, e, s, p, h.ext e⟩
  | exc c v st => exact h
  | stuck => exact h
theorem PostS.bindB {env : Env} {r : R Bool} {k : Bool → Store → Fl} (h : PostS K ι F H D (r.fl env k)) :
    PostB K ι F H (fun b H1 => ∃ ι1 F1 st1, Ext ι F H ι1 F1 H1 ∧ Sim K ι1 F1 H1 st1 ∧ PostS K ι1 F1 H1 D (k b st1)) r := by
  cases r with
  | ok v st => exact fun ι' F' H' e s => ⟨ι', F', st, e, s, h.ext e⟩
  | exc c v st => exact h
  | stuck => exact h
end
def tS (K : PySem.W.Frag) (C : Fns) (W : Nat) (m : MS) : TS := fun D σ H => ∃ ι F env st, Sim K ι F H st ∧ EnvR K ι F env σ ∧ PostS K ι F H D (eS C W m env st)
def tSs (K : PySem.W.Frag) (C : Fns) (W : Nat) (ms : List MS) : TS := fun D σ H => ∃ ι F env st, Sim K ι F H st ∧ EnvR K ι F env σ ∧ PostS K ι F H D (eSs C W ms env st)
theorem _root_.L2.PS.weak {X : Cx} {e : Stmt} {t t' : TS} (h : PS X e t) (w : ∀ D σ H, t' D σ H → t D σ H) : PS X e t' := ⟨fun pins s σ H D I q => h.run pins s σ H D I (w D σ H q)⟩
theorem _root_.L2.PSs.weak {X : Cx} {e : List Stmt} {t t' : TS} (h : PSs X e t) (w : ∀ D σ H, t' D σ H → t D σ H) : PSs X e t' := ⟨fun pins s σ H D I q => h.run pins s σ H D I (w D σ H q)⟩

section
variable {X : Cx} {C : Fns} {W : Nat} {a b c e tg : Expr} {ma mb mc me mi mf : ME} {pos p : Pos} {x : Str}
/-- one part evaluated, then what follows -/
theorem stepS {m : ME} {D : Ends} {σ : L2.St} {H : Hp} {ι : List Addr} {F : Hp} {env : Env} {st : Store} {k : MV → Store → Fl} {Q : VK} (sm : Sim X.K ι F H st) (en : EnvR X.K ι F env σ) (h : PostS X.K ι F H D ((eE C m env st).fl env k))
    (q : ∀ x ι1 F1 H1 v st1, Ext ι F H ι1 F1 H1 → Sim X.K ι1 F1 H1 st1 → EnvR X.K ι1 F1 env σ → Rep X.K ι1 F1 v x → PostS X.K ι1 F1 H1 D (k v st1) → Q x H1) : (tE X.K C) m σ H Q :=
  step1 sm en h.bind q
theorem stepSB {m : ME} {D : Ends} {σ : L2.St} {H : Hp} {ι : List Addr} {F : Hp} {env : Env} {st : Store} {k : Bool → Store → Fl} {Q : Bool → Hp → Prop} (sm : Sim X.K ι F H st) (en : EnvR X.K ι F env σ) (h : PostS X.K ι F H D ((toTruth (eE C m env st)).fl env k))
    (q : ∀ x ι1 F1 H1 st1, Ext ι F H ι1 F1 H1 → Sim X.K ι1 F1 H1 st1 → EnvR X.K ι1 F1 env σ → PostS X.K ι1 F1 H1 D (k x st1) → Q x H1) : tT X.K C m σ H Q :=
  step1B sm en h.bindB q
theorem xs_nil : PSs X [] (tSs X.K C W []) := pss_nil.weak fun D σ H ⟨ι, F, env, st, sm, en, q⟩ => q ι F H σ .refl sm en
theorem xs_cons {s : Stmt} {ss : List Stmt} {m : MS} {ms : List MS} (h1 : PS X s (tS X.K C W m)) (h2 : PSs X ss (tSs X.K C W ms)) : PSs X (s :: ss) (tSs X.K C W (m :: ms)) := by
  refine (pss_cons h1 h2).weak fun D σ H ⟨ι, F, env, st, sm, en, q⟩ => ?_
  refine ⟨ι, F, env, st, sm, en, ?_⟩
  simp only [eSs] at q
  cases e : eS C W m env st with
  | next env1 st1 =>
    rw [e] at q
    exact fun ι1 F1 H1 σ1 ex s1 en1 => ⟨ι1, F1, env1, st1, s1, en1, q.ext ex⟩
  | brk env1 st1 => rw [e] at q; exact q
  | cont env1 st1 => rw [e] at q; exact q
  | ret v st1 => rw [e] at q; exact q
  | exc c v e1 st1 => rw [e] at q; exact q
  | stuck => rw [e] at q; exact q
theorem xs_pass : PS X (.Pass pos) (tS X.K C W .pass) := ps_pass.weak fun D σ H ⟨ι, F, env, st, sm, en, q⟩ => q ι F H σ .refl sm en
theorem xs_break : PS X (.Break pos) (tS X.K C W .brk) := ps_break.weak fun D σ H ⟨ι, F, env, st, sm, en, q⟩ => q ι F H σ .refl sm en
theorem xs_cont : PS X (.Continue pos) (tS X.K C W .cont) := ps_continue.weak fun D σ H ⟨ι, F, env, st, sm, en, q⟩ => q ι F H σ .refl sm en
theorem xs_ret (h : PE X e ((tE X.K C) me)) : PS X (.Return (some e) pos) (tS X.K C W (.ret me)) := by
  refine (ps_ret h).weak fun D σ H ⟨ι, F, env, st, sm, en, q⟩ => ?_
  refine stepS sm en q fun x ι1 F1 H1 v st1 ex s1 en1 r1 q1 => ?_
  exact q1 ι1 F1 H1 x .refl s1 r1
theorem xs_retN : PS X (.Return none pos) (tS X.K C W .retN) := ps_retN.weak fun D σ H ⟨ι, F, env, st, sm, en, q⟩ => q ι F H .non .refl sm .non
theorem xs_expr (h : PE X e ((tE X.K C) me)) (hs : swapsWith e none pos.line X.env = pure false) : PS X (.Expr e pos) (tS X.K C W (.expr me)) := by
  refine (ps_expr h hs).weak fun D σ H ⟨ι, F, env, st, sm, en, q⟩ => ?_
  refine stepS sm en q fun x ι1 F1 H1 v st1 ex s1 en1 r1 q1 => ?_
  exact q1 ι1 F1 H1 σ .refl s1 en1
theorem xs_if {A B : List Stmt} {mA mB : List MS} (hc : PT X c (tT X.K C mc)) (ha : PSs X A (tSs X.K C W mA)) (hb : PSs X B (tSs X.K C W mB)) : PS X (.If c A B pos) (tS X.K C W (.ite mc mA mB)) := by
  refine (ps_if hc ha hb).weak fun D σ H ⟨ι, F, env, st, sm, en, q⟩ => ?_
  refine stepSB sm en q fun k ι1 F1 H1 st1 ex s1 en1 q1 => ?_
  cases k with
  | true => exact ⟨ι1, F1, env, st1, s1, en1, q1⟩
  | false => exact ⟨ι1, F1, env, st1, s1, en1, q1⟩
theorem xs_never {s : Stmt} : PS X s (tS X.K C W .bad) := ps_never.weak fun D σ H ⟨ι, F, env, st, sm, en, q⟩ => q
/-- raise C(e) -/
theorem xs_raise {c : Nat} {pos' : Pos} (hc : X.calm = true) (tk : Takes X (wX Wi)) (hdp : X.A.depth + 5 < recursionLimit) (B : BadC X.prog X.K (Wi.C c)) (hg : Gl X x) (hm : X.mg x = some (.ref (Wi.C c))) (hs : X.mg "super" = none) (he : PE X e ((tE X.K C) me))
    (hdb : (x == ("__debug__" : Str)) = false) (hst : starEach [e] X.env = (false, eval e X.env) :: starEach [] X.env) : PS X (.Raise (some (.Call (.Name x p) [e] [] pos)) none pos') (tS X.K C W (.raise c me)) := by
  refine (ps_raise hc tk (pmk_bad B hdp hg hm hs (xa_cons he xa_nil hst) hdb hst)).weak fun D σ H ⟨ι, F, env, st, sm, en, q⟩ => ?_
  simp only [eS] at q
  refine ⟨ι, F, env, st, sm, en, ?_⟩
  simp only [eEs]
  cases e1 : eE C me env st with
  | stuck => rw [e1] at q; exact q.elim
  | exc c' v st1 => rw [e1] at q; exact q
  | ok v st1 =>
    rw [e1] at q
    simp only [R.fl_ok, R.bind_ok] at q ⊢
    intro ι1 F1 H1 xs ex s1 r1
    cases r1 with
    | cons r rr =>
      cases rr
      refine ⟨_, rfl, fun d hd => ?_⟩
      have h0 : H d = none := by
        cases z : H d with
        | none => rfl
        | some o => exact absurd hd (ex.there d o z)
      exact q ι1 F1 _ d _ (ex.other h0) (s1.other (s1.notι hd) (s1.notF hd)) r upd_same
/-- what a target's store leaves -/
theorem asg_red {t : Tg} {D : Ends} {σ : L2.St} {H : Hp} {ι : List Addr} {F : Hp} {env : Env} {st : Store} {v : MV} {x : V} (sm : Sim X.K ι F H st) (en : EnvR X.K ι F env σ) (r : Rep X.K ι F v x)
    (q : PostS X.K ι F H D (match asgT t v env with | some env1 => .next env1 st | none => .stuck)) : tGm X.K t x σ H D.nx := by
  split at q
  · rename_i env1 e
    exact ⟨ι, F, env, v, env1, sm.same, en, r, e, fun σ1 en1 _ => q ι F H σ1 .refl sm en1⟩
  · exact q.elim
theorem xs_asg {t : Tg} (he : PE X e ((tE X.K C) me)) (hg : PG X tg (tGm X.K t)) (hs : swapsWithSole [tg] e pos.line X.env = pure false) (hw : swappedStores [tg] e X.env = pure none) (h1 : (assignEach [tg] X.env).map (·.2) = [assign tg X.env]) :
    PS X (.Assign [tg] e pos) (tS X.K C W (.asg t me)) := by
  refine (ps_asg he hg hs hw h1).weak fun D σ H ⟨ι, F, env, st, sm, en, q⟩ => ?_
  refine stepS sm en q fun x ι1 F1 H1 v st1 ex s1 en1 r1 q1 => ?_
  exact asg_red s1 en1 r1 q1
theorem name_red {i : Nat} {D : Ends} {σ : L2.St} {H : Hp} {ι : List Addr} {F : Hp} {env : Env} {st : Store} {v : MV} {x : V} (sm : Sim X.K ι F H st) (en : EnvR X.K ι F env σ) (r : Rep X.K ι F v x)
    (q : PostS X.K ι F H D (match asgT (.nm i) v env with | some env1 => .next env1 st | none => .stuck)) : D.nx (σ.set i (some x)) H := by
  simp only [asgT] at q
  split at q
  · rename_i env1 e
    split at e
    · rename_i hi
      simp only [Option.some.injEq] at e
      subst e
      exact q ι F H _ .refl sm (en.set hi r)
    · cases e
  · exact q.elim
theorem xs_setLc {i : Nat} {py : Pos} {elt tg iter : Expr} {ifs : List Expr} {scope : Scope} {own : List (Str × Nat)} {cpos : Pos} {mu : Bool} {t : Tg} {ik : IK} {src mifs : List ME} (hc : X.calm = true) (hN : X.N.Nodup) (gx : GoodX X Wi.E) (hy : X.N[i]? = some x) (hyl : X.env.scope.names.lookup x = some .local)
    (hsw : swapsWith (.ListComp elt [⟨tg, iter, ifs, 0⟩] scope cpos) (some (.Name x py)) pos.line X.env = pure true) (hi : PI X tg iter (tIt X.K C ik src)) (ok : BlkOk X.N X.env.scope scope own) (hsub : ∀ i ∈ tgSlots t, i ∈ own.map (·.2))
    (P : Parts X Wi.E elt tg ifs scope (tGm X.K t) (tIfs X.K C mifs) (tE X.K C me)) (hs : ∀ x, foldedSetIterable iter X.env x = pure x) :
    PS X (.Assign [.Name x py] (.ListComp elt [⟨tg, iter, ifs, 0⟩] scope cpos) pos) (tS X.K C W (.asg (.nm i) (.comp mu (own.map (·.2)) me t ik src mifs))) := by
  refine (ps_setLcX hc hN gx hy hyl hsw hi ok P hs).weak fun D σ H ⟨ι, F, env, st, sm, en, q⟩ => ?_
  refine comp_red (mu := mu) hsub (Q := fun x H1 => gName i x σ H1 D.nx) ?_
  refine stepS sm en q fun x ι1 F1 H1 v st1 ex s1 en1 r1 q1 => ?_
  exact name_red s1 en1 r1 q1
theorem xs_setN {i : Nat} {py : Pos} (hN : X.N.Nodup) (hi : X.N[i]? = some x) (hx : Loc X.env.scope x) (he : PE X e ((tE X.K C) me)) (hs : swapsWith e (some (.Name x py)) pos.line X.env = pure false) (hf : X.fn x = true ∨ X.env.scope.names.lookup x = some .local) :
    PS X (.Assign [.Name x py] e pos) (tS X.K C W (.asg (.nm i) me)) := by
  refine (ps_set hN hi hx he hs hf).weak fun D σ H ⟨ι, F, env, st, sm, en, q⟩ => ?_
  refine stepS sm en q fun x ι1 F1 H1 v st1 ex s1 en1 r1 q1 => ?_
  exact name_red s1 en1 r1 q1
/-- a[i] = v -/
def rSet (K : PySem.W.Frag) : V → V → V → Hp → (Hp → Prop) → Prop := fun o i v H Q => ∃ ι F x y z st st', Sim K ι F H st ∧ Rep K ι F x o ∧ Rep K ι F y i ∧ Rep K ι F z v ∧ setM x y z st = some st' ∧ ∀ H', Sim K ι F H' st' → Ext ι F H ι F H' → Q H'
theorem set_ok : PSet X (rSet X.K) := by
  intro pins s σ H o i v ov iv u Q I ro ri rv ⟨ι, F, x, y, z, st, st', sm, r1, r2, r3, e, q⟩
  exact set_mini I ro ri rv sm r1 r2 r3 e q
theorem assign_sub (a i : Expr) (v : Value) (h : plainB i = true) : assign (.Subscript a i p) X.env v = (do
      let ov ← holding [v] (eval a X.env)
      let iv ← holding [v, ov] (eval i X.env)
      standAt p
      holding [v, ov, iv] (setItem ov iv v)
      release [v, ov, iv] []) := by cases i <;> first | rfl | cases h
theorem xs_store {i : Expr} (hpl : plainB i = true) (he : PE X e ((tE X.K C) me)) (ha : PE X a ((tE X.K C) ma)) (hi : PE X i ((tE X.K C) mi)) : PS X (.Assign [.Subscript a i p] e pos) (tS X.K C W (.store ma mi me)) := by
  refine (ps_asg he (pg_sub ha hi set_ok (fun v => assign_sub a i v hpl)) (by cases e <;> rfl) (by rfl) (by rfl)).weak fun D σ H ⟨ι, F, env, st, sm, en, q⟩ => ?_
  simp only [eS] at q
  refine stepS sm en q fun x ι1 F1 H1 v st1 ex s1 en1 r1 q1 => ?_
  refine stepS s1 en1 q1 fun y ι2 F2 H2 w st2 ex2 s2 en2 r2 q2 => ?_
  refine stepS s2 en2 q2 fun z ι3 F3 H3 u st3 ex3 s3 en3 r3 q3 => ?_
  split at q3
  · rename_i st4 e4
    exact ⟨ι3, F3, w, u, v, st3, st4, s3, r2.mono ex3.pre ex3.sF, r3, (r1.mono ex2.pre ex2.sF).mono ex3.pre ex3.sF, e4, fun H' s' e' => q3 ι3 F3 H' σ e' s' (en3.mono e')⟩
  · exact q3.elim
theorem xs_aug {i : Nat} {o : BO} {px : Pos} (hN : X.N.Nodup) (hi : X.N[i]? = some x) (hx : Loc X.env.scope x) (he : PE X e ((tE X.K C) me)) (hf : X.fn x = true ∨ X.env.scope.names.lookup x = some .local) : PS X (.AugAssign (.Name x px) (opOf o) e pos) (tS X.K C W (.aug i o me)) := by
  have ho : PIp X (opOf o) (fun x y H Q => ∃ (ι : List Addr) (F : Hp) (i j : Int) (st : Store), Sim X.K ι F H st ∧ augOk o = true ∧ x = .int i ∧ y = .int j ∧ PostE X.K ι F H Q (binM o false (.int i) (.int j) st)) := by
    intro pins s σ H x y v u Q I r1 r2 ⟨ι, F, i, j, st, sm, ha, e1, e2, q⟩
    subst e1; subst e2
    exact op_aug o ha I sm r1 r2 q
  refine (ps_aug hN hi hx he ho hf).weak fun D σ H ⟨ι, F, env, st, sm, en, q⟩ => ?_
  simp only [eS] at q
  split at q
  · exact q.elim
  · rename_i hok
    have hok : augOk o = true := by simpa using hok
    split at q
    · rename_i v ev
      obtain ⟨x0, ex0, rx0⟩ := en.2 i v ev
      refine ⟨x0, ex0, ?_⟩
      refine stepS sm en q fun y ι1 F1 H1 w st1 ex s1 en1 r1 q1 => ?_
      have rx1 := rx0.mono (K := X.K) ex.pre ex.sF
      cases rx1 with
      | int k1 =>
        cases r1 with
        | int k2 =>
          simp only at q1
          refine ⟨ι1, F1, k1, k2, st1, s1, hok, rfl, rfl, q1.bind.mono fun z H2 ⟨ι2, F2, r, st2, ex2, s2, r2, q2⟩ => ?_⟩
          have hl : i < env.length := (List.getElem?_eq_some_iff.mp ev).1
          exact q2 ι2 F2 H2 _ .refl s2 ((en1.mono ex2).set hl r2)
        | _ => exact q1.elim
      | _ => exact q1.elim
    · exact q.elim
end
end MP

/-! MiniQ: loops, stores by an operator, several targets. -/
namespace MP
open PySem PySem.Spec PyProof.Rows L2
variable [Wi : Wish]

section
variable {X : Cx} {C : Fns} {W : Nat} {a b c e tg i j f : Expr} {ma mb mc me mi mj mf : ME} {pos p : Pos} {x : Str}
/-! ### a[i] op= e -/
theorem get_ok : PGet X (fun o i H Q => ∃ (ι : List Addr) (F : Hp) (x y : MV) (st : Store), Sim X.K ι F H st ∧ Rep X.K ι F x o ∧ Rep X.K ι F y i ∧ isRef x = true ∧ PostE X.K ι F H Q (idxM x y st)) := by
  intro pins s σ H o i ov iv Q I ro ri ⟨ι, F, x, y, st, sm, r1, r2, hx, q⟩
  cases r1 with
  | @ref a p hp =>
    cases ro
    have ha : a < st.length := by rw [← sm.len]; exact (List.getElem?_eq_some_iff.mp hp).1
    obtain ⟨_, vs, h2, h3⟩ := sm.obj a p _ hp (List.getElem?_eq_getElem ha)
    unfold idxM at q
    split at q
    · rename_i k
      cases r2
      obtain ⟨t, rfl⟩ := ri
      simp only [sqc, List.getElem?_eq_getElem ha] at q
      split at q
      · rename_i n en
        split at q
        · rename_i w ew
          obtain ⟨z, ez, rz⟩ := h3.get ew
          obtain ⟨its, rv, pl, hz⟩ := I.list (.inl (.inl h2))
          obtain ⟨u, eu, ru⟩ := rv.get ez
          have hl := rv.length
          have hn := line63
          have hl3 := h3.len
          have fin : EP X pins σ Q u s := ⟨z, H, I, ru, q.now sm rz⟩
          have en' : L2.ixN vs.length k = some n := by rw [← hl3, ← ixN_eq]; exact en
          obtain ⟨g1, g2, g3, g4⟩ := ixN_seq en'
          by_cases h0 : 0 ≤ k
          · have hk : k.toNat = n := by
              rw [seqIndex_of h0 g4] at g1
              exact Option.some.inj g1
            exact wpAny_getItem_list pl.isList h0 (by omega) (by rw [hk]; simpa using eu) fin
          · have hk : (k + (its.toArray.size : Int)).toNat = n := by
              rw [seqIndex_neg (by omega) g3] at g1
              rw [List.size_toArray, ← hl]
              exact Option.some.inj g1
            exact wpAny_getItem_list_neg pl.isList (by omega) (by rw [List.size_toArray]; omega) (by omega) (by rw [hk]; simpa using eu) fin
        · exact q.elim
      · exact q.elim
    · exact q.elim
  | _ => cases hx
theorem aug_store (i : Expr) (h : plainB i = true) (ov iv new : Value) : augStore i ov iv new = (do holding [new, ov, iv] (setItem ov iv new); release [new, ov, iv] []; pure .next) := by cases i <;> first | rfl | cases h
theorem xs_augS {o : BO} (hpl : plainB i = true) (ha : PE X a ((tE X.K C) ma)) (hi : PE X i ((tE X.K C) mi)) (he : PE X e ((tE X.K C) me)) : PS X (.AugAssign (.Subscript a i p) (opOf o) e pos) (tS X.K C W (.augS ma mi o me)) := by
  have ho : PIp X (opOf o) (fun x y H Q => ∃ (ι : List Addr) (F : Hp) (i j : Int) (st : Store), Sim X.K ι F H st ∧ augOk o = true ∧ x = .int i ∧ y = .int j ∧ PostE X.K ι F H Q (binM o false (.int i) (.int j) st)) := by
    intro pins s σ H x y v u Q I r1 r2 ⟨ι, F, i, j, st, sm, ha, e1, e2, q⟩
    subst e1; subst e2
    exact op_aug o ha I sm r1 r2 q
  refine (ps_augS ha hi get_ok he ho set_ok (aug_store i hpl)).weak fun D σ H ⟨ι, F, env, st, sm, en, q⟩ => ?_
  simp only [eS] at q
  split at q
  · exact q.elim
  · rename_i hok
    have hok : augOk o = true := by simpa using hok
    refine stepS sm en q fun x ι1 F1 H1 v st1 ex1 s1 en1 r1 q1 => ?_
    refine stepS s1 en1 q1 fun y ι2 F2 H2 w st2 ex2 s2 en2 r2 q2 => ?_
    split at q2
    · exact q2.elim
    · rename_i hr
      have hr : isRef v = true := by simpa using hr
      refine ⟨ι2, F2, v, w, st2, s2, r1.mono ex2.pre ex2.sF, r2, hr, q2.bind.mono fun z H3 ⟨ι3, F3, u, st3, ex3, s3, r3, q3⟩ => ?_⟩
      refine stepS s3 (en2.mono ex3) q3 fun t ι4 F4 H4 s st4 ex4 s4 en4 r4 q4 => ?_
      have r3' := r3.mono (K := X.K) ex4.pre ex4.sF
      cases r3' with
      | int k1 =>
        cases r4 with
        | int k2 =>
          simp only at q4
          refine ⟨ι4, F4, k1, k2, st4, s4, hok, rfl, rfl, q4.bind.mono fun z H5 ⟨ι5, F5, r, st5, ex5, s5, r5, q5⟩ => ?_⟩
          simp only at q5
          split at q5
          · rename_i st6 e6
            exact ⟨ι5, F5, v, w, r, st5, st6, s5, (((r1.mono ex2.pre ex2.sF).mono ex3.pre ex3.sF).mono ex4.pre ex4.sF).mono ex5.pre ex5.sF, ((r2.mono ex3.pre ex3.sF).mono ex4.pre ex4.sF).mono ex5.pre ex5.sF, r5, e6, fun H' s' e' => q5 ι5 F5 H' σ e' s' ((en4.mono ex5).mono e')⟩
          · exact q5.elim
        | _ => exact q4.elim
      | _ => exact q4.elim

/-! ### a[i], b[j] = e, f -/
theorem xs_swap {t1 t2 t3 t4 : Pos} {k k2 : Nat} (hc : X.calm = true) (hpi : plainB i = true) (hpj : plainB j = true) (ha : PE X a ((tE X.K C) ma)) (hi : PE X i ((tE X.K C) mi)) (hb : PE X b ((tE X.K C) mb)) (hj : PE X j ((tE X.K C) mj)) (he : PE X e ((tE X.K C) me)) (hf : PE X f ((tE X.K C) mf))
    (hse : starEach [e, f] X.env = (false, eval e X.env) :: starEach [f] X.env) (hsf : starEach [f] X.env = (false, eval f X.env) :: starEach [] X.env) (hw : swappedStores [.Tuple [.Subscript a i t1, .Subscript b j t2] k t3] (.Tuple [e, f] k2 t4) X.env = pure none) :
    PS X (.Assign [.Tuple [.Subscript a i t1, .Subscript b j t2] k t3] (.Tuple [e, f] k2 t4) pos) (tS X.K C W (.swap ma mi mb mj me mf)) := by
  refine (ps_asg (pe_tup (pa_cons he (pa_cons hf pa_nil hsf) hse)) (pg_tup hc (pgs_cons (pg_sub ha hi set_ok (fun v => assign_sub a i v hpi)) (pgs_cons (pg_sub hb hj set_ok (fun v => assign_sub b j v hpj)) pgs_nil)) (n := 2)) (by rfl) hw (by rfl)).weak fun D σ H ⟨ι, F, env, st, sm, en, q⟩ => ?_
  simp only [eS] at q
  refine stepS sm en q fun x ι1 F1 H1 v st1 ex1 s1 en1 r1 q1 => ?_
  refine stepS s1 en1 q1 fun y ι2 F2 H2 w st2 ex2 s2 en2 r2 q2 => ?_
  refine ⟨by show 2 ≤ sizeLine; rw [sizeLine_eq]; decide, fun T hT => ?_⟩
  have r1' := r1.mono (K := X.K) ex2.pre ex2.sF
  obtain ⟨s3, ex3⟩ := s2.frozen (o := .tup [x, y]) hT
  refine ⟨T, [x, y], rfl, .inl (.inl upd_same), rfl, x, [y], rfl, ?_⟩
  have q3 := q2.ext ex3
  refine stepS s3 (en2.mono ex3) q3 fun z ι4 F4 H4 u st4 ex4 s4 en4 r4 q4 => ?_
  refine stepS s4 en4 q4 fun z' ι5 F5 H5 u' st5 ex5 s5 en5 r5 q5 => ?_
  split at q5
  · exact q5.elim
  · rename_i st6 e6
    refine ⟨ι5, F5, u, u', v, st5, st6, s5, r4.mono ex5.pre ex5.sF, r5, ((r1'.mono ex3.pre ex3.sF).mono ex4.pre ex4.sF).mono ex5.pre ex5.sF, e6, fun H6 s6 ex6 => ⟨y, [], rfl, ?_⟩⟩
    have q6 := q5.ext ex6
    refine stepS s6 (en5.mono ex6) q6 fun z2 ι7 F7 H7 u2 st7 ex7 s7 en7 r7 q7 => ?_
    refine stepS s7 en7 q7 fun z3 ι8 F8 H8 u3 st8 ex8 s8 en8 r8 q8 => ?_
    split at q8
    · rename_i st9 e9
      exact ⟨ι8, F8, u2, u3, w, st8, st9, s8, r7.mono ex8.pre ex8.sF, r8, (((((r2.mono ex3.pre ex3.sF).mono ex4.pre ex4.sF).mono ex5.pre ex5.sF).mono ex6.pre ex6.sF).mono ex7.pre ex7.sF).mono ex8.pre ex8.sF, e9, fun H9 s9 ex9 => ⟨rfl, q8 ι8 F8 H9 σ ex9 s9 (en8.mono ex9)⟩⟩
    · exact q8.elim

/-! ### while -/
theorem xs_while {B : List Stmt} {mB : List MS} (hp : PassesOwn (model X.prog X.w) X.A X.env X.xe) (hc : PT X c (tT X.K C mc)) (hb : PSs X B (tSs X.K C W mB)) : PS X (.While c B [] pos) (tS X.K C W (.whileS mc mB)) := by
  refine (ps_while hp hc hb).weak fun D σ H ⟨ι, F, env, st, sm, en, q⟩ => ?_
  simp only [eS] at q
  refine ⟨fun m σ H => ∃ ι F env st, Sim X.K ι F H st ∧ EnvR X.K ι F env σ ∧ PostS X.K ι F H D (whileL (fun e s => toTruth (eE C mc e s)) (fun e s => eSs C W mB e s) m env st), ⟨W, ι, F, env, st, sm, en, q⟩, fun m σ H ⟨ι, F, env, st, sm, en, q⟩ => ?_⟩
  cases m with
  | zero => exact q.elim
  | succ m =>
    simp only [whileL] at q
    refine stepSB sm en q fun k ι1 F1 H1 st1 ex s1 en1 q1 => ?_
    cases k with
    | false => exact q1 ι1 F1 H1 σ .refl s1 en1
    | true =>
      simp only [if_true] at q1 ⊢
      refine ⟨fun σ H => ∃ ι F env st, Sim X.K ι F H st ∧ EnvR X.K ι F env σ ∧ PostS X.K ι F H D (whileL (fun e s => toTruth (eE C mc e s)) (fun e s => eSs C W mB e s) m env st), fun σ' H' h => ⟨m, Nat.lt_succ_self m, h⟩, ι1, F1, env, st1, s1, en1, ?_⟩
      cases e : eSs C W mB env st1 with
      | next e1 s2 => rw [e] at q1; exact fun ι2 F2 H2 σ2 ex2 sm2 en2 => ⟨ι2, F2, e1, s2, sm2, en2, q1.ext ex2⟩
      | cont e1 s2 => rw [e] at q1; exact fun ι2 F2 H2 σ2 ex2 sm2 en2 => ⟨ι2, F2, e1, s2, sm2, en2, q1.ext ex2⟩
      | brk e1 s2 => rw [e] at q1; exact q1
      | ret v s2 => rw [e] at q1; exact q1
      | exc c v e1 s2 => rw [e] at q1; exact q1
      | stuck => rw [e] at q1; exact q1

/-! ### for -/
theorem xs_for {it : Expr} {B : List Stmt} {mB : List MS} {t : Tg} {ik : IK} {src : List ME} (hp : PassesOwn (model X.prog X.w) X.A X.env X.xe) (hc : X.calm = true) (hi : PI X tg it (tIt X.K C ik src)) (hg : PG X tg (tGm X.K t)) (hb : PSs X B (tSs X.K C W mB))
    (hs : ∀ x, foldedSetIterable it X.env x = pure x) : PS X (.For tg it B [] pos) (tS X.K C W (.forS t ik src mB)) := by
  refine (ps_for hp hc hi hg hb hs).weak fun D σ H ⟨ι, F, env, st, sm, en, q⟩ => ?_
  simp only [eS] at q
  refine ⟨ι, F, env, st, sm, en, ?_⟩
  cases e1 : srcX ik (eEs C src env st) with
  | exc c v st1 => rw [e1] at q; exact q
  | stuck => rw [e1] at q; exact q
  | ok vs st1 =>
    rw [e1] at q
    simp only [R.fl_ok] at q
    simp only [PostI]
    split
    · rename_i items deps e2
      rw [e2] at q
      simp only at q
      intro ι1 F1 H1 J ex1 s1 hJ
      have q := q.ext ex1
      have en1 : EnvR X.K ι1 F1 env σ := en.mono ex1
      refine ⟨fun k m σ' H' => m = items.length - k ∧ k ≤ items.length ∧ ∃ ι' F' env' st', Pre ι1 ι' ∧ Same F1 F' ∧ Sim X.K ι' F' H' st' ∧ EnvR X.K ι' F' env' σ' ∧ PostS X.K ι' F' H' D (forL t deps (fun e s => eSs C W mB e s) (items.drop k) env' st'),
        ⟨items.length, by simp, Nat.zero_le _, ι1, F1, env, st1, Pre.refl, Same.rfl', s1, en1, by rw [List.drop_zero]; exact q⟩, ?_⟩
      rintro k m σ' H' ⟨rfl, hk, ι', F', env', st', hp1, hp2, s', en', q'⟩
      by_cases hlt : k < items.length
      · rw [List.drop_eq_getElem_cons hlt] at q'
        simp only [forL] at q'
        have hdep : depOk st' deps = true := by
          by_cases hd : depOk st' deps = true
          · exact hd
          · rw [if_neg hd] at q'; exact q'.elim
        rw [if_pos hdep] at q'
        refine .inr ⟨hJ.goes ι' F' H' st' k hp1 hp2 s' hdep hlt, fun σ2 H2 => (fun k m σ' H' => m = items.length - k ∧ k ≤ items.length ∧ ∃ ι' F' env' st', Pre ι1 ι' ∧ Same F1 F' ∧ Sim X.K ι' F' H' st' ∧ EnvR X.K ι' F' env' σ' ∧ PostS X.K ι' F' H' D (forL t deps (fun e s => eSs C W mB e s) (items.drop k) env' st')) (k + 1) (items.length - (k + 1)) σ2 H2,
          fun σ2 H2 h2 => ⟨_, by omega, h2⟩, fun x H2 hy => ?_⟩
        obtain ⟨F2, s2, ex2, m, em, rm⟩ := hJ.yields ι' F' H' st' k x H2 hp1 hp2 s' hdep hlt hy
        rw [List.getElem?_eq_getElem hlt] at em
        have em' : items[k] = m := Option.some.inj em
        rw [em'] at q'
        split at q'
        · exact q'.elim
        · rename_i env1 ea
          refine ⟨ι', F2, env', m, env1, s2.same, en'.mono ex2, rm, ea, fun σ1 en2 w1 => ⟨ι', F2, env1, st', s2, en2, ?_⟩⟩
          have q2 := q'.ext ex2
          have hp2' : Same F1 F2 := fun b o h => ex2.sF b o (hp2 b o h)
          have again : ∀ {e1 : Env} {s3 : Store} {ι3 : List Addr} {F3 H3 : Hp} {σ3 : L2.St}, Ext ι' F2 H2 ι3 F3 H3 → Sim X.K ι3 F3 H3 s3 → EnvR X.K ι3 F3 e1 σ3 → PostS X.K ι' F2 H2 D (forL t deps (fun e s => eSs C W mB e s) (items.drop (k + 1)) e1 s3) →
              items.length - (k + 1) = items.length - (k + 1) ∧ k + 1 ≤ items.length ∧ ∃ ι' F' env' st', Pre ι1 ι' ∧ Same F1 F' ∧ Sim X.K ι' F' H3 st' ∧ EnvR X.K ι' F' env' σ3 ∧ PostS X.K ι' F' H3 D (forL t deps (fun e s => eSs C W mB e s) (items.drop (k + 1)) env' st') := fun ex3 s3 en3 q3 =>
            ⟨rfl, hlt, _, _, _, _, hp1.trans ex3.pre, fun b o h => ex3.sF b o (hp2' b o h), s3, en3, q3.ext ex3⟩
          cases e : eSs C W mB env1 st' with
          | next e1 s3 => rw [e] at q2; exact fun ι3 F3 H3 σ3 ex3 sm3 en3 => again ex3 sm3 en3 q2
          | cont e1 s3 => rw [e] at q2; exact fun ι3 F3 H3 σ3 ex3 sm3 en3 => again ex3 sm3 en3 q2
          | brk e1 s2 => rw [e] at q2; exact q2
          | ret v s2 => rw [e] at q2; exact q2
          | exc c v e1 s2 => rw [e] at q2; exact q2
          | stuck => rw [e] at q2; exact q2
      · have hz : k = items.length := by omega
        subst hz
        rw [List.drop_length] at q'
        simp only [forL] at q'
        have hdep : depOk st' deps = true := by
          by_cases hd : depOk st' deps = true
          · exact hd
          · rw [if_neg hd] at q'; exact q'.elim
        rw [if_pos hdep] at q'
        exact .inl ⟨hJ.stops ι' F' H' st' hp1 hp2 s' hdep, q' ι' F' H' σ' .refl s' en'⟩
    · rename_i e2
      rw [e2] at q
      exact q

/-! ### a, b = e, f with names that are stored from the right -/
theorem tup_red {ms : List ME} {D : Ends} {σ : L2.St} {H : Hp} {ι : List Addr} {F : Hp} {env : Env} {st : Store} {k : MV → Store → Fl} {Q : List V → Hp → Prop} (sm : Sim X.K ι F H st) (en : EnvR X.K ι F env σ) (h : PostS X.K ι F H D ((eE C (.tupE ms) env st).fl env k))
    (q : ∀ xs ι1 F1 H1 vs st1, Ext ι F H ι1 F1 H1 → Sim X.K ι1 F1 H1 st1 → EnvR X.K ι1 F1 env σ → Reps X.K ι1 F1 vs xs → PostS X.K ι1 F1 H1 D (k (.tup vs) st1) → Q xs H1) : tEs X.K C ms σ H Q := by
  refine ⟨ι, F, env, st, sm, en, ?_⟩
  simp only [eE] at h
  cases e : eEs C ms env st with
  | ok vs st1 =>
    rw [e] at h
    simp only [R.bind_ok, mkT] at h
    intro ι1 F1 H1 xs ex s1 r1
    split at h
    · exact q xs ι1 F1 H1 vs st1 ex s1 (en.mono ex) r1 (h.ext ex)
    · exact h.elim
  | exc c v st1 => rw [e] at h; exact h
  | stuck => rw [e] at h; exact h.elim
theorem set2 {i j : Nat} {env env1 : Env} {vs : List MV} (h : asgT (.tp [.nm i, .nm j]) (.tup vs) env = some env1) : ∃ v w, vs = [v, w] ∧ i < env.length ∧ j < env.length ∧ env1 = (env.set i (some v)).set j (some w) := by
  simp only [asgT] at h
  match vs, h with
  | [v, w], h =>
    simp only [asgTs, asgT] at h
    by_cases h1 : i < env.length
    · simp only [h1, if_true] at h
      by_cases h2 : j < (env.set i (some v)).length
      · simp only [h2, if_true, Option.some.injEq] at h
        rw [List.length_set] at h2
        exact ⟨v, w, rfl, h1, h2, h.symm⟩
      · simp only [h2, if_false] at h; cases h
    · simp only [h1, if_false] at h; cases h
  | [], h => simp [asgTs] at h
  | [_], h =>
    simp only [asgTs, asgT] at h
    split at h
    · simp [asgTs] at h
    · cases h
  | _ :: _ :: _ :: _, h =>
    exfalso
    have := asgTs_len h
    simp at this
theorem xs_par {x y : Str} {i j : Nat} {px py pt pt2 : Pos} {kt k2 : Nat} (hc : X.calm = true) (hN : X.N.Nodup) (hi : X.N[i]? = some x) (hj : X.N[j]? = some y) (hij : i ≠ j) (hx : X.env.scope.names.lookup x = some .local) (hy : X.env.scope.names.lookup y = some .local)
    (ha : PA X [a, b] (tEs X.K C [ma, mb])) (hw : swappedStores [.Tuple [.Name x px, .Name y py] kt pt] (.Tuple [a, b] k2 pt2) X.env = pure (some [x, y])) :
    PS X (.Assign [.Tuple [.Name x px, .Name y py] kt pt] (.Tuple [a, b] k2 pt2) pos) (tS X.K C W (.asg (.tp [.nm i, .nm j]) (.tupE [ma, mb]))) := by
  refine (ps_par hc hN hi hj hij hx hy ha hw).weak fun D σ H ⟨ι, F, env, st, sm, en, q⟩ => ?_
  simp only [eS] at q
  refine tup_red sm en q fun xs ι1 F1 H1 vs st1 ex s1 en1 r1 q1 => ?_
  split at q1
  · rename_i env1 e1
    obtain ⟨v, w, rfl, h1, h2, rfl⟩ := set2 e1
    cases r1 with
    | cons r1 rr =>
      cases rr with
      | cons r2 rr =>
        cases rr
        exact ⟨_, _, rfl, q1 ι1 F1 H1 _ .refl s1 ((en1.set h1 r1).set (by rw [List.length_set]; exact h2) r2)⟩
  · exact q1.elim
end
end MP

/-! MiniR: the translated statements. -/
namespace MP
open PySem PySem.Spec PyProof.Rows L2
variable [Wi : Wish]

section
variable {X : Cx} {C : Fns} {W : Nat}
theorem takes_all {Wx : WX} {pn : List (Addr × Obj)} {xe : Value → Shared → Prop} (tk : Takes (X.tr pn xe) Wx) : Takes (X.tr pn xe) (wX ⟨Wi.C, fun cls d H => ∀ σ : L2.St, σ.length = X.N.length → Wx cls d σ H⟩) :=
  fun u s' ⟨a, B, sI, pins, σ, H, cls, d, e, I, nb, up, sky, na, os, ag, w⟩ => tk u s' ⟨a, B, sI, pins, σ, H, cls, d, e, I, nb, up, sky, na, os, ag, w σ I.len⟩
theorem xs_try {i c : Nat} {nm x : Str} {body : List Stmt} {mb : List MS} {p1 p2 p3 p4 p5 pos : Pos} (hs : X.stack = X.env :: X.outer) (hf : X.env.frame = some X.env.locals) (hN : X.N.Nodup) (hi : X.N[i]? = some nm) (hln : X.env.kindOf nm = some .local)
    (hd1 : (nm == ("__debug__" : Str)) = false) (hd2 : (nm == ("__classdict__" : Str)) = false) (hc : Names X x (.ref (Wi.C c))) (tk : Takes X (wX Wi)) (B : BadC X.prog X.K (Wi.C c))
    (hb : ∀ (E' : XK) (pn : List (Addr × Obj)) (xe : Value → Shared → Prop), Takes (X.tr pn xe) (wX ⟨Wi.C, E'⟩) → PassesOwn (model X.prog X.w) X.A X.env xe → PSs (X.tr pn xe) body (tSs (Wi := ⟨Wi.C, E'⟩) X.K C W mb)) :
    PS X (.Try body [.ExceptHandler (some (.Name x p1)) (some nm) [.Return (some (.Attribute (.Name nm p2) "at" p3)) p4] p5] [] [] pos) (tS X.K C W (.tryE mb c)) := by
  refine (ps_try_as (i := i) hs hf hN hi hln hc tk (tb := fun Wx => tSs (Wi := ⟨Wi.C, fun cls d H => ∀ σ : L2.St, σ.length = X.N.length → Wx cls d σ H⟩) X.K C W mb) (ts := fun a cls d D σ H => tXf a cls d (Wi.C c) "at" (tVar i) σ H D.rt)
    (fun Wx pn xe tkx po => hb _ pn xe (takes_all tkx) po) (fun a oe cls d pn hz hv => (pss_cons (ps_ret (pe_xf B.xf B.no hz hv (pe_var hi (Or.inl hln) hd1 hd2) rfl)) pss_nil).weak fun D σ H q => q)).weak fun D σ H ⟨ι, F, env, st, sm, en, q⟩ => ?_
  simp only [eS] at q
  refine ⟨ι, F, env, st, sm, en, ?_⟩
  cases e : eSs C W mb env st with
  | next e1 s1 => rw [e] at q; exact q
  | ret v s1 => rw [e] at q; exact q
  | brk e1 s1 => rw [e] at q; exact q
  | cont e1 s1 => rw [e] at q; exact q
  | stuck => rw [e] at q; exact q.elim
  | exc c' v e1 s1 =>
    rw [e] at q
    simp only at q
    split at q
    · rename_i hcc
      subst hcc
      intro ι1 F1 H1 dd xv ex sm1 r1 hd σ' hl
      refine ⟨true, B.exm, fun _ a ha => ?_, fun z => Bool.noConfusion z⟩
      have hlt : i < σ'.length := by
        rw [hl]
        exact (List.getElem?_eq_some_iff.mp hi).1
      refine ⟨.ref a, List.getElem?_set_self hlt, rfl, rfl, dd, _, xv, rfl, hd, rfl, ?_⟩
      exact q ι1 F1 H1 xv ex sm1 r1
    · exact q.elim
end
def isComp : Expr → Bool
  | .ListComp _ _ _ _ => true
  | .SetComp _ _ _ _ => true
  | .DictComp _ _ _ _ _ => true
  | _ => false
def isLocal (sc : Scope) (x : Str) : Bool := match sc.names.lookup x with | some .local => true | _ => false
def isFunc (sc : Scope) : Bool := match sc.kind with | .function => true | _ => false
def starred : Expr → Bool
  | .Starred _ _ => true
  | _ => false
/-- whether x = [..] is stored within the comprehension's frame -/
def compSwaps (sc : Scope) (x : Str) (px cpos : Pos) (scope : Scope) : Bool := isLocal sc x && px.line == cpos.line && !(scope.names.any fun (n, k) => n == x && (k == .local || k == .cell))
/-- x, y = a, b: some true: stored from the right; some false: in order -/
def swap2 (sc : Scope) (x y : Str) (px py : Pos) (a b : Expr) : Option Bool :=
  if starred a || starred b then none
  else if isLocal sc x && isLocal sc y && px.line == py.line && !decide (x = y) then
    (if foldedForSure 8 a && foldedForSure 8 b then some false else if constantsAlone 8 a && constantsAlone 8 b then none else some true)
  else none
def isTupE : Expr → Bool
  | .Tuple _ _ _ => true
  | _ => false
/-- names that a tuple's store does not swap: another number than two or three of them -/
def manyNames (ts vs : List Expr) : Bool := !(ts.length == 2 || ts.length == 3)

def raiseP : Option Expr → Option Expr → Option (Str × Expr)
  | some (.Call (.Name x _) [e] [] _), none => some (x, e)
  | _, _ => none
theorem raiseP_ok {a b : Option Expr} {x : Str} {e : Expr} (h : raiseP a b = some (x, e)) : ∃ px pc, a = some (.Call (.Name x px) [e] [] pc) ∧ b = none := by
  unfold raiseP at h
  split at h
  · simp only [Option.some.injEq, Prod.mk.injEq] at h
    obtain ⟨rfl, rfl⟩ := h
    exact ⟨_, _, rfl, rfl⟩
  · cases h
def tryP : List ExceptHandler → List Stmt → List Stmt → Option (Str × Str)
  | [.ExceptHandler (some (.Name x _)) (some nm) [.Return (some (.Attribute (.Name nm2 _) at2 _)) _] _], [], [] => if nm2 = nm ∧ at2 = "at" then some (x, nm) else none
  | _, _, _ => none
theorem tryP_ok {hds : List ExceptHandler} {els fin : List Stmt} {x nm : Str} (h : tryP hds els fin = some (x, nm)) :
    ∃ p1 p2 p3 p4 p5, hds = [.ExceptHandler (some (.Name x p1)) (some nm) [.Return (some (.Attribute (.Name nm p2) "at" p3)) p4] p5] ∧ els = [] ∧ fin = [] := by
  unfold tryP at h
  split at h
  · split at h
    · rename_i hc
      obtain ⟨rfl, rfl⟩ := hc
      simp only [Option.some.injEq, Prod.mk.injEq] at h
      obtain ⟨rfl, rfl⟩ := h
      exact ⟨_, _, _, _, _, rfl, rfl, rfl⟩
    · cases h
  · cases h
mutual
def trS : Nat → TC → Stmt → Option MS
  | 0, _, _ => none
  | n + 1, Γ, s => match s with
    | .Assign [.Name x px] e pos => match ixS Γ.N x with
      | none => none
      | some i => if !stoK Γ x then none else match e with
        | .ListComp elt [⟨tg, it, ifs, 0⟩] scope cpos => (match trE (n + 1) Γ (.ListComp elt [⟨tg, it, ifs, 0⟩] scope cpos) with
          | some m => some (.asg (.nm i) m)
          | none => none)
        | e => if isComp e then none else (match trE n Γ e with | some m => some (.asg (.nm i) m) | none => none)
    | .Assign [.Subscript a i p] e _ => if !plainB i then none else match trE n Γ a, trE n Γ i, trE n Γ e with | some ma, some mi, some me => some (.store ma mi me) | _, _, _ => none
    | .Assign [.Tuple ts k p] (.Tuple vs k2 p2) _ => (match ts, vs with
      | [.Subscript a i _, .Subscript b j _], [e, f] => if !plainB i || !plainB j then none else (match trE n Γ a, trE n Γ i, trE n Γ b, trE n Γ j, trE n Γ e, trE n Γ f with
        | some ma, some mi, some mb, some mj, some me, some mf => some (.swap ma mi mb mj me mf)
        | _, _, _, _, _, _ => none)
      | [.Name x px, .Name y py], [a, b] => (match ixS Γ.N x, ixS Γ.N y, swap2 Γ.sc x y px py a b, trE n Γ a, trE n Γ b with
        | some i, some j, some true, some ma, some mb => some (.asg (.tp [.nm i, .nm j]) (.tupE [ma, mb]))
        | _, _, _, _, _ => none)
      | ts, vs => if !manyNames ts vs then none else (match trTg Γ n (.Tuple ts k p), trE n Γ (.Tuple vs k2 p2) with
        | some t, some m => some (.asg t m)
        | _, _ => none))
    | .Assign [.Tuple ts k p] e _ => if isTupE e || isComp e then none else match trTg Γ n (.Tuple ts k p), trE n Γ e with
      | some t, some m => some (.asg t m)
      | _, _ => none
    | .AugAssign (.Name x _) op e _ => match ixS Γ.N x, boM op, trE n Γ e with
      | some i, some o, some me => if stoK Γ x then some (.aug i o me) else none
      | _, _, _ => none
    | .AugAssign (.Subscript a i _) op e _ => if !plainB i then none else match boM op, trE n Γ a, trE n Γ i, trE n Γ e with
      | some o, some ma, some mi, some me => some (.augS ma mi o me)
      | _, _, _, _ => none
    | .If c a b _ => if !notIf c then none else match trE n Γ c, trSs n Γ a, trSs n Γ b with | some mc, some ma, some mb => some (.ite mc ma mb) | _, _, _ => none
    | .For tg it body [] _ => match trI n Γ tg it, trTg Γ n tg, trSs n Γ body with
      | some (ik, src), some t, some mb => some (.forS t ik src mb)
      | _, _, _ => none
    | .While c body [] _ => if !notIf c then none else match trE n Γ c, trSs n Γ body with | some mc, some mb => some (.whileS mc mb) | _, _ => none
    | .Return (some e) _ => match trE n Γ e with | some m => some (.ret m) | none => none
    | .Return none _ => some .retN
    | .Expr e _ => if isComp e then none else match trE n Γ e with | some m => some (.expr m) | none => none
    | .Pass _ => some .pass
    | .Break _ => some .brk
    | .Continue _ => some .cont
    | .Raise a b _ => (match raiseP a b with
      | some (x, e) => (match Γ.G.lookup x, trE n Γ e with
        | some (.cls c), some me => if globK Γ.sc x then some (.raise c me) else none
        | _, _ => none)
      | none => none)
    | .Try body hds els fin _ => (match tryP hds els fin with
      | some (x, nm) => (match Γ.G.lookup x, ixS Γ.N nm, trSs n Γ body with
        | some (.cls c), some _, some mb => if globK Γ.sc x && isLocal Γ.sc nm then some (.tryE mb c) else none
        | _, _, _ => none)
      | none => none)
    | _ => none
def trSs : Nat → TC → List Stmt → Option (List MS)
  | 0, _, _ => none
  | n + 1, Γ, ss => match ss with
    | [] => some []
    | s :: ss => match trSs n Γ ss with | some ms => some ((match trS n Γ s with | some m => m | none => .bad) :: ms) | none => none
end

section
variable {C : Fns} {Γ : TC} {X : Cx} {W : Nat}
theorem sto_ok (g : Good Γ C X) {x : Str} (hs : stoK Γ x = true) : Loc X.env.scope x ∧ (X.fn x = true ∨ X.env.scope.names.lookup x = some .local) := by
  unfold stoK at hs
  rw [g.sc, g.hfn]
  split at hs
  · rename_i e; exact ⟨.inl e, .inr e⟩
  · rename_i e; exact ⟨.inr e, .inl hs⟩
  · cases hs
theorem swaps_comp {elt : Expr} {gs : List Comprehension} {scope : Scope} {cpos px : Pos} {x : Str} {l : Nat} {env : PySem.Env} (hk : env.scope.kind = .function) :
    swapsWith (.ListComp elt gs scope cpos) (some (.Name x px)) l env = pure (compSwaps env.scope x px cpos scope) := by
  have hb : env.blockKind = .function := by unfold Env.blockKind; rw [hk]; rfl
  have hl : (env.kindOf x == some .local) = isLocal env.scope x := by
    unfold isLocal Env.kindOf
    split
    · rename_i e; rw [e]; rfl
    · rename_i h
      cases e : env.scope.names.lookup x with
      | none => rfl
      | some k => cases k <;> first | rfl | exact absurd e h
  unfold swapsWith compSwaps
  simp only [hb, hl]
  rfl
theorem swaps_other {e : Expr} {t : Option Expr} {l : Nat} {env : PySem.Env} (h : isComp e = false) : swapsWith e t l env = pure false := by
  cases e <;> first | rfl | cases h
theorem swapped_other {ts : List Expr} {k : Nat} {p : Pos} {e : Expr} {env : PySem.Env} (h : isTupE e = false) : swappedStores [.Tuple ts k p] e env = pure none := by
  cases e <;> first | rfl | cases h
theorem swapped_many {ts vs : List Expr} {k k2 : Nat} {p p2 : Pos} {env : PySem.Env} (h : manyNames ts vs = true) : swappedStores [.Tuple ts k p] (.Tuple vs k2 p2) env = pure none := by
  unfold manyNames at h
  unfold swappedStores
  simp only [h, Bool.true_or, if_true]
theorem swapped_subs {a i b j e f : Expr} {k k2 : Nat} {t1 t2 p p2 : Pos} {env : PySem.Env} : swappedStores [.Tuple [.Subscript a i t1, .Subscript b j t2] k p] (.Tuple [e, f] k2 p2) env = pure none := by
  unfold swappedStores
  simp only [List.length_cons, List.length_nil]
  split
  · rfl
  · split
    · rfl
    · simp
theorem swapped_names {x y : Str} {px py p p2 : Pos} {a b : Expr} {k k2 : Nat} {env : PySem.Env} (hk : env.scope.kind = .function) (h : swap2 env.scope x y px py a b = some true) : swappedStores [.Tuple [.Name x px, .Name y py] k p] (.Tuple [a, b] k2 p2) env = pure (some [x, y]) ∧ x ≠ y ∧ env.scope.names.lookup x = some .local ∧ env.scope.names.lookup y = some .local := by
  have hb : env.blockKind = .function := by unfold Env.blockKind; rw [hk]; rfl
  unfold swap2 at h
  split at h
  · cases h
  · rename_i hst
    split at h
    · rename_i hc
      simp only [Bool.and_eq_true, Bool.not_eq_true', decide_eq_false_iff_not, beq_iff_eq] at hc
      obtain ⟨⟨⟨h1, h2⟩, h3⟩, h4⟩ := hc
      have hx : env.scope.names.lookup x = some .local := by
        unfold isLocal at h1
        split at h1
        · assumption
        · cases h1
      have hy : env.scope.names.lookup y = some .local := by
        unfold isLocal at h2
        split at h2
        · assumption
        · cases h2
      refine ⟨?_, h4, hx, hy⟩
      split at h
      · cases h
      · rename_i hf
        split at h
        · cases h
        · rename_i hca
          have ex : (env.kindOf x == some .local) = true := by show (env.scope.names.lookup x == some .local) = true; rw [hx]; rfl
          have ey : (env.kindOf y == some .local) = true := by show (env.scope.names.lookup y == some .local) = true; rw [hy]; rfl
          have sa : starred a = false := by
            cases z : starred a with
            | false => rfl
            | true => rw [z] at hst; simp at hst
          have sb : starred b = false := by
            cases z : starred b with
            | false => rfl
            | true => rw [z] at hst; simp at hst
          have hany : ([a, b].any fun | .Starred .. => true | _ => false) = false := by
            have e : ∀ e : Expr, (match e with | .Starred .. => true | _ => false) = starred e := fun e => by cases e <;> rfl
            simp only [List.any_cons, List.any_nil, e, sa, sb, Bool.or_false]
          have hall : [a, b].all (foldedForSure 8) = false := by
            simp only [List.all_cons, List.all_nil, Bool.and_true]
            simpa using hf
          have hall2 : [a, b].all (constantsAlone 8) = false := by
            simp only [List.all_cons, List.all_nil, Bool.and_true]
            simpa using hca
          have hline : ((Expr.Name x px).pos.line) = px.line := rfl
          have hed : [x, y].eraseDups = [x, y] := by
            rw [List.eraseDups_cons]
            have : (y == x) = false := by rw [beq_eq_false_iff_ne]; exact fun z => h4 z.symm
            simp [this, List.eraseDups_cons]
          unfold swappedStores
          simp only [List.length_cons, List.length_nil, hb, hall, hall2, List.head?_cons, Option.map_some, Option.getD_some, hline, List.filterMap_cons, List.filterMap_nil, ex, ey, h3, beq_self_eq_true, Bool.and_self, if_true, hed]
          exact Eq.trans (if_neg (by decide)) (Eq.trans (if_neg fun z => by
            have z' : ([a, b].any fun | .Starred .. => true | _ => false) = true := z
            rw [hany] at z'
            cases z') (Eq.trans (if_neg (by decide)) (Eq.trans (if_neg (by decide)) (if_neg (by decide)))))
    · cases h

/-- a def's body, or a try's within it -/
structure GoodS (X : Cx) : Prop where
  tk : Takes X (wX Wi)
  po : PassesOwn (model X.prog X.w) X.A X.env X.xe
  hs : X.stack = X.env :: X.outer
  hf : X.env.frame = some X.env.locals
structure AllS (C : Fns) (W n : Nat) : Prop where
  s : ∀ [Wi : Wish] Γ X s m, Good Γ C X → GoodS X → X.env.scope.kind = .function → trS n Γ s = some m → PS X s (tS X.K C W m)
  l : ∀ [Wi : Wish] Γ X ss ms, Good Γ C X → GoodS X → X.env.scope.kind = .function → trSs n Γ ss = some ms → PSs X ss (tSs X.K C W ms)
theorem s_assign {n : Nat} (g : Good Γ C X) (hk : X.env.scope.kind = .function) {ts : List Expr} {e : Expr} {pos : Pos} {m : MS} (h : trS (n + 1) Γ (.Assign ts e pos) = some m) : PS X (.Assign ts e pos) (tS X.K C W m) := by
  have A := all_e C n
  have hN : X.N.Nodup := by rw [g.hN]; exact g.nd
  match ts, h with
  | [.Name x px], h =>
    simp only [trS] at h
    split at h
    · cases h
    · rename_i i ei
      have hi : X.N[i]? = some x := by rw [g.hN]; exact ixS_get ei
      split at h
      · cases h
      · rename_i hs
        obtain ⟨hl, hf⟩ := sto_ok g (by simpa using hs)
        split at h
        · rename_i elt tg it ifs scope cpos _
          split at h
          · rename_i mc emc
            simp only [Option.some.injEq] at h
            subst h
            have hsw := swaps_comp (elt := elt) (gs := [⟨tg, it, ifs, 0⟩]) (scope := scope) (cpos := cpos) (px := px) (x := x) (l := pos.line) hk
            cases hb : compSwaps X.env.scope x px cpos scope with
            | true =>
              obtain ⟨me, t, ik, src, mifs, rfl, a1, a2, a3, P, a7⟩ := (comp_parts A g emc).ex
              rw [hb] at hsw
              have hloc : X.env.scope.names.lookup x = some .local := by
                unfold compSwaps at hb
                simp only [Bool.and_eq_true] at hb
                have := hb.1.1
                unfold isLocal at this
                split at this
                · assumption
                · cases this
              exact xs_setLc g.calm hN g.gx hi hloc hsw a1 a2 a3 P a7
            | false =>
              rw [hb] at hsw
              exact xs_setN hN hi hl (e_comp A g emc) hsw hf
          · cases h
        · split at h
          · cases h
          · rename_i hc
            split at h
            · rename_i me eme
              simp only [Option.some.injEq] at h
              subst h
              exact xs_setN hN hi hl (A.e Γ X _ me g eme).1 (swaps_other (by simpa using hc)) hf
            · cases h
  | [.Subscript a i p], h =>
    simp only [trS] at h
    split at h
    · cases h
    · rename_i hp
      split at h
      · rename_i ma mi me e1 e2 e3
        simp only [Option.some.injEq] at h
        subst h
        exact xs_store (by simpa using hp) (A.e Γ X e me g e3).1 (A.e Γ X a ma g e1).1 (A.e Γ X i mi g e2).1
      · cases h
  | [.Tuple ts k p], h =>
    by_cases ht : isTupE e = true
    · cases e with
      | Tuple vs k2 p2 =>
        simp only [trS] at h
        split at h
        · rename_i a i t1 b j t2 e f _
          split at h
          · cases h
          · rename_i hp
            simp only [Bool.or_eq_true, not_or, Bool.not_eq_true', Bool.not_eq_false] at hp
            split at h
            · rename_i ma mi mb mj me mf e1 e2 e3 e4 e5 e6
              simp only [Option.some.injEq] at h
              subst h
              exact xs_swap g.calm hp.1 hp.2 (A.e Γ X a ma g e1).1 (A.e Γ X i mi g e2).1 (A.e Γ X b mb g e3).1 (A.e Γ X j mj g e4).1 (A.e Γ X e me g e5).1 (A.e Γ X f mf g e6).1 (star_plain (notStar e5)) (star_plain (notStar e6)) swapped_subs
            · cases h
        · rename_i x px y py a b _
          split at h
          · rename_i i j ma mb e1 e2 e3 e4 e5
            simp only [Option.some.injEq] at h
            subst h
            obtain ⟨h1, h2, h3, h4⟩ := swapped_names (p := p) (p2 := p2) (k := k) (k2 := k2) hk (by rw [g.sc]; exact e3)
            have i1 : X.N[i]? = some x := by rw [g.hN]; exact ixS_get e1
            have i2 : X.N[j]? = some y := by rw [g.hN]; exact ixS_get e2
            have AB := (ArgsOk.nil.cons (A.e Γ X b mb g e5).1 (notStar e5)).cons (A.e Γ X a ma g e4).1 (notStar e4)
            exact xs_par g.calm hN i1 i2 (fun z => h2 (by subst z; rw [i1] at i2; exact Option.some.inj i2)) h3 h4 AB.pa h1
          · cases h
        · split at h
          · cases h
          · rename_i hm
            split at h
            · rename_i t me e1 e2
              simp only [Option.some.injEq] at h
              subst h
              exact xs_asg (A.e Γ X _ me g e2).1 (tg_ok g n _ t e1) (by rfl) (swapped_many (by simpa using hm)) (by rfl)
            · cases h
      | _ => cases ht
    · have hte : isTupE e = false := by simpa using ht
      have h' : (if isTupE e || isComp e then none else match trTg Γ n (.Tuple ts k p), trE n Γ e with
        | some t, some m => some (MS.asg t m)
        | _, _ => none) = some m := by
        rw [← h]
        cases e <;> first | rfl | (simp only [trS]; done) | (simp [trS]; done) | cases hte
      split at h'
      · cases h'
      · rename_i hc
        split at h'
        · rename_i t me e1 e2
          simp only [Option.some.injEq] at h'
          subst h'
          have hcm : isComp e = false := by
            rw [hte, Bool.false_or] at hc
            simpa using hc
          exact xs_asg (A.e Γ X _ me g e2).1 (tg_ok g n _ t e1) (by unfold swapsWithSole; exact swaps_other hcm) (swapped_other hte) (by rfl)
        · cases h'
  | [], h => simp [trS] at h
  | _ :: _ :: _, h => simp [trS] at h
  | [.BoolOp _ _ _], h | [.NamedExpr _ _ _], h | [.BinOp _ _ _ _], h | [.UnaryOp _ _ _], h | [.Lambda _ _ _ _], h | [.IfExp _ _ _ _], h | [.Dict _ _ _], h | [.Set _ _ _], h | [.ListComp _ _ _ _], h | [.SetComp _ _ _ _], h | [.DictComp _ _ _ _ _], h
  | [.GeneratorExp _ _ _ _], h | [.Await _ _], h | [.Yield _ _], h | [.YieldFrom _ _], h | [.Compare _ _ _ _], h | [.Call _ _ _ _], h | [.FormattedValue _ _ _ _], h | [.JoinedStr _ _], h | [.Constant _ _ _], h | [.Attribute _ _ _], h | [.Starred _ _], h
  | [.List _ _], h | [.Slice _ _ _ _], h => simp [trS] at h
theorem AllS.zero : AllS C W 0 := ⟨fun Γ X s m _ _ _ h => by simp [trS] at h, fun Γ X s m _ _ _ h => by simp [trSs] at h⟩
theorem AllS.succ {n : Nat} (B : AllS C W n) : AllS C W (n + 1) := by
  have A := all_e C n
  refine ⟨fun [Wi2 : Wish] Γ X s m g hx hk h => ?_, fun [Wi2 : Wish] Γ X ss ms g hx hk h => ?_⟩
  · have hp : PassesOwn (model X.prog X.w) X.A X.env X.xe := hx.po
    have hN : X.N.Nodup := by rw [g.hN]; exact g.nd
    cases s with
    | Assign ts e pos => exact s_assign g hk h
    | AugAssign t op e pos =>
      cases t with
      | Name x px =>
        simp only [trS] at h
        split at h
        · rename_i i o me e1 e2 e3
          split at h
          · rename_i hs
            simp only [Option.some.injEq] at h
            subst h
            obtain ⟨hl, hf⟩ := sto_ok g hs
            have := xs_aug (W := W) (pos := pos) (px := px) (o := o) hN (by rw [g.hN]; exact ixS_get e1) hl (A.e Γ X e me g e3).1 hf
            rw [bopM e2] at this
            exact this
          · cases h
        · cases h
      | Subscript a i p =>
        simp only [trS] at h
        split at h
        · cases h
        · rename_i hpl
          split at h
          · rename_i o ma mi me e1 e2 e3 e4
            simp only [Option.some.injEq] at h
            subst h
            have := xs_augS (W := W) (pos := pos) (p := p) (o := o) (by simpa using hpl) (A.e Γ X a ma g e2).1 (A.e Γ X i mi g e3).1 (A.e Γ X e me g e4).1
            rw [bopM e1] at this
            exact this
          · cases h
      | _ => simp [trS] at h
    | If c a b pos =>
      simp only [trS] at h
      split at h
      · cases h
      · rename_i hn
        split at h
        · rename_i mc ma mb e1 e2 e3
          simp only [Option.some.injEq] at h
          subst h
          exact xs_if ((A.e Γ X c mc g e1).2 (notIf_ok hn)) (B.l Γ X a ma g hx hk e2) (B.l Γ X b mb g hx hk e3)
        · cases h
    | For tg it body els pos =>
      cases els with
      | nil =>
        simp only [trS] at h
        split at h
        · rename_i ik src t mb e1 e2 e3
          simp only [Option.some.injEq] at h
          subst h
          obtain ⟨h1, h2⟩ := A.i Γ X tg it ik src g e1
          exact xs_for hp g.calm h1 (tg_ok g n tg t e2) (B.l Γ X body mb g hx hk e3) h2
        · cases h
      | cons _ _ => simp [trS] at h
    | While c body els pos =>
      cases els with
      | nil =>
        simp only [trS] at h
        split at h
        · cases h
        · rename_i hn
          split at h
          · rename_i mc mb e1 e2
            simp only [Option.some.injEq] at h
            subst h
            exact xs_while hp ((A.e Γ X c mc g e1).2 (notIf_ok hn)) (B.l Γ X body mb g hx hk e2)
          · cases h
      | cons _ _ => simp [trS] at h
    | Return e pos =>
      cases e with
      | none =>
        simp only [trS, Option.some.injEq] at h
        subst h
        exact xs_retN
      | some e =>
        simp only [trS] at h
        split at h
        · rename_i me e1
          simp only [Option.some.injEq] at h
          subst h
          exact xs_ret (A.e Γ X e me g e1).1
        · cases h
    | Expr e pos =>
      simp only [trS] at h
      split at h
      · cases h
      · rename_i hc
        split at h
        · rename_i me e1
          simp only [Option.some.injEq] at h
          subst h
          exact xs_expr (A.e Γ X e me g e1).1 (swaps_other (by simpa using hc))
        · cases h
    | Pass pos => simp only [trS, Option.some.injEq] at h; subst h; exact xs_pass
    | Break pos => simp only [trS, Option.some.injEq] at h; subst h; exact xs_break
    | Continue pos => simp only [trS, Option.some.injEq] at h; subst h; exact xs_cont
    | Raise a b pos =>
      simp only [trS] at h
      split at h
      · rename_i x e ep
        obtain ⟨px, pc, rfl, rfl⟩ := raiseP_ok ep
        split at h
        · rename_i c me e1 e2
          split at h
          · rename_i hg
            simp only [Option.some.injEq] at h
            subst h
            obtain ⟨Bc, hm⟩ := g.cls x c e1
            exact xs_raise g.calm hx.tk g.dp Bc (glob_ok (by rw [g.sc]; exact hg)) hm g.sup (A.e Γ X e me g e2).1 (okName_1 (g.okG x _ e1)) (star_plain (notStar e2))
          · cases h
        · cases h
      · cases h
    | Try body hds els fin pos =>
      simp only [trS] at h
      split at h
      · rename_i x nm ep
        obtain ⟨p1, p2, p3, p4, p5, rfl, rfl, rfl⟩ := tryP_ok ep
        split at h
        · rename_i c i mb e1 e2 e3
          split at h
          · rename_i hcnd
            simp only [Option.some.injEq] at h
            subst h
            rw [Bool.and_eq_true] at hcnd
            obtain ⟨c1, c2⟩ := hcnd
            obtain ⟨Bc, hm⟩ := g.cls x c e1
            have hi : X.N[i]? = some nm := by rw [g.hN]; exact ixS_get e2
            have hok : okName nm = true := List.all_eq_true.mp g.okN nm (List.mem_of_getElem? (ixS_get e2))
            have hln : X.env.kindOf nm = some .local := by
              unfold PySem.Env.kindOf
              rw [g.sc]
              unfold isLocal at c2
              split at c2
              · assumption
              · cases c2
            refine xs_try hx.hs hx.hf hN hi hln (okName_1 hok) (okName_2 hok) ⟨glob_ok (by rw [g.sc]; exact c1), okName_1 (g.okG x _ e1), .inl hm⟩ hx.tk Bc fun E' pn xe tk po => ?_
            have g' : @Good ⟨Wi2.C, E'⟩ Γ C (X.tr pn xe) := @Good.mk ⟨Wi2.C, E'⟩ Γ C (X.tr pn xe) g.hN g.nd g.sc g.hfn g.calm g.ru g.okN g.okG g.okF g.val g.bl (goodX_of (X := X.tr pn xe) hx.hs hx.hf tk) g.dp g.sup g.cls g.fns
            have x' : @GoodS ⟨Wi2.C, E'⟩ (X.tr pn xe) := @GoodS.mk ⟨Wi2.C, E'⟩ (X.tr pn xe) tk po hx.hs hx.hf
            exact B.l (Wi := ⟨Wi2.C, E'⟩) Γ (X.tr pn xe) body mb g' x' hk e3
          · cases h
        · cases h
      · cases h
    | _ => simp [trS] at h
  · simp only [trSs] at h
    split at h
    · simp only [Option.some.injEq] at h
      subst h
      exact xs_nil
    · split at h
      · rename_i ms' e2
        simp only [Option.some.injEq] at h
        subst h
        refine xs_cons ?_ (B.l Γ X _ ms' g hx hk e2)
        split
        · rename_i m' e1
          exact B.s Γ X _ m' g hx hk e1
        · exact xs_never
      · cases h
theorem all_s (C : Fns) (W : Nat) : ∀ n, AllS C W n
  | 0 => .zero
  | n + 1 => (all_s C W n).succ
end
end MP

/-! MiniU: functions; a call's end. -/
namespace MP
open PySem PySem.Spec PyProof.Rows L2

section
variable {K : PySem.W.Frag} {ι ι' : List Addr} {F F' G H H' : Hp}
mutual
theorem Rep.cut (sG : Same F' G) (hp : ∀ (a : Nat) (p q : Addr), ι[a]? = some p → ι'[a]? = some q → ι[a]? = some q) : ∀ {x : MV} {v w : V}, Rep K ι F x v → Rep K ι' F' x w → Rep K ι G x w
  | _, _, _, .non, .non => .non
  | _, _, _, .bl b, .bl _ => .bl b
  | _, _, _, .int i, .int _ => .int i
  | _, _, _, .str x, .str _ => .str x
  | _, _, _, .tup _ r, .tup h r' => .tup (SqTsame sG h) (Reps.cut sG hp r r')
  | _, _, _, .lst _ r, .lst h r' => .lst (sG _ _ h) (Reps.cut sG hp r r')
  | _, _, _, .scr _ r, .scr h r' => .scr (SqLsame sG h) (Reps.cut sG hp r r')
  | _, _, _, .ref h, .ref h' => .ref (hp _ _ _ h h')
theorem Reps.cut (sG : Same F' G) (hp : ∀ (a : Nat) (p q : Addr), ι[a]? = some p → ι'[a]? = some q → ι[a]? = some q) : ∀ {x : List MV} {v w : List V}, Reps K ι F x v → Reps K ι' F' x w → Reps K ι G x w
  | _, _, _, .nil, .nil => .nil
  | _, _, _, .cons h r, .cons h' r' => .cons (Rep.cut sG hp h h') (Reps.cut sG hp r r')
end
theorem fz_all [Wi : Wish] {st : Store} {n0 : Nat} {ι0 : List Addr} {G : Hp} (sG : Same F G) (h0 : ∀ (a : Nat) (p : Addr), a < n0 → ι[a]? = some p → ι0[a]? = some p) (h1 : ∀ (a : Nat) (p : Addr) (xs : List MV), ¬ a < n0 → ι[a]? = some p → st[a]? = some xs → ∃ vs, G p = some (.lst vs) ∧ Reps K ι F xs vs) (n : Nat) :
    ∀ (xs ys : List MV) (vs : List V), optMap (fz n0 st n) xs = some ys → Reps K ι F xs vs → Reps K ι0 G ys vs
  | [], _, _, e, .nil => by simp only [optMap, Option.some.injEq] at e; subst e; exact .nil
  | x :: xs, ys, _, e, .cons r rr => by
    simp only [optMap] at e
    split at e
    · cases e
    · rename_i y ey
      split at e
      · cases e
      · rename_i ys' eys
        simp only [Option.some.injEq] at e
        subst e
        exact .cons (fz_ok sG h0 h1 n x y _ ey r) (fz_all sG h0 h1 n xs ys' _ eys rr)
theorem optMap_at {α β : Type} {f : α → Option β} : ∀ {xs : List α} {ys : List β} {i : Nat} {y : β}, optMap f xs = some ys → ys[i]? = some y → ∃ x, xs[i]? = some x ∧ f x = some y
  | [], _, i, y, e, h => by simp only [optMap, Option.some.injEq] at e; subst e; simp at h
  | x :: xs, _, i, y, e, h => by
    simp only [optMap] at e
    split at e
    · cases e
    · rename_i z ez
      split at e
      · cases e
      · rename_i ys' eys
        simp only [Option.some.injEq] at e
        subst e
        cases i with
        | zero => simp at h; subst h; exact ⟨x, rfl, ez⟩
        | succ i =>
          obtain ⟨w, h1, h2⟩ := optMap_at (i := i) eys (by simpa using h)
          exact ⟨w, by simpa using h1, h2⟩
theorem pre_take (h : Pre ι ι') : ∀ (a : Nat) (p : Addr), a < ι.length → ι'[a]? = some p → ι[a]? = some p := fun a p ha e => by
  have q := List.getElem?_eq_getElem ha
  have q2 := h a _ q
  rw [e] at q2
  rw [q, Option.some.inj q2]
open Classical in
theorem finish_ok [Wi : Wish] {keep : Bool} {st st1 : Store} {v : MV} {x : V} {Q : VK} (sm : Sim K ι F H st) (q : PostE K ι F H Q (finish keep st v st1)) (ex : Ext ι F H ι' F' H') (s1 : Sim K ι' F' H' st1) (r : Rep K ι' F' v x) : Q x H' := by
  unfold finish at q
  split at q
  · exact q ι' F' H' x ex s1 r
  · split at q
    · exact q.elim
    · rename_i v' ev
      let G : Hp := fun p => if p ∈ ι' ∧ p ∉ ι then H' p else F' p
      have Gin : ∀ p, p ∈ ι' → p ∉ ι → G p = H' p := fun p h1 h2 => if_pos ⟨h1, h2⟩
      have Gout : ∀ p, ¬ (p ∈ ι' ∧ p ∉ ι) → G p = F' p := fun p h => if_neg h
      have sG : Same F' G := fun p o e => by
        rw [Gout p fun hh => ?_]
        · exact e
        · obtain ⟨_, _, _, _, _, e3, _, _⟩ := s1.inι hh.1
          rw [e] at e3; cases e3
      have hlen : ι.length = st.length := sm.len
      have h0 : ∀ (a : Nat) (p : Addr), a < st.length → ι'[a]? = some p → ι[a]? = some p := fun a p ha e => pre_take ex.pre a p (by rw [hlen]; exact ha) e
      have nin : ∀ (a : Nat) (p : Addr), ¬ a < st.length → ι'[a]? = some p → p ∉ ι := fun a p ha e hm => by
        obtain ⟨b, hb, eb⟩ := List.getElem_of_mem hm
        have e1 : ι[b]? = some p := by rw [List.getElem?_eq_getElem hb, eb]
        have e2 := s1.inj a b p e (ex.pre b p e1)
        rw [hlen] at hb
        omega
      have h1 : ∀ (a : Nat) (p : Addr) (xs : List MV), ¬ a < st.length → ι'[a]? = some p → st1[a]? = some xs → ∃ vs, G p = some (.lst vs) ∧ Reps K ι' F' xs vs := fun a p xs ha e1 e2 => by
        obtain ⟨_, vs, g2, g3⟩ := s1.obj a p xs e1 e2
        exact ⟨vs, by rw [Gin p (mem_of_get e1) (nin a p ha e1)]; exact g2, g3⟩
      have rv : Rep K ι G v' x := fz_ok sG h0 h1 _ v v' x ev r
      have GH : Same G H' := fun p o e => by
        by_cases hp : p ∈ ι' ∧ p ∉ ι
        · rw [Gin p hp.1 hp.2] at e; exact e
        · rw [Gout p hp] at e; exact s1.same p o e
      have ex2 : Ext ι F H ι G H' := ⟨Pre.refl, fun p o e => sG p o (ex.sF p o e), ex.old, fun p m n => absurd m n, fun p n n' => by
        by_cases hp : p ∈ ι' ∧ p ∉ ι
        · exact ex.fresh p hp.1 hp.2
        · rw [Gout p hp] at n'; exact ex.newF p n n', ex.there⟩
      have Gnone : ∀ (a : Nat) (p : Addr), ι[a]? = some p → F' p = none → G p = none := fun a p e hF => by
        rw [Gout p fun hh => hh.2 (mem_of_get e)]; exact hF
      have lt_of : ∀ {a : Nat} {p : Addr}, ι[a]? = some p → a < st.length := fun {a p} e => by rw [← hlen]; exact (List.getElem?_eq_some_iff.mp e).1
      split at q
      · rename_i et
        have sm2 : Sim K ι G H' st := ⟨GH, hlen, sm.inj, fun a p xs e1 e2 => by
          have e3 : st1[a]? = some xs := by
            rw [← et, List.getElem?_take_of_lt (lt_of e1)] at e2
            exact e2
          obtain ⟨g1, vs, g2, g3⟩ := s1.obj a p xs (ex.pre a p e1) e3
          obtain ⟨_, ws, _, g4⟩ := sm.obj a p xs e1 e2
          exact ⟨Gnone a p e1 g1, vs, g2, Reps.cut sG (fun b y z e1 e2 => h0 b z (lt_of e1) e2) g4 g3⟩⟩
        exact q ι G H' x ex2 sm2 rv
      · split at q
        · rename_i st' est
          have l1 : st'.length = st.length := by
            have l2 := optMap_get est
            have l3 : st.length ≤ st1.length := by
              rw [← hlen, ← s1.len]
              by_cases hz : ι.length = 0
              · omega
              · have hlast : ι.length - 1 < ι.length := by omega
                have := (List.getElem?_eq_some_iff.mp (ex.pre (ι.length - 1) _ (List.getElem?_eq_getElem hlast))).1
                omega
            rw [l2, List.length_take]
            omega
          have sm2 : Sim K ι G H' st' := ⟨GH, by rw [l1]; exact hlen, sm.inj, fun a p xs e1 e2 => by
            obtain ⟨ys, e3, e4⟩ := optMap_at est e2
            rw [List.getElem?_take_of_lt (lt_of e1)] at e3
            obtain ⟨g1, vs, g2, g3⟩ := s1.obj a p ys (ex.pre a p e1) e3
            exact ⟨Gnone a p e1 g1, vs, g2, fz_all sG h0 h1 _ ys xs vs e4 g3⟩⟩
          exact q ι G H' x ex2 sm2 rv
        · exact q.elim
end

/-! ### all functions -/
theorem startE_ok {K : PySem.W.Frag} {ι : List Addr} {F : Hp} {f : Fn} {args : List MV} {vs : List V} {N : List Str} (r : Reps K ι F args vs) (hN : f.slots = N.length) : EnvR K ι F (startE f args) (L2.start N vs) := by
  have hl := r.len
  refine ⟨?_, fun i v e => ?_⟩
  · unfold startE L2.start
    simp only [List.length_append, List.length_map, List.length_replicate, hN, hl]
  · unfold startE at e
    by_cases hi : i < args.length
    · rw [List.getElem?_append_left (by simpa using hi), List.getElem?_map] at e
      cases e1 : args[i]? with
      | none => rw [e1] at e; cases e
      | some y =>
        rw [e1] at e
        simp only [Option.map_some, Option.some.injEq] at e
        subst e
        obtain ⟨x, h1, h2⟩ := r.get e1
        refine ⟨x, ?_, h2⟩
        unfold L2.start
        rw [List.getElem?_append_left (by rw [List.length_map, ← hl]; exact hi), List.getElem?_map, h1]
        rfl
    · rw [List.getElem?_append_right (by simpa using hi), List.getElem?_replicate] at e
      split at e <;> cases e

/-- a function of the program -/
structure PF where
  x : Str
  st : Stmt
  N : List Str
  ps : List Str
  mu : List (Nat × Nat)
  ds : List MV
def PF.tc (p : PF) (G : List (Str × GK)) (free : List Str) : TC := ⟨p.N, defScope p.st, fun _ => true, G, free, p.mu⟩
def fnScopeB (N ps : List Str) (sc : Scope) : Bool :=
  decide (sc.kind = .function) && !sc.isCoroutine && !sc.isGenerator && decide (N.Nodup) && decide (N.take ps.length = ps) && ps.all (fun x => decide (sc.names.lookup x = some .local) || decide (sc.names.lookup x = some .cell)) && sc.names.all fun y => decide (y.2 ≠ .free)
theorem fnScope_of {N ps : List Str} {sc : Scope} (h : fnScopeB N ps sc = true) : FnScope N ps sc := by
  unfold fnScopeB at h
  simp only [Bool.and_eq_true, Bool.not_eq_true', decide_eq_true_eq, List.all_eq_true, Bool.or_eq_true] at h
  obtain ⟨⟨⟨⟨⟨⟨h1, h2⟩, h3⟩, h4⟩, h5⟩, h6⟩, h7⟩ := h
  exact ⟨h1, h2, h3, h4, h5, h6, h7⟩
/-- what stands of the program ahead of any heap -/
def pfOk (n : Nat) (G : List (Str × GK)) (free : List Str) (p : PF) (f : Fn) : Prop :=
  fnScopeB p.N p.ps (defScope p.st) = true ∧ p.N.all okName = true ∧ f.slots = p.N.length ∧ f.arity = p.ps.length ∧ trSs n (p.tc G free) (defBody p.st) = some f.body
/-- what stands of it in the heap -/
structure Prog (P : Program) (Cl : Nat → Addr) (n : Nat) (K : PySem.W.Frag) (mg : Str → Option Value) (G : List (Str × GK)) (free : List Str) (pfs : List PF) (fs : List Fn) : Prop where
  okG : ∀ x g, G.lookup x = some g → okName x = true
  okF : ∀ x ∈ free, okName x = true ∧ mg x = none
  val : ∀ x v, G.lookup x = some (.val v) → ∃ u w, mg x = some u ∧ RelV w u ∧ ∀ ι F, Rep K ι F v w
  bl : ∀ x b, G.lookup x = some (.bl b) → ∃ id, blId b = .builtin id ∧ mg x = some (.builtin id)
  sup : mg "super" = none
  cls : ∀ x c, G.lookup x = some (.cls c) → BadC P K (Cl c) ∧ mg x = some (.ref (Cl c))
  fns : ∀ x i m ds, G.lookup x = some (.fn i m ds) → ∃ (p : PF) (f : Fn) (a : Addr) (fd : FuncData) (dvs : List V) (kws : List (Str × V)), pfs[i]? = some p ∧ fs[i]? = some f ∧ pfOk n G free p f ∧ FunD K p.x p.x (defArgs p.st) (defBody p.st) (defScope p.st) dvs kws a fd ∧ mg x = some (.ref a) ∧
    (∀ j, ∃ dsV, Vals (dvs.drop j) dsV ∧ Binds K fd p.ps dsV) ∧ ∀ ι F, Reps K ι F ds dvs
theorem callF_len {fs : List Fn} {W d i : Nat} {args : List MV} {st : Store} {f : Fn} (hf : fs[i]? = some f) (h : args.length ≠ f.arity) : callF fs W d i args st = .stuck := by
  cases d with
  | zero => rfl
  | succ d =>
    simp only [callF, hf]
    rw [if_neg fun hh => h hh.1]
theorem callF_body {P : Program} {Cl : Nat → Addr} {w : World} {K : PySem.W.Frag} {mg : Str → Option Value} {base : Heap} {G : List (Str × GK)} {free : List Str} {pfs : List PF} {fs : List Fn} {n W : Nat} (T : Prog P Cl n K mg G free pfs fs) :
    ∀ (d i : Nat) (p : PF) (f : Fn) (a : Addr) (fd : FuncData) (dvs : List V) (kws : List (Str × V)), fs[i]? = some f → pfOk n G free p f → FunD K p.x p.x (defArgs p.st) (defBody p.st) (defScope p.st) dvs kws a fd →
      FnOk P w K mg base (L2.CX P w) d a fd p.ps (spF Cl K (callF fs W d) i p.ps.length) := by
  intro d
  induction d with
  | zero =>
    intro i p f a fd dvs kws hf hp FD
    refine ⟨fun vs H Q E ⟨ι, F, args, st, sm, r, l, q⟩ => by rw [← r.len]; exact l, fun A outer s H args us vs Q E _ _ _ _ ⟨ι, F, as, st, sm, r, l, q⟩ => ?_⟩
    exact q.elim
  | succ d ih =>
    intro i p f a fd dvs kws hf hp FD
    obtain ⟨h1, h2, h3, h4, h5⟩ := hp
    have S := fnScope_of h1
    refine FD.ok S (fun vs H Q E ⟨ι, F, args, st, sm, r, l, q⟩ => by rw [← r.len]; exact l) fun cdv A outer s H vs Q E hr ⟨ι, F, args, st, sm, r, l, q⟩ => ?_
    letI Wi : Wish := ⟨Cl, E⟩
    refine ⟨tSs K (callF fs W d) W f.body, ?_, ?_⟩
    · have tk : Takes (cxOf (L2.CX P w) P w K mg base p.N p.x (defScope p.st) a cdv A outer s H E) (wX ⟨Cl, E⟩) := takes_of rfl rfl rfl rfl
      have g : Good (p.tc G free) (callF fs W d) (cxOf (L2.CX P w) P w K mg base p.N p.x (defScope p.st) a cdv A outer s H E) :=
        ⟨rfl, S.nd, rfl, rfl, rfl, by have := hr.un; show (A.deeper (envOfC p.x (defScope p.st) s.heap.objs.size a cdv)).units + 65 < cLine; omega, h2, T.okG, T.okF, T.val, T.bl, goodX_of rfl rfl tk,
          by have := hr.dp; show (A.deeper (envOfC p.x (defScope p.st) s.heap.objs.size a cdv)).depth + 5 < recursionLimit; omega, T.sup, T.cls, fun x j m ds hx e => by
          obtain ⟨p2, f2, a2, fd2, dvs2, kws2, q1, q2, q3, q4, q5, q6, q7⟩ := T.fns x j m ds hx
          obtain ⟨dsV, q8, q9⟩ := q6 e
          refine ⟨d, a2, fd2, p2.ps, dsV, dvs2.drop e, ih j p2 f2 a2 fd2 dvs2 kws2 q2 q3 q4, hr, q5, q4.kp, q9, q8, fun ι F => (q7 ι F).drop e, fun args st hl => ?_⟩
          exact callF_len q2 (by rw [q3.2.2.2.1]; exact hl)⟩
      exact (all_s (callF fs W d) W n).l _ _ _ _ g ⟨tk, passes_of rfl, rfl, rfl⟩ S.kind h5
    · refine ⟨ι, F, startE f args, st, sm, startE_ok r h3, ?_⟩
      have har : args.length = f.arity ∧ f.arity ≤ f.slots := ⟨by rw [l, h4], by
        have := congrArg List.length S.pre
        rw [List.length_take] at this
        rw [h4, h3]; omega⟩
      simp only [callF, hf] at q
      rw [if_pos har] at q
      cases e : eSs (callF fs W d) W f.body (startE f args) st with
      | next env st1 =>
        rw [e] at q
        exact fun ι' F' H' σ' ex s1 en => finish_ok sm q ex s1 .non
      | ret v st1 =>
        rw [e] at q
        exact fun ι' F' H' x ex s1 r1 => finish_ok sm q ex s1 r1
      | brk env st1 => rw [e] at q; exact q.elim
      | cont env st1 => rw [e] at q; exact q.elim
      | exc c v en st1 => rw [e] at q; exact q
      | stuck => rw [e] at q; exact q.elim
end MP

/-! MiniEh: the facts of an own exception class, checked. -/
namespace MP
open PySem PySem.Spec PyProof.Rows L2
abbrev InW : Type := Option (Str × Str × Arguments × FuncBody × Scope × Addr × Addr)
def inAt (K : PySem.W.Frag) (x : Str) : Addr := He.ma K (He.ga K x) "__init__"
def inW (K : PySem.W.Frag) (x : Str) : InW := match K.lookup (inAt K x) with
  | some ⟨_, _, .func fd, _⟩ => some (fd.name, fd.qualname, fd.params, fd.body, fd.scope, fd.globals, fd.builtins)
  | _ => none
def inV (p : PosI) (qual : Str) : InW := some ("__init__", qual, argsI p.pa p.pb, .stmts (bodyI p), scI, mainGlobals, builtinsNs)
def clsB (K : PySem.W.Frag) (C : Addr) : Bool := match K.lookup C with
  | some ⟨.type t, _, .cls cd, sl⟩ => decide (t = "type") && (cd.hasDict && (!cd.hasDel && ((match sl.toList with
    | [_, _, _, _, k, _] => decide (k = some (.builtin "Exception.__new__"))
    | _ => false) && (match cd.mro with
    | .ref c :: .ref D :: l => decide (c = C) && (decide (l = ESX.exTail) && decide (PySem.W.alongIn K "__init__" (bmOf D) = some (some (.builtin "Exception.__init__"))))
    | _ => false))))
  | _ => false
theorem clsB_ok {K : PySem.W.Frag} {C : Addr} (h : clsB K C = true) : ∃ D nm q N bs sn sub ab col dd k0 k1 k2 k3 k5, K.lookup C = some (excClassObj nm q C N bs (bmOf D) true sn sub ab col dd k0 k1 k2 k3 k5 "Exception.__new__") ∧ PySem.W.alongIn K "__init__" (bmOf D) = some (some (.builtin "Exception.__init__")) := by
  unfold clsB at h
  split at h
  · rename_i t od cd sl hl
    simp only [Bool.and_eq_true] at h
    obtain ⟨h1, h2, h3, h4, h5⟩ := h
    obtain ⟨nm, bs, mro, ns, qn, hd, sn, sb, ab, col, del⟩ := cd
    simp only at h2 h3 h4 h5
    split at h4
    · rename_i k0 k1 k2 k3 k4 k5 hs
      split at h5
      · rename_i c D l
        simp only [Bool.and_eq_true, decide_eq_true_eq] at h4 h5
        obtain ⟨h6, h7, h8⟩ := h5
        have e1 : t = "type" := of_decide_eq_true h1
        have e2 : del = false := by simpa using h3
        have e3 : sl = #[k0, k1, k2, k3, k4, k5] := by
          rw [← Array.toArray_toList (xs := sl), hs]
        subst e1 h2 e2 e3 h4 h6 h7
        exact ⟨D, nm, qn, ns, bs, sn, sb, ab, col, od, k0, k1, k2, k3, k5, hl, h8⟩
      · cases h5
    · cases h4
  · cases h
def inB (file : Str) (K : PySem.W.Frag) (C fI : Addr) : Bool := match K.lookup fI with
  | some ⟨_, _, .func fd, _⟩ => decide (fd.defaults = .none) && (PySem.W.codeIn K fd.code fd.qualname && ((match fd.closure with
    | [(n, cc)] => decide (n = "__class__") && (match K.lookup cc with
      | some ⟨_, _, .cell (some (.ref a)), _⟩ => decide (a = C)
      | _ => false)
    | _ => false) && (match fd.code with
    | .ref cda => (match K.lookup cda with
      | some ⟨_, _, .fields vs, _⟩ => (match vs.toList with
        | _ :: _ :: .str f _ :: _ => decide (f = file)
        | _ => false)
      | _ => false)
    | _ => false)))
  | _ => false
def badB (file : Str) (K : PySem.W.Frag) (x : Str) : Bool :=
  (He.Fa.glo x).ok K && (clsB K (He.ga K x) && (inB file K (He.ga K x) (inAt K x) && (xfB K (He.ga K x) && (decide (PySem.W.findIn K (.ref (He.ga K x)) "__init__" = some (some (.ref (inAt K x)))) && (decide (PySem.W.typeIn K (.ref (inAt K x)) = some (.type "function")) &&
  (decide (PySem.W.nsIn K cStatics "thirdparty.any" = some none) && (decide (PySem.W.findIn K (.ref (He.ga K x)) "__setattr__" = some (some (.builtin "object.__setattr__"))) && (decide (PySem.W.findIn K (.ref (He.ga K x)) "at" = some none) && (decide (PySem.W.typeIn K (.ref (He.ga K x)) = some (.type "type")) &&
  (decide (PySem.W.subIn K (.ref (He.ga K x)) (.type "BaseException") = some true) && (PySem.W.keepIn K (.ref (He.ga K x)) && decide (PySem.W.exmOne K (.ref (He.ga K x)) (.ref (He.ga K x)) = some true))))))))))))
theorem bad_ok {prog : Program} {file : Str} {K : PySem.W.Frag} {x : Str} {p : PosI} {qual : Str} (c : badB file K x = true) (e : inW K x = inV p qual) (hm : p.msg.length ≤ sizeLine) (hf : ((prog.main.file : Str) == file) = true) (ht : (prog.main.scope.names.lookup ("super" : Str)).isSome = false) : BadC prog K (He.ga K x) := by
  unfold badB at c
  simp only [Bool.and_eq_true, decide_eq_true_eq] at c
  obtain ⟨_, c1, c2, c3, c4, c5, c6, c7, c8, c9, c10, c11, c12⟩ := c
  refine ⟨clsB_ok c1, ?_, ht, c6, c7, c8, c9, c10, c11, xfB_ok c3, c12⟩
  unfold inB at c2
  unfold inW inV at e
  split at c2
  · rename_i oc od fd osl hl
    rw [hl] at e
    simp only [Option.some.injEq, Prod.mk.injEq] at e
    obtain ⟨n1, n2, n3, n4, n5, n6, n7, n8, n9, n10, n11, n12, n13, n14, n15⟩ := fd
    simp only at e
    obtain ⟨h1, h2, h3, h4, h5, h6, h7⟩ := e
    subst h1 h2 h3 h4 h5 h6 h7
    simp only [Bool.and_eq_true, decide_eq_true_eq] at c2
    obtain ⟨d1, d2, d3, d4⟩ := c2
    subst d1
    split at d3
    · rename_i n cc
      simp only [Bool.and_eq_true, decide_eq_true_eq] at d3
      obtain ⟨rfl, d5⟩ := d3
      split at d5
      · rename_i cl cld a csl hcc
        have d5 := of_decide_eq_true d5
        subst d5
        split at d4
        · rename_i cda
          split at d4
          · rename_i ccl cdd vs ccs hda
            split at d4
            · rename_i v0 v1 f tf vr hv
              have d4 := of_decide_eq_true d4
              subst d4
              refine ⟨inAt K x, cc, cda, oc, od, osl, p, n2, _, _, _, _, _, hl, c4, c5, d2, hm, ⟨cl, cld, csl, hcc⟩, ccl, cdd, vs, ccs, f, tf, hda, ?_, hf⟩
              have : vs = (v0 :: v1 :: Value.str f tf :: vr).toArray := by rw [← Array.toArray_toList (xs := vs), hv]
              rw [this]
              simp
            · cases d4
          · cases d4
        · cases d4
      · cases d5
    · cases d3
  · cases c2
end MP

/-! MiniV: the program's facts, read off the head; a law's end. -/
namespace MP
open PySem PySem.Spec PyProof.Rows L2

/-! ### values of the module's names -/
def all2 {α β : Type} (f : α → β → Bool) : List α → List β → Bool
  | [], [] => true
  | x :: xs, y :: ys => f x y && all2 f xs ys
  | _, _ => false
def mvB (K : PySem.W.Frag) : Nat → MV → Value → Bool
  | _, .non, .none => true
  | _, .bl b, .bool c => b == c
  | _, .int i, .int j _ => decide (i = j)
  | _, .str x, .str y _ => decide (x = y)
  | n + 1, .tup xs, .ref a => match K.lookup a with
    | some ⟨.type c, _, .seq its _, _⟩ => decide (c = "tuple") && (decide (its.size ≤ sizeLine) && all2 (mvB K n) xs its.toList)
    | _ => false
  | _, _, _ => false
theorem all2_ok {K : PySem.W.Frag} {n : Nat} (h : ∀ m u, mvB K n m u = true → ∃ w, RelV w u ∧ ∀ ι F, Rep K ι F m w) : ∀ {ms : List MV} {us : List Value}, all2 (mvB K n) ms us = true → ∃ ws, Vals ws us ∧ ∀ ι F, Reps K ι F ms ws
  | [], [], _ => ⟨[], .nil, fun _ _ => .nil⟩
  | [], _ :: _, e => by simp [all2] at e
  | _ :: _, [], e => by simp [all2] at e
  | m :: ms, u :: us, e => by
    simp only [all2, Bool.and_eq_true] at e
    obtain ⟨w, h1, h2⟩ := h m u e.1
    obtain ⟨ws, h3, h4⟩ := all2_ok h e.2
    exact ⟨w :: ws, .cons h1 h3, fun ι F => .cons (h2 ι F) (h4 ι F)⟩
theorem mvB_ok {K : PySem.W.Frag} : ∀ (n : Nat) (m : MV) (u : Value), mvB K n m u = true → ∃ w, RelV w u ∧ ∀ ι F, Rep K ι F m w := by
  intro n
  induction n with
  | zero =>
    intro m u h
    cases m <;> cases u <;> simp only [mvB] at h <;> first | (cases h; done) | skip
    · exact ⟨.non, rfl, fun _ _ => .non⟩
    · rename_i b c
      have e : b = c := eq_of_beq h
      subst e
      exact ⟨.bl b, rfl, fun _ _ => .bl b⟩
    · rename_i i j t
      have e : i = j := of_decide_eq_true h
      subst e
      exact ⟨.int i, ⟨t, rfl⟩, fun _ _ => .int i⟩
    · rename_i i j t
      have e : i = j := of_decide_eq_true h
      subst e
      exact ⟨.str i, ⟨t, rfl⟩, fun _ _ => .str i⟩
  | succ n ih =>
    intro m u h
    cases m <;> cases u <;> simp only [mvB] at h <;> first | (cases h; done) | skip
    · exact ⟨.non, rfl, fun _ _ => .non⟩
    · rename_i b c
      have e : b = c := eq_of_beq h
      subst e
      exact ⟨.bl b, rfl, fun _ _ => .bl b⟩
    · rename_i i j t
      have e : i = j := of_decide_eq_true h
      subst e
      exact ⟨.int i, ⟨t, rfl⟩, fun _ _ => .int i⟩
    · rename_i i j t
      have e : i = j := of_decide_eq_true h
      subst e
      exact ⟨.str i, ⟨t, rfl⟩, fun _ _ => .str i⟩
    · rename_i xs a
      cases q : K.lookup a with
      | none => rw [q] at h; cases h
      | some o =>
        obtain ⟨oc, od, dt, osl⟩ := o
        rw [q] at h
        cases oc with
        | type c =>
          cases dt with
          | seq its k =>
            simp only [Bool.and_eq_true] at h
            obtain ⟨h1, h2, h3⟩ := h
            obtain ⟨ws, h4, h5⟩ := all2_ok ih h3
            exact ⟨.ref a, rfl, fun ι F => .tup (.inr ⟨_, its, k, q, congrArg Value.type (of_decide_eq_true h1), rfl, of_decide_eq_true h2, h4⟩) (h5 ι F)⟩
          | _ => cases h
        | _ => cases dt <;> cases h

/-! ### the facts -/
structure Facts where
  free : List Str
  vals : List (Str × MV)
  bls : List (Str × Bl)
  pfs : List PF
  cls : List (Str × PosI × Str)
  file : Str
def fnG : Nat → List PF → List (Str × GK)
  | _, [] => []
  | i, p :: ps => (p.x, .fn i p.ps.length p.ds) :: fnG (i + 1) ps
def clsG : Nat → List (Str × PosI × Str) → List (Str × GK)
  | _, [] => []
  | i, q :: r => (q.1, .cls i) :: clsG (i + 1) r
theorem clsG_mem : ∀ {ps : List (Str × PosI × Str)} {k : Nat} {x : Str} {g : GK}, (x, g) ∈ clsG k ps → ∃ i q, g = .cls i ∧ ps[i - k]? = some q ∧ k ≤ i ∧ q.1 = x
  | [], _, _, _, h => by cases h
  | p :: ps, k, x, g, h => by
    rcases List.mem_cons.mp h with e | h
    · simp only [Prod.mk.injEq] at e
      exact ⟨k, p, e.2, by simp, Nat.le_refl _, e.1.symm⟩
    · obtain ⟨i, q, h0, h1, h2, h3⟩ := clsG_mem h
      have e : i - k = (i - (k + 1)) + 1 := by omega
      exact ⟨i, q, h0, by rw [e]; simpa using h1, by omega, h3⟩
def Facts.G (T : Facts) : List (Str × GK) := fnG 0 T.pfs ++ (T.vals.map (fun q => (q.1, GK.val q.2)) ++ (T.bls.map (fun q => (q.1, GK.bl q.2)) ++ clsG 0 T.cls))
theorem fnG_mem : ∀ {ps : List PF} {k i m : Nat} {x : Str} {ds : List MV}, (x, GK.fn i m ds) ∈ fnG k ps → ∃ p, ps[i - k]? = some p ∧ k ≤ i ∧ p.x = x ∧ p.ds = ds
  | [], _, _, _, _, _, h => by cases h
  | p :: ps, k, i, m, x, ds, h => by
    rcases List.mem_cons.mp h with e | h
    · simp only [Prod.mk.injEq, GK.fn.injEq] at e
      obtain ⟨e1, e2, e3, e4⟩ := e
      subst e2
      exact ⟨p, by simp, Nat.le_refl _, e1.symm, e4.symm⟩
    · obtain ⟨q, h1, h2, h3⟩ := fnG_mem h
      have e : i - k = (i - (k + 1)) + 1 := by omega
      exact ⟨q, by rw [e]; simpa using h1, by omega, h3⟩
theorem fnG_no : ∀ {ps : List PF} {k : Nat} {x : Str} {g : GK}, (x, g) ∈ fnG k ps → ∃ i m ds, g = .fn i m ds
  | [], _, _, _, h => by cases h
  | p :: ps, k, x, g, h => by
    rcases List.mem_cons.mp h with e | h
    · simp only [Prod.mk.injEq] at e
      exact ⟨_, _, _, e.2⟩
    · exact fnG_no h
def dvOf : MV → He.Dv
  | .bl b => .bl b
  | .int i => .int i
  | .str x => .str x
  | _ => .non
def simpleB : MV → Bool
  | .non => true | .bl _ => true | .int _ => true | .str _ => true | _ => false
def PF.defD (p : PF) : He.DefD := ⟨(p.x, none), p.x, p.x, defArgs p.st, defBody p.st, defScope p.st, p.ds.map dvOf, []⟩
theorem dv_rep {K : PySem.W.Frag} : ∀ {ds : List MV}, ds.all simpleB = true → ∀ ι F, Reps K ι F ds ((ds.map dvOf).map (He.Dv.v K))
  | [], _, _, _ => .nil
  | d :: ds, h, ι, F => by
    rw [List.all_cons, Bool.and_eq_true] at h
    refine .cons ?_ (dv_rep h.2 ι F)
    cases d with
    | non => exact .non
    | bl b => exact .bl b
    | int i => exact .int i
    | str x => exact .str x
    | _ => simp [simpleB] at h
def valB (K : PySem.W.Frag) (q : Str × MV) : Bool := match PySem.W.nsIn K mainGlobals q.1 with
  | some (some u) => mvB K 4 q.2 u
  | _ => false
def blB (K : PySem.W.Frag) (q : Str × Bl) : Bool := match blId q.2 with
  | .builtin id => He.eqO (PySem.W.nsIn K mainGlobals q.1) (some (some (.builtin id)))
  | _ => false
abbrev AlM : Type := Bool × List He.FnW × List InW
def Facts.obs (T : Facts) (K : PySem.W.Frag) : AlM := (((T.free.all fun x => (He.Fa.free x).ok K) && T.vals.all (valB K)) && ((T.bls.all (blB K)) && ((T.pfs.all fun p => p.defD.ok K && (He.Fa.glo p.x).ok K) && T.cls.all fun q => badB T.file K q.1)), T.pfs.map (fun p => He.fnW K p.defD.at_), T.cls.map fun q => inW K q.1)
def Facts.val (T : Facts) : AlM := (true, T.pfs.map (fun p => p.defD.val), T.cls.map fun q => inV q.2.1 q.2.2)
def Facts.Cl (T : Facts) (K : PySem.W.Frag) (i : Nat) : Addr := match T.cls[i]? with
  | some q => He.ga K q.1
  | none => 0
def Facts.says (T : Facts) (K : PySem.W.Frag) : Prop := T.obs K = T.val
/-- of the classes: their functions, and what these name -/
def clsAs (g : Addr → Option Obj) (as : List Addr) : List Addr :=
  let fs := as.flatMap fun a => match g a with
    | some o => (match o.data with
      | .cls cd => (match g cd.ns with
        | some d => He.refsD d
        | none => [])
      | _ => [])
    | none => []
  fs ++ fs.flatMap fun a => match g a with
    | some o => (match o.data with
      | .func _ => He.refsD o
      | _ => [])
    | none => []
def asX (g : Addr → Option Obj) (n : Nat) : List Addr := let as := He.asD g n; cStatics :: (as ++ clsAs g as)
def Facts.obsG (T : Facts) (n : Nat) (g : Addr → Option Obj) : AlM := T.obs (He.frG g (asX g n))
def Facts.hook (T : Facts) (n : Nat) : PySem.W.Hook where
  α := AlM
  obs := fun s => T.obsG n s.heap.get?
  val := fun _ => T.val
  says := fun _ h => ∃ K : PySem.W.Frag, K.In h ∧ T.says K
  of := fun _ _ e => ⟨_, He.frG_in, e⟩
  keeps := fun _ _ _ ⟨K, hK, c⟩ k => ⟨K, PySem.W.Frag.In.keeps hK k, c⟩
def Facts.ob (T : Facts) (n : Nat) (s : PySem.W.SharedT) : AlM := T.obsG n (HandSHeadRun.getT s)
theorem Facts.ob_eq (T : Facts) (n : Nat) (s : PySem.W.SharedT) : T.ob n s = (T.hook n).obs s.abs := by
  have e : HandSHeadRun.getT s = s.abs.heap.get? := funext (HandSHeadRun.getT_eq s)
  unfold Facts.ob
  rw [e] <;> rfl
/-- how the written arguments bind, by computation -/
structure BindsOk (p : PF) : Prop where
  simp : p.ds.all simpleB = true
  none : p.ds = [] → ∀ (kV doc pm : Value) (an : Option Addr) (cdv ct : Value) (us : List Value), us.length = p.ps.length → bindArgs (PySem.W.fnOf p.x p.x (defArgs p.st) (defBody p.st) (defScope p.st) .none kV doc pm an cdv ct) ⟨us, []⟩ = pure (p.ps.zip us)
  some : p.ds ≠ [] → p.ds.length ≤ p.ps.length ∧ ∀ (j : Nat), j ≤ p.ds.length → ∀ (T : Addr) (kV doc pm : Value) (an : Option Addr) (cdv ct : Value) (us its : List Value), us.length = p.ps.length - (p.ds.length - j) → its.length = p.ds.length →
      ∃ k, bindArgs (PySem.W.fnOf p.x p.x (defArgs p.st) (defBody p.st) (defScope p.st) (.ref T) kV doc pm an cdv ct) ⟨us, []⟩ = seqItems? (.ref T) >>= k ∧ k (Option.some its.toArray) = pure (p.ps.zip (us ++ its.drop j))
theorem BindsOk.binds {p : PF} (b : BindsOk p) {K : PySem.W.Frag} {a : Addr} {fd : FuncData} (F : FunD K p.x p.x (defArgs p.st) (defBody p.st) (defScope p.st) ((p.ds.map dvOf).map (He.Dv.v K)) [] a fd) (j : Nat) : ∃ dsV, Vals (((p.ds.map dvOf).map (He.Dv.v K)).drop j) dsV ∧ Binds K fd p.ps dsV := by
  by_cases h : p.ds = []
  · have e : (p.ds.map dvOf).map (He.Dv.v K) = [] := by rw [h]; rfl
    rw [e] at F ⊢
    rw [List.drop_nil]
    exact ⟨[], .nil, F.bindsN (b.none h)⟩
  · obtain ⟨hl, hb⟩ := b.some h
    have hlen : ((p.ds.map dvOf).map (He.Dv.v K)).length = p.ds.length := by simp
    by_cases hj : j ≤ p.ds.length
    · refine F.binds1 (p.ps.length - (p.ds.length - j)) j (fun e => h (by simpa using e)) (by rw [hlen]; omega) fun T kV doc pm an cdv ct us its h1 h2 => ?_
      exact hb j hj T kV doc pm an cdv ct us its h1 (by rw [h2, hlen])
    · have e : ((p.ds.map dvOf).map (He.Dv.v K)).drop j = ((p.ds.map dvOf).map (He.Dv.v K)).drop p.ds.length := by
        rw [List.drop_of_length_le (by rw [hlen]; omega), List.drop_of_length_le (by rw [hlen]; omega)]
      rw [e]
      refine F.binds1 p.ps.length p.ds.length (fun e => h (by simpa using e)) (by rw [hlen]; omega) fun T kV doc pm an cdv ct us its h1 h2 => ?_
      exact hb p.ds.length (Nat.le_refl _) T kV doc pm an cdv ct us its (by rw [h1]; omega) (by rw [h2, hlen])
section
variable {T : Facts} {K : PySem.W.Frag} {h : Heap} {mg : Str → Option Value} {fs : List Fn} {n : Nat}
/-- what is checked of the text -/
structure Static (T : Facts) (n : Nat) (fs : List Fn) : Prop where
  ok : ∀ (i : Nat) (p : PF), T.pfs[i]? = some p → ∃ f : Fn, fs[i]? = some f ∧ pfOk n T.G T.free p f ∧ BindsOk p
  okG : T.G.all (fun q => okName q.1) = true
  okF : T.free.all okName = true
  sup : T.free.contains "super" = true
  msg : T.cls.all (fun q => decide (q.2.1.msg.length ≤ sizeLine)) = true
theorem prog_of {P : Program} (hf : ((P.main.file : Str) == T.file) = true) (ht : (P.main.scope.names.lookup ("super" : Str)).isSome = false) (S : Static T n fs) (X : K.In h) (G : h.Ns mainGlobals mg) (c : T.says K) : Prog P (T.Cl K) n K mg T.G T.free T.pfs fs := by
  have c1 : (((T.free.all fun x => (He.Fa.free x).ok K) && T.vals.all (valB K)) && ((T.bls.all (blB K)) && ((T.pfs.all fun p => p.defD.ok K && (He.Fa.glo p.x).ok K) && T.cls.all fun q => badB T.file K q.1))) = true := congrArg (fun z : AlM => z.1) c
  have c2 : (T.pfs.map fun p => He.fnW K p.defD.at_) = T.pfs.map fun p => p.defD.val := congrArg (fun z : AlM => z.2.1) c
  have c3 : (T.cls.map fun q => inW K q.1) = T.cls.map fun q => inV q.2.1 q.2.2 := congrArg (fun z : AlM => z.2.2) c
  simp only [Bool.and_eq_true, List.all_eq_true] at c1
  obtain ⟨⟨d1, d2⟩, d3, d4, d5⟩ := c1
  refine ⟨fun x g e => List.all_eq_true.mp S.okG (x, g) (PySem.mem_of_lookup e), fun x hx => ⟨List.all_eq_true.mp S.okF x hx, He.free_ok X G (d1 x hx)⟩, fun x v e => ?_, fun x b e => ?_, He.free_ok X G (d1 "super" (by simpa using S.sup)), fun x i e => ?_, fun x i m ds e => ?_⟩
  · have hm := PySem.mem_of_lookup e
    rcases List.mem_append.mp hm with hm | hm
    · obtain ⟨_, _, _, e⟩ := fnG_no hm
      cases e
    · rcases List.mem_append.mp hm with hm | hm
      · obtain ⟨q, hq, e2⟩ := List.mem_map.mp hm
        simp only [Prod.mk.injEq, GK.val.injEq] at e2
        have hv := d2 q hq
        unfold valB at hv
        split at hv
        · rename_i u eu
          obtain ⟨w, h1, h2⟩ := mvB_ok _ _ _ hv
          refine ⟨u, w, ?_, h1, ?_⟩
          · rw [← e2.1]
            exact PySem.W.mg_of X G eu
          · rw [← e2.2]
            exact h2
        · cases hv
      · rcases List.mem_append.mp hm with hm | hm
        · obtain ⟨q, _, e2⟩ := List.mem_map.mp hm
          simp only [Prod.mk.injEq, reduceCtorEq, and_false] at e2
        · obtain ⟨_, _, e2, _⟩ := clsG_mem hm
          cases e2
  · have hm := PySem.mem_of_lookup e
    rcases List.mem_append.mp hm with hm | hm
    · obtain ⟨_, _, _, e⟩ := fnG_no hm
      cases e
    · rcases List.mem_append.mp hm with hm | hm
      · obtain ⟨q, _, e2⟩ := List.mem_map.mp hm
        simp only [Prod.mk.injEq, reduceCtorEq, and_false] at e2
      · rcases List.mem_append.mp hm with hm | hm
        rotate_left
        · obtain ⟨_, _, e2, _⟩ := clsG_mem hm
          cases e2
        obtain ⟨q, hq, e2⟩ := List.mem_map.mp hm
        simp only [Prod.mk.injEq, GK.bl.injEq] at e2
        have hv := d3 q hq
        unfold blB at hv
        split at hv
        · rename_i id eid
          refine ⟨id, by rw [← e2.2]; exact eid, ?_⟩
          rw [← e2.1]
          exact PySem.W.mg_of X G (He.eqO_ok hv)
        · cases hv
  · have hm := PySem.mem_of_lookup e
    rcases List.mem_append.mp hm with hm | hm
    · obtain ⟨_, _, _, e⟩ := fnG_no hm
      cases e
    · rcases List.mem_append.mp hm with hm | hm
      · obtain ⟨q, _, e2⟩ := List.mem_map.mp hm
        simp only [Prod.mk.injEq, reduceCtorEq, and_false] at e2
      · rcases List.mem_append.mp hm with hm | hm
        · obtain ⟨q, _, e2⟩ := List.mem_map.mp hm
          simp only [Prod.mk.injEq, reduceCtorEq, and_false] at e2
        · obtain ⟨j, q, e2, h1, _, h3⟩ := clsG_mem hm
          simp only [GK.cls.injEq] at e2
          subst e2
          rw [Nat.sub_zero] at h1
          have hq := List.mem_of_getElem? h1
          have hb := d5 q hq
          have e3 : (T.cls.map fun q => inW K q.1)[i]? = (T.cls.map fun q => inV q.2.1 q.2.2)[i]? := by rw [c3]
          rw [List.getElem?_map, List.getElem?_map, h1] at e3
          have hcl : T.Cl K i = He.ga K q.1 := by unfold Facts.Cl; rw [h1]
          have hms := List.all_eq_true.mp S.msg q hq
          rw [hcl, ← h3]
          refine ⟨bad_ok hb (Option.some.inj e3) (of_decide_eq_true hms) hf ht, ?_⟩
          unfold badB at hb
          simp only [Bool.and_eq_true] at hb
          exact He.glo_ok X G hb.1
  · have hm := PySem.mem_of_lookup e
    rcases List.mem_append.mp hm with hm | hm
    · obtain ⟨p, h1, _, h2, h3⟩ := fnG_mem hm
      rw [Nat.sub_zero] at h1
      obtain ⟨f, f1, f2, f3⟩ := S.ok i p h1
      have hp := d4 p (List.mem_of_getElem? h1)
      have e2 : (T.pfs.map fun p => He.fnW K p.defD.at_)[i]? = (T.pfs.map fun p => p.defD.val)[i]? := by rw [c2]
      rw [List.getElem?_map, List.getElem?_map, h1] at e2
      obtain ⟨fd, F⟩ := He.DefD.funD (Option.some.inj e2) hp.1
      have F' : FunD K p.x p.x (defArgs p.st) (defBody p.st) (defScope p.st) ((p.ds.map dvOf).map (He.Dv.v K)) [] (He.fAd K (p.x, none)) fd := F
      refine ⟨p, f, _, fd, _, [], h1, f1, f2, F', ?_, f3.binds F', ?_⟩
      · rw [← h2]
        exact He.glo_ok X G hp.2
      · rw [← h3]
        exact dv_rep f3.simp
    · rcases List.mem_append.mp hm with hm | hm
      · obtain ⟨q, _, e2⟩ := List.mem_map.mp hm
        simp only [Prod.mk.injEq, reduceCtorEq, and_false] at e2
      · rcases List.mem_append.mp hm with hm | hm
        · obtain ⟨q, _, e2⟩ := List.mem_map.mp hm
          simp only [Prod.mk.injEq, reduceCtorEq, and_false] at e2
        · obtain ⟨_, _, e2, _⟩ := clsG_mem hm
          cases e2
/-- THE END of a law: the evaluator answers yes at every script -/
theorem walk_mini {l : PySem.W.OpenLaw} {most li k N : Nat} {q : Program} {loose : List Str} {XP : (Str → Option Value) → Heap → Prop} {d : DefRec} {x : Str} {p : PF}
    (hf : ((l.prog.main.file : Str) == T.file) = true) (ht : (l.prog.main.scope.names.lookup ("super" : Str)).isSome = false) (hn : l.most = some most) (hn2 : most ≤ sizeLine) (hdf : d.params.defaults = []) (hr : Room k callerA) (S : Static T n fs) (hp : T.pfs[li]? = some p) (hG : T.G.lookup p.x = some (.fn li 1 [])) (hx : p.x = d.name) (hps : p.ps = [x]) (hds : p.ds = [])
    (hlaw : ∀ ns : List Int, ns.length ≤ most → ∃ W st', callF fs W k li [.scr (ns.map MV.int)] [] = .ok (.bl true) st') :
    PySem.W.WalkO q loose XP (T.hook N).says l.row.toRowW d [] (fun f vs => PySem.call f vs) := by
  refine L2.walk_ofE (l := l) (n := most) (k := k) (x := x) (CX := L2.CX0) hn hn2 hdf hr ?_ (fun _ _ _ _ z => z)
  intro w mg fa h Y G hmg
  obtain ⟨K, KX, c⟩ := Y
  have P := prog_of (P := l.prog) hf ht S KX G c
  obtain ⟨p', f, a, fd, dvs, kws, h1, h2, h3, h4, h5, h6, h7⟩ := P.fns p.x li 1 [] hG
  have e : p' = p := by rw [hp] at h1; exact (Option.some.inj h1).symm
  subst e
  have ea : a = fa := by
    rw [← hx] at hmg
    rw [h5] at hmg
    cases hmg
    rfl
  subst ea
  refine ⟨K, fd, fun vs H Q _ => ∃ W, spF (T.Cl K) K (callF fs W k) li p'.ps.length vs H Q (fun _ _ _ => False), KX, ?_, ?_, ?_⟩
  · obtain ⟨f', _, _, b⟩ := S.ok li p' hp
    have hk : kws = [] ∧ dvs = [] ∨ True := .inr trivial
    obtain ⟨oc, od, dV, kV, doc, pm, an, cdv, ct, osl, rfl, lk, hcd, hD, hK⟩ := h4.ex
    have hdv : dvs = [] := by
      have r := (h7 [] (fun _ => none)).len
      exact List.eq_nil_of_length_eq_zero r.symm
    rcases hD with ⟨_, rfl⟩ | ⟨e, _⟩
    · intro s u
      have q := b.none hds kV doc pm an cdv ct [u] (by rw [hps]; rfl)
      rw [hps] at q
      exact .of_eq q
    · exact absurd hdv e
  · intro H a ns hl _ hS
    obtain ⟨W, st', e⟩ := hlaw ns hl
    refine ⟨W, [], H, [.scr (ns.map MV.int)], [], ⟨fun _ _ h => h, rfl, fun a b p e => by simp at e, fun a p xs e => by simp at e⟩, .one (.scr hS ?_), by rw [hps]; rfl, ?_⟩
    · clear hl hS e
      induction ns with
      | nil => exact .nil
      | cons n ns ih => exact .cons (.int n) ih
    · rw [e]
      intro ι' F' H' x ex sm r
      cases r
      rfl
  · intro base hK hN
    rw [← hps]
    refine ⟨fun vs H Q E ⟨W, ι, F, args, st, sm, r, l, q⟩ => by rw [← r.len]; exact l, fun A outer s H args us vs Q E hr he hb hv ⟨W, q⟩ => ?_⟩
    refine codeAny_mono ((callF_body P k li p' f a fd dvs kws h2 h3 h4).run A outer s H args us vs Q (fun _ _ _ => False) hr he hb hv q) fun r s' z => ?_
    cases r with
    | error e =>
      obtain ⟨_, _, _, _, _, _, _, _, _, _, _, _, z⟩ := z
      exact z.elim
    | ok fl =>
      cases fl with
      | ret u => exact z
      | next => exact z
      | brk => exact z
      | cont => exact z
end
end MP

/-! MiniL: fractions over the evaluator; a call; sizes. -/
namespace MP
open PySem
open scoped Rat

/-! ### the evaluator's steps, loops kept shut -/
section
variable (C : Fns) (W : Nat) (env : Env) (st : Store)
def bodyF (body : List MS) (e : Env) (s : Store) : Fl := eSs C W body e s
def condF (c : ME) (e : Env) (s : Store) : R Bool := toTruth (eE C c e s)
def turnF (own : List Nat) (elt : ME) (tg : Tg) (ifs : List ME) (env : Env) (x : MV) (s : Store) : R (Option MV) := match asgT tg x (wipeE own env) with
  | none => .stuck
  | some env1 => (eIfs C ifs env1 s).bind fun b s1 => if b then (eE C elt env1 s1).bind fun y s2 => .ok (some y) s2 else .ok none s1
@[simp] theorem v_k (v : MV) : eE C (.k v) env st = .ok v st := rfl
@[simp] theorem v_var (i : Nat) : eE C (.var i) env st = match env[i]? with | some (some v) => .ok v st | _ => .stuck := by simp only [eE] <;> rfl
@[simp] theorem v_bin (o : BO) (mu : Bool) (a b : ME) : eE C (.bin o mu a b) env st = (eE C a env st).bind fun x st1 => (eE C b env st1).bind fun y st2 => binM o mu x y st2 := by simp only [eE] <;> rfl
@[simp] theorem v_neg (a : ME) : eE C (.neg a) env st = (eE C a env st).bind fun x st1 => match x with | .int i => .ok (.int (-i)) st1 | _ => .stuck := by simp only [eE] <;> rfl
@[simp] theorem v_not (a : ME) : eE C (.notE a) env st = (toTruth (eE C a env st)).bind fun b st1 => .ok (.bl (!b)) st1 := by simp only [eE] <;> rfl
@[simp] theorem v_and (a b : ME) : eE C (.andE a b) env st = (eE C a env st).bind fun x st1 => match truth st1 x with
    | some true => eE C b env st1
    | some false => .ok x st1
    | none => .stuck := by simp only [eE] <;> rfl
@[simp] theorem v_or (a b : ME) : eE C (.orE a b) env st = (eE C a env st).bind fun x st1 => match truth st1 x with
    | some true => .ok x st1
    | some false => eE C b env st1
    | none => .stuck := by simp only [eE] <;> rfl
@[simp] theorem v_cmp (o : CO) (a b : ME) : eE C (.cmp o a b) env st = (eE C a env st).bind fun x st1 => (eE C b env st1).bind fun y st2 => match cmpM o x y st2 with | some r => .ok (.bl r) st2 | none => .stuck := by simp only [eE] <;> rfl
@[simp] theorem v_chain (o p : CO) (a b c : ME) : eE C (.chain o p a b c) env st = (eE C a env st).bind fun x st1 => (eE C b env st1).bind fun y st2 => match cmpM o x y st2 with
    | some true => (eE C c env st2).bind fun z st3 => (match cmpM p y z st3 with | some r => .ok (.bl r) st3 | none => .stuck)
    | some false => .ok (.bl false) st2
    | none => .stuck := by simp only [eE] <;> rfl
@[simp] theorem v_ite (c a b : ME) : eE C (.ite c a b) env st = (toTruth (eE C c env st)).bind fun r st1 => if r then eE C a env st1 else eE C b env st1 := by simp only [eE] <;> rfl
@[simp] theorem v_tup (es : List ME) : eE C (.tupE es) env st = (eEs C es env st).bind fun xs st1 => mkT xs st1 := by simp only [eE] <;> rfl
@[simp] theorem v_lst (mu : Bool) (es : List ME) : eE C (.lstE mu es) env st = (eEs C es env st).bind fun xs st1 => mkL mu xs st1 := by simp only [eE] <;> rfl
@[simp] theorem v_idx (a i : ME) : eE C (.idx a i) env st = (eE C a env st).bind fun x st1 => (eE C i env st1).bind fun y st2 => idxM x y st2 := by simp only [eE] <;> rfl
@[simp] theorem v_slc (mu : Bool) (a lo hi : ME) : eE C (.slc mu a lo hi) env st = (eE C a env st).bind fun x st1 => (eE C lo env st1).bind fun l st2 => (eE C hi env st2).noX.bind fun h st3 => slcM mu x l h st3 := by simp only [eE] <;> rfl
@[simp] theorem v_isi (ts : List Ty) (a : ME) : eE C (.isi ts a) env st = (eE C a env st).bind fun x st1 => match x with | .scr _ => .stuck | x => .ok (.bl (ts.any (isTy x))) st1 := by simp only [eE] <;> rfl
@[simp] theorem v_call (f : Nat) (es : List ME) : eE C (.call f es) env st = (eEs C es env st).bind fun xs st1 => C f xs st1 := by simp only [eE] <;> rfl
@[simp] theorem v_blt (f : Bl) (mu : Bool) (es : List ME) : eE C (.blt f mu es) env st = (eEs C es env st).bind fun xs st1 => bltM f mu xs st1 := by simp only [eE] <;> rfl
@[simp] theorem v_meth (m : Mt) (o : ME) (es : List ME) : eE C (.meth m o es) env st = (eE C o env st).bind fun x st1 => if isLs x then (eEs C es env st1).bind fun xs st2 => methM m x xs st2 else .stuck := by simp only [eE] <;> rfl
@[simp] theorem v_comp (mu : Bool) (own : List Nat) (elt : ME) (tg : Tg) (ik : IK) (src ifs : List ME) : eE C (.comp mu own elt tg ik src ifs) env st = (srcX ik (eEs C src env st)).bind fun vs st1 => match itemsM ik vs st1 with
    | none => .stuck
    | some (items, deps) => (compL deps (turnF C own elt tg ifs env) items [] st1).bind fun xs st2 => mkL mu xs st2 := by simp only [eE] <;> rfl
@[simp] theorem vs_nil : eEs C [] env st = .ok [] st := by simp only [eEs] <;> rfl
@[simp] theorem vs_cons (e : ME) (es : List ME) : eEs C (e :: es) env st = (eE C e env st).bind fun x st1 => (eEs C es env st1).bind fun xs st2 => .ok (x :: xs) st2 := by simp only [eEs] <;> rfl
@[simp] theorem vi_nil : eIfs C [] env st = .ok true st := by simp only [eIfs] <;> rfl
@[simp] theorem vi_cons (e : ME) (es : List ME) : eIfs C (e :: es) env st = (toTruth (eE C e env st)).bind fun b st1 => if b then eIfs C es env st1 else .ok false st1 := by simp only [eIfs] <;> rfl
@[simp] theorem s_asg (tg : Tg) (e : ME) : eS C W (.asg tg e) env st = (eE C e env st).fl env fun v st1 => match asgT tg v env with | some env1 => .next env1 st1 | none => .stuck := by simp only [eS] <;> rfl
@[simp] theorem s_store (a i e : ME) : eS C W (.store a i e) env st = (eE C e env st).fl env fun v st1 => (eE C a env st1).fl env fun x st2 => (eE C i env st2).fl env fun y st3 =>
      match setM x y v st3 with | some st4 => .next env st4 | none => .stuck := by simp only [eS] <;> rfl
@[simp] theorem s_aug (x : Nat) (o : BO) (e : ME) : eS C W (.aug x o e) env st = if !augOk o then .stuck else match env[x]? with
    | some (some v) => (eE C e env st).fl env fun w st1 => (match v, w with
      | .int _, .int _ => (binM o false v w st1).fl env fun r st2 => .next (env.set x (some r)) st2
      | _, _ => .stuck)
    | _ => .stuck := by simp only [eS] <;> rfl
@[simp] theorem s_ite (c : ME) (a b : List MS) : eS C W (.ite c a b) env st = (toTruth (eE C c env st)).fl env fun r st1 => if r then eSs C W a env st1 else eSs C W b env st1 := by simp only [eS] <;> rfl
@[simp] theorem s_for (tg : Tg) (ik : IK) (src : List ME) (body : List MS) : eS C W (.forS tg ik src body) env st = (srcX ik (eEs C src env st)).fl env fun vs st1 => match itemsM ik vs st1 with
    | none => .stuck
    | some (items, deps) => forL tg deps (bodyF C W body) items env st1 := by simp only [eS] <;> rfl
@[simp] theorem s_while (c : ME) (body : List MS) : eS C W (.whileS c body) env st = whileL (condF C c) (bodyF C W body) W env st := by simp only [eS] <;> rfl
@[simp] theorem s_ret (e : ME) : eS C W (.ret e) env st = (eE C e env st).fl env fun v st1 => .ret v st1 := by simp only [eS] <;> rfl
@[simp] theorem s_retN : eS C W .retN env st = .ret .non st := by simp only [eS] <;> rfl
@[simp] theorem s_expr (e : ME) : eS C W (.expr e) env st = (eE C e env st).fl env fun _ st1 => .next env st1 := by simp only [eS] <;> rfl
@[simp] theorem s_brk : eS C W .brk env st = .brk env st := by simp only [eS] <;> rfl
@[simp] theorem s_cont : eS C W .cont env st = .cont env st := by simp only [eS] <;> rfl
@[simp] theorem s_pass : eS C W .pass env st = .next env st := by simp only [eS] <;> rfl
@[simp] theorem ss_nil : eSs C W [] env st = .next env st := by simp only [eSs] <;> rfl
@[simp] theorem ss_cons (s : MS) (ss : List MS) : eSs C W (s :: ss) env st = match eS C W s env st with
    | .next e st1 => eSs C W ss e st1
    | r => r := by simp only [eSs] <;> rfl
end
@[simp] theorem eqM_int (st : Store) (i j : Int) : eqM st (.int i) (.int j) = some (decide (i = j)) := rfl
@[simp] theorem toTruth_bl (b : Bool) (st : Store) : toTruth (.ok (.bl b) st) = .ok b st := rfl
@[simp] theorem truth_bl (b : Bool) (st : Store) : truth st (.bl b) = some b := rfl

/-! ### calls -/
theorem callF_of {fs : List Fn} {W d i : Nat} {f : Fn} {args : List MV} {st : Store} {v : MV} (hf : fs[i]? = some f) (ha : args.length = f.arity) (hs : f.arity ≤ f.slots) (h : eSs (callF fs W d) W f.body (startE f args) st = .ret v st) : callF fs W (d + 1) i args st = .ok v st := by
  simp only [callF, hf, h]
  rw [if_pos ⟨ha, hs⟩]
  unfold finish
  rw [if_pos (by simp)]
theorem callF_st {fs : List Fn} {W d i : Nat} {f : Fn} {args : List MV} {st st1 : Store} {v : MV} (hf : fs[i]? = some f) (ha : args.length = f.arity) (hs : f.arity ≤ f.slots) (h : eSs (callF fs W d) W f.body (startE f args) st = .ret v st1) (hl : st1.length = st.length) : callF fs W (d + 1) i args st = .ok v st1 := by
  simp only [callF, hf, h]
  rw [if_pos ⟨ha, hs⟩]
  unfold finish
  rw [if_pos (by simp [hl])]

/-! ### sizes -/
theorem log2_le {n b : Nat} (h : n < 2 ^ b) : n.log2 ≤ b := by
  by_cases hn : n = 0
  · subst hn; simp
  · have := (Nat.log2_lt hn).mpr h
    omega
theorem mulOk_of {i j : Int} {b c : Nat} (hi : i.natAbs < 2 ^ b) (hj : j.natAbs < 2 ^ c) (h : b + c < 134217000) : mulOk i j = true := by
  unfold mulOk
  have h1 := log2_le hi
  have h2 := log2_le hj
  have : i.natAbs.log2 + j.natAbs.log2 < 134217000 := by omega
  simp [this]
theorem divOk_of {i j : Int} {b : Nat} (h0 : j ≠ 0) (hj : j.natAbs < 2 ^ b) (hb : b ≤ 8900) : divOk i j = true := by
  unfold divOk Builtin.divisionGoesByPylong
  have h1 := log2_le hj
  have h2 : ¬ (j == 0) = true := by simpa using h0
  have h3 : j.natAbs.log2 / 30 + 1 ≤ 300 := by omega
  have h4 : decide ((if (j == 0) = true then 0 else j.natAbs.log2 / 30 + 1) > 300) = false := by
    rw [if_neg h2]
    exact decide_eq_false (by omega)
  have h5 : j.natAbs.log2 / 30 ≤ 299 := by omega
  simp [h0, h5]
theorem natAbs_mul_lt {i j : Int} {b c : Nat} (hi : i.natAbs < 2 ^ b) (hj : j.natAbs < 2 ^ c) : (i * j).natAbs < 2 ^ (b + c) := by
  rw [Int.natAbs_mul, Nat.pow_add]
  have h1 : 0 < 2 ^ b := Nat.two_pow_pos b
  by_cases h : j.natAbs = 0
  · rw [h, Nat.mul_zero]; exact Nat.mul_pos h1 (Nat.two_pow_pos c)
  · exact Nat.mul_lt_mul_of_lt_of_lt hi hj
theorem natAbs_add_lt {i j : Int} {b : Nat} (hi : i.natAbs < 2 ^ b) (hj : j.natAbs < 2 ^ b) : (i + j).natAbs < 2 ^ (b + 1) := by
  rw [Nat.pow_succ]
  have := Int.natAbs_add_le i j
  omega
theorem natAbs_sub_lt {i j : Int} {b : Nat} (hi : i.natAbs < 2 ^ b) (hj : j.natAbs < 2 ^ b) : (i - j).natAbs < 2 ^ (b + 1) := by
  rw [Nat.pow_succ]
  have := Int.natAbs_sub_le i j
  omega
theorem lt_up {n a b : Nat} (h : n < 2 ^ a) (hab : a ≤ b) : n < 2 ^ b := Nat.lt_of_lt_of_le h (Nat.pow_le_pow_right (by decide) hab)

/-! ### fractions -/
def fv (q : Rat) : MV := .tup [.int q.num, .int (q.den : Int)]
theorem fv_inj {p q : Rat} (h : fv p = fv q) : p = q := by
  unfold fv at h
  simp only [MV.tup.injEq, List.cons.injEq, MV.int.injEq, and_true] at h
  exact Rat.ext h.1 (by omega)
def Sz (b : Nat) (q : Rat) : Prop := q.num.natAbs < 2 ^ b ∧ q.den < 2 ^ b
theorem Sz.up {a b : Nat} {q : Rat} (h : Sz a q) (hab : a ≤ b) : Sz b q := ⟨lt_up h.1 hab, lt_up h.2 hab⟩
theorem Sz.den {b : Nat} {q : Rat} (h : Sz b q) : ((q.den : Int)).natAbs < 2 ^ b := by simpa using h.2
theorem num_divInt' {n d : Int} (hd : 0 < d) : (n /. d).num = n / (Int.gcd n d : Int) := by
  rw [Rat.num_divInt, Int.sign_eq_one_of_pos hd, Int.one_mul, Int.gcd_comm]
theorem den_divInt' {n d : Int} (hd : 0 < d) : ((n /. d).den : Int) = d / (Int.gcd n d : Int) := by
  rw [Rat.den_divInt, if_neg (by omega), Int.gcd_comm]
  rw [Int.natCast_ediv]
  congr 1
  omega
theorem gcd_pos {n d : Int} (hd : d ≠ 0) : 0 < (Int.gcd n d : Int) := by
  have := Int.gcd_pos_of_ne_zero_right n hd
  omega
theorem Sz.divInt {n d : Int} {b c : Nat} (hd : d ≠ 0) (hn : n.natAbs < 2 ^ b) (hdb : d.natAbs < 2 ^ c) (hbc : b ≤ c) : Sz c (n /. d) := by
  refine ⟨?_, ?_⟩
  · rw [Rat.num_divInt, Int.natAbs_ediv_of_dvd, Int.natAbs_mul]
    · have h1 : d.sign.natAbs = 1 := by rw [Int.natAbs_sign]; simp [hd]
      rw [h1, Nat.one_mul]
      exact Nat.lt_of_le_of_lt (Nat.div_le_self _ _) (lt_up hn hbc)
    · exact Int.dvd_mul_of_dvd_right (Int.gcd_dvd_right ..)
  · rw [Rat.den_divInt, if_neg hd]
    exact Nat.lt_of_le_of_lt (Nat.div_le_self _ _) hdb
theorem add_divInt (p q : Rat) : (p.num * q.den + q.num * p.den) /. ((p.den : Int) * q.den) = p + q := by
  rw [Rat.add_def', ← Int.natCast_mul, Rat.divInt_ofNat]
theorem sub_divInt (p q : Rat) : (p.num * q.den - q.num * p.den) /. ((p.den : Int) * q.den) = p - q := by
  rw [Rat.sub_def', ← Int.natCast_mul, Rat.divInt_ofNat]
theorem mul_divInt (p q : Rat) : (p.num * q.num) /. ((p.den : Int) * q.den) = p * q := by
  rw [Rat.mul_def', ← Int.natCast_mul, Rat.divInt_ofNat]
theorem den_pos (q : Rat) : (0 : Int) < q.den := by have := q.den_pos; omega
theorem den_mul_pos (p q : Rat) : (0 : Int) < (p.den : Int) * q.den := Int.mul_pos (den_pos p) (den_pos q)
theorem Sz.neg {b : Nat} {q : Rat} (h : Sz b q) : Sz b (-q) := ⟨by rw [Rat.neg_num, Int.natAbs_neg]; exact h.1, h.2⟩
theorem Sz.add {b c : Nat} {p q : Rat} (hp : Sz b p) (hq : Sz c q) : Sz (b + c + 1) (p + q) := by
  rw [← add_divInt]
  refine Sz.divInt (Int.ne_of_gt (den_mul_pos p q)) (natAbs_add_lt (natAbs_mul_lt hp.1 hq.den) ?_) (lt_up (natAbs_mul_lt hp.den hq.den) (Nat.le_succ _)) (Nat.le_refl _)
  rw [Nat.add_comm b c]
  exact natAbs_mul_lt hq.1 hp.den
theorem Sz.sub {b c : Nat} {p q : Rat} (hp : Sz b p) (hq : Sz c q) : Sz (b + c + 1) (p - q) := by
  rw [Rat.sub_eq_add_neg]
  exact hp.add hq.neg
theorem Sz.mul {b c : Nat} {p q : Rat} (hp : Sz b p) (hq : Sz c q) : Sz (b + c) (p * q) := by
  rw [← mul_divInt]
  exact Sz.divInt (Int.ne_of_gt (den_mul_pos p q)) (natAbs_mul_lt hp.1 hq.1) (natAbs_mul_lt hp.den hq.den) (Nat.le_refl _)

/-! ### the functions of numbers -/
section
variable {C : Fns} {W : Nat}
abbrev bIsInt : List MS := [.ret (.andE (.isi [.int] (.var 0)) (.notE (.isi [.bool] (.var 0))))]
def isIntM : MV → Bool | .int _ => true | _ => false
def noScr : MV → Bool | .scr _ => false | _ => true
theorem e_isInt {v : MV} {st : Store} {f : Fn} (hs : f.slots = 1) (hv : noScr v = true) : eSs C W bIsInt (startE f [v]) st = .ret (.bl (isIntM v)) st := by
  cases v <;> simp [bIsInt, startE, hs, isTy, isIntM, noScr] at hv ⊢
abbrev bFraction (s : Nat) : List MS := [.ite (.cmp .lt (.var 1) (.k (.int 0))) [.asg (.tp [(.nm 0), (.nm 1)]) (.tupE [(.neg (.var 0)), (.neg (.var 1))])] [], .asg (.nm 2) (.blt .gcd false [(.var 0), (.var 1)]), .ret (.tupE [(.bin .fdiv false (.var 0) (.var 2)), (.bin .fdiv false (.var 1) (.var 2))])]
theorem fdiv_gcd {n d : Int} (hd : 0 < d) : n.fdiv (gcdI n d) = (n /. d).num ∧ d.fdiv (gcdI n d) = (n /. d).den := by
  have hg := gcd_pos (n := n) (Int.ne_of_gt hd)
  have e : gcdI n d = (Int.gcd n d : Int) := rfl
  rw [e, Int.fdiv_eq_ediv_of_nonneg _ (Int.le_of_lt hg), Int.fdiv_eq_ediv_of_nonneg _ (Int.le_of_lt hg), num_divInt' hd, den_divInt' hd]
  exact ⟨rfl, rfl⟩
theorem gcdI_small {n d : Int} {b : Nat} (hd : d ≠ 0) (hb : d.natAbs < 2 ^ b) : (gcdI n d).natAbs < 2 ^ b := by
  have : Nat.gcd n.natAbs d.natAbs ≤ d.natAbs := Nat.gcd_le_right _ (by omega)
  show (((Nat.gcd n.natAbs d.natAbs : Nat) : Int)).natAbs < _
  rw [Int.natAbs_natCast]
  omega
theorem e_fraction {n d : Int} {st : Store} {f : Fn} {b : Nat} (hs : f.slots = 3) (hd : d ≠ 0) (hb : d.natAbs < 2 ^ b) (hb2 : b ≤ 8900) : eSs C W (bFraction 0) (startE f [.int n, .int d]) st = .ret (fv (n /. d)) st := by
  have key : ∀ (n d : Int), 0 < d → d.natAbs < 2 ^ b → divOk n (gcdI n d) = true ∧ divOk d (gcdI n d) = true := fun n d hd hb => by
    have h0 : gcdI n d ≠ 0 := Int.ne_of_gt (gcd_pos (Int.ne_of_gt hd))
    exact ⟨divOk_of h0 (gcdI_small (Int.ne_of_gt hd) hb) hb2, divOk_of h0 (gcdI_small (Int.ne_of_gt hd) hb) hb2⟩
  by_cases h : d < 0
  · have h' : 0 < -d := by omega
    obtain ⟨k1, k2⟩ := key (-n) (-d) h' (by rw [Int.natAbs_neg]; exact hb)
    obtain ⟨e1, e2⟩ := fdiv_gcd (n := -n) h'
    simp [bFraction, startE, hs, h, asgT, asgTs, mkT, bltM, binM, cmpM, k1, k2, e1, e2, fv, Rat.neg_divInt_neg, line]
  · have h' : 0 < d := by omega
    obtain ⟨k1, k2⟩ := key n d h' hb
    obtain ⟨e1, e2⟩ := fdiv_gcd (n := n) h'
    simp [bFraction, startE, hs, h, asgT, asgTs, mkT, bltM, binM, cmpM, k1, k2, e1, e2, fv, line]
end
end MP

/-! MiniW: loops; the law's numbers. -/
namespace MP
open PySem
open scoped Rat

/-! ### loops -/
def Step (P : Nat → Env → Store → Prop) (Qr : MV → Store → Prop) (j : Nat) : Fl → Prop
  | .next e s => P j e s
  | .cont e s => P j e s
  | .brk e s => ∀ k, j ≤ k → P k e s
  | .ret v s => Qr v s
  | _ => False
theorem forL_gen {tg : Tg} {deps : Deps} {body : Env → Store → Fl} {P : Nat → Env → Store → Prop} {Qr : MV → Store → Prop} : ∀ (items : List MV) (k : Nat) (env : Env) (st : Store),
    (∀ i x env st, items[i]? = some x → P (k + i) env st → depOk st deps = true ∧ ∃ env1, asgT tg x env = some env1 ∧ Step P Qr (k + i + 1) (body env1 st)) → (∀ env st, P (k + items.length) env st → depOk st deps = true) → P k env st →
    (∃ e s, forL tg deps body items env st = .next e s ∧ P (k + items.length) e s) ∨ ∃ v s, forL tg deps body items env st = .ret v s ∧ Qr v s
  | [], k, env, st, _, he, hp => .inl ⟨env, st, by simp only [forL]; rw [if_pos (he env st hp)], hp⟩
  | x :: xs, k, env, st, h, he, hp => by
    obtain ⟨hd, env1, ha, hb⟩ := h 0 x env st rfl hp
    have ek : k + (x :: xs).length = k + 1 + xs.length := by simp only [List.length_cons]; omega
    have nxt : ∀ e s, P (k + 1) e s → (∃ e' s', forL tg deps body xs e s = .next e' s' ∧ P (k + 1 + xs.length) e' s') ∨ ∃ v s', forL tg deps body xs e s = .ret v s' ∧ Qr v s' := fun e s hq =>
      forL_gen xs (k + 1) e s (fun i y env st hy hpi => by
        have := h (i + 1) y env st (by simpa using hy) (by rw [show k + (i + 1) = k + 1 + i by omega]; exact hpi)
        rw [show k + (i + 1) = k + 1 + i by omega] at this
        exact this) (fun env st hpi => he env st (by rw [ek]; exact hpi)) hq
    rw [ek]
    simp only [forL]
    rw [if_pos hd, ha]
    simp only []
    cases e : body env1 st with
    | next e1 s1 => rw [e] at hb; simp only []; exact nxt e1 s1 hb
    | cont e1 s1 => rw [e] at hb; simp only []; exact nxt e1 s1 hb
    | brk e1 s1 => rw [e] at hb; exact .inl ⟨e1, s1, by simp only [], hb _ (by omega)⟩
    | ret v s1 => rw [e] at hb; exact .inr ⟨v, s1, by simp only [], hb⟩
    | exc c v e1 s1 => rw [e] at hb; exact hb.elim
    | stuck => rw [e] at hb; exact hb.elim
/-- a loop that runs to its end -/
theorem forL_run {tg : Tg} {deps : Deps} {body : Env → Store → Fl} {P : Nat → Env → Store → Prop} {items : List MV} {env : Env} {st : Store}
    (h : ∀ i x env st, items[i]? = some x → P i env st → depOk st deps = true ∧ ∃ env1, asgT tg x env = some env1 ∧ Step P (fun _ _ => False) (i + 1) (body env1 st)) (he : ∀ env st, P items.length env st → depOk st deps = true) (hp : P 0 env st) :
    ∃ e s, forL tg deps body items env st = .next e s ∧ P items.length e s := by
  rcases forL_gen (Qr := fun _ _ => False) items 0 env st (fun i x env st hx hpi => by rw [Nat.zero_add] at hpi ⊢; exact h i x env st hx hpi) (fun env st hpi => he env st (by rw [Nat.zero_add] at hpi; exact hpi)) hp with ⟨e, s, h1, h2⟩ | ⟨v, s, _, hf⟩
  · rw [Nat.zero_add] at h2; exact ⟨e, s, h1, h2⟩
  · exact hf.elim
theorem forL_ret {tg : Tg} {body : Env → Store → Fl} {deps : Deps} {P : Nat → Env → Store → Prop} {Qr : MV → Store → Prop} {items : List MV} {env : Env} {st : Store}
    (h : ∀ i x env st, items[i]? = some x → P i env st → depOk st deps = true ∧ ∃ env1, asgT tg x env = some env1 ∧ Step P Qr (i + 1) (body env1 st)) (he : ∀ env st, P items.length env st → depOk st deps = true) (hp : P 0 env st) :
    (∃ e s, forL tg deps body items env st = .next e s ∧ P items.length e s) ∨ ∃ v s, forL tg deps body items env st = .ret v s ∧ Qr v s := by
  rcases forL_gen (Qr := Qr) items 0 env st (fun i x env st hx hpi => by rw [Nat.zero_add] at hpi ⊢; exact h i x env st hx hpi) (fun env st hpi => he env st (by rw [Nat.zero_add] at hpi; exact hpi)) hp with ⟨e, s, h1, h2⟩ | hr
  · rw [Nat.zero_add] at h2; exact .inl ⟨e, s, h1, h2⟩
  · exact .inr hr
/-- a comprehension that keeps every item -/
theorem compL_inv {turn : MV → Store → R (Option MV)} {P : Store → Prop} {Qv : MV → MV → Prop} {deps : Deps} : ∀ (items acc : List MV) (st : Store),
    (∀ st, P st → depOk st deps = true) → (∀ x ∈ items, ∀ st, P st → ∃ y st', turn x st = .ok (some y) st' ∧ P st' ∧ Qv x y) → acc.length + items.length ≤ line → P st →
    ∃ ys st', compL deps turn items acc st = .ok (acc.reverse ++ ys) st' ∧ P st' ∧ ys.length = items.length ∧ ∀ (i : Nat) (x y : MV), items[i]? = some x → ys[i]? = some y → Qv x y
  | [], acc, st, hd, _, _, hp => ⟨[], st, by simp only [compL]; rw [if_pos (hd st hp), List.append_nil], hp, rfl, fun i x y hx _ => by simp at hx⟩
  | x :: xs, acc, st, hd, h, hl, hp => by
    obtain ⟨y, st1, h1, h2, h3⟩ := h x (List.mem_cons_self ..) st hp
    simp only [List.length_cons] at hl
    obtain ⟨ys, st2, q1, q2, q3, q4⟩ := compL_inv xs (y :: acc) st1 hd (fun z hz => h z (List.mem_cons_of_mem _ hz)) (by simp only [List.length_cons]; omega) h2
    refine ⟨y :: ys, st2, ?_, q2, by simp [q3], fun i a b ha hb => ?_⟩
    · simp only [compL]
      rw [if_pos (hd st hp), h1]
      simp only [R.bind_ok]
      rw [if_pos (by omega), q1, List.reverse_cons, List.append_assoc]
      rfl
    · cases i with
      | zero => simp at ha hb; subst ha; subst hb; exact h3
      | succ i => exact q4 i a b (by simpa using ha) (by simpa using hb)
theorem compL_map {turn : MV → Store → R (Option MV)} {g : MV → MV} {deps : Deps} {st : Store} : ∀ (items acc : List MV), depOk st deps = true → (∀ x ∈ items, turn x st = .ok (some (g x)) st) → acc.length + items.length ≤ line →
    compL deps turn items acc st = .ok (acc.reverse ++ items.map g) st
  | [], acc, hd, _, _ => by simp only [compL]; rw [if_pos hd, List.map_nil, List.append_nil]
  | x :: xs, acc, hd, h, hl => by
    simp only [List.length_cons] at hl
    simp only [compL]
    rw [if_pos hd, h x (List.mem_cons_self ..)]
    simp only [R.bind_ok]
    rw [if_pos (by omega), compL_map xs (g x :: acc) hd (fun z hz => h z (List.mem_cons_of_mem _ hz)) (by simp only [List.length_cons]; omega), List.reverse_cons, List.append_assoc]
    rfl

/-! ### the law's own divisor -/
section
variable {C : Fns} {W : Nat}
abbrev bGcd : List MS := [.asg (.nm 2) (.blt .abs false [(.var 0)]), .asg (.nm 3) (.blt .abs false [(.var 1)]), .whileS (.cmp .ne (.var 3) (.k (.int 0))) [.asg (.nm 4) (.bin .mod false (.blt .int false [(.var 2)]) (.var 3)), .asg (.nm 2) (.var 3), .asg (.nm 3) (.var 4)], .ret (.var 2)]
theorem gcd_loop {st : Store} {x y : Option MV} : ∀ (n a b : Nat) (r : Option MV), b < n → ∃ r', whileL (condF C (.cmp .ne (.var 3) (.k (.int 0)))) (bodyF C W [.asg (.nm 4) (.bin .mod false (.blt .int false [(.var 2)]) (.var 3)), .asg (.nm 2) (.var 3), .asg (.nm 3) (.var 4)]) n [x, y, some (.int (a : Int)), some (.int (b : Int)), r] st
      = .next [x, y, some (.int ((Nat.gcd a b : Nat) : Int)), some (.int 0), r'] st := by
  intro n
  induction n with
  | zero => intro a b r h; omega
  | succ n ih =>
    intro a b r h
    by_cases hb : b = 0
    · subst hb
      exact ⟨r, by simp [whileL, condF, cmpM]⟩
    · have hb' : (b : Int) ≠ 0 := by omega
      have hm : a % b < b := Nat.mod_lt _ (by omega)
      obtain ⟨r', hr⟩ := ih b (a % b) (some (.int ((a % b : Nat) : Int))) (by omega)
      refine ⟨r', ?_⟩
      have hf : (a : Int).fmod (b : Int) = ((a % b : Nat) : Int) := by
        rw [Int.fmod_eq_emod_of_nonneg _ (by omega)]
        rfl
      have hg : Nat.gcd b (a % b) = Nat.gcd a b := by rw [Nat.gcd_comm b, ← Nat.gcd_rec, Nat.gcd_comm]
      rw [hg] at hr
      have h1 : condF C (.cmp .ne (.var 3) (.k (.int 0))) [x, y, some (.int (a : Int)), some (.int (b : Int)), r] st = .ok true st := by simp [condF, cmpM, hb]
      have h2 : bodyF C W [.asg (.nm 4) (.bin .mod false (.blt .int false [(.var 2)]) (.var 3)), .asg (.nm 2) (.var 3), .asg (.nm 3) (.var 4)] [x, y, some (.int (a : Int)), some (.int (b : Int)), r] st = .next [x, y, some (.int (b : Int)), some (.int ((a % b : Nat) : Int)), some (.int ((a % b : Nat) : Int))] st := by
        simp [bodyF, bltM, binM, asgT, hb]
        exact hf
      simp only [whileL, h1, h2, R.fl_ok, if_true]
      exact hr
theorem e_gcd {a b : Int} {st : Store} {f : Fn} (hs : f.slots = 5) (hW : b.natAbs < W) : eSs C W bGcd (startE f [.int a, .int b]) st = .ret (.int (gcdI a b)) st := by
  have abs_eq : ∀ i : Int, (if i < 0 then -i else i) = ((i.natAbs : Nat) : Int) := fun i => by split <;> omega
  obtain ⟨r', hr⟩ := gcd_loop (C := C) (W := W) (st := st) (x := some (.int a)) (y := some (.int b)) W a.natAbs b.natAbs none hW
  simp [bGcd, startE, hs, bltM, asgT, abs_eq, hr, gcdI]
abbrev bFrac (g : Nat) : List MS := [.asg (.nm 2) (.call g [(.var 0), (.var 1)]), .ite (.cmp .lt (.var 1) (.k (.int 0))) [.asg (.nm 2) (.bin .sub false (.k (.int 0)) (.var 2))] [], .ret (.tupE [(.bin .fdiv false (.var 0) (.var 2)), (.bin .fdiv false (.var 1) (.var 2))])]
theorem e_frac {g : Nat} {n d : Int} {st : Store} {f : Fn} {b : Nat} (hg : C g [.int n, .int d] st = .ok (.int (gcdI n d)) st) (hs : f.slots = 3) (hd : d ≠ 0) (hb : d.natAbs < 2 ^ b) (hb2 : b ≤ 8900) : eSs C W (bFrac g) (startE f [.int n, .int d]) st = .ret (fv (n /. d)) st := by
  have h0 : gcdI n d ≠ 0 := Int.ne_of_gt (gcd_pos hd)
  have hsm := gcdI_small (n := n) hd hb
  by_cases h : d < 0
  · have k1 : divOk n (0 - gcdI n d) = true := divOk_of (b := b) (by omega) (by rw [Int.zero_sub, Int.natAbs_neg]; exact hsm) hb2
    have k2 : divOk d (0 - gcdI n d) = true := divOk_of (b := b) (by omega) (by rw [Int.zero_sub, Int.natAbs_neg]; exact hsm) hb2
    have h' : 0 < -d := by omega
    obtain ⟨e1, e2⟩ := fdiv_gcd (n := -n) h'
    have eg : gcdI (-n) (-d) = gcdI n d := by unfold gcdI; rw [Int.natAbs_neg, Int.natAbs_neg]
    rw [eg, Rat.neg_divInt_neg] at e1 e2
    have f1 : n.fdiv (0 - gcdI n d) = (n /. d).num := by rw [← e1, ← Int.neg_fdiv_neg, Int.zero_sub, Int.neg_neg]
    have f2 : d.fdiv (0 - gcdI n d) = (n /. d).den := by rw [← e2, ← Int.neg_fdiv_neg, Int.zero_sub, Int.neg_neg]
    rw [Int.zero_sub] at k1 k2 f1 f2
    simp [bFrac, startE, hs, h, asgT, mkT, hg, binM, cmpM, k1, k2, f1, f2, fv, line]
  · have h' : 0 < d := by omega
    have k1 : divOk n (gcdI n d) = true := divOk_of h0 hsm hb2
    have k2 : divOk d (gcdI n d) = true := divOk_of h0 hsm hb2
    obtain ⟨e1, e2⟩ := fdiv_gcd (n := n) h'
    simp [bFrac, startE, hs, h, asgT, mkT, hg, binM, cmpM, k1, k2, e1, e2, fv, line]
end

/-! ### arithmetic over a fraction maker -/
section
variable {C : Fns} {W : Nat} {fr : Nat} {p q : Rat} {st : Store} {f : Fn} {b c : Nat}
/-- fr makes fractions, below 2 ^ 8900 -/
def MkFr (C : Fns) (fr : Nat) : Prop := ∀ (n d : Int) (st : Store), d ≠ 0 → d.natAbs < 2 ^ 8900 → C fr [.int n, .int d] st = .ok (fv (n /. d)) st
abbrev bAdd (fr : Nat) : List MS := [.ret (.call fr [(.bin .add false (.bin .mul false (.idx (.var 0) (.k (.int 0))) (.idx (.var 1) (.k (.int 1)))) (.bin .mul false (.idx (.var 1) (.k (.int 0))) (.idx (.var 0) (.k (.int 1))))), (.bin .mul false (.idx (.var 0) (.k (.int 1))) (.idx (.var 1) (.k (.int 1))))])]
abbrev bSub (fr : Nat) : List MS := [.ret (.call fr [(.bin .sub false (.bin .mul false (.idx (.var 0) (.k (.int 0))) (.idx (.var 1) (.k (.int 1)))) (.bin .mul false (.idx (.var 1) (.k (.int 0))) (.idx (.var 0) (.k (.int 1))))), (.bin .mul false (.idx (.var 0) (.k (.int 1))) (.idx (.var 1) (.k (.int 1))))])]
abbrev bMul (fr : Nat) : List MS := [.ret (.call fr [(.bin .mul false (.idx (.var 0) (.k (.int 0))) (.idx (.var 1) (.k (.int 0)))), (.bin .mul false (.idx (.var 0) (.k (.int 1))) (.idx (.var 1) (.k (.int 1))))])]
theorem idx_t0 {a b : MV} : idxM (.tup [a, b]) (.int 0) st = .ok a st := by simp [idxM, sqc, ixN]
theorem idx_t1 {a b : MV} : idxM (.tup [a, b]) (.int 1) st = .ok b st := by simp [idxM, sqc, ixN]
theorem idx_fv0 : idxM (fv q) (.int 0) st = .ok (.int q.num) st := by simp [idxM, fv, sqc, ixN]
theorem idx_fv1 : idxM (fv q) (.int 1) st = .ok (.int q.den) st := by simp [idxM, fv, sqc, ixN]
theorem dens (hp : Sz b p) (hq : Sz c q) (h : b + c ≤ 8900) : ((p.den : Int) * q.den).natAbs < 2 ^ 8900 := lt_up (natAbs_mul_lt hp.den hq.den) h
theorem e_add (F : MkFr C fr) (hs : f.slots = 2) (hp : Sz b p) (hq : Sz c q) (h : b + c ≤ 8900) : eSs C W (bAdd fr) (startE f [fv p, fv q]) st = .ret (fv (p + q)) st := by
  have m1 := mulOk_of hp.1 hq.den (by omega)
  have m2 := mulOk_of hq.1 hp.den (by omega)
  have m3 := mulOk_of hp.den hq.den (by omega)
  have hf := F (p.num * q.den + q.num * p.den) ((p.den : Int) * q.den) st (Int.ne_of_gt (den_mul_pos p q)) (dens hp hq h)
  rw [add_divInt] at hf
  simp [bAdd, startE, hs, idx_fv0, idx_fv1, binM, m1, m2, m3, hf]
theorem e_sub (F : MkFr C fr) (hs : f.slots = 2) (hp : Sz b p) (hq : Sz c q) (h : b + c ≤ 8900) : eSs C W (bSub fr) (startE f [fv p, fv q]) st = .ret (fv (p - q)) st := by
  have m1 := mulOk_of hp.1 hq.den (by omega)
  have m2 := mulOk_of hq.1 hp.den (by omega)
  have m3 := mulOk_of hp.den hq.den (by omega)
  have hf := F (p.num * q.den - q.num * p.den) ((p.den : Int) * q.den) st (Int.ne_of_gt (den_mul_pos p q)) (dens hp hq h)
  rw [sub_divInt] at hf
  simp [bSub, startE, hs, idx_fv0, idx_fv1, binM, m1, m2, m3, hf]
theorem e_mul (F : MkFr C fr) (hs : f.slots = 2) (hp : Sz b p) (hq : Sz c q) (h : b + c ≤ 8900) : eSs C W (bMul fr) (startE f [fv p, fv q]) st = .ret (fv (p * q)) st := by
  have m1 := mulOk_of hp.1 hq.1 (by omega)
  have m3 := mulOk_of hp.den hq.den (by omega)
  have hf := F (p.num * q.num) ((p.den : Int) * q.den) st (Int.ne_of_gt (den_mul_pos p q)) (dens hp hq h)
  rw [mul_divInt] at hf
  simp [bMul, startE, hs, idx_fv0, idx_fv1, binM, m1, m3, hf]
abbrev bNeg : List MS := [.ret (.tupE [(.bin .sub false (.k (.int 0)) (.idx (.var 0) (.k (.int 0)))), (.idx (.var 0) (.k (.int 1)))])]
theorem e_neg (hs : f.slots = 1) : eSs C W bNeg (startE f [fv q]) st = .ret (fv (-q)) st := by
  simp [bNeg, startE, hs, fv, idx_t0, idx_t1, binM, mkT, line]
abbrev bLess : List MS := [.ret (.cmp .lt (.bin .mul false (.idx (.var 0) (.k (.int 0))) (.idx (.var 1) (.k (.int 1)))) (.bin .mul false (.idx (.var 1) (.k (.int 0))) (.idx (.var 0) (.k (.int 1)))))]
theorem e_less (hs : f.slots = 2) (hp : Sz b p) (hq : Sz c q) (h : b + c ≤ 8900) : eSs C W bLess (startE f [fv p, fv q]) st = .ret (.bl (decide (p < q))) st := by
  have m1 := mulOk_of hp.1 hq.den (by omega)
  have m2 := mulOk_of hq.1 hp.den (by omega)
  simp [bLess, startE, hs, idx_fv0, idx_fv1, binM, m1, m2, cmpM, Rat.lt_iff]
abbrev bSide : List MS := [.asg (.nm 2) (.bin .sub false (.bin .mul false (.idx (.var 0) (.k (.int 0))) (.idx (.var 1) (.k (.int 1)))) (.bin .mul false (.idx (.var 1) (.k (.int 0))) (.idx (.var 0) (.k (.int 1))))), .ret (.ite (.cmp .gt (.var 2) (.k (.int 0))) (.k (.int 1)) (.ite (.cmp .eq (.var 2) (.k (.int 0))) (.k (.int 0)) (.neg (.k (.int 1)))))]
def sideI (p q : Rat) : Int := if q < p then 1 else if p = q then 0 else -1
theorem rat_eq_iff (p q : Rat) : p = q ↔ p.num * q.den = q.num * p.den := by
  constructor
  · rintro rfl; rfl
  · intro h
    have h1 : p ≤ q := (Rat.le_iff p q).mpr (Int.le_of_eq h)
    have h2 : q ≤ p := (Rat.le_iff q p).mpr (Int.le_of_eq h.symm)
    exact Rat.le_antisymm h1 h2
theorem e_side (hs : f.slots = 3) (hp : Sz b p) (hq : Sz c q) (h : b + c ≤ 8900) : eSs C W bSide (startE f [fv p, fv q]) st = .ret (.int (sideI p q)) st := by
  have m1 := mulOk_of hp.1 hq.den (by omega)
  have m2 := mulOk_of hq.1 hp.den (by omega)
  have l1 := Rat.lt_iff q p
  have l2 := rat_eq_iff p q
  unfold sideI
  by_cases h1 : q < p
  ·     simp [bSide, startE, hs, idx_fv0, idx_fv1, binM, m1, m2, cmpM, asgT, l1.mp h1, h1]
  · have g1 : ¬ q.num * (p.den : Int) < p.num * q.den := fun hh => h1 (l1.mpr hh)
    by_cases h2 : p = q
    · subst h2
      have h3 : ¬ p < p := h1
      simp [bSide, startE, hs, idx_fv0, idx_fv1, binM, m1, m2, cmpM, asgT, m1, h3]
    · have g2 : ¬ p.num * q.den - q.num * p.den = 0 := fun hh => h2 (l2.mpr (by omega))
      simp [bSide, startE, hs, idx_fv0, idx_fv1, binM, m1, m2, cmpM, asgT, g1, g2, h1, h2]
end
end MP

/-! MiniD: the script's numbers, draws. -/
namespace MP
open PySem
open scoped Rat
section
variable {C : Fns} {W : Nat}
theorem mulOk_r {i j : Int} (h : j.natAbs < 2 ^ 64) : mulOk i j = true := by
  unfold mulOk; simp [h]
theorem mulOk_l {i j : Int} (h : i.natAbs < 2 ^ 64) : mulOk i j = true := by
  unfold mulOk; simp [h]
theorem fmod_range {i j : Int} (h : 0 < j) : 0 ≤ i.fmod j ∧ i.fmod j < j := by
  rw [Int.fmod_eq_emod_of_nonneg _ (Int.le_of_lt h)]
  exact ⟨Int.emod_nonneg _ (Int.ne_of_gt h), Int.emod_lt_of_pos _ h⟩
theorem divOk_s {i j : Int} (h0 : j ≠ 0) (h : j.natAbs < 2 ^ 64) : divOk i j = true := divOk_of (b := 64) h0 h (by decide)
theorem ixN_nat {n : Nat} {i : Int} (h0 : 0 ≤ i) (h : i < n) : ixN n i = some i.toNat := by
  unfold ixN
  rw [if_pos h0, if_pos h]
def Row (v : MV) : Prop := ∃ rs : List Int, v = .lst (rs.map MV.int) ∧ rs ≠ []
theorem idx_ints {rs : List Int} {i : Int} {st : Store} (h0 : 0 ≤ i) (h : i < rs.length) : ∃ r, idxM (.lst (rs.map MV.int)) (.int i) st = .ok (.int r) st := by
  have hi : i.toNat < rs.length := by omega
  refine ⟨rs[i.toNat], ?_⟩
  simp only [idxM, sqc, List.length_map, ixN_nat h0 h, List.getElem?_map, List.getElem?_eq_getElem hi, Option.map_some]
abbrev bDraw : List MS := [.ite (.cmp .lt (.var 1) (.blt .len false [(.var 0)])) [.ret (.bin .mod false (.blt .int false [(.idx (.var 0) (.var 1))]) (.var 2))] [], .asg (.nm 3) (.bin .mod false (.blt .int false [(.bin .add false (.bin .add false (.bin .mul false (.idx (.var 0) (.bin .mod false (.blt .int false [(.var 1)]) (.blt .len false [(.var 0)]))) (.k (.int 40692))) (.bin .mul false (.var 1) (.k (.int 7919)))) (.k (.int 3)))]) (.k (.int 2147483399))), .ret (.bin .mod false (.blt .int false [(.bin .mod false (.blt .int false [(.bin .add false (.bin .mul false (.var 3) (.k (.int 48271))) (.var 1))]) (.k (.int 2147483647)))]) (.var 2))]
theorem e_draw {row : MV} {at' lim : Int} {st : Store} {f : Fn} (hs : f.slots = 4) (hr : Row row) (ha : 0 ≤ at') (hl : 0 < lim) : ∃ r : Int, 0 ≤ r ∧ r < lim ∧ eSs C W bDraw (startE f [row, .int at', .int lim]) st = .ret (.int r) st := by
  obtain ⟨rs, rfl, hne⟩ := hr
  have hlen : 0 < rs.length := by cases rs with | nil => exact absurd rfl hne | cons _ _ => simp
  have hl0 : lim ≠ 0 := Int.ne_of_gt hl
  by_cases h : at' < rs.length
  · obtain ⟨r, e⟩ := idx_ints (st := st) ha h
    refine ⟨r.fmod lim, (fmod_range hl).1, (fmod_range hl).2, ?_⟩
    simp [bDraw, startE, hs, cmpM, bltM, sqc, binM, h, e, hl0]
  · have hm := fmod_range (i := at') (j := (rs.length : Int)) (by omega)
    obtain ⟨r, e⟩ := idx_ints (rs := rs) (st := st) hm.1 hm.2
    have hn : rs ≠ [] := hne
    have m1 : mulOk r 40692 = true := mulOk_r (by decide)
    have m2 : mulOk at' 7919 = true := mulOk_r (by decide)
    have m3 : mulOk ((r * 40692 + at' * 7919 + 3).fmod 2147483399) 48271 = true := mulOk_r (by decide)
    refine ⟨(((r * 40692 + at' * 7919 + 3).fmod 2147483399 * 48271 + at').fmod 2147483647).fmod lim, (fmod_range hl).1, (fmod_range hl).2, ?_⟩
    simp [bDraw, startE, hs, cmpM, bltM, sqc, binM, h, e, hl0, hn, m1, m2, m3, asgT]
abbrev bTake (d : Nat) : List MS := [.store (.var 1) (.k (.int 0)) (.bin .add false (.idx (.var 1) (.k (.int 0))) (.k (.int 1))), .ret (.call d [(.var 0), (.bin .sub false (.idx (.var 1) (.k (.int 0))) (.k (.int 1))), (.var 2)])]
theorem e_take {d a : Nat} {row : MV} {s lim : Int} {st : Store} {f : Fn} (D : ∀ (row : MV) (at' lim : Int) (st : Store), Row row → 0 ≤ at' → 0 < lim → ∃ r : Int, 0 ≤ r ∧ r < lim ∧ C d [row, .int at', .int lim] st = .ok (.int r) st)
    (hs : f.slots = 3) (hr : Row row) (ha : st[a]? = some [.int s]) (h0 : 0 ≤ s) (hl : 0 < lim) : ∃ r : Int, 0 ≤ r ∧ r < lim ∧ eSs C W (bTake d) (startE f [row, .ref a, .int lim]) st = .ret (.int r) (st.set a [.int (s + 1)]) := by
  have hal : a < st.length := (List.getElem?_eq_some_iff.mp ha).1
  obtain ⟨r, r1, r2, r3⟩ := D row (s + 1 - 1) lim (st.set a [.int (s + 1)]) hr (by omega) hl
  refine ⟨r, r1, r2, ?_⟩
  simp [bTake, startE, hs, idxM, sqc, ha, ixN, binM, setM, List.getElem?_set_self hal]
  rw [show s + 1 - 1 = s by omega] at r3
  simp [r3]
/-- a state in which the spot stands at a, all else as in st -/
def Spot (a : Nat) (st st' : Store) : Prop := ∃ s : Int, 0 ≤ s ∧ st' = st.set a [.int s] ∧ a < st.length
theorem Spot.get {a : Nat} {st st' : Store} (h : Spot a st st') : ∃ s : Int, 0 ≤ s ∧ st'[a]? = some [.int s] := by
  obtain ⟨s, h0, rfl, hl⟩ := h
  exact ⟨s, h0, List.getElem?_set_self hl⟩
theorem Spot.set {a : Nat} {st st' : Store} {s : Int} (h : Spot a st st') (h0 : 0 ≤ s) : Spot a st (st'.set a [.int s]) := by
  obtain ⟨s', _, rfl, hl⟩ := h
  exact ⟨s, h0, by rw [List.set_set], hl⟩
theorem Spot.len {a : Nat} {st st' : Store} (h : Spot a st st') : st'.length = st.length := by
  obtain ⟨s', _, rfl, hl⟩ := h
  simp
theorem Spot.refl {a : Nat} {st : Store} {s : Int} (h : st[a]? = some [.int s]) (h0 : 0 ≤ s) : Spot a st st := ⟨s, h0, by
  obtain ⟨h1, h2⟩ := List.getElem?_eq_some_iff.mp h
  rw [← h2, List.set_getElem_self], (List.getElem?_eq_some_iff.mp h).1⟩
/-- the taker -/
def Takes (C : Fns) (t : Nat) : Prop := ∀ (row : MV) (a : Nat) (lim : Int) (st st' : Store), Row row → Spot a st st' → 0 < lim → ∃ (r : Int) (st'' : Store), 0 ≤ r ∧ r < lim ∧ C t [row, .ref a, .int lim] st' = .ok (.int r) st'' ∧ Spot a st st''

/-! ### the script's numbers -/
abbrev bNumbers : List MS := [.asg (.nm 1) (.lstE true []), .forS (.nm 2) .seq [(.slc false (.var 0) (.k (.non)) (.k (.int 63)))] [.ite (.cmp .ge (.var 2) (.bin .pow false (.k (.int 10)) (.k (.int 18)))) [.asg (.nm 3) (.var 2), .forS (.nm 4) .range [(.k (.int 60))] [.ite (.cmp .eq (.var 3) (.k (.int 0))) [.brk] [], .expr (.meth .append (.var 1) [(.bin .mod false (.blt .int false [(.var 3)]) (.k (.int 997)))]), .asg (.nm 3) (.bin .fdiv false (.var 3) (.k (.int 997)))]] [.forS (.nm 4) .range [(.k (.int 4))] [.asg (.nm 5) (.bin .mod false (.blt .int false [(.bin .add false (.bin .add false (.bin .mul false (.var 2) (.k (.int 48271))) (.bin .mul false (.var 4) (.k (.int 69621)))) (.k (.int 11)))]) (.k (.int 2147483647))), .expr (.meth .append (.var 1) [(.bin .mod false (.blt .int false [(.bin .add false (.bin .mul false (.var 5) (.k (.int 16807))) (.var 4))]) (.k (.int 2147483629)))])]]], .ite (.cmp .eq (.blt .len false [(.var 1)]) (.k (.int 0))) [.expr (.meth .append (.var 1) [(.k (.int 0))])] [], .ret (.var 1)]
theorem app_snoc {st : Store} {xs : List MV} {y : MV} (h : xs.length < line) : methM .append (.ref st.length) [y] (st ++ [xs]) = .ok .non (st ++ [xs ++ [y]]) := by
  have e1 : (st ++ [xs])[st.length]? = some xs := by simp
  have e2 : (st ++ [xs]).set st.length (xs ++ [y]) = st ++ [xs ++ [y]] := by simp
  simp only [methM, e1, if_pos h, e2]
theorem rangeL_get {lo : Int} {n i : Nat} {x : MV} (h : (rangeL lo n)[i]? = some x) : i < n ∧ x = .int (lo + (i : Int)) := by
  unfold rangeL at h
  rw [List.getElem?_map] at h
  cases e : (List.range n)[i]? with
  | none => rw [e] at h; cases h
  | some j =>
    obtain ⟨h1, h2⟩ := List.getElem?_eq_some_iff.mp e
    rw [List.getElem_range] at h2
    subst h2
    rw [e] at h
    simp only [Option.map_some, Option.some.injEq] at h
    exact ⟨by simpa using h1, h.symm⟩
@[simp] theorem rangeL_len {lo : Int} {n : Nat} : (rangeL lo n).length = n := by simp [rangeL]
theorem fz_ints {n0 : Nat} {st : Store} {n : Nat} : ∀ rs : List Int, optMap (fz n0 st n) (rs.map MV.int) = some (rs.map MV.int)
  | [] => rfl
  | r :: rs => by
    have e : fz n0 st n (.int r) = some (.int r) := by cases n <;> rfl
    simp only [List.map_cons, optMap, e, fz_ints rs]
abbrev bBig : List MS := [.ite (.cmp .eq (.var 3) (.k (.int 0))) [.brk] [], .expr (.meth .append (.var 1) [(.bin .mod false (.blt .int false [(.var 3)]) (.k (.int 997)))]), .asg (.nm 3) (.bin .fdiv false (.var 3) (.k (.int 997)))]
abbrev bSmall : List MS := [.asg (.nm 5) (.bin .mod false (.blt .int false [(.bin .add false (.bin .add false (.bin .mul false (.var 2) (.k (.int 48271))) (.bin .mul false (.var 4) (.k (.int 69621)))) (.k (.int 11)))]) (.k (.int 2147483647))), .expr (.meth .append (.var 1) [(.bin .mod false (.blt .int false [(.bin .add false (.bin .mul false (.var 5) (.k (.int 16807))) (.var 4))]) (.k (.int 2147483629)))])]
theorem num_big {st : Store} {x0 r2 r4 r5 : Option MV} {c : Int} {rs : List Int} {n : Nat} (hn : rs.length ≤ n) (h2 : n < 10000) : ∃ e s, forL (.nm 4) [] (bodyF C W bBig) (rangeL 0 60) [x0, some (.ref st.length), r2, some (.int c), r4, r5] (st ++ [rs.map MV.int]) = .next e s ∧
    ∃ (rs : List Int) (r3 r4 : Option MV), e = [x0, some (.ref st.length), r2, r3, r4, r5] ∧ s = st ++ [rs.map MV.int] ∧ rs.length ≤ n + 60 := by
  have key := forL_run (tg := .nm 4) (deps := []) (body := bodyF C W bBig)
      (P := fun j e s => ∃ (rs : List Int) (l : Int) (r4 : Option MV), e = [x0, some (.ref st.length), r2, some (.int l), r4, r5] ∧ s = st ++ [rs.map MV.int] ∧ rs.length ≤ n + j) (items := rangeL 0 60)
      (env := [x0, some (.ref st.length), r2, some (.int c), r4, r5]) (st := st ++ [rs.map MV.int]) ?_ (fun _ _ _ => rfl) ⟨rs, c, r4, rfl, rfl, by omega⟩
  · obtain ⟨e, s, h1, rs', l', r4', h3, h4, h5⟩ := key
    exact ⟨e, s, h1, rs', _, _, h3, h4, by simpa using h5⟩
  · rintro j x e s hx ⟨rs, l, r4, rfl, rfl, h1⟩
    obtain ⟨hj, rfl⟩ := rangeL_get hx
    refine ⟨rfl, _, rfl, ?_⟩
    by_cases hl : l = 0
    · subst hl
      have hb : bodyF C W bBig [x0, some (.ref st.length), r2, some (.int 0), some (.int (0 + (j : Int))), r5] (st ++ [rs.map MV.int]) = .brk [x0, some (.ref st.length), r2, some (.int 0), some (.int (0 + (j : Int))), r5] (st ++ [rs.map MV.int]) := by
        simp [bodyF, cmpM]
      simp only [List.set_cons_zero, List.set_cons_succ]
      rw [hb]
      exact fun k hk => ⟨rs, 0, _, rfl, rfl, by omega⟩
    · have ha := app_snoc (st := st) (xs := rs.map MV.int) (y := .int (l.fmod 997)) (by simp only [List.length_map, line]; omega)
      have hd : divOk l 997 = true := divOk_s (by decide) (by decide)
      have hb : bodyF C W bBig [x0, some (.ref st.length), r2, some (.int l), some (.int (0 + (j : Int))), r5] (st ++ [rs.map MV.int]) = .next [x0, some (.ref st.length), r2, some (.int (l.fdiv 997)), some (.int (0 + (j : Int))), r5] (st ++ [rs.map MV.int ++ [.int (l.fmod 997)]]) := by
        simp [bodyF, cmpM, hl, bltM, binM, ha, asgT, hd]
      simp only [List.set_cons_zero, List.set_cons_succ]
      rw [hb]
      exact ⟨rs ++ [l.fmod 997], _, _, rfl, by simp, by simp; omega⟩
theorem num_small {st : Store} {x0 r3 r4 r5 : Option MV} {c : Int} {rs : List Int} {n : Nat} (hn : rs.length ≤ n) (h2 : n < 10000) : ∃ e s, forL (.nm 4) [] (bodyF C W bSmall) (rangeL 0 4) [x0, some (.ref st.length), some (.int c), r3, r4, r5] (st ++ [rs.map MV.int]) = .next e s ∧
    ∃ (rs : List Int) (r4 r5 : Option MV), e = [x0, some (.ref st.length), some (.int c), r3, r4, r5] ∧ s = st ++ [rs.map MV.int] ∧ rs.length ≤ n + 60 := by
  have key := forL_run (tg := .nm 4) (deps := []) (body := bodyF C W bSmall)
      (P := fun j e s => ∃ (rs : List Int) (r4 r5 : Option MV), e = [x0, some (.ref st.length), some (.int c), r3, r4, r5] ∧ s = st ++ [rs.map MV.int] ∧ rs.length ≤ n + j) (items := rangeL 0 4)
      (env := [x0, some (.ref st.length), some (.int c), r3, r4, r5]) (st := st ++ [rs.map MV.int]) ?_ (fun _ _ _ => rfl) ⟨rs, r4, r5, rfl, rfl, by omega⟩
  · obtain ⟨e, s, h1, rs', r4', r5', h3, h4, h5⟩ := key
    refine ⟨e, s, h1, rs', _, _, h3, h4, ?_⟩
    rw [rangeL_len] at h5
    omega
  · rintro j x e s hx ⟨rs, r4, r5, rfl, rfl, h1⟩
    obtain ⟨hj, rfl⟩ := rangeL_get hx
    refine ⟨rfl, _, rfl, ?_⟩
    have m1 : mulOk c 48271 = true := mulOk_r (by decide)
    have m2 : ∀ k : Int, mulOk k 69621 = true := fun k => mulOk_r (by decide)
    have m3 : ∀ k : Int, mulOk k 16807 = true := fun k => mulOk_r (by decide)
    have ha := fun y : Int => app_snoc (st := st) (xs := rs.map MV.int) (y := .int y) (by simp only [List.length_map, line]; omega)
    have hb : ∃ (y : Int) (z : Option MV), bodyF C W bSmall [x0, some (.ref st.length), some (.int c), r3, some (.int (0 + (j : Int))), r5] (st ++ [rs.map MV.int]) = .next [x0, some (.ref st.length), some (.int c), r3, some (.int (0 + (j : Int))), z] (st ++ [rs.map MV.int ++ [.int y]]) := by
      simp [bodyF, cmpM, bltM, binM, ha, asgT, m1, m2, m3]
    obtain ⟨y, z, hb⟩ := hb
    simp only [List.set_cons_zero, List.set_cons_succ]
    rw [hb]
    exact ⟨rs ++ [y], _, _, rfl, by simp, by simp; omega⟩
abbrev bCell : List MS := [.ite (.cmp .ge (.var 2) (.bin .pow false (.k (.int 10)) (.k (.int 18)))) [.asg (.nm 3) (.var 2), .forS (.nm 4) .range [(.k (.int 60))] bBig] [.forS (.nm 4) .range [(.k (.int 4))] bSmall]]
theorem num_all {st : Store} {x0 r2 r3 r4 r5 : Option MV} {cs : List Int} (hc : cs.length ≤ 63) : ∃ e s, forL (.nm 2) [] (bodyF C W bCell) (cs.map MV.int) [x0, some (.ref st.length), r2, r3, r4, r5] (st ++ [[]]) = .next e s ∧
    ∃ (rs : List Int) (r2 r3 r4 r5 : Option MV), e = [x0, some (.ref st.length), r2, r3, r4, r5] ∧ s = st ++ [rs.map MV.int] ∧ rs.length < 10000 := by
  have hpow : powOk 10 18 = true := by decide
  have key := forL_run (tg := .nm 2) (deps := []) (body := bodyF C W bCell)
      (P := fun j e s => ∃ (rs : List Int) (r2 r3 r4 r5 : Option MV), e = [x0, some (.ref st.length), r2, r3, r4, r5] ∧ s = st ++ [rs.map MV.int] ∧ rs.length ≤ 60 * j) (items := cs.map MV.int)
      (env := [x0, some (.ref st.length), r2, r3, r4, r5]) (st := st ++ [[]]) ?_ (fun _ _ _ => rfl) ⟨[], r2, r3, r4, r5, rfl, rfl, by simp⟩
  · obtain ⟨e, s, h1, rs', r2', r3', r4', r5', h3, h4, h5⟩ := key
    refine ⟨e, s, h1, rs', _, _, _, _, h3, h4, ?_⟩
    rw [List.length_map] at h5
    omega
  · rintro j x e s hx ⟨rs, r2, r3, r4, r5, rfl, rfl, h1⟩
    have hj : j < 63 := by
      have := (List.getElem?_eq_some_iff.mp hx).1
      rw [List.length_map] at this
      omega
    obtain ⟨c, rfl⟩ : ∃ c : Int, x = .int c := by
      rw [List.getElem?_map] at hx
      cases e : cs[j]? with
      | none => rw [e] at hx; cases hx
      | some c => rw [e] at hx; exact ⟨c, (Option.some.inj hx).symm⟩
    refine ⟨rfl, _, rfl, ?_⟩
    simp only [List.set_cons_zero, List.set_cons_succ]
    by_cases h : (10 : Int) ^ 18 ≤ c
    · obtain ⟨e, s, h2, rs', r3', r4', rfl, rfl, h3⟩ := num_big (C := C) (W := W) (st := st) (x0 := x0) (r2 := some (.int c)) (r4 := r4) (r5 := r5) (c := c) h1 (by omega)
      have h' : (1000000000000000000 : Int) ≤ c := h
      have hb : bodyF C W bCell [x0, some (.ref st.length), some (.int c), r3, r4, r5] (st ++ [rs.map MV.int]) = .next [x0, some (.ref st.length), some (.int c), r3', r4', r5] (st ++ [rs'.map MV.int]) := by
        simp only [bodyF, bCell]
        simp [cmpM, binM, hpow, h', asgT, itemsM, small62]
        rw [h2]
      rw [hb]
      exact ⟨rs', _, _, _, _, rfl, rfl, by omega⟩
    · obtain ⟨e, s, h2, rs', r3', r4', rfl, rfl, h3⟩ := num_small (C := C) (W := W) (st := st) (x0 := x0) (r3 := r3) (r4 := r4) (r5 := r5) (c := c) h1 (by omega)
      have h' : ¬ (1000000000000000000 : Int) ≤ c := h
      have hb : bodyF C W bCell [x0, some (.ref st.length), some (.int c), r3, r4, r5] (st ++ [rs.map MV.int]) = .next [x0, some (.ref st.length), some (.int c), r3, r3', r4'] (st ++ [rs'.map MV.int]) := by
        simp only [bodyF, bCell]
        simp [cmpM, binM, hpow, h', asgT, itemsM, small62]
        rw [h2]
      rw [hb]
      exact ⟨rs', _, _, _, _, rfl, rfl, by omega⟩
theorem numbers_ok {fs : List Fn} {d i : Nat} {st : Store} {f : Fn} {ns : List Int} (hf : fs[i]? = some f) (hb : f.body = bNumbers) (hs : f.slots = 6) (har : f.arity = 1) (hk : f.keep = false) (hn : ns.length ≤ 63) :
    ∃ row, callF fs W (d + 1) i [.scr (ns.map MV.int)] st = .ok row st ∧ Row row := by
  obtain ⟨e, s, h2, rs, r2, r3, r4, r5, rfl, rfl, h3⟩ := num_all (C := callF fs W d) (W := W) (st := st) (x0 := some (.scr (ns.map MV.int))) (r2 := none) (r3 := none) (r4 := none) (r5 := none) hn
  have hcut : cutM (ns.map MV.int) none (some 63) = ns.map MV.int := by
    unfold cutM sIx
    rw [List.take_of_length_le (by simp; omega)]
    rfl
  have h16 : ns.length ≤ 16777216 := by omega
  have hget : ∀ xs : List MV, (st ++ [xs])[st.length]? = some xs := fun xs => by simp
  have hset : ∀ xs ys : List MV, (st ++ [xs]).set st.length ys = st ++ [ys] := fun xs ys => by simp
  have hfin : ∀ rs : List Int, rs ≠ [] → finish false st (.ref st.length) (st ++ [rs.map MV.int]) = .ok (.lst (rs.map MV.int)) st := fun rs _ => by
    unfold finish
    simp [fz, fz_ints, fzFuel]
  simp only [callF, hf, hb, hs, har, hk, startE]
  by_cases hr : rs = []
  · subst hr
    refine ⟨.lst ([(0 : Int)].map MV.int), ?_, [0], rfl, by simp⟩
    have h2' : forL (.nm 2) [] (bodyF (callF fs W d) W bCell) (ns.map MV.int) [some (.scr (ns.map MV.int)), some (.ref st.length), none, none, none, none] (st ++ [[]]) = .next [some (.scr (ns.map MV.int)), some (.ref st.length), r2, r3, r4, r5] (st ++ [[]]) := h2
    have ha := app_snoc (st := st) (xs := []) (y := .int 0) (by simp [line])
    have := hfin [0] (by simp)
    simp [bNumbers, mkL, line, asgT, slcM, optI, hcut, itemsM, srcOf, h2', bltM, sqc, hget, cmpM, ha, h16]
    simpa using this
  · refine ⟨.lst (rs.map MV.int), ?_, rs, rfl, hr⟩
    have := hfin rs hr
    simp [bNumbers, mkL, line, asgT, slcM, optI, hcut, itemsM, srcOf, h2, bltM, sqc, hget, cmpM, hr, h16]
    simpa using this
end
end MP

/-! MiniE: given numbers: read, loosened, drawn; answers compared. -/
namespace MP
open PySem
open scoped Rat

inductive All2 {α β : Type} (P : α → β → Prop) : List α → List β → Prop
  | nil : All2 P [] []
  | cons {x : α} {y : β} {xs : List α} {ys : List β} : P x y → All2 P xs ys → All2 P (x :: xs) (y :: ys)
section
variable {α β γ : Type} {P : α → β → Prop}
theorem All2.len : ∀ {xs : List α} {ys : List β}, All2 P xs ys → xs.length = ys.length
  | _, _, .nil => rfl
  | _, _, .cons _ h => congrArg (· + 1) h.len
theorem All2.get : ∀ {xs : List α} {ys : List β} {i : Nat} {x : α}, All2 P xs ys → xs[i]? = some x → ∃ y, ys[i]? = some y ∧ P x y
  | _, _, _, _, .nil, h => by simp at h
  | _, _, 0, _, .cons h _, e => by simp at e; subst e; exact ⟨_, rfl, h⟩
  | _, _, i + 1, _, .cons _ h, e => by
    obtain ⟨y, h1, h2⟩ := h.get (i := i) (by simpa using e)
    exact ⟨y, by simpa using h1, h2⟩
theorem All2.imp {Q : α → β → Prop} (h : ∀ x y, P x y → Q x y) : ∀ {xs : List α} {ys : List β}, All2 P xs ys → All2 Q xs ys
  | _, _, .nil => .nil
  | _, _, .cons a r => .cons (h _ _ a) (r.imp h)
/-- from a relation place by place -/
theorem All2.of : ∀ {xs : List α} {ys : List β}, ys.length = xs.length → (∀ (i : Nat) (x : α) (y : β), xs[i]? = some x → ys[i]? = some y → P x y) → All2 P xs ys
  | [], [], _, _ => .nil
  | [], _ :: _, h, _ => by simp at h
  | _ :: _, [], h, _ => by simp at h
  | x :: xs, y :: ys, h, hp => .cons (hp 0 x y rfl rfl) (All2.of (by simpa using h) fun i a b ha hb => hp (i + 1) a b (by simpa using ha) (by simpa using hb))
theorem All2.pick : ∀ {xs : List α}, (∀ x ∈ xs, ∃ y, P x y) → ∃ ys, All2 P xs ys
  | [], _ => ⟨[], .nil⟩
  | x :: xs, h => by
    obtain ⟨y, hy⟩ := h x (List.mem_cons_self ..)
    obtain ⟨ys, hys⟩ := All2.pick (xs := xs) fun z hz => h z (List.mem_cons_of_mem _ hz)
    exact ⟨y :: ys, .cons hy hys⟩
theorem All2.mem_l : ∀ {xs : List α} {ys : List β} {x : α}, All2 P xs ys → x ∈ xs → ∃ y ∈ ys, P x y
  | _, _, _, .nil, h => by cases h
  | _, _, _, .cons a r, h => by
    rcases List.mem_cons.mp h with e | h
    · subst e; exact ⟨_, List.mem_cons_self .., a⟩
    · obtain ⟨y, h1, h2⟩ := r.mem_l h
      exact ⟨y, List.mem_cons_of_mem _ h1, h2⟩
end
theorem vit_lst {ys : List MV} {st : Store} : itemsM .seq [.lst ys] st = some (ys, []) := rfl
theorem vit_tup {ys : List MV} {st : Store} : itemsM .seq [.tup ys] st = some (ys, []) := rfl
theorem vit_range {n : Int} {st : Store} (h0 : n ≤ 1000000) (h1 : -1000000 ≤ n) : itemsM .range [.int n] st = some (rangeL 0 n.toNat, []) := by
  have : small62 n = true := by unfold small62; simp; omega
  simp only [itemsM, this, if_true]
theorem vit_range2 {m n : Int} {st : Store} (h0 : n ≤ 1000000) (h1 : -1000000 ≤ n) (h2 : m ≤ 1000000) (h3 : -1000000 ≤ m) : itemsM .range [.int m, .int n] st = some (rangeL m (n - m).toNat, []) := by
  have e1 : small62 n = true := by unfold small62; simp; omega
  have e2 : small62 m = true := by unfold small62; simp; omega
  simp only [itemsM, e1, e2, Bool.and_self, if_true]
/-- a given number -/
inductive Gn (b : Nat) : MV → Rat → Prop
  | int (t : Int) : t.natAbs < 2 ^ b → Gn b (.int t) (t /. 1)
  | tup (n d : Int) : 0 < d → n.natAbs < 2 ^ b → d.natAbs < 2 ^ b → Gn b (.tup [.int n, .int d]) (n /. d)
  | lst (n d : Int) : 0 < d → n.natAbs < 2 ^ b → d.natAbs < 2 ^ b → Gn b (.lst [.int n, .int d]) (n /. d)
theorem divInt_one (t : Int) : (t /. 1).num = t ∧ ((t /. 1).den : Int) = 1 := by
  rw [num_divInt' (by decide), den_divInt' (by decide)]
  simp
theorem fv_int (t : Int) : fv (t /. 1) = .tup [.int t, .int 1] := by
  unfold fv
  rw [(divInt_one t).1, (divInt_one t).2]
theorem Gn.sz {b : Nat} (hb : 1 ≤ b) {v : MV} {q : Rat} (h : Gn b v q) : Sz b q := by
  cases h with
  | int t ht =>
    refine ⟨by rw [(divInt_one t).1]; exact ht, ?_⟩
    have h1 := (divInt_one t).2
    have h2 : 2 ^ 1 ≤ 2 ^ b := Nat.pow_le_pow_right (by decide) hb
    omega
  | tup n d h0 h1 h2 => exact Sz.divInt (Int.ne_of_gt h0) h1 h2 (Nat.le_refl _)
  | lst n d h0 h1 h2 => exact Sz.divInt (Int.ne_of_gt h0) h1 h2 (Nat.le_refl _)
section
variable {C : Fns} {W : Nat} {st : Store} {f : Fn} {b : Nat}
/-- a reader of one number -/
abbrev bIsSeq : List MS := [.ret (.isi [.list, .tuple] (.var 0))]
abbrev bIsSeqOf (s : Nat) : List MS := [.ret (.andE (.call s [(.var 0)]) (.cmp .eq (.blt .len false [(.var 0)]) (.var 1)))]
abbrev bReadNum (i s fr : Nat) : List MS := [.ite (.call i [(.var 0)]) [.ret (.tupE [(.var 0), (.k (.int 1))])] [], .ite (.orE (.notE (.call s [(.var 0), (.k (.int 2))])) (.orE (.notE (.call i [(.idx (.var 0) (.k (.int 0)))])) (.orE (.notE (.call i [(.idx (.var 0) (.k (.int 1)))])) (.cmp .lt (.idx (.var 0) (.k (.int 1))) (.k (.int 1)))))) [.ret (.k (.non))] [], .ret (.call fr [(.idx (.var 0) (.k (.int 0))), (.idx (.var 0) (.k (.int 1)))])]
def IsInt (C : Fns) (i : Nat) : Prop := ∀ (v : MV) (st : Store), noScr v = true → C i [v] st = .ok (.bl (isIntM v)) st
def isSeqM : MV → Bool | .lst _ => true | .tup _ => true | _ => false
def noRef : MV → Bool | .scr _ => false | .ref _ => false | _ => true
def IsSeq (C : Fns) (i : Nat) : Prop := ∀ (v : MV) (st : Store), noRef v = true → C i [v] st = .ok (.bl (isSeqM v)) st
theorem e_isSeq {v : MV} (hs : f.slots = 1) (hv : noRef v = true) : eSs C W bIsSeq (startE f [v]) st = .ret (.bl (isSeqM v)) st := by
  cases v <;> simp [bIsSeq, startE, hs, isTy, isSeqM, noRef] at hv ⊢
def lenM : MV → Option Nat | .lst xs => some xs.length | .tup xs => some xs.length | _ => none
def IsSeqOf (C : Fns) (i : Nat) : Prop := ∀ (v : MV) (n : Int) (st : Store), noRef v = true → C i [v, .int n] st = .ok (.bl (match lenM v with | some m => decide ((m : Int) = n) | none => false)) st
theorem e_isSeqOf {s : Nat} {v : MV} {n : Int} (S : IsSeq C s) (hs : f.slots = 2) (hv : noRef v = true) : eSs C W (bIsSeqOf s) (startE f [v, .int n]) st = .ret (.bl (match lenM v with | some m => decide ((m : Int) = n) | none => false)) st := by
  have h := S v st hv
  cases v <;> simp [bIsSeqOf, startE, hs, isSeqM, noRef, lenM, bltM, sqc, cmpM] at hv h ⊢ <;> simp [h]
def Reads (C : Fns) (r : Nat) : Prop := ∀ (b : Nat) (v : MV) (q : Rat) (st : Store), b ≤ 8900 → Gn b v q → C r [v] st = .ok (fv q) st
theorem e_readNum {i s fr : Nat} {v : MV} {q : Rat} (I : IsInt C i) (S : IsSeqOf C s) (F : MkFr C fr) (hs : f.slots = 1) (hb : b ≤ 8900) (h : Gn b v q) : eSs C W (bReadNum i s fr) (startE f [v]) st = .ret (fv q) st := by
  cases h with
  | int t ht =>
    have h1 := I (.int t) st rfl
    simp [bReadNum, startE, hs, h1, isIntM, mkT, line, fv_int]
  | tup n d h0 h1 h2 =>
    have e1 := I (.tup [.int n, .int d]) st rfl
    have e2 := S (.tup [.int n, .int d]) 2 st rfl
    have e3 := fun k : Int => I (.int k) st rfl
    have e4 := F n d st (Int.ne_of_gt h0) (lt_up h2 hb)
    have e5 : ¬ d < 1 := by omega
    simp [bReadNum, startE, hs, e1, e2, e3, e4, isIntM, lenM, idx_t0, idx_t1, cmpM, e5]
  | lst n d h0 h1 h2 =>
    have e1 := I (.lst [.int n, .int d]) st rfl
    have e2 := S (.lst [.int n, .int d]) 2 st rfl
    have e3 := fun k : Int => I (.int k) st rfl
    have e4 := F n d st (Int.ne_of_gt h0) (lt_up h2 hb)
    have e5 : ¬ d < 1 := by omega
    have i0 : idxM (.lst [.int n, .int d]) (.int 0) st = .ok (.int n) st := by simp [idxM, sqc, ixN]
    have i1 : idxM (.lst [.int n, .int d]) (.int 1) st = .ok (.int d) st := by simp [idxM, sqc, ixN]
    simp [bReadNum, startE, hs, e1, e2, e3, e4, isIntM, lenM, i0, i1, cmpM, e5]
abbrev bReadNums (s r : Nat) : List MS := [.ite (.notE (.call s [(.var 0), (.var 1)])) [.ret (.k (.non))] [], .asg (.nm 2) (.comp false [3] (.call r [(.var 3)]) (.nm 3) .seq [(.var 0)] []), .ret (.ite (.blt .any false [(.comp false [3] (.cmp .isC (.var 3) (.k (.non))) (.nm 3) .seq [(.var 2)] [])]) (.k (.non)) (.var 2))]
/-- a list or a tuple of these -/
def Sq (v : MV) (xs : List MV) : Prop := v = .lst xs ∨ v = .tup xs
theorem compL_all2 {turn : MV → Store → R (Option MV)} {β : Type} {g : β → MV} {P : MV → β → Prop} {st : Store} (h : ∀ x y, P x y → turn x st = .ok (some (g y)) st) : ∀ {items : List MV} {ys : List β} (acc : List MV), All2 P items ys → acc.length + items.length ≤ line →
    compL [] turn items acc st = .ok (acc.reverse ++ ys.map g) st
  | _, _, acc, .nil, _ => by simp [compL, depOk]
  | _, _, acc, .cons (x := x) (y := y) (xs := xs) (ys := ys) a r, hl => by
    simp only [List.length_cons] at hl
    simp only [compL, depOk, if_true, h x y a, R.bind_ok]
    rw [if_pos (by omega), compL_all2 h (g y :: acc) r (by simp only [List.length_cons]; omega)]
    simp
def ReadsN (C : Fns) (r : Nat) : Prop := ∀ (b : Nat) (v : MV) (xs : List MV) (qs : List Rat) (st : Store), b ≤ 8900 → Sq v xs → All2 (Gn b) xs qs → xs.length ≤ 1000 → C r [v, .int xs.length] st = .ok (.lst (qs.map fv)) st
theorem any_none {x0 x1 x2 x3 : Option MV} {qs : List Rat} {st : Store} (hl : qs.length ≤ 1000) : compL [] (turnF C [3] (.cmp .isC (.var 3) (.k .non)) (.nm 3) [] [x0, x1, x2, x3]) (qs.map fv) [] st = .ok (qs.map fun _ => .bl false) st := by
  have h := compL_map (turn := turnF C [3] (.cmp .isC (.var 3) (.k .non)) (.nm 3) [] [x0, x1, x2, x3]) (g := fun _ => MV.bl false) (deps := []) (st := st) (qs.map fv) [] rfl (fun x hx => by
    obtain ⟨q, _, rfl⟩ := List.mem_map.mp hx
    simp [turnF, wipeE, asgT, cmpM, isM, fv]) (by simp [line]; omega)
  rw [h]
  simp
theorem boolsOf_false : ∀ (qs : List Rat), boolsOf (qs.map fun _ => MV.bl false) = some (qs.map fun _ => false)
  | [] => rfl
  | q :: qs => by simp only [List.map_cons, boolsOf, boolsOf_false qs]
theorem any_false (qs : List Rat) : (qs.map fun _ => false).any id = false := by induction qs with
  | nil => rfl
  | cons q qs ih => simpa using ih
theorem Sq.seq {v : MV} {xs : List MV} (h : Sq v xs) : noRef v = true ∧ lenM v = some xs.length ∧ (∀ st, sqc st v = some xs) ∧ (∀ st, itemsM .seq [v] st = some (xs, [])) ∧ isSeqM v = true := by
  rcases h with rfl | rfl <;> exact ⟨rfl, rfl, fun _ => rfl, fun _ => rfl, rfl⟩
theorem e_readNums {s r : Nat} {v : MV} {xs : List MV} {qs : List Rat} (S : IsSeqOf C s) (R : Reads C r) (hs : f.slots = 4) (hb : b ≤ 8900) (hv : Sq v xs) (h : All2 (Gn b) xs qs) (hl : xs.length ≤ 1000) : eSs C W (bReadNums s r) (startE f [v, .int xs.length]) st = .ret (.lst (qs.map fv)) st := by
  obtain ⟨n1, n2, n3, n4, _⟩ := hv.seq
  have e1 := S v xs.length st n1
  rw [n2] at e1
  have hq : qs.length = xs.length := h.len.symm
  have e2 := compL_all2 (turn := turnF C [3] (.call r [.var 3]) (.nm 3) [] [some v, some (.int xs.length), none, none]) (g := fv) (P := Gn b) (st := st) (fun x q hx => by
    have := R b x q st hb hx
    simp [turnF, wipeE, asgT, this]) [] h (by simp [line]; omega)
  have e3 := any_none (C := C) (x0 := some v) (x1 := some (.int xs.length)) (x2 := some (.lst (qs.map fv))) (x3 := none) (qs := qs) (st := st) (by omega)
  have e4 : (qs.map fv).length ≤ line := by simp [line]; omega
  have e5 : (qs.map fun _ => MV.bl false).length ≤ line := by simp [line]; omega
  simp only [List.length_map] at e4 e5
  simp [bReadNums, startE, hs, e1, n4, e2, mkL, e4, asgT, vit_lst, e3, bltM, lc, boolsOf_false, any_false]
abbrev bAskedNums (r : Nat) : List MS := [.asg (.nm 3) (.call r [(.var 0), (.var 1)]), .ite (.cmp .isC (.var 3) (.k (.non))) [.raise 0 (.var 2)] [], .ret (.var 3)]
theorem e_askedNums {r : Nat} {v p : MV} {xs : List MV} {qs : List Rat} (R : ReadsN C r) (hs : f.slots = 4) (hb : b ≤ 8900) (hv : Sq v xs) (h : All2 (Gn b) xs qs) (hl : xs.length ≤ 1000) : eSs C W (bAskedNums r) (startE f [v, .int xs.length, p]) st = .ret (.lst (qs.map fv)) st := by
  have e1 := R b v xs qs st hb hv h hl
  simp [bAskedNums, startE, hs, e1, asgT, cmpM, isM]
def AsksN (C : Fns) (r : Nat) : Prop := ∀ (b : Nat) (v p : MV) (xs : List MV) (qs : List Rat) (st : Store), b ≤ 8900 → Sq v xs → All2 (Gn b) xs qs → xs.length ≤ 1000 → C r [v, .int xs.length, p] st = .ok (.lst (qs.map fv)) st
abbrev bAskedVals (s r : Nat) (most : Int) : List MS := [.ite (.orE (.notE (.call s [(.var 0)])) (.notE (.chain .le .le (.k (.int 1)) (.blt .len false [(.var 0)]) (.k (.int most))))) [.raise 0 (.var 1)] [], .ret (.call r [(.var 0), (.blt .len false [(.var 0)]), (.var 1)])]
theorem e_askedVals {s r : Nat} {most : Int} {v p : MV} {xs : List MV} {qs : List Rat} (S : IsSeq C s) (A : AsksN C r) (hs : f.slots = 2) (hb : b ≤ 8900) (hv : Sq v xs) (h : All2 (Gn b) xs qs) (h1 : 1 ≤ xs.length) (h2 : (xs.length : Int) ≤ most) (h3 : xs.length ≤ 1000) :
    eSs C W (bAskedVals s r most) (startE f [v, p]) st = .ret (.lst (qs.map fv)) st := by
  obtain ⟨n1, _, n3, _, n5⟩ := hv.seq
  have e1 := S v st n1
  have e2 := A b v p xs qs st hb hv h h3
  have h1' : (1 : Int) ≤ xs.length := by omega
  simp [bAskedVals, startE, hs, e1, n5, bltM, n3, cmpM, h1', h2, e2]
def AsksV (C : Fns) (r : Nat) (most : Int) : Prop := ∀ (b : Nat) (v p : MV) (xs : List MV) (qs : List Rat) (st : Store), b ≤ 8900 → Sq v xs → All2 (Gn b) xs qs → 1 ≤ xs.length → (xs.length : Int) ≤ most → xs.length ≤ 1000 → C r [v, p] st = .ok (.lst (qs.map fv)) st
/-! ### the law's own readers -/
abbrev bNum (i fr : Nat) : List MS := [.ret (.ite (.call i [(.var 0)]) (.tupE [(.var 0), (.k (.int 1))]) (.call fr [(.idx (.var 0) (.k (.int 0))), (.idx (.var 0) (.k (.int 1)))]))]
theorem e_num {i fr : Nat} {v : MV} {q : Rat} (I : IsInt C i) (F : MkFr C fr) (hs : f.slots = 1) (hb : b ≤ 8900) (h : Gn b v q) : eSs C W (bNum i fr) (startE f [v]) st = .ret (fv q) st := by
  cases h with
  | int t ht =>
    have h1 := I (.int t) st rfl
    simp [bNum, startE, hs, h1, isIntM, mkT, line, fv_int]
  | tup n d h0 h1 h2 =>
    have e1 := I (.tup [.int n, .int d]) st rfl
    have e4 := F n d st (Int.ne_of_gt h0) (lt_up h2 hb)
    simp [bNum, startE, hs, e1, e4, isIntM, idx_t0, idx_t1]
  | lst n d h0 h1 h2 =>
    have e1 := I (.lst [.int n, .int d]) st rfl
    have e4 := F n d st (Int.ne_of_gt h0) (lt_up h2 hb)
    have i0 : idxM (.lst [.int n, .int d]) (.int 0) st = .ok (.int n) st := by simp [idxM, sqc, ixN]
    have i1 : idxM (.lst [.int n, .int d]) (.int 1) st = .ok (.int d) st := by simp [idxM, sqc, ixN]
    simp [bNum, startE, hs, e1, e4, isIntM, i0, i1]
abbrev bVec (r : Nat) : List MS := [.ret (.blt .tuple false [(.comp false [1] (.call r [(.var 1)]) (.nm 1) .seq [(.var 0)] [])])]
theorem e_vec {r : Nat} {v : MV} {xs : List MV} {qs : List Rat} (R : Reads C r) (hs : f.slots = 2) (hb : b ≤ 8900) (hv : Sq v xs) (h : All2 (Gn b) xs qs) (hl : xs.length ≤ 1000) : eSs C W (bVec r) (startE f [v]) st = .ret (.tup (qs.map fv)) st := by
  obtain ⟨_, _, _, n4, _⟩ := hv.seq
  have hq : qs.length = xs.length := h.len.symm
  have e2 := compL_all2 (turn := turnF C [1] (.call r [.var 1]) (.nm 1) [] [some v, none]) (g := fv) (P := Gn b) (st := st) (fun x q hx => by
    have := R b x q st hb hx
    simp [turnF, wipeE, asgT, this]) [] h (by simp [line]; omega)
  have e4 : qs.length ≤ line := by simp [line]; omega
  simp [bVec, startE, hs, n4, e2, mkL, e4, bltM, sqc]
def Vecs (C : Fns) (r : Nat) : Prop := ∀ (b : Nat) (v : MV) (xs : List MV) (qs : List Rat) (st : Store), b ≤ 8900 → Sq v xs → All2 (Gn b) xs qs → xs.length ≤ 1000 → C r [v] st = .ok (.tup (qs.map fv)) st
/-! ### a number drawn -/
abbrev bNumber (t : Nat) (k5 k4 : Int) : List MS := [.asg (.nm 3) (.bin .sub false (.call t [(.var 0), (.var 1), (.bin .add false (.bin .mul false (.k (.int 2)) (.var 2)) (.k (.int 1)))]) (.var 2)), .ite (.cmp .eq (.call t [(.var 0), (.var 1), (.k (.int k5))]) (.k (.int 0))) [.ret (.tupE [(.var 3), (.bin .add false (.k (.int 1)) (.call t [(.var 0), (.var 1), (.k (.int k4))]))])] [], .ret (.var 3)]
/-- its value as it is drawn: an int or a pair -/
def Drawn (b : Nat) (v : MV) : Prop := (∃ t : Int, v = .int t ∧ t.natAbs < 2 ^ b) ∨ ∃ n d : Int, v = .tup [.int n, .int d] ∧ 0 < d ∧ n.natAbs < 2 ^ b ∧ d.natAbs < 2 ^ b
theorem Drawn.gn {b : Nat} {v : MV} (h : Drawn b v) : ∃ q, Gn b v q := by
  rcases h with ⟨t, rfl, h⟩ | ⟨n, d, rfl, h0, h1, h2⟩
  · exact ⟨_, .int t h⟩
  · exact ⟨_, .tup n d h0 h1 h2⟩
theorem e_number {t a : Nat} {k5 k4 span : Int} {row : MV} {st0 st : Store} (T : Takes C t) (hs : f.slots = 4) (hr : Row row) (hsp : Spot a st0 st) (h5 : 0 < k5) (h4 : 0 < k4) (h0 : 0 ≤ span) (hb1 : span < 2 ^ b) (hb2 : k4 < 2 ^ b) :
    ∃ v st', eSs C W (bNumber t k5 k4) (startE f [row, .ref a, .int span]) st = .ret v st' ∧ Spot a st0 st' ∧ Drawn b v := by
  obtain ⟨r1, s1, p1, p2, p3, p4⟩ := T row a (2 * span + 1) st0 st hr hsp (by omega)
  obtain ⟨r2, s2, q1, q2, q3, q4⟩ := T row a k5 st0 s1 hr p4 h5
  obtain ⟨r3, s3, u1, u2, u3, u4⟩ := T row a k4 st0 s2 hr q4 h4
  have m1 : mulOk 2 span = true := mulOk_l (by decide)
  have e2 : ((2 : Nat) ^ b : Nat) = ((2 : Int) ^ b) := by norm_cast
  have hn : (r1 - span).natAbs < 2 ^ b := by omega
  by_cases h : r2 = 0
  · refine ⟨.tup [.int (r1 - span), .int (1 + r3)], s3, ?_, u4, .inr ⟨_, _, rfl, by omega, hn, by omega⟩⟩
    simp [bNumber, startE, hs, binM, m1, p3, asgT, q3, cmpM, h, u3, mkT, line]
  · refine ⟨.int (r1 - span), s2, ?_, q4, .inl ⟨_, rfl, hn⟩⟩
    simp [bNumber, startE, hs, binM, m1, p3, asgT, q3, cmpM, h]
def Numbers1 (C : Fns) (t : Nat) : Prop := ∀ (b a : Nat) (span : Int) (row : MV) (st0 st : Store), Row row → Spot a st0 st → 0 ≤ span → span < 2 ^ b → 3 ≤ b → ∃ v st', C t [row, .ref a, .int span] st = .ok v st' ∧ Spot a st0 st' ∧ Drawn b v
abbrev bValues (t u : Nat) : List MS := [.ret (.blt .tuple false [(.comp false [5] (.call u [(.var 0), (.var 1), (.var 4)]) (.nm 5) .range [(.bin .add false (.var 2) (.call t [(.var 0), (.var 1), (.bin .add false (.bin .sub false (.var 3) (.var 2)) (.k (.int 1)))]))] [])])]
theorem e_values {t u a : Nat} {least most span : Int} {row : MV} {st0 st : Store} (T : Takes C t) (U : Numbers1 C u) (hs : f.slots = 6) (hr : Row row) (hsp : Spot a st0 st) (h0 : 0 ≤ span) (hb1 : span < 2 ^ b) (hb : 3 ≤ b) (hl0 : 0 ≤ least) (hl : least ≤ most) (hm : most ≤ 1000) :
    ∃ xs st', eSs C W (bValues t u) (startE f [row, .ref a, .int least, .int most, .int span]) st = .ret (.tup xs) st' ∧ Spot a st0 st' ∧ (∀ x ∈ xs, Drawn b x) ∧ least ≤ xs.length ∧ xs.length ≤ most := by
  obtain ⟨r1, s1, p1, p2, p3, p4⟩ := T row a (most - least + 1) st0 st hr hsp (by omega)
  have hsm := vit_range (n := least + r1) (st := s1) (by omega) (by omega)
  obtain ⟨ys, s2, c1, c2, c3, c4⟩ := compL_inv (turn := turnF C [5] (.call u [.var 0, .var 1, .var 4]) (.nm 5) [] [some row, some (.ref a), some (.int least), some (.int most), some (.int span), none]) (P := fun s => Spot a st0 s) (Qv := fun _ y => Drawn b y) (deps := [])
    (rangeL 0 (least + r1).toNat) [] s1 (fun _ _ => rfl) (fun x _ s hp => by
      obtain ⟨v, s', e1, e2, e3⟩ := U b a span row st0 s hr hp h0 hb1 hb
      exact ⟨v, s', by simp [turnF, wipeE, asgT, e1], e2, e3⟩) (by simp [line]; omega) p4
  simp only [rangeL_len] at c3
  refine ⟨ys, s2, ?_, c2, fun x hx => ?_, by omega, by omega⟩
  · have hy : ys.length ≤ line := by simp only [line]; omega
    simp only [List.reverse_nil, List.nil_append] at c1
    simp [bValues, startE, hs, binM, p3, hsm, c1, mkL, hy, bltM, sqc]
  · obtain ⟨i, hi, e⟩ := List.getElem_of_mem hx
    have hi2 : i < (rangeL 0 (least + r1).toNat).length := by rw [rangeL_len]; omega
    exact c4 i _ x (List.getElem?_eq_getElem hi2) (by rw [List.getElem?_eq_getElem hi, e])
end
end MP

/-! MiniF: answers compared; data loosened. -/
namespace MP
open PySem
open scoped Rat
/-- plain answers of a height -/
def hgt : Nat → MV → Bool
  | _, .non => true
  | _, .bl _ => true
  | _, .int _ => true
  | n + 1, .tup xs => decide (xs.length ≤ 1000000) && xs.all (hgt n)
  | _, _ => false
section
variable {fs : List Fn} {W : Nat}
abbrev bSo (i : Nat) : List MS := [.ite (.cmp .isC (.var 1) (.k (.non))) [.ret (.cmp .isC (.var 0) (.k (.non)))] [], .ite (.isi [.tuple] (.var 1)) [.ite (.orE (.notE (.isi [.tuple] (.var 0))) (.cmp .ne (.blt .len false [(.var 0)]) (.blt .len false [(.var 1)]))) [.ret (.k (.bl false))] [], .forS (.nm 2) .range [(.blt .len false [(.var 1)])] [.ite (.notE (.call i [(.idx (.var 0) (.var 2)), (.idx (.var 1) (.var 2))])) [.ret (.k (.bl false))] []], .ret (.k (.bl true))] [], .ite (.orE (.isi [.bool] (.var 1)) (.isi [.bool] (.var 0))) [.ret (.andE (.isi [.bool] (.var 1)) (.andE (.isi [.bool] (.var 0)) (.cmp .eq (.var 0) (.var 1))))] [], .ite (.isi [.int] (.var 1)) [.ret (.andE (.isi [.int] (.var 0)) (.cmp .eq (.var 0) (.var 1)))] [], .ret (.andE (.isi [.str] (.var 1)) (.andE (.isi [.str] (.var 0)) (.cmp .eq (.var 0) (.var 1))))]
theorem eq_bl {x : Bool} {st : Store} : eqM st (.bl x) (.bl x) = some true := by
  have h1 : SeqAt.shaped (.bool x) = true := rfl
  have h2 : PyData.eqv (.bool x) (.bool x) = true := by cases x <;> rfl
  simp only [eqM, eqD, dataOf, toD, h1, h2, Bool.and_self, if_true]
theorem idx_tup {xs : List MV} {j : Nat} {x : MV} {st : Store} (h : xs[j]? = some x) : idxM (.tup xs) (.int (j : Int)) st = .ok x st := by
  have hj := (List.getElem?_eq_some_iff.mp h).1
  simp only [idxM, sqc, ixN_nat (n := xs.length) (i := (j : Int)) (by omega) (by omega), Int.toNat_natCast, h]
theorem idx_lst {xs : List MV} {j : Nat} {x : MV} {st : Store} (h : xs[j]? = some x) : idxM (.lst xs) (.int (j : Int)) st = .ok x st := by
  have hj := (List.getElem?_eq_some_iff.mp h).1
  simp only [idxM, sqc, ixN_nat (n := xs.length) (i := (j : Int)) (by omega) (by omega), Int.toNat_natCast, h]
theorem ss_ite_f {C : Fns} {c : ME} {a : List MS} {ss : List MS} {env : Env} {st : Store} (h : toTruth (eE C c env st) = .ok false st) : eSs C W (.ite c a [] :: ss) env st = eSs C W ss env st := by
  rw [ss_cons, s_ite, h]
  simp
theorem ss_ite_t {C : Fns} {c : ME} {a b : List MS} {ss : List MS} {env : Env} {st : Store} (h : toTruth (eE C c env st) = .ok true st) : eSs C W (.ite c a b :: ss) env st = match eSs C W a env st with
    | .next e st1 => eSs C W ss e st1
    | r => r := by
  rw [ss_cons, s_ite, h]
  simp only [R.fl_ok, if_true] <;> rfl
theorem so_ok {i : Nat} {f : Fn} (hf : fs[i]? = some f) (hb : f.body = bSo i) (hs : f.slots = 3) (har : f.arity = 2) : ∀ (n d : Nat) (v : MV) (st : Store), hgt n v = true → n ≤ d → callF fs W (d + 1) i [v, v] st = .ok (.bl true) st := by
  intro n
  induction n with
  | zero =>
    intro d v st hv _
    refine callF_of hf (by rw [har]; rfl) (by omega) ?_
    rw [hb]
    cases v <;> simp [hgt] at hv <;> simp [bSo, startE, hs, cmpM, isM, isTy, eq_bl]
  | succ n ih =>
    intro d v st hv hd
    refine callF_of hf (by rw [har]; rfl) (by omega) ?_
    rw [hb]
    cases v with
    | tup xs =>
      simp only [hgt, Bool.and_eq_true, decide_eq_true_eq, List.all_eq_true] at hv
      obtain ⟨h1, h2⟩ := hv
      have key := forL_run (tg := .nm 2) (deps := []) (body := bodyF (callF fs W d) W [.ite (.notE (.call i [(.idx (.var 0) (.var 2)), (.idx (.var 1) (.var 2))])) [.ret (.k (.bl false))] []]) (P := fun j e s => (∃ r, e = [some (.tup xs), some (.tup xs), r]) ∧ s = st)
        (items := rangeL 0 xs.length) (env := [some (.tup xs), some (.tup xs), none]) (st := st) ?_ (fun _ _ _ => rfl) ⟨⟨_, rfl⟩, rfl⟩
      · obtain ⟨e, s, k1, ⟨r, rfl⟩, rfl⟩ := key
        have hr := vit_range (n := (xs.length : Int)) (st := s) (by omega) (by omega)
        simp only [Int.toNat_natCast] at hr
        have hst : startE f [.tup xs, .tup xs] = [some (.tup xs), some (.tup xs), none] := by simp [startE, hs]
        rw [hst, bSo, ss_ite_f (by simp [cmpM, isM]), ss_ite_t (by simp [isTy]), ss_ite_f (by simp [isTy, bltM, sqc, cmpM]), ss_cons, s_for]
        have e0 : eEs (callF fs W d) [.blt .len false [.var 1]] [some (.tup xs), some (.tup xs), none] s = .ok [.int (xs.length : Int)] s := by simp [bltM, sqc]
        rw [e0, srcX_ok, R.fl_ok, hr]
        show (match (match forL (.nm 2) [] _ (rangeL 0 xs.length) _ s with | .next e st1 => eSs _ W [.ret (.k (.bl true))] e st1 | r => r) with | .next e st1 => _ | r => r) = _
        rw [k1]
        simp
      · rintro j x e s hx ⟨⟨r, rfl⟩, rfl⟩
        obtain ⟨hj, rfl⟩ := rangeL_get hx
        refine ⟨rfl, _, rfl, ?_⟩
        have hg := List.getElem?_eq_getElem hj
        have e1 := idx_tup (st := s) hg
        obtain ⟨d', rfl⟩ : ∃ d', d = d' + 1 := ⟨d - 1, by omega⟩
        have e2 := ih d' xs[j] s (h2 _ (List.getElem_mem hj)) (by omega)
        have hb2 : bodyF (callF fs W (d' + 1)) W [.ite (.notE (.call i [(.idx (.var 0) (.var 2)), (.idx (.var 1) (.var 2))])) [.ret (.k (.bl false))] []] [some (.tup xs), some (.tup xs), some (.int (0 + (j : Int)))] s = .next [some (.tup xs), some (.tup xs), some (.int (0 + (j : Int)))] s := by
          simp [bodyF, e1, e2]
        simp only [List.set_cons_zero, List.set_cons_succ]
        rw [hb2]
        exact ⟨⟨_, rfl⟩, rfl⟩
    | _ => simp [hgt] at hv <;> simp [bSo, startE, hs, cmpM, isM, isTy, eq_bl]
/-! ### loosened -/
inductive Lo : MV → MV → Prop
  | same (v : MV) : (∀ xs, v ≠ .tup xs) → Lo v v
  | tup {xs ys : List MV} {w : MV} : All2 Lo xs ys → Sq w ys → Lo (.tup xs) w
abbrev bLoose (i : Nat) : List MS := [.ite (.isi [.tuple] (.var 0)) [.asg (.nm 2) (.comp false [3] (.call i [(.var 3), (.bin .add false (.var 1) (.k (.int 1)))]) (.nm 3) .seq [(.var 0)] []), .ret (.ite (.cmp .eq (.bin .mod false (.blt .int false [(.var 1)]) (.k (.int 2))) (.k (.int 0))) (.var 2) (.blt .tuple false [(.var 2)]))] [], .ret (.var 0)]
theorem loose_ok {i : Nat} {f : Fn} (hf : fs[i]? = some f) (hb : f.body = bLoose i) (hs : f.slots = 4) (har : f.arity = 2) : ∀ (n d : Nat) (v : MV) (t : Int) (st : Store), hgt n v = true → n ≤ d → ∃ w, callF fs W (d + 1) i [v, .int t] st = .ok w st ∧ Lo v w := by
  intro n
  have flat : ∀ (d : Nat) (v : MV) (t : Int) (st : Store), hgt 0 v = true → ∃ w, callF fs W (d + 1) i [v, .int t] st = .ok w st ∧ Lo v w := by
    intro d v t st hv
    refine ⟨v, callF_of hf (by rw [har]; rfl) (by omega) ?_, .same v fun xs e => by subst e; simp [hgt] at hv⟩
    rw [hb]
    cases v <;> simp [hgt] at hv <;> simp [bLoose, startE, hs, isTy]
  induction n with
  | zero => exact fun d v t st hv _ => flat d v t st hv
  | succ n ih =>
    intro d v t st hv hd
    cases v with
    | tup xs =>
      simp only [hgt, Bool.and_eq_true, decide_eq_true_eq, List.all_eq_true] at hv
      obtain ⟨h1, h2⟩ := hv
      obtain ⟨d', rfl⟩ : ∃ d', d = d' + 1 := ⟨d - 1, by omega⟩
      obtain ⟨ys, s2, c1, rfl, c3, c4⟩ := compL_inv (turn := turnF (callF fs W (d' + 1)) [3] (.call i [(.var 3), (.bin .add false (.var 1) (.k (.int 1)))]) (.nm 3) [] [some (.tup xs), some (.int t), none, none]) (P := fun s => s = st) (Qv := Lo) (deps := [])
        xs [] st (fun _ _ => rfl) (fun x hx s hp => by
          subst hp
          obtain ⟨w, e1, e2⟩ := ih d' x (t + 1) s (h2 x hx) (by omega)
          exact ⟨w, s, by simp [turnF, wipeE, asgT, binM, e1], rfl, e2⟩) (by simp only [line, List.length_nil]; omega) rfl
      have hy : ys.length ≤ line := by simp only [line]; omega
      have ha : All2 Lo xs ys := .of c3 c4
      simp only [List.reverse_nil, List.nil_append] at c1
      by_cases ht : t.fmod 2 = 0
      · refine ⟨.lst ys, callF_of hf (by rw [har]; rfl) (by omega) ?_, .tup ha (.inl rfl)⟩
        rw [hb]
        simp [bLoose, startE, hs, isTy, vit_tup, c1, mkL, hy, asgT, bltM, binM, cmpM, ht]
      · refine ⟨.tup ys, callF_of hf (by rw [har]; rfl) (by omega) ?_, .tup ha (.inr rfl)⟩
        rw [hb]
        simp [bLoose, startE, hs, isTy, vit_tup, c1, mkL, hy, asgT, bltM, binM, cmpM, ht, sqc]
    | _ => exact flat d _ t st (by simpa [hgt] using hv)
end
theorem Lo.int {t : Int} {w : MV} (h : Lo (.int t) w) : w = .int t := by cases h; rfl
theorem Drawn.lo {b : Nat} {v w : MV} {q : Rat} (h : Drawn b v) (hq : Gn b v q) (hl : Lo v w) : Gn b w q := by
  rcases h with ⟨t, rfl, h⟩ | ⟨n, d, rfl, h0, h1, h2⟩
  · rw [hl.int]; exact hq
  · cases hq with
    | tup _ _ _ _ _ =>
      cases hl with
      | same _ hn => exact absurd rfl (hn _)
      | tup ha hs =>
        cases ha with
        | cons a1 r1 =>
          cases r1 with
          | cons a2 r2 =>
            cases r2
            rw [a1.int, a2.int] at hs
            rcases hs with rfl | rfl
            · exact .lst n d h0 h1 h2
            · exact .tup n d h0 h1 h2
theorem Drawn.hgt {b : Nat} {v : MV} (h : Drawn b v) : hgt 1 v = true := by
  rcases h with ⟨t, rfl, h⟩ | ⟨n, d, rfl, h0, h1, h2⟩
  · rfl
  · simp [MP.hgt]
/-- drawn values, their numbers, the loosened ones -/
theorem drawn_all {b : Nat} : ∀ {xs : List MV}, (∀ x ∈ xs, Drawn b x) → ∃ qs, All2 (Gn b) xs qs
  | xs, h => All2.pick fun x hx => (h x hx).gn
theorem lo_all {b : Nat} : ∀ {xs ys : List MV} {qs : List Rat}, (∀ x ∈ xs, Drawn b x) → All2 (Gn b) xs qs → All2 Lo xs ys → All2 (Gn b) ys qs
  | _, _, _, _, .nil, .nil => .nil
  | _, _, _, h, .cons a r, .cons a' r' => .cons ((h _ (List.mem_cons_self ..)).lo a a') (lo_all (fun x hx => h x (List.mem_cons_of_mem _ hx)) r r')
theorem hgt_fv (q : Rat) : hgt 1 (fv q) = true := by simp [hgt, fv]
theorem hgt_tup {n : Nat} {xs : List MV} (h : xs.length ≤ 1000000) (h2 : ∀ x ∈ xs, hgt n x = true) : hgt (n + 1) (.tup xs) = true := by
  simp only [hgt, Bool.and_eq_true, decide_eq_true_eq, List.all_eq_true]
  exact ⟨h, h2⟩
theorem hgt_mono : ∀ {n m : Nat} {v : MV}, hgt n v = true → n ≤ m → hgt m v = true := by
  intro n
  induction n with
  | zero => intro m v h _; cases v <;> cases m <;> simp [hgt] at h ⊢
  | succ n ih =>
    intro m v h hm
    obtain ⟨m', rfl⟩ : ∃ m', m = m' + 1 := ⟨m - 1, by omega⟩
    cases v with
    | tup xs =>
      simp only [hgt, Bool.and_eq_true, decide_eq_true_eq, List.all_eq_true] at h ⊢
      exact ⟨h.1, fun x hx => ih (h.2 x hx) (by omega)⟩
    | _ => simp [hgt] at h ⊢
end MP

/-! MiniG: the greatest, the least; slices; searches. -/
namespace MP
open PySem
open scoped Rat
def maxF (a x : Rat) : Rat := if a < x then x else a
def minF (a x : Rat) : Rat := if x < a then x else a
def maxL : List Rat → Rat
  | [] => 0
  | q :: qs => (q :: qs).foldl maxF q
def minL : List Rat → Rat
  | [] => 0
  | q :: qs => (q :: qs).foldl minF q
section
variable {C : Fns} {W : Nat} {st : Store} {f : Fn} {b : Nat}
theorem fold_loop {body : Env → Store → Fl} {g : Rat → Rat → Rat} {x0 : Option MV} {Q : Rat → Prop} (hb : ∀ a x, Q a → Q x → body [x0, some (fv a), some (fv x)] st = .next [x0, some (fv (g a x)), some (fv x)] st ∧ Q (g a x)) :
    ∀ (qs : List Rat) (a : Rat) (r : Option MV), (∀ q ∈ qs, Q q) → Q a → ∃ r', forL (.nm 2) [] body (qs.map fv) [x0, some (fv a), r] st = .next [x0, some (fv (qs.foldl g a)), r'] st
  | [], a, r, _, _ => ⟨r, by simp [forL, depOk]⟩
  | q :: qs, a, r, h, ha => by
    obtain ⟨h1, h2⟩ := hb a q ha (h q (List.mem_cons_self ..))
    obtain ⟨r', h3⟩ := fold_loop hb qs (g a q) (some (fv q)) (fun x hx => h x (List.mem_cons_of_mem _ hx)) h2
    refine ⟨r', ?_⟩
    simp only [List.map_cons, forL, depOk, if_true, asgT, List.length_cons, List.length_nil, List.set_cons_zero, List.set_cons_succ, List.foldl_cons]
    simp only [show (2 : Nat) < 0 + 1 + 1 + 1 from by decide, if_true, h1]
    exact h3
abbrev bTest (t : ME) : List MS := [.ite t [.asg (.nm 1) (.var 2)] []]
abbrev bPick (t : ME) : List MS := [.asg (.nm 1) (.idx (.var 0) (.k (.int 0))), .forS (.nm 2) .seq [(.var 0)] (bTest t), .ret (.var 1)]
theorem e_pick {t : ME} {g : Rat → Rat → Rat} {v : MV} {q : Rat} {qs : List Rat} (hs : f.slots = 3) (hv : Sq v ((q :: qs).map fv)) (hq : ∀ x ∈ q :: qs, Sz b x)
    (ht : ∀ a x, Sz b a → Sz b x → (eE C t [some v, some (fv a), some (fv x)] st = .ok (.bl true) st ∧ g a x = x) ∨ (eE C t [some v, some (fv a), some (fv x)] st = .ok (.bl false) st ∧ g a x = a)) :
    eSs C W (bPick t) (startE f [v]) st = .ret (fv ((q :: qs).foldl g q)) st := by
  obtain ⟨r', h⟩ := fold_loop (body := bodyF C W (bTest t)) (g := g) (x0 := some v) (Q := Sz b) (st := st) (fun a x ha hx => by
    rcases ht a x ha hx with ⟨h1, h2⟩ | ⟨h1, h2⟩
    · rw [h2]; exact ⟨by simp [bodyF, h1, asgT], hx⟩
    · rw [h2]; exact ⟨by simp [bodyF, h1], ha⟩) (q :: qs) q none hq (hq q (List.mem_cons_self ..))
  have e1 : idxM v (.int 0) st = .ok (fv q) st := by rcases hv with rfl | rfl <;> simp [idxM, sqc, ixN]
  have e2 : itemsM .seq [v] st = some ((q :: qs).map fv, []) := by rcases hv with rfl | rfl <;> rfl
  have hst : startE f [v] = [some v, none, none] := by simp [startE, hs]
  rw [hst, bPick, ss_cons, s_asg]
  have e3 : eE C (.idx (.var 0) (.k (.int 0))) [some v, none, none] st = .ok (fv q) st := by simp [e1]
  rw [e3]
  have e4 : asgT (.nm 1) (fv q) [some v, none, none] = some [some v, some (fv q), none] := rfl
  simp only [R.fl_ok, e4]
  rw [ss_cons, s_for]
  have e5 : eEs C [.var 0] [some v, some (fv q), none] st = .ok [v] st := by simp
  rw [e5]
  simp only [srcX_ok, R.fl_ok, e2, h]
  simp
def Picks (C : Fns) (r : Nat) (m : List Rat → Rat) : Prop := ∀ (b : Nat) (v : MV) (q : Rat) (qs : List Rat) (st : Store), b ≤ 4000 → Sq v ((q :: qs).map fv) → (∀ x ∈ q :: qs, Sz b x) → C r [v] st = .ok (fv (m (q :: qs))) st
theorem maxF_or {a x : Rat} : (a < x ∧ maxF a x = x) ∨ (¬ a < x ∧ maxF a x = a) := by
  unfold maxF
  by_cases h : a < x
  · exact .inl ⟨h, if_pos h⟩
  · exact .inr ⟨h, if_neg h⟩
theorem minF_or {a x : Rat} : (x < a ∧ minF a x = x) ∨ (¬ x < a ∧ minF a x = a) := by
  unfold minF
  by_cases h : x < a
  · exact .inl ⟨h, if_pos h⟩
  · exact .inr ⟨h, if_neg h⟩
end
/-! ### the greatest and the least, as they are -/
theorem maxF_le {a x : Rat} : a ≤ maxF a x ∧ x ≤ maxF a x := by
  rcases maxF_or (a := a) (x := x) with ⟨h, e⟩ | ⟨h, e⟩ <;> rw [e]
  · exact ⟨Rat.le_of_lt h, Rat.le_refl⟩
  · exact ⟨Rat.le_refl, Rat.not_lt.mp h⟩
theorem minF_le {a x : Rat} : minF a x ≤ a ∧ minF a x ≤ x := by
  rcases minF_or (a := a) (x := x) with ⟨h, e⟩ | ⟨h, e⟩ <;> rw [e]
  · exact ⟨Rat.le_of_lt h, Rat.le_refl⟩
  · exact ⟨Rat.le_refl, Rat.not_lt.mp h⟩
theorem foldMax : ∀ (qs : List Rat) (a : Rat), a ≤ qs.foldl maxF a ∧ (∀ q ∈ qs, q ≤ qs.foldl maxF a) ∧ (qs.foldl maxF a = a ∨ qs.foldl maxF a ∈ qs)
  | [], a => ⟨Rat.le_refl, (fun q h => nomatch h), .inl rfl⟩
  | x :: qs, a => by
    obtain ⟨h1, h2, h3⟩ := foldMax qs (maxF a x)
    obtain ⟨m1, m2⟩ := maxF_le (a := a) (x := x)
    refine ⟨Rat.le_trans m1 h1, fun q hq => ?_, ?_⟩
    · rcases List.mem_cons.mp hq with e | hq
      · subst e; exact Rat.le_trans m2 h1
      · exact h2 q hq
    · rw [List.foldl_cons]
      rcases h3 with e | h3
      · rw [e]
        rcases maxF_or (a := a) (x := x) with ⟨_, e⟩ | ⟨_, e⟩ <;> rw [e]
        · exact .inr (List.mem_cons_self ..)
        · exact .inl rfl
      · exact .inr (List.mem_cons_of_mem _ h3)
theorem foldMin : ∀ (qs : List Rat) (a : Rat), qs.foldl minF a ≤ a ∧ (∀ q ∈ qs, qs.foldl minF a ≤ q) ∧ (qs.foldl minF a = a ∨ qs.foldl minF a ∈ qs)
  | [], a => ⟨Rat.le_refl, (fun q h => nomatch h), .inl rfl⟩
  | x :: qs, a => by
    obtain ⟨h1, h2, h3⟩ := foldMin qs (minF a x)
    obtain ⟨m1, m2⟩ := minF_le (a := a) (x := x)
    refine ⟨Rat.le_trans h1 m1, fun q hq => ?_, ?_⟩
    · rcases List.mem_cons.mp hq with e | hq
      · subst e; exact Rat.le_trans h1 m2
      · exact h2 q hq
    · rw [List.foldl_cons]
      rcases h3 with e | h3
      · rw [e]
        rcases minF_or (a := a) (x := x) with ⟨_, e⟩ | ⟨_, e⟩ <;> rw [e]
        · exact .inr (List.mem_cons_self ..)
        · exact .inl rfl
      · exact .inr (List.mem_cons_of_mem _ h3)
theorem maxL_spec {qs : List Rat} (h : qs ≠ []) : maxL qs ∈ qs ∧ ∀ q ∈ qs, q ≤ maxL qs := by
  cases qs with
  | nil => exact absurd rfl h
  | cons q qs =>
    obtain ⟨_, h2, h3⟩ := foldMax (q :: qs) q
    refine ⟨?_, h2⟩
    rcases h3 with e | h3
    · show (q :: qs).foldl maxF q ∈ q :: qs
      rw [e]; exact List.mem_cons_self ..
    · exact h3
theorem minL_spec {qs : List Rat} (h : qs ≠ []) : minL qs ∈ qs ∧ ∀ q ∈ qs, minL qs ≤ q := by
  cases qs with
  | nil => exact absurd rfl h
  | cons q qs =>
    obtain ⟨_, h2, h3⟩ := foldMin (q :: qs) q
    refine ⟨?_, h2⟩
    rcases h3 with e | h3
    · show (q :: qs).foldl minF q ∈ q :: qs
      rw [e]; exact List.mem_cons_self ..
    · exact h3
theorem neg_lt {a x : Rat} : -a < -x ↔ x < a := by
  constructor <;> intro h <;> grind
theorem foldNeg : ∀ (qs : List Rat) (a : Rat), (qs.map (- ·)).foldl maxF (-a) = -(qs.foldl minF a)
  | [], a => rfl
  | x :: qs, a => by
    rw [List.map_cons, List.foldl_cons, List.foldl_cons]
    have e : maxF (-a) (-x) = -(minF a x) := by
      unfold maxF minF
      by_cases h : x < a
      · rw [if_pos h, if_pos (neg_lt.mpr h)]
      · rw [if_neg h, if_neg fun hh => h (neg_lt.mp hh)]
    rw [e, foldNeg qs]
theorem neg_maxL {q : Rat} {qs : List Rat} : -(maxL ((q :: qs).map (- ·))) = minL (q :: qs) := by
  show -(((q :: qs).map (- ·)).foldl maxF (-q)) = (q :: qs).foldl minF q
  rw [foldNeg, Rat.neg_neg]
/-! ### slices -/
theorem sIx_nat {n d k : Nat} : sIx n d (some (k : Int)) = min k n := by
  unfold sIx
  simp only [if_neg (show ¬ (k : Int) < 0 by omega), Int.toNat_natCast]
theorem cut_to {xs : List MV} {k : Nat} (h : k + 1 ≤ xs.length) : cutM xs none (some ((k : Int) + 1)) = xs.take (k + 1) := by
  unfold cutM
  rw [show ((k : Int) + 1) = ((k + 1 : Nat) : Int) by omega, sIx_nat, Nat.min_eq_left h]
  simp [sIx]
theorem cut_from {xs : List MV} {k : Nat} (h : k ≤ xs.length) : cutM xs (some (k : Int)) none = xs.drop k := by
  unfold cutM
  rw [sIx_nat, Nat.min_eq_left h]
  simp only [sIx]
  rw [List.take_of_length_le (by simp)]
/-! ### equal fractions -/
theorem eqM_fv {st : Store} {p q : Rat} : eqM st (fv p) (fv q) = some (decide (p = q)) := by
  have s1 : ∀ a b : Int, SeqAt.shaped (.tuple [.int a, .int b]) = true := fun a b => rfl
  have e1 : dataOf st (fv p) = some (.tuple [.int p.num, .int p.den]) := rfl
  have e2 : dataOf st (fv q) = some (.tuple [.int q.num, .int q.den]) := rfl
  have e3 : PyData.eqv (.tuple [.int p.num, .int p.den]) (.tuple [.int q.num, .int q.den]) = decide (p = q) := by
    have h1 : PyData.eqv (.tuple [.int p.num, .int p.den]) (.tuple [.int q.num, .int q.den]) = ((p.num == q.num) && ((p.den : Int) == (q.den : Int))) := by simp [PyData.eqv, PyData.eqvAll]
    rw [h1]
    by_cases h : p = q
    · subst h; simp
    · rw [decide_eq_false h]
      cases e : ((p.num == q.num) && ((p.den : Int) == (q.den : Int))) with
      | false => rfl
      | true =>
        simp only [Bool.and_eq_true, beq_iff_eq] at e
        exact absurd (Rat.ext e.1 (by omega)) h
  show eqD st (fv p) (fv q) = _
  simp only [eqD, e1, e2, s1, Bool.and_self, if_true, e3]

/-! ### statements, one by one -/
section
variable {C : Fns} {W : Nat} {env env1 : Env} {st st1 : Store} {ss : List MS} {e : ME} {v : MV}
theorem ss_asg {tg : Tg} (h : eE C e env st = .ok v st1) (ha : asgT tg v env = some env1) : eSs C W (.asg tg e :: ss) env st = eSs C W ss env1 st1 := by
  rw [ss_cons, s_asg, h]
  simp only [R.fl_ok, ha]
theorem ss_for {tg : Tg} {ik : IK} {src : List ME} {body : List MS} {vs items : List MV} {deps : Deps} {s2 : Store} (h : eEs C src env st = .ok vs st1) (hi : itemsM ik vs st1 = some (items, deps)) (hl : forL tg deps (bodyF C W body) items env st1 = .next env1 s2) : eSs C W (.forS tg ik src body :: ss) env st = eSs C W ss env1 s2 := by
  rw [ss_cons, s_for, h]
  simp only [srcX_ok, R.fl_ok, hi, hl]
theorem ss_for_ret {tg : Tg} {ik : IK} {src : List ME} {body : List MS} {vs items : List MV} {deps : Deps} {s2 : Store} (h : eEs C src env st = .ok vs st1) (hi : itemsM ik vs st1 = some (items, deps)) (hl : forL tg deps (bodyF C W body) items env st1 = .ret v s2) : eSs C W (.forS tg ik src body :: ss) env st = .ret v s2 := by
  rw [ss_cons, s_for, h]
  simp only [srcX_ok, R.fl_ok, hi, hl]
theorem ss_ret (h : eE C e env st = .ok v st1) : eSs C W (.ret e :: ss) env st = .ret v st1 := by
  rw [ss_cons, s_ret, h]
  simp only [R.fl_ok]
theorem ss_expr (h : eE C e env st = .ok v st1) : eSs C W (.expr e :: ss) env st = eSs C W ss env st1 := by
  rw [ss_cons, s_expr, h]
  simp only [R.fl_ok]
theorem v_comp_of {mu : Bool} {own : List Nat} {elt : ME} {tg : Tg} {ik : IK} {src : List ME} {vs items ys : List MV} {deps : Deps} {s2 : Store} (h : eEs C src env st = .ok vs st1) (hi : itemsM ik vs st1 = some (items, deps)) (hc : compL deps (turnF C own elt tg [] env) items [] st1 = .ok ys s2) (hl : ys.length ≤ line) : eE C (.comp false own elt tg ik src []) env st = .ok (.lst ys) s2 := by
  rw [v_comp, h]
  simp only [srcX_ok, R.bind_ok, hi, hc, mkL, hl, if_true, Bool.false_eq_true, if_false]
end
theorem startE_of {f : Fn} {args : List MV} {n : Nat} (hs : f.slots = n) : startE f args = args.map some ++ List.replicate (n - args.length) none := by
  unfold startE
  rw [hs]
theorem succ_of {D k : Nat} (h : k + 1 ≤ D) : ∃ d, D = d + 1 ∧ k ≤ d := ⟨D - 1, by omega, by omega⟩
/-- what a function of two fractions, of one, answers -/
def Bin2 (C : Fns) (i : Nat) (g : Rat → Rat → Rat) : Prop := ∀ (b c : Nat) (p q : Rat) (st : Store), Sz b p → Sz c q → b + c ≤ 8900 → C i [fv p, fv q] st = .ok (fv (g p q)) st
def Neg1 (C : Fns) (i : Nat) : Prop := ∀ (q : Rat) (st : Store), C i [fv q] st = .ok (fv (-q)) st
def Less2 (C : Fns) (i : Nat) : Prop := ∀ (b c : Nat) (p q : Rat) (st : Store), Sz b p → Sz c q → b + c ≤ 8900 → C i [fv p, fv q] st = .ok (.bl (decide (p < q))) st
def Side2 (C : Fns) (i : Nat) : Prop := ∀ (b c : Nat) (p q : Rat) (st : Store), Sz b p → Sz c q → b + c ≤ 8900 → C i [fv p, fv q] st = .ok (.int (sideI p q)) st
abbrev bMinus (p n : Nat) : List MS := [.ret (.call p [(.var 0), (.call n [(.var 1)])])]
theorem e_minus {C : Fns} {W a n : Nat} {f : Fn} {b c : Nat} {p q : Rat} {st : Store} (A : Bin2 C a (· + ·)) (N : Neg1 C n) (hs : f.slots = 2) (hp : Sz b p) (hq : Sz c q) (h : b + c ≤ 8900) : eSs C W (bMinus a n) (startE f [fv p, fv q]) st = .ret (fv (p - q)) st := by
  have h1 := A b c p (-q) st hp hq.neg h
  have h2 := N q st
  simp only [← Rat.sub_eq_add_neg] at h1
  simp [bMinus, startE, hs, h1, h2]
theorem side_pos {p q : Rat} : (0 < sideI p q) ↔ q < p := by
  unfold sideI
  by_cases h : q < p
  · simp [h]
  · by_cases h2 : p = q
    · simp [h, h2]
    · simp [h, h2]
/-- the first pair in the order of reading -/
def FirstP (P : Nat → Nat → Prop) (n : Nat) : Option (Nat × Nat) → Prop
  | none => ∀ i j, i < j → j < n → ¬ P i j
  | some (a, b) => a < b ∧ b < n ∧ P a b ∧ ∀ i j, i < j → j < n → (i < a ∨ (i = a ∧ j < b)) → ¬ P i j
theorem FirstP.uniq {P : Nat → Nat → Prop} {n : Nat} : ∀ {r r' : Option (Nat × Nat)}, FirstP P n r → FirstP P n r' → r = r'
  | none, none, _, _ => rfl
  | none, some (a, b), h, h' => absurd h'.2.2.1 (h a b h'.1 h'.2.1)
  | some (a, b), none, h, h' => absurd h.2.2.1 (h' a b h.1 h.2.1)
  | some (a, b), some (c, d), h, h' => by
    obtain ⟨h1, h2, h3, h4⟩ := h
    obtain ⟨g1, g2, g3, g4⟩ := h'
    by_cases e1 : a < c
    · exact absurd h3 (g4 a b h1 h2 (.inl e1))
    · by_cases e2 : c < a
      · exact absurd g3 (h4 c d g1 g2 (.inl e2))
      · have e3 : a = c := by omega
        by_cases e4 : b < d
        · exact absurd h3 (g4 a b h1 h2 (.inr ⟨e3, e4⟩))
        · by_cases e5 : d < b
          · exact absurd g3 (h4 c d g1 g2 (.inr ⟨e3.symm, e5⟩))
          · have e6 : b = d := by omega
            rw [e3, e6]
def pairV : Option (Nat × Nat) → MV
  | none => .non
  | some (a, b) => .tup [.int (a : Int), .int (b : Int)]
/-- the greatest fall in a row -/
def IsFall (qs : List Rat) (a : Rat) : Prop := (a = 0 ∨ ∃ i j, i < j ∧ j < qs.length ∧ a = qs.getD i 0 - qs.getD j 0) ∧ 0 ≤ a ∧ ∀ i j, i < j → j < qs.length → qs.getD i 0 - qs.getD j 0 ≤ a
theorem IsFall.uniq {qs : List Rat} {a b : Rat} (h : IsFall qs a) (g : IsFall qs b) : a = b := by
  have key : ∀ {a b : Rat}, IsFall qs a → IsFall qs b → a ≤ b := fun {a b} h g => by
    rcases h.1 with e | ⟨i, j, h1, h2, e⟩
    · rw [e]; exact g.2.1
    · rw [e]; exact g.2.2 i j h1 h2
  exact Rat.le_antisymm (key h g) (key g h)
end MP

namespace Lk94
open PySem MP
def b0 : List MS := [.ret (.andE (.isi [.int] (.var 0)) (.notE (.isi [.bool] (.var 0))))]
abbrev f0 : Fn := ⟨1, 1, false, b0⟩
def b1 : List MS := [.ret (.isi [.list, .tuple] (.var 0))]
abbrev f1 : Fn := ⟨1, 1, false, b1⟩
def b2 : List MS := [.ret (.andE (.call 1 [(.var 0)]) (.cmp .eq (.blt .len false [(.var 0)]) (.var 1)))]
abbrev f2 : Fn := ⟨2, 2, false, b2⟩
def b3 : List MS := [.ite (.cmp .lt (.var 1) (.k (.int 0))) [.asg (.tp [(.nm 0), (.nm 1)]) (.tupE [(.neg (.var 0)), (.neg (.var 1))])] [], .asg (.nm 2) (.blt .gcd false [(.var 0), (.var 1)]), .ret (.tupE [(.bin .fdiv false (.var 0) (.var 2)), (.bin .fdiv false (.var 1) (.var 2))])]
abbrev f3 : Fn := ⟨3, 2, false, b3⟩
def b4 : List MS := [.ite (.call 0 [(.var 0)]) [.ret (.tupE [(.var 0), (.k (.int 1))])] [], .ite (.orE (.notE (.call 2 [(.var 0), (.k (.int 2))])) (.orE (.notE (.call 0 [(.idx (.var 0) (.k (.int 0)))])) (.orE (.notE (.call 0 [(.idx (.var 0) (.k (.int 1)))])) (.cmp .lt (.idx (.var 0) (.k (.int 1))) (.k (.int 1)))))) [.ret (.k (.non))] [], .ret (.call 3 [(.idx (.var 0) (.k (.int 0))), (.idx (.var 0) (.k (.int 1)))])]
abbrev f4 : Fn := ⟨1, 1, false, b4⟩
def b5 : List MS := [.ite (.notE (.call 2 [(.var 0), (.var 1)])) [.ret (.k (.non))] [], .asg (.nm 2) (.comp false [3] (.call 4 [(.var 3)]) (.nm 3) .seq [(.var 0)] []), .ret (.ite (.blt .any false [(.comp false [3] (.cmp .isC (.var 3) (.k (.non))) (.nm 3) .seq [(.var 2)] [])]) (.k (.non)) (.var 2))]
abbrev f5 : Fn := ⟨4, 2, false, b5⟩
def b6 : List MS := [.ret (.call 3 [(.bin .add false (.bin .mul false (.idx (.var 0) (.k (.int 0))) (.idx (.var 1) (.k (.int 1)))) (.bin .mul false (.idx (.var 1) (.k (.int 0))) (.idx (.var 0) (.k (.int 1))))), (.bin .mul false (.idx (.var 0) (.k (.int 1))) (.idx (.var 1) (.k (.int 1))))])]
abbrev f6 : Fn := ⟨2, 2, false, b6⟩
def b7 : List MS := [.ret (.call 3 [(.bin .sub false (.bin .mul false (.idx (.var 0) (.k (.int 0))) (.idx (.var 1) (.k (.int 1)))) (.bin .mul false (.idx (.var 1) (.k (.int 0))) (.idx (.var 0) (.k (.int 1))))), (.bin .mul false (.idx (.var 0) (.k (.int 1))) (.idx (.var 1) (.k (.int 1))))])]
abbrev f7 : Fn := ⟨2, 2, false, b7⟩
def b8 : List MS := [.ret (.call 3 [(.bin .mul false (.idx (.var 0) (.k (.int 0))) (.idx (.var 1) (.k (.int 1)))), (.bin .mul false (.idx (.var 0) (.k (.int 1))) (.idx (.var 1) (.k (.int 0))))])]
abbrev f8 : Fn := ⟨2, 2, false, b8⟩
def b9 : List MS := [.ret (.call 3 [(.bin .mul false (.idx (.var 0) (.k (.int 0))) (.var 1)), (.idx (.var 0) (.k (.int 1)))])]
abbrev f9 : Fn := ⟨2, 2, false, b9⟩
def b10 : List MS := [.asg (.nm 1) (.k (.int 1)), .forS (.nm 2) .seq [(.var 0)] [.asg (.nm 1) (.blt .lcm2 false [(.var 1), (.idx (.var 2) (.k (.int 1)))])], .ret (.var 1)]
abbrev f10 : Fn := ⟨3, 1, false, b10⟩
def b11 : List MS := [.ret (.bin .mul false (.idx (.var 0) (.k (.int 0))) (.bin .fdiv false (.var 1) (.idx (.var 0) (.k (.int 1)))))]
abbrev f11 : Fn := ⟨2, 2, false, b11⟩
def b12 : List MS := [.asg (.nm 1) (.call 10 [(.var 0)]), .ret (.tupE [(.comp false [2] (.call 11 [(.var 2), (.var 1)]) (.nm 2) .seq [(.var 0)] []), (.var 1)])]
abbrev f12 : Fn := ⟨3, 1, false, b12⟩
def b13 : List MS := [.asg (.tp [(.nm 1), (.nm 2)]) (.call 12 [(.var 0)]), .ret (.call 3 [(.blt .sum false [(.var 1)]), (.var 2)])]
abbrev f13 : Fn := ⟨3, 1, false, b13⟩
def b14 : List MS := [.asg (.tp [(.nm 2), (.nm 3)]) (.call 12 [(.var 0)]), .asg (.tp [(.nm 4), (.nm 5)]) (.call 12 [(.var 1)]), .ret (.call 3 [(.blt .sum false [(.comp false [6, 7] (.bin .mul false (.var 6) (.var 7)) (.tp [(.nm 6), (.nm 7)]) .zip [(.var 2), (.var 4)] [])]), (.bin .mul false (.var 3) (.var 5))])]
abbrev f14 : Fn := ⟨8, 2, false, b14⟩
def b15 : List MS := [.ret (.call 14 [(.var 0), (.var 0)])]
abbrev f15 : Fn := ⟨1, 1, false, b15⟩
def b16 : List MS := [.asg (.nm 3) (.call 5 [(.var 0), (.var 1)]), .ite (.cmp .isC (.var 3) (.k (.non))) [.raise 0 (.var 2)] [], .ret (.var 3)]
abbrev f16 : Fn := ⟨4, 3, false, b16⟩
def b17 : List MS := [.ite (.notE (.call 2 [(.var 0), (.var 1)])) [.raise 0 (.var 3)] [], .ret (.comp false [4] (.call 16 [(.var 4), (.var 2), (.var 3)]) (.nm 4) .seq [(.var 0)] [])]
abbrev f17 : Fn := ⟨5, 4, false, b17⟩
def b18 : List MS := [.ite (.orE (.notE (.call 1 [(.var 0)])) (.orE (.notE (.chain .le .le (.k (.int 1)) (.blt .len false [(.var 0)]) (.k (.int 5)))) (.notE (.call 1 [(.idx (.var 0) (.k (.int 0)))])))) [.raise 0 (.k (.int 1))] [], .ite (.notE (.chain .le .le (.k (.int 1)) (.blt .len false [(.idx (.var 0) (.k (.int 0)))]) (.k (.int 5)))) [.raise 0 (.k (.int 1))] [], .ret (.call 17 [(.var 0), (.blt .len false [(.var 0)]), (.blt .len false [(.idx (.var 0) (.k (.int 0)))]), (.k (.int 1))])]
abbrev f18 : Fn := ⟨1, 1, false, b18⟩
def b19 : List MS := [.ret (.comp false [2] (.comp false [1] (.idx (.var 1) (.var 2)) (.nm 1) .seq [(.var 0)] []) (.nm 2) .range [(.blt .len false [(.idx (.var 0) (.k (.int 0)))])] [])]
abbrev f19 : Fn := ⟨3, 1, false, b19⟩
def b20 : List MS := [.ret (.comp2 false [1, 2] (.var 2) (.nm 1) .seq [(.var 0)] [2] (.nm 2) .seq [(.var 1)])]
abbrev f20 : Fn := ⟨3, 1, false, b20⟩
def b21 : List MS := [.asg (.nm 1) (.call 13 [(.var 0)]), .ret (.call 3 [(.idx (.var 1) (.k (.int 0))), (.bin .mul false (.idx (.var 1) (.k (.int 1))) (.blt .len false [(.var 0)]))])]
abbrev f21 : Fn := ⟨2, 1, false, b21⟩
def b22 : List MS := [.asg (.nm 1) (.call 21 [(.call 20 [(.var 0)])]), .asg (.nm 2) (.comp false [3] (.call 7 [(.call 21 [(.var 3)]), (.var 1)]) (.nm 3) .seq [(.var 0)] []), .asg (.nm 4) (.comp false [5] (.call 7 [(.call 21 [(.var 5)]), (.var 1)]) (.nm 5) .seq [(.call 19 [(.var 0)])] []), .ret (.tupE [(.var 1), (.var 2), (.var 4)])]
abbrev f22 : Fn := ⟨6, 1, false, b22⟩
def b23 : List MS := [.ret (.comp false [6, 7] (.comp false [4, 5] (.call 7 [(.var 4), (.call 6 [(.var 1), (.call 6 [(.var 7), (.var 5)])])]) (.tp [(.nm 4), (.nm 5)]) .zip [(.var 6), (.var 3)] []) (.tp [(.nm 6), (.nm 7)]) .zip [(.var 0), (.var 2)] [])]
abbrev f23 : Fn := ⟨8, 4, false, b23⟩
def b24 : List MS := [.asg (.nm 1) (.call 18 [(.var 0)]), .asg (.tp [(.nm 2), (.nm 3), (.nm 4)]) (.call 22 [(.var 1)]), .asg (.nm 5) (.call 15 [(.call 20 [(.call 23 [(.var 1), (.var 2), (.var 3), (.var 4)])])]), .ret (.tupE [(.var 2), (.blt .tuple false [(.var 3)]), (.blt .tuple false [(.var 4)]), (.var 5)])]
abbrev f24 : Fn := ⟨6, 1, false, b24⟩
def b25 : List MS := [.asg (.nm 2) (.call 18 [(.var 0)]), .ite (.notE (.call 2 [(.var 1), (.k (.int 4))])) [.ret (.k (.bl false))] [], .asg (.nm 3) (.call 4 [(.idx (.var 1) (.k (.int 0)))]), .asg (.nm 4) (.call 5 [(.idx (.var 1) (.k (.int 1))), (.blt .len false [(.var 2)])]), .asg (.nm 5) (.call 5 [(.idx (.var 1) (.k (.int 2))), (.blt .len false [(.idx (.var 2) (.k (.int 0)))])]), .asg (.nm 6) (.call 4 [(.idx (.var 1) (.k (.int 3)))]), .ite (.orE (.cmp .isC (.var 3) (.k (.non))) (.orE (.cmp .isC (.var 4) (.k (.non))) (.orE (.cmp .isC (.var 5) (.k (.non))) (.cmp .isC (.var 6) (.k (.non)))))) [.ret (.k (.bl false))] [], .ite (.cmp .ne (.tupE [(.var 3), (.var 4), (.var 5)]) (.call 22 [(.var 2)])) [.ret (.k (.bl false))] [], .ret (.cmp .eq (.var 6) (.call 15 [(.call 20 [(.call 23 [(.var 2), (.var 3), (.var 4), (.var 5)])])]))]
abbrev f25 : Fn := ⟨7, 2, false, b25⟩
def b26 : List MS := [.asg (.nm 1) (.call 18 [(.var 0)]), .asg (.tp [(.nm 2), (.nm 3), (.nm 4)]) (.call 22 [(.var 1)]), .ret (.blt .tuple false [(.comp false [5] (.blt .tuple false [(.var 5)]) (.nm 5) .seq [(.call 23 [(.var 1), (.var 2), (.var 3), (.var 4)])] [])])]
abbrev f26 : Fn := ⟨6, 1, false, b26⟩
def b27 : List MS := [.asg (.nm 1) (.call 18 [(.var 0)]), .asg (.tp [(.nm 2), (.nm 3), (.nm 4)]) (.call 22 [(.var 1)]), .asg (.nm 5) (.call 15 [(.comp false [6] (.call 7 [(.var 6), (.var 2)]) (.nm 6) .seq [(.call 20 [(.var 1)])] [])]), .ite (.cmp .eq (.var 5) (.k (.tup [.int 0, .int 1]))) [.ret (.k (.non))] [], .asg (.nm 7) (.call 15 [(.call 20 [(.call 23 [(.var 1), (.var 2), (.var 3), (.var 4)])])]), .asg (.nm 8) (.lstE false [(.call 9 [(.call 15 [(.var 3)]), (.blt .len false [(.var 4)])]), (.call 9 [(.call 15 [(.var 4)]), (.blt .len false [(.var 3)])]), (.var 7)]), .ret (.blt .tuple false [(.comp false [9] (.call 8 [(.var 9), (.var 5)]) (.nm 9) .seq [(.var 8)] [])])]
abbrev f27 : Fn := ⟨10, 1, false, b27⟩
def b28 : List MS := [.ite (.cmp .isC (.var 1) (.k (.non))) [.ret (.cmp .isC (.var 0) (.k (.non)))] [], .ite (.isi [.tuple] (.var 1)) [.ite (.orE (.notE (.isi [.tuple] (.var 0))) (.cmp .ne (.blt .len false [(.var 0)]) (.blt .len false [(.var 1)]))) [.ret (.k (.bl false))] [], .forS (.nm 2) .range [(.blt .len false [(.var 1)])] [.ite (.notE (.call 28 [(.idx (.var 0) (.var 2)), (.idx (.var 1) (.var 2))])) [.ret (.k (.bl false))] []], .ret (.k (.bl true))] [], .ite (.orE (.isi [.bool] (.var 1)) (.isi [.bool] (.var 0))) [.ret (.andE (.isi [.bool] (.var 1)) (.andE (.isi [.bool] (.var 0)) (.cmp .eq (.var 0) (.var 1))))] [], .ite (.isi [.int] (.var 1)) [.ret (.andE (.isi [.int] (.var 0)) (.cmp .eq (.var 0) (.var 1)))] [], .ret (.andE (.isi [.str] (.var 1)) (.andE (.isi [.str] (.var 0)) (.cmp .eq (.var 0) (.var 1))))]
abbrev f28 : Fn := ⟨3, 2, false, b28⟩
def b29 : List MS := [.asg (.nm 1) (.lstE true []), .forS (.nm 2) .seq [(.slc false (.var 0) (.k (.non)) (.k (.int 63)))] [.ite (.cmp .ge (.var 2) (.bin .pow false (.k (.int 10)) (.k (.int 18)))) [.asg (.nm 3) (.var 2), .forS (.nm 4) .range [(.k (.int 60))] [.ite (.cmp .eq (.var 3) (.k (.int 0))) [.brk] [], .expr (.meth .append (.var 1) [(.bin .mod false (.blt .int false [(.var 3)]) (.k (.int 997)))]), .asg (.nm 3) (.bin .fdiv false (.var 3) (.k (.int 997)))]] [.forS (.nm 4) .range [(.k (.int 4))] [.asg (.nm 5) (.bin .mod false (.blt .int false [(.bin .add false (.bin .add false (.bin .mul false (.var 2) (.k (.int 48271))) (.bin .mul false (.var 4) (.k (.int 69621)))) (.k (.int 11)))]) (.k (.int 2147483647))), .expr (.meth .append (.var 1) [(.bin .mod false (.blt .int false [(.bin .add false (.bin .mul false (.var 5) (.k (.int 16807))) (.var 4))]) (.k (.int 2147483629)))])]]], .ite (.cmp .eq (.blt .len false [(.var 1)]) (.k (.int 0))) [.expr (.meth .append (.var 1) [(.k (.int 0))])] [], .ret (.var 1)]
abbrev f29 : Fn := ⟨6, 1, false, b29⟩
def b30 : List MS := [.ite (.cmp .lt (.var 1) (.blt .len false [(.var 0)])) [.ret (.bin .mod false (.blt .int false [(.idx (.var 0) (.var 1))]) (.var 2))] [], .asg (.nm 3) (.bin .mod false (.blt .int false [(.bin .add false (.bin .add false (.bin .mul false (.idx (.var 0) (.bin .mod false (.blt .int false [(.var 1)]) (.blt .len false [(.var 0)]))) (.k (.int 40692))) (.bin .mul false (.var 1) (.k (.int 7919)))) (.k (.int 3)))]) (.k (.int 2147483399))), .ret (.bin .mod false (.blt .int false [(.bin .mod false (.blt .int false [(.bin .add false (.bin .mul false (.var 3) (.k (.int 48271))) (.var 1))]) (.k (.int 2147483647)))]) (.var 2))]
abbrev f30 : Fn := ⟨4, 3, false, b30⟩
def b31 : List MS := [.store (.var 1) (.k (.int 0)) (.bin .add false (.idx (.var 1) (.k (.int 0))) (.k (.int 1))), .ret (.call 30 [(.var 0), (.bin .sub false (.idx (.var 1) (.k (.int 0))) (.k (.int 1))), (.var 2)])]
abbrev f31 : Fn := ⟨3, 3, false, b31⟩
def b32 : List MS := [.ite (.isi [.tuple] (.var 0)) [.asg (.nm 2) (.comp false [3] (.call 32 [(.var 3), (.bin .add false (.var 1) (.k (.int 1)))]) (.nm 3) .seq [(.var 0)] []), .ret (.ite (.cmp .eq (.bin .mod false (.blt .int false [(.var 1)]) (.k (.int 2))) (.k (.int 0))) (.var 2) (.blt .tuple false [(.var 2)]))] [], .ret (.var 0)]
abbrev f32 : Fn := ⟨4, 2, false, b32⟩
def b33 : List MS := [.asg (.nm 3) (.blt .list true [(.var 0)]), .store (.var 3) (.var 1) (.var 2), .ret (.blt .tuple false [(.var 3)])]
abbrev f33 : Fn := ⟨4, 3, false, b33⟩
def b34 : List MS := [.ret (.andE (.isi [.int] (.var 0)) (.notE (.isi [.bool] (.var 0))))]
abbrev f34 : Fn := ⟨1, 1, false, b34⟩
def b35 : List MS := [.asg (.nm 2) (.blt .abs false [(.var 0)]), .asg (.nm 3) (.blt .abs false [(.var 1)]), .whileS (.cmp .ne (.var 3) (.k (.int 0))) [.asg (.nm 4) (.bin .mod false (.blt .int false [(.var 2)]) (.var 3)), .asg (.nm 2) (.var 3), .asg (.nm 3) (.var 4)], .ret (.var 2)]
abbrev f35 : Fn := ⟨5, 2, false, b35⟩
def b36 : List MS := [.asg (.nm 2) (.call 35 [(.var 0), (.var 1)]), .ite (.cmp .lt (.var 1) (.k (.int 0))) [.asg (.nm 2) (.bin .sub false (.k (.int 0)) (.var 2))] [], .ret (.tupE [(.bin .fdiv false (.var 0) (.var 2)), (.bin .fdiv false (.var 1) (.var 2))])]
abbrev f36 : Fn := ⟨3, 2, false, b36⟩
def b37 : List MS := [.ret (.ite (.call 34 [(.var 0)]) (.tupE [(.var 0), (.k (.int 1))]) (.call 36 [(.idx (.var 0) (.k (.int 0))), (.idx (.var 0) (.k (.int 1)))]))]
abbrev f37 : Fn := ⟨1, 1, false, b37⟩
def b38 : List MS := [.ret (.blt .tuple false [(.comp false [1] (.call 37 [(.var 1)]) (.nm 1) .seq [(.var 0)] [])])]
abbrev f38 : Fn := ⟨2, 1, false, b38⟩
def b39 : List MS := [.ret (.call 36 [(.bin .add false (.bin .mul false (.idx (.var 0) (.k (.int 0))) (.idx (.var 1) (.k (.int 1)))) (.bin .mul false (.idx (.var 1) (.k (.int 0))) (.idx (.var 0) (.k (.int 1))))), (.bin .mul false (.idx (.var 0) (.k (.int 1))) (.idx (.var 1) (.k (.int 1))))])]
abbrev f39 : Fn := ⟨2, 2, false, b39⟩
def b40 : List MS := [.ret (.tupE [(.bin .sub false (.k (.int 0)) (.idx (.var 0) (.k (.int 0)))), (.idx (.var 0) (.k (.int 1)))])]
abbrev f40 : Fn := ⟨1, 1, false, b40⟩
def b41 : List MS := [.ret (.call 39 [(.var 0), (.call 40 [(.var 1)])])]
abbrev f41 : Fn := ⟨2, 2, false, b41⟩
def b42 : List MS := [.ret (.call 36 [(.bin .mul false (.idx (.var 0) (.k (.int 0))) (.idx (.var 1) (.k (.int 0)))), (.bin .mul false (.idx (.var 0) (.k (.int 1))) (.idx (.var 1) (.k (.int 1))))])]
abbrev f42 : Fn := ⟨2, 2, false, b42⟩
def b43 : List MS := [.ret (.call 36 [(.bin .mul false (.idx (.var 0) (.k (.int 0))) (.idx (.var 1) (.k (.int 1)))), (.bin .mul false (.idx (.var 0) (.k (.int 1))) (.idx (.var 1) (.k (.int 0))))])]
abbrev f43 : Fn := ⟨2, 2, false, b43⟩
def b44 : List MS := [.asg (.nm 1) (.tupE [(.k (.int 0)), (.k (.int 1))]), .forS (.nm 2) .seq [(.var 0)] [.asg (.nm 1) (.call 39 [(.var 1), (.var 2)])], .ret (.var 1)]
abbrev f44 : Fn := ⟨3, 1, false, b44⟩
def b45 : List MS := [.ret (.call 44 [(.comp false [2] (.call 42 [(.idx (.var 0) (.var 2)), (.idx (.var 1) (.var 2))]) (.nm 2) .range [(.blt .len false [(.var 0)])] [])])]
abbrev f45 : Fn := ⟨3, 2, false, b45⟩
def b46 : List MS := [.ite (.orE (.notE (.isi [.tuple] (.var 0))) (.cmp .ne (.blt .len false [(.var 0)]) (.k (.int 2)))) [.ret (.k (.bl false))] [], .ite (.orE (.notE (.call 34 [(.idx (.var 0) (.k (.int 0)))])) (.notE (.call 34 [(.idx (.var 0) (.k (.int 1)))]))) [.ret (.k (.bl false))] [], .ret (.andE (.cmp .gt (.idx (.var 0) (.k (.int 1))) (.k (.int 0))) (.cmp .eq (.call 35 [(.idx (.var 0) (.k (.int 0))), (.idx (.var 0) (.k (.int 1)))]) (.k (.int 1))))]
abbrev f46 : Fn := ⟨1, 1, false, b46⟩
def b47 : List MS := [.asg (.nm 3) (.bin .sub false (.call 31 [(.var 0), (.var 1), (.bin .add false (.bin .mul false (.k (.int 2)) (.var 2)) (.k (.int 1)))]) (.var 2)), .ite (.cmp .eq (.call 31 [(.var 0), (.var 1), (.k (.int 5))]) (.k (.int 0))) [.ret (.tupE [(.var 3), (.bin .add false (.k (.int 1)) (.call 31 [(.var 0), (.var 1), (.k (.int 4))]))])] [], .ret (.var 3)]
abbrev f47 : Fn := ⟨4, 3, false, b47⟩
def b48 : List MS := [.ite (.call 34 [(.var 0)]) [.ret (.k (.bl true))] [], .ite (.orE (.notE (.isi [.list, .tuple] (.var 0))) (.cmp .ne (.blt .len false [(.var 0)]) (.k (.int 2)))) [.ret (.k (.bl false))] [], .ret (.andE (.call 34 [(.idx (.var 0) (.k (.int 0)))]) (.andE (.call 34 [(.idx (.var 0) (.k (.int 1)))]) (.cmp .gt (.idx (.var 0) (.k (.int 1))) (.k (.int 0)))))]
abbrev f48 : Fn := ⟨1, 1, false, b48⟩
def b49 : List MS := [.ite (.orE (.notE (.isi [.list, .tuple] (.var 0))) (.cmp .ne (.blt .len false [(.var 0)]) (.var 1))) [.ret (.k (.non))] [], .ite (.cmp .gt (.blt .len false [(.comp false [2] (.var 2) (.nm 2) .seq [(.var 0)] [(.notE (.call 48 [(.var 2)]))])]) (.k (.int 0))) [.ret (.k (.non))] [], .ret (.call 38 [(.var 0)])]
abbrev f49 : Fn := ⟨3, 2, false, b49⟩
def b50 : List MS := [.ret (.call 42 [(.var 0), (.var 0)])]
abbrev f50 : Fn := ⟨1, 1, false, b50⟩
def b51 : List MS := [.ret (.idx (.lstE false [(.k (.non)), (.k (.int 5)), (.k (.str "ab")), (.tupE []), (.tupE [(.k (.int 1)), (.k (.int 2))]), (.tupE [(.tupE [(.k (.int 1)), (.k (.int 2))]), (.k (.int 3))]), (.tupE [(.k (.str "line")), (.k (.int 0)), (.k (.int 0))]), (.lstE false [(.lstE false []), (.lstE false [])]), (.k (.bl true)), (.tupE [(.tupE [])]), (.tupE [(.k (.str "ring")), (.tupE [])]), (.neg (.k (.int 1)))]) (.call 31 [(.var 0), (.var 1), (.k (.int 12))]))]
abbrev f51 : Fn := ⟨2, 2, false, b51⟩
def b52 : List MS := [.ite (.call 46 [(.var 2)]) [.ret (.idx (.lstE false [(.call 39 [(.var 2), (.tupE [(.k (.int 1)), (.k (.int 2))])]), (.call 41 [(.var 2), (.tupE [(.k (.int 1)), (.k (.int 3))])]), (.tupE [(.bin .mul false (.idx (.var 2) (.k (.int 0))) (.k (.int 2))), (.bin .mul false (.idx (.var 2) (.k (.int 1))) (.k (.int 2)))]), (.k (.non)), (.k (.str "x")), (.call 40 [(.var 2)])]) (.call 31 [(.var 0), (.var 1), (.k (.int 6))]))] [], .ite (.andE (.isi [.tuple] (.var 2)) (.cmp .gt (.blt .len false [(.var 2)]) (.k (.int 0)))) [.asg (.nm 3) (.call 31 [(.var 0), (.var 1), (.k (.int 8))]), .ite (.cmp .eq (.var 3) (.k (.int 0))) [.ret (.slc false (.var 2) (.k (.non)) (.neg (.k (.int 1))))] [], .ite (.cmp .eq (.var 3) (.k (.int 1))) [.ret (.bin .add false (.var 2) (.tupE [(.idx (.var 2) (.neg (.k (.int 1))))]))] [], .ite (.cmp .eq (.var 3) (.k (.int 2))) [.ret (.blt .list false [(.var 2)])] [], .asg (.nm 4) (.call 31 [(.var 0), (.var 1), (.blt .len false [(.var 2)])]), .ret (.call 33 [(.var 2), (.var 4), (.call 52 [(.var 0), (.var 1), (.idx (.var 2) (.var 4))])])] [], .ite (.call 34 [(.var 2)]) [.ret (.idx (.lstE false [(.bin .add false (.var 2) (.k (.int 1))), (.bin .sub false (.var 2) (.k (.int 1))), (.k (.non)), (.k (.str "x"))]) (.call 31 [(.var 0), (.var 1), (.k (.int 4))]))] [], .ite (.isi [.str] (.var 2)) [.ret (.idx (.lstE false [(.k (.str "heights")), (.k (.str "ring")), (.k (.str "line")), (.k (.str "bar")), (.k (.str "end")), (.k (.int 5))]) (.call 31 [(.var 0), (.var 1), (.k (.int 6))]))] [], .ret (.idx (.lstE false [(.k (.non)), (.k (.int 3)), (.k (.str "no")), (.tupE [])]) (.call 31 [(.var 0), (.var 1), (.k (.int 4))]))]
abbrev f52 : Fn := ⟨5, 3, false, b52⟩
def b53 : List MS := [.asg (.nm 1) (.blt .len false [(.var 0)]), .asg (.nm 2) (.blt .len false [(.idx (.var 0) (.k (.int 0)))]), .asg (.nm 3) (.call 43 [(.call 44 [(.comp false [4] (.call 44 [(.var 4)]) (.nm 4) .seq [(.var 0)] [])]), (.tupE [(.bin .mul false (.var 1) (.var 2)), (.k (.int 1))])]), .asg (.nm 5) (.blt .tuple false [(.comp false [4] (.call 41 [(.call 43 [(.call 44 [(.var 4)]), (.tupE [(.var 2), (.k (.int 1))])]), (.var 3)]) (.nm 4) .seq [(.var 0)] [])]), .asg (.nm 6) (.blt .tuple false [(.comp false [7] (.call 41 [(.call 43 [(.call 44 [(.comp false [4] (.idx (.var 4) (.var 7)) (.nm 4) .seq [(.var 0)] [])]), (.tupE [(.var 1), (.k (.int 1))])]), (.var 3)]) (.nm 7) .range [(.var 2)] [])]), .asg (.nm 8) (.comp false [9] (.blt .tuple false [(.comp false [7] (.call 41 [(.call 41 [(.call 41 [(.idx (.idx (.var 0) (.var 9)) (.var 7)), (.var 3)]), (.idx (.var 5) (.var 9))]), (.idx (.var 6) (.var 7))]) (.nm 7) .range [(.var 2)] [])]) (.nm 9) .range [(.var 1)] []), .asg (.nm 10) (.call 44 [(.comp false [4] (.call 45 [(.var 4), (.var 4)]) (.nm 4) .seq [(.var 8)] [])]), .ret (.tupE [(.var 3), (.var 5), (.var 6), (.var 10), (.blt .tuple false [(.var 8)])])]
abbrev f53 : Fn := ⟨11, 1, false, b53⟩
def b54 : List MS := [.asg (.nm 1) (.call 29 [(.var 0)]), .asg (.nm 2) (.lstE true [(.k (.int 0))]), .asg (.nm 3) (.bin .add false (.k (.int 1)) (.call 31 [(.var 1), (.var 2), (.k (.int 4))])), .asg (.nm 4) (.blt .tuple false [(.comp false [6] (.blt .tuple false [(.comp false [5] (.call 47 [(.var 1), (.var 2), (.k (.int 6))]) (.nm 5) .range [(.var 3)] [])]) (.nm 6) .range [(.bin .add false (.k (.int 1)) (.call 31 [(.var 1), (.var 2), (.k (.int 4))]))] [])]), .asg (.nm 7) (.comp false [8] (.call 38 [(.var 8)]) (.nm 8) .seq [(.var 4)] []), .asg (.nm 9) (.call 53 [(.var 7)]), .ite (.orE (.notE (.call 28 [(.call 24 [(.call 32 [(.var 4), (.k (.int 0))])]), (.slc false (.var 9) (.k (.non)) (.k (.int 4)))])) (.notE (.call 28 [(.call 26 [(.var 4)]), (.idx (.var 9) (.k (.int 4)))]))) [.ret (.k (.bl false))] [], .asg (.nm 10) (.idx (.var 9) (.k (.int 0))), .asg (.nm 11) (.tupE [(.k (.int 0)), (.k (.int 1))]), .forS (.nm 8) .seq [(.var 7)] [.forS (.nm 12) .seq [(.var 8)] [.asg (.nm 11) (.call 39 [(.var 11), (.call 50 [(.call 41 [(.var 12), (.var 10)])])])]], .asg (.nm 13) (.call 27 [(.var 4)]), .ite (.cmp .eq (.idx (.var 11) (.k (.int 0))) (.k (.int 0))) [.ite (.cmp .isNotC (.var 13) (.k (.non))) [.ret (.k (.bl false))] []] [.asg (.nm 14) (.tupE [(.call 42 [(.tupE [(.var 3), (.k (.int 1))]), (.call 45 [(.idx (.var 9) (.k (.int 1))), (.idx (.var 9) (.k (.int 1)))])]), (.call 42 [(.tupE [(.blt .len false [(.var 7)]), (.k (.int 1))]), (.call 45 [(.idx (.var 9) (.k (.int 2))), (.idx (.var 9) (.k (.int 2)))])]), (.idx (.var 9) (.k (.int 3)))]), .ite (.orE (.notE (.call 28 [(.var 13), (.blt .tuple false [(.comp false [12] (.call 43 [(.var 12), (.var 11)]) (.nm 12) .seq [(.var 14)] [])])])) (.cmp .ne (.call 44 [(.var 13)]) (.tupE [(.k (.int 1)), (.k (.int 1))]))) [.ret (.k (.bl false))] []], .asg (.nm 15) (.tupE [(.idx (.var 9) (.k (.int 0))), (.blt .tuple false [(.comp false [12] (.call 39 [(.var 12), (.tupE [(.k (.int 1)), (.k (.int 1))])]) (.nm 12) .seq [(.idx (.var 9) (.k (.int 1)))] [])]), (.idx (.var 9) (.k (.int 2))), (.idx (.var 9) (.k (.int 3)))]), .forS (.nm 12) .seq [(.lstE false [(.slc false (.var 9) (.k (.non)) (.k (.int 4))), (.blt .list false [(.slc false (.var 9) (.k (.non)) (.k (.int 4)))]), (.var 15), (.var 9), (.call 52 [(.var 1), (.var 2), (.slc false (.var 9) (.k (.non)) (.k (.int 4)))]), (.call 52 [(.var 1), (.var 2), (.slc false (.var 9) (.k (.non)) (.k (.int 4)))]), (.call 52 [(.var 1), (.var 2), (.slc false (.var 9) (.k (.non)) (.k (.int 4)))]), (.call 51 [(.var 1), (.var 2)])])] [.asg (.nm 16) (.k (.bl false)), .ite (.andE (.isi [.list, .tuple] (.var 12)) (.andE (.cmp .eq (.blt .len false [(.var 12)]) (.k (.int 4))) (.andE (.call 48 [(.idx (.var 12) (.k (.int 0)))]) (.call 48 [(.idx (.var 12) (.k (.int 3)))])))) [.asg (.nm 17) (.tupE [(.call 37 [(.idx (.var 12) (.k (.int 0)))]), (.call 49 [(.idx (.var 12) (.k (.int 1))), (.blt .len false [(.var 7)])]), (.call 49 [(.idx (.var 12) (.k (.int 2))), (.var 3)]), (.call 37 [(.idx (.var 12) (.k (.int 3)))])]), .asg (.nm 16) (.cmp .eq (.var 17) (.slc false (.var 9) (.k (.non)) (.k (.int 4))))] [], .ite (.notE (.call 28 [(.call 25 [(.var 4), (.var 12)]), (.var 16)])) [.ret (.k (.bl false))] []], .ret (.k (.bl true))]
abbrev f54 : Fn := ⟨18, 1, false, b54⟩
def fs : List Fn := [f0, f1, f2, f3, f4, f5, f6, f7, f8, f9, f10, f11, f12, f13, f14, f15, f16, f17, f18, f19, f20, f21, f22, f23, f24, f25, f26, f27, f28, f29, f30, f31, f32, f33, f34, f35, f36, f37, f38, f39, f40, f41, f42, f43, f44, f45, f46, f47, f48, f49, f50, f51, f52, f53, f54]
abbrev Law : Prop := ∀ ns : List Int, ns.length ≤ 63 → ∃ W st', callF fs W 200 54 [.scr (ns.map MV.int)] [] = .ok (.bl true) st'
end Lk94

/-! MiniH: sums over a common bottom, quotients, signs. -/
namespace MP
open PySem
open scoped Rat
/-! ### quotients -/
theorem div_divInt (p q : Rat) : (p.num * q.den) /. ((p.den : Int) * q.num) = p / q := by
  rw [Rat.div_def]
  have e1 : p = p.num /. (p.den : Int) := (Rat.num_divInt_den p).symm
  have e2 : q⁻¹ = (q.den : Int) /. q.num := by
    have : q = q.num /. (q.den : Int) := (Rat.num_divInt_den q).symm
    rw [this, Rat.inv_divInt, ← this]
  rw [e2]
  conv => rhs; rw [e1]
  rw [Rat.divInt_mul_divInt]
theorem num_ne {q : Rat} (h : q ≠ 0) : q.num ≠ 0 := fun e => h (Rat.num_eq_zero.mp e)
theorem Sz.div {b c : Nat} {p q : Rat} (hp : Sz b p) (hq : Sz c q) (h : q ≠ 0) : Sz (b + c) (p / q) := by
  rw [← div_divInt]
  exact Sz.divInt (Int.mul_ne_zero (Int.ne_of_gt (den_pos p)) (num_ne h)) (natAbs_mul_lt hp.1 hq.den) (natAbs_mul_lt hp.den hq.1) (Nat.le_refl _)
section
variable {C : Fns} {W : Nat} {st : Store} {f : Fn} {b c : Nat} {p q : Rat}
abbrev bDiv (fr : Nat) : List MS := [.ret (.call fr [(.bin .mul false (.idx (.var 0) (.k (.int 0))) (.idx (.var 1) (.k (.int 1)))), (.bin .mul false (.idx (.var 0) (.k (.int 1))) (.idx (.var 1) (.k (.int 0))))])]
theorem e_div {fr : Nat} (F : MkFr C fr) (hs : f.slots = 2) (hp : Sz b p) (hq : Sz c q) (h : b + c ≤ 8900) (h0 : q ≠ 0) : eSs C W (bDiv fr) (startE f [fv p, fv q]) st = .ret (fv (p / q)) st := by
  have m1 := mulOk_of hp.1 hq.den (by omega)
  have m3 := mulOk_of hp.den hq.1 (by omega)
  have hf := F (p.num * q.den) ((p.den : Int) * q.num) st (Int.mul_ne_zero (Int.ne_of_gt (den_pos p)) (num_ne h0)) (lt_up (natAbs_mul_lt hp.den hq.1) h)
  rw [div_divInt] at hf
  simp [bDiv, startE, hs, idx_fv0, idx_fv1, binM, m1, m3, hf]
def Div2 (C : Fns) (i : Nat) : Prop := ∀ (b c : Nat) (p q : Rat) (st : Store), Sz b p → Sz c q → b + c ≤ 8900 → q ≠ 0 → C i [fv p, fv q] st = .ok (fv (p / q)) st
/-! ### signs -/
abbrev bCompare : List MS := [.asg (.nm 2) (.bin .mul false (.idx (.var 0) (.k (.int 0))) (.idx (.var 1) (.k (.int 1)))), .asg (.nm 3) (.bin .mul false (.idx (.var 1) (.k (.int 0))) (.idx (.var 0) (.k (.int 1)))), .ite (.cmp .eq (.var 2) (.var 3)) [.ret (.k (.int 0))] [], .ret (.ite (.cmp .lt (.var 2) (.var 3)) (.neg (.k (.int 1))) (.k (.int 1)))]
def cmpI (p q : Rat) : Int := if p = q then 0 else if p < q then -1 else 1
theorem e_compare (hs : f.slots = 4) (hp : Sz b p) (hq : Sz c q) (h : b + c ≤ 8900) : eSs C W bCompare (startE f [fv p, fv q]) st = .ret (.int (cmpI p q)) st := by
  have m1 := mulOk_of hp.1 hq.den (by omega)
  have m2 := mulOk_of hq.1 hp.den (by omega)
  have l1 := Rat.lt_iff p q
  have l2 := rat_eq_iff p q
  unfold cmpI
  by_cases h2 : p = q
  · have g := l2.mp h2
    rw [if_pos h2]
    simp [bCompare, startE, hs, idx_fv0, idx_fv1, binM, m1, m2, cmpM, asgT, g]
  · have g : ¬ p.num * (q.den : Int) = q.num * p.den := fun hh => h2 (l2.mpr hh)
    rw [if_neg h2]
    by_cases h1 : p < q
    · have g1 := l1.mp h1
      rw [if_pos h1]
      simp [bCompare, startE, hs, idx_fv0, idx_fv1, binM, m1, m2, cmpM, asgT, g, g1]
    · have g1 : ¬ p.num * (q.den : Int) < q.num * p.den := fun hh => h1 (l1.mpr hh)
      rw [if_neg h1]
      simp [bCompare, startE, hs, idx_fv0, idx_fv1, binM, m1, m2, cmpM, asgT, g, g1]
def Cmp2 (C : Fns) (i : Nat) : Prop := ∀ (b c : Nat) (p q : Rat) (st : Store), Sz b p → Sz c q → b + c ≤ 8900 → C i [fv p, fv q] st = .ok (.int (cmpI p q)) st
abbrev bSign (k : Nat) : List MS := [.ret (.call k [(.var 0), (.tupE [(.k (.int 0)), (.k (.int 1))])])]
theorem sz_zero : Sz 1 0 := ⟨by decide, by decide⟩
theorem sz_one : Sz 1 1 := ⟨by decide, by decide⟩
theorem e_sign {k : Nat} (K : Cmp2 C k) (hs : f.slots = 1) (hp : Sz b p) (h : b + 1 ≤ 8900) : eSs C W (bSign k) (startE f [fv p]) st = .ret (.int (cmpI p 0)) st := by
  have h1 := K b 1 p 0 st hp sz_zero h
  have h2 : fv 0 = .tup [.int 0, .int 1] := rfl
  rw [h2] at h1
  simp [bSign, startE, hs, mkT, line, h1]
def Sign1 (C : Fns) (i : Nat) : Prop := ∀ (b : Nat) (p : Rat) (st : Store), Sz b p → b + 1 ≤ 8900 → C i [fv p] st = .ok (.int (cmpI p 0)) st
end
/-! ### a common bottom -/
def lcmL (l : Int) : List Rat → Int
  | [] => l
  | q :: qs => lcmL (lcmI l q.den) qs
theorem lcmI_pos {a b : Int} (ha : 0 < a) (hb : 0 < b) : 0 < lcmI a b := by
  unfold lcmI
  have : 0 < Nat.lcm a.natAbs b.natAbs := Nat.lcm_pos (by omega) (by omega)
  omega
theorem lcmI_le {a b : Int} (ha : 0 < a) (hb : 0 < b) : lcmI a b ≤ a * b := by
  unfold lcmI
  have h1 : Nat.lcm a.natAbs b.natAbs ≤ a.natAbs * b.natAbs := Nat.div_le_self _ _
  have h2 : ((a.natAbs * b.natAbs : Nat) : Int) = a * b := by
    rw [Int.natCast_mul, Int.natAbs_of_nonneg (Int.le_of_lt ha), Int.natAbs_of_nonneg (Int.le_of_lt hb)]
  omega
theorem dvd_lcmI {a b : Int} (ha : 0 < a) (hb : 0 < b) : a ∣ lcmI a b ∧ b ∣ lcmI a b := by
  unfold lcmI
  constructor
  · have := Int.natCast_dvd_natCast.mpr (Nat.dvd_lcm_left a.natAbs b.natAbs)
    rwa [Int.natAbs_of_nonneg (Int.le_of_lt ha)] at this
  · have := Int.natCast_dvd_natCast.mpr (Nat.dvd_lcm_right a.natAbs b.natAbs)
    rwa [Int.natAbs_of_nonneg (Int.le_of_lt hb)] at this
theorem lcmL_spec : ∀ (qs : List Rat) (l : Int), 0 < l → 0 < lcmL l qs ∧ l ∣ lcmL l qs ∧ ∀ q ∈ qs, (q.den : Int) ∣ lcmL l qs
  | [], l, h => ⟨h, Int.dvd_refl _, fun q h => nomatch h⟩
  | q :: qs, l, h => by
    have hd := den_pos q
    obtain ⟨h1, h2, h3⟩ := lcmL_spec qs (lcmI l q.den) (lcmI_pos h hd)
    obtain ⟨d1, d2⟩ := dvd_lcmI h hd
    refine ⟨h1, Int.dvd_trans d1 h2, fun x hx => ?_⟩
    rcases List.mem_cons.mp hx with e | hx
    · subst e; exact Int.dvd_trans d2 h2
    · exact h3 x hx
theorem lcmL_lt {b : Nat} : ∀ (qs : List Rat) (l : Int) (c : Nat), 0 < l → l.natAbs < 2 ^ c → (∀ q ∈ qs, Sz b q) → (lcmL l qs).natAbs < 2 ^ (c + b * qs.length)
  | [], l, c, _, hl, _ => by simpa [lcmL] using hl
  | q :: qs, l, c, h, hl, hq => by
    have hd := den_pos q
    have h1 : (lcmI l q.den).natAbs < 2 ^ (c + b) := by
      have := lcmI_le h hd
      have h0 := lcmI_pos h hd
      have h2 := natAbs_mul_lt hl (hq q (List.mem_cons_self ..)).den
      omega
    have := lcmL_lt qs (lcmI l q.den) (c + b) (lcmI_pos h hd) h1 fun x hx => hq x (List.mem_cons_of_mem _ hx)
    simp only [lcmL, List.length_cons]
    rw [show c + b * (qs.length + 1) = c + b + b * qs.length by rw [Nat.mul_add]; omega]
    exact this
/-- a fraction over the bottom l -/
def topOf (l : Int) (q : Rat) : Int := q.num * (l.fdiv q.den)
theorem topOf_eq {l : Int} {q : Rat} (h : (q.den : Int) ∣ l) (hl : 0 < l) : (topOf l q) /. l = q := by
  obtain ⟨k, rfl⟩ := h
  have hd := den_pos q
  have e : ((q.den : Int) * k).fdiv q.den = k := Int.mul_fdiv_cancel_left _ (Int.ne_of_gt hd)
  have hk : k ≠ 0 := by rintro rfl; simp at hl
  unfold topOf
  rw [e, Rat.divInt_mul_right hk, Rat.num_divInt_den]
theorem add_over {a b l : Int} (hl : l ≠ 0) : (a + b) /. l = a /. l + b /. l := by
  rw [Rat.divInt_add_divInt _ _ hl hl, ← Int.add_mul, Rat.divInt_mul_right hl]
theorem zero_over {l : Int} : (0 : Int) /. l = 0 := Rat.zero_divInt l
theorem sum_over {l : Int} (hl : l ≠ 0) : ∀ (ts : List Int), ts.sum /. l = (ts.map fun t => t /. l).sum
  | [] => by simp
  | t :: ts => by
    rw [List.sum_cons, List.map_cons, List.sum_cons, add_over hl, sum_over hl ts]
theorem sum_tops {l : Int} {qs : List Rat} (hl : 0 < l) (h : ∀ q ∈ qs, (q.den : Int) ∣ l) : (qs.map (topOf l)).sum /. l = qs.sum := by
  rw [sum_over (Int.ne_of_gt hl), List.map_map]
  congr 1
  induction qs with
  | nil => rfl
  | cons q qs ih =>
    rw [List.map_cons, ih fun x hx => h x (List.mem_cons_of_mem _ hx)]
    congr 1
    exact topOf_eq (h q (List.mem_cons_self ..)) hl
end MP

/-! MiniJ: totals. -/
namespace MP
open PySem
open scoped Rat
section
variable {C : Fns} {W : Nat} {st : Store} {f : Fn} {b c : Nat}
abbrev bBotIn : List MS := [.asg (.nm 1) (.blt .lcm2 false [(.var 1), (.idx (.var 2) (.k (.int 1)))])]
abbrev bBottom : List MS := [.asg (.nm 1) (.k (.int 1)), .forS (.nm 2) .seq [(.var 0)] bBotIn, .ret (.var 1)]
theorem log2_lt' {n b k : Nat} (h : n < 2 ^ b) (hb : b < k) : n.log2 < k := Nat.lt_of_le_of_lt (log2_le h) hb
theorem bot_loop {x0 : Option MV} : ∀ (qs : List Rat) (l : Int) (c : Nat) (r : Option MV), 0 < l → l.natAbs < 2 ^ c → (∀ q ∈ qs, Sz b q) → c + b * qs.length ≤ 8900 → b ≤ 8900 →
    ∃ r', forL (.nm 2) [] (bodyF C W bBotIn) (qs.map fv) [x0, some (.int l), r] st = .next [x0, some (.int (lcmL l qs)), r'] st
  | [], l, c, r, _, _, _, _, _ => ⟨r, by simp [forL, depOk, lcmL]⟩
  | q :: qs, l, c, r, h, hl, hq, hb, hb2 => by
    have hd := den_pos q
    have hqs := hq q (List.mem_cons_self ..)
    simp only [List.length_cons, Nat.mul_add, Nat.mul_one] at hb
    have h1 : (lcmI l q.den).natAbs < 2 ^ (c + b) := by
      have := lcmI_le h hd
      have h0 := lcmI_pos h hd
      have h2 := natAbs_mul_lt hl hqs.den
      omega
    obtain ⟨r', hr⟩ := bot_loop qs (lcmI l q.den) (c + b) (some (fv q)) (lcmI_pos h hd) h1 (fun x hx => hq x (List.mem_cons_of_mem _ hx)) (by omega) hb2
    refine ⟨r', ?_⟩
    have hok : lcmOk l q.den = true := by
      unfold lcmOk
      have a1 := log2_lt' hl (show c < 13500 by omega)
      have a2 := log2_lt' hqs.den (show b < 13500 by omega)
      rw [Bool.and_eq_true]
      exact ⟨decide_eq_true a1, decide_eq_true a2⟩
    have hb3 : bodyF C W bBotIn [x0, some (.int l), some (fv q)] st = .next [x0, some (.int (lcmI l q.den)), some (fv q)] st := by
      simp [bodyF, idx_fv1, bltM, hok, asgT]
    simp only [List.map_cons, forL, depOk, if_true, asgT, List.length_cons, List.length_nil, List.set_cons_zero, List.set_cons_succ, lcmL]
    simp only [show (2 : Nat) < 0 + 1 + 1 + 1 from by decide, if_true, hb3]
    exact hr
theorem items_sq {v : MV} {xs : List MV} (h : Sq v xs) : itemsM .seq [v] st = some (xs, []) := by rcases h with rfl | rfl <;> rfl
theorem e_bottom {v : MV} {qs : List Rat} (hs : f.slots = 3) (hv : Sq v (qs.map fv)) (hq : ∀ q ∈ qs, Sz b q) (hb : 1 + b * qs.length ≤ 8900) (hb2 : b ≤ 8900) : eSs C W bBottom (startE f [v]) st = .ret (.int (lcmL 1 qs)) st := by
  obtain ⟨r', hr⟩ := bot_loop (C := C) (W := W) (st := st) (x0 := some v) qs 1 1 none (by decide) (by decide) hq hb hb2
  have hst : startE f [v] = [some v, none, none] := by simp [startE, hs]
  rw [hst, bBottom, ss_asg (v := .int 1) (st1 := st) (env1 := [some v, some (.int 1), none]) (by simp) rfl,
    ss_for (vs := [v]) (st1 := st) (by simp) (items_sq hv) hr, ss_ret (v := .int (lcmL 1 qs)) (st1 := st) (by simp)]
def Bottoms (C : Fns) (i : Nat) : Prop := ∀ (b : Nat) (v : MV) (qs : List Rat) (st : Store), Sq v (qs.map fv) → (∀ q ∈ qs, Sz b q) → 1 + b * qs.length ≤ 8900 → b ≤ 8900 → C i [v] st = .ok (.int (lcmL 1 qs)) st
abbrev bWhole : List MS := [.ret (.bin .mul false (.idx (.var 0) (.k (.int 0))) (.bin .fdiv false (.var 1) (.idx (.var 0) (.k (.int 1)))))]
theorem fdiv_lt {l d : Int} (hl : 0 < l) (hd : 0 < d) : (l.fdiv d).natAbs ≤ l.natAbs := by
  rw [Int.fdiv_eq_ediv_of_nonneg _ (Int.le_of_lt hd)]
  have h1 := Int.ediv_le_self d (Int.le_of_lt hl)
  have h2 := Int.ediv_nonneg (Int.le_of_lt hl) (Int.le_of_lt hd)
  omega
theorem e_whole {q : Rat} {l : Int} (hs : f.slots = 2) (hq : Sz b q) (hl : 0 < l) (hc : l.natAbs < 2 ^ c) (h : b ≤ 8900) (h2 : c ≤ 8900) : eSs C W bWhole (startE f [fv q, .int l]) st = .ret (.int (topOf l q)) st := by
  have h1 : divOk l q.den = true := divOk_of (Int.ne_of_gt (den_pos q)) hq.den h
  have m1 : mulOk q.num (l.fdiv q.den) = true := mulOk_of hq.1 (Nat.lt_of_le_of_lt (fdiv_lt hl (den_pos q)) hc) (by omega)
  simp [bWhole, startE, hs, idx_fv0, idx_fv1, binM, h1, m1, topOf]
def Wholes1 (C : Fns) (i : Nat) : Prop := ∀ (b c : Nat) (q : Rat) (l : Int) (st : Store), Sz b q → 0 < l → l.natAbs < 2 ^ c → b ≤ 8900 → c ≤ 8900 → C i [fv q, .int l] st = .ok (.int (topOf l q)) st
abbrev bWholes (k w : Nat) : List MS := [.asg (.nm 1) (.call k [(.var 0)]), .ret (.tupE [(.comp false [2] (.call w [(.var 2), (.var 1)]) (.nm 2) .seq [(.var 0)] []), (.var 1)])]
theorem all2_fv : ∀ {qs : List Rat}, All2 (fun x (q : Rat) => x = fv q ∧ q ∈ qs) (qs.map fv) qs := by
  intro qs
  refine All2.of (by simp) fun i x y hx hy => ?_
  rw [List.getElem?_map, hy] at hx
  exact ⟨(Option.some.inj hx).symm, List.mem_of_getElem? hy⟩
def tops (qs : List Rat) : List MV := qs.map fun q => .int (topOf (lcmL 1 qs) q)
theorem e_wholes {k w : Nat} {v : MV} {qs : List Rat} (K : Bottoms C k) (X : Wholes1 C w) (hs : f.slots = 3) (hv : Sq v (qs.map fv)) (hq : ∀ q ∈ qs, Sz b q) (hb : 1 + b * qs.length ≤ 8900) (hb2 : b ≤ 8900) (hl : qs.length ≤ 1000) :
    eSs C W (bWholes k w) (startE f [v]) st = .ret (.tup [.lst (tops qs), .int (lcmL 1 qs)]) st := by
  have e1 := K b v qs st hv hq hb hb2
  have hp := (lcmL_spec qs 1 (by decide)).1
  have hlt := lcmL_lt qs 1 1 (by decide) (by decide) hq
  have hst : startE f [v] = [some v, none, none] := by simp [startE, hs]
  have cc := compL_all2 (turn := turnF C [2] (.call w [(.var 2), (.var 1)]) (.nm 2) [] [some v, some (.int (lcmL 1 qs)), none]) (g := fun q => MV.int (topOf (lcmL 1 qs) q)) (st := st) (fun x q hx => by
    obtain ⟨rfl, hm⟩ := hx
    have := X b (1 + b * qs.length) q (lcmL 1 qs) st (hq q hm) hp hlt hb2 hb
    simp [turnF, wipeE, asgT, this]) [] all2_fv (by simp [line]; omega)
  have ce := v_comp_of (mu := false) (st1 := st) (st := st) (env := [some v, some (.int (lcmL 1 qs)), none]) (src := [.var 0]) (vs := [v]) (by simp) (items_sq hv) cc (by simp [line]; omega)
  rw [hst, bWholes, ss_asg (v := .int (lcmL 1 qs)) (st1 := st) (env1 := [some v, some (.int (lcmL 1 qs)), none]) (by simp [e1]) rfl]
  refine ss_ret ?_
  rw [v_tup, vs_cons, ce]
  simp [mkT, line, tops]
def Wholes2 (C : Fns) (i : Nat) : Prop := ∀ (b : Nat) (v : MV) (qs : List Rat) (st : Store), Sq v (qs.map fv) → (∀ q ∈ qs, Sz b q) → 1 + b * qs.length ≤ 8900 → b ≤ 8900 → qs.length ≤ 1000 → C i [v] st = .ok (.tup [.lst (tops qs), .int (lcmL 1 qs)]) st
theorem intsOf_map : ∀ ts : List Int, intsOf (ts.map MV.int) = some ts
  | [] => rfl
  | t :: ts => by simp only [List.map_cons, intsOf, intsOf_map ts]
theorem tops_ints (qs : List Rat) : tops qs = (qs.map (topOf (lcmL 1 qs))).map MV.int := by simp [tops]
abbrev bTotal (w fr : Nat) : List MS := [.asg (.tp [(.nm 1), (.nm 2)]) (.call w [(.var 0)]), .ret (.call fr [(.blt .sum false [(.var 1)]), (.var 2)])]
theorem e_total {w fr : Nat} {v : MV} {qs : List Rat} (K : Wholes2 C w) (F : MkFr C fr) (hs : f.slots = 3) (hv : Sq v (qs.map fv)) (hq : ∀ q ∈ qs, Sz b q) (hb : 1 + b * qs.length ≤ 8900) (hb2 : b ≤ 8900) (hl : qs.length ≤ 1000) :
    eSs C W (bTotal w fr) (startE f [v]) st = .ret (fv qs.sum) st := by
  have e1 := K b v qs st hv hq hb hb2 hl
  have hp := (lcmL_spec qs 1 (by decide)).1
  have hlt := lcmL_lt qs 1 1 (by decide) (by decide) hq
  have e2 := F (qs.map (topOf (lcmL 1 qs))).sum (lcmL 1 qs) st (Int.ne_of_gt hp) (lt_up hlt hb)
  rw [sum_tops hp (lcmL_spec qs 1 (by decide)).2.2] at e2
  have hst : startE f [v] = [some v, none, none] := by simp [startE, hs]
  rw [hst, bTotal, ss_asg (v := .tup [.lst (tops qs), .int (lcmL 1 qs)]) (st1 := st) (env1 := [some v, some (.lst (tops qs)), some (.int (lcmL 1 qs))]) (by simp [e1]) rfl]
  refine ss_ret ?_
  have e3 : bltM .sum false [.lst (tops qs)] st = .ok (.int (qs.map (topOf (lcmL 1 qs))).sum) st := by
    simp only [bltM, lc, tops_ints, intsOf_map]
  simp [e3, e2]
def Totals (C : Fns) (i : Nat) : Prop := ∀ (b : Nat) (v : MV) (qs : List Rat) (st : Store), Sq v (qs.map fv) → (∀ q ∈ qs, Sz b q) → 1 + b * qs.length ≤ 8900 → b ≤ 8900 → qs.length ≤ 1000 → C i [v] st = .ok (fv qs.sum) st
/-! the law's sum -/
abbrev bSumIn (p : Nat) : List MS := [.asg (.nm 1) (.call p [(.var 1), (.var 2)])]
abbrev bSum (p : Nat) : List MS := [.asg (.nm 1) (.tupE [(.k (.int 0)), (.k (.int 1))]), .forS (.nm 2) .seq [(.var 0)] (bSumIn p), .ret (.var 1)]
theorem sum_loop {p : Nat} {x0 : Option MV} (A : Bin2 C p (· + ·)) : ∀ (qs : List Rat) (a : Rat) (c : Nat) (r : Option MV), Sz c a → (∀ q ∈ qs, Sz b q) → c + qs.length * (b + 1) ≤ 8900 →
    (∃ r', forL (.nm 2) [] (bodyF C W (bSumIn p)) (qs.map fv) [x0, some (fv a), r] st = .next [x0, some (fv (a + qs.sum)), r'] st) ∧ Sz (c + qs.length * (b + 1)) (a + qs.sum)
  | [], a, c, r, ha, _, _ => ⟨⟨r, by simp [forL, depOk, Rat.add_zero]⟩, by simpa [Rat.add_zero] using ha⟩
  | q :: qs, a, c, r, ha, hq, hb => by
    have hqs := hq q (List.mem_cons_self ..)
    simp only [List.length_cons, Nat.add_mul, Nat.one_mul] at hb
    have e1 := A c b a q st ha hqs (by omega)
    obtain ⟨⟨r', hr⟩, hsz⟩ := sum_loop A qs (a + q) (c + b + 1) (some (fv q)) (ha.add hqs) (fun x hx => hq x (List.mem_cons_of_mem _ hx)) (by omega)
    have ea : a + (q :: qs).sum = a + q + qs.sum := by rw [List.sum_cons, Rat.add_assoc]
    rw [ea]
    refine ⟨⟨r', ?_⟩, ?_⟩
    · have hb3 : bodyF C W (bSumIn p) [x0, some (fv a), some (fv q)] st = .next [x0, some (fv (a + q)), some (fv q)] st := by
        simp [bodyF, e1, asgT]
      simp only [List.map_cons, forL, depOk, if_true, asgT, List.length_cons, List.length_nil, List.set_cons_zero, List.set_cons_succ]
      simp only [show (2 : Nat) < 0 + 1 + 1 + 1 from by decide, if_true, hb3]
      exact hr
    · have : c + (q :: qs).length * (b + 1) = c + b + 1 + qs.length * (b + 1) := by simp only [List.length_cons, Nat.add_mul, Nat.one_mul]; omega
      rw [this]; exact hsz
theorem e_sum {p : Nat} {v : MV} {qs : List Rat} (A : Bin2 C p (· + ·)) (hs : f.slots = 3) (hv : Sq v (qs.map fv)) (hq : ∀ q ∈ qs, Sz b q) (hb : 1 + qs.length * (b + 1) ≤ 8900) : eSs C W (bSum p) (startE f [v]) st = .ret (fv qs.sum) st ∧ Sz (1 + qs.length * (b + 1)) qs.sum := by
  obtain ⟨⟨r', hr⟩, hsz⟩ := sum_loop (W := W) (st := st) (x0 := some v) A qs 0 1 none sz_zero hq hb
  rw [Rat.zero_add] at hr hsz
  refine ⟨?_, hsz⟩
  have hst : startE f [v] = [some v, none, none] := by simp [startE, hs]
  have h0 : eE C (.tupE [(.k (.int 0)), (.k (.int 1))]) [some v, none, none] st = .ok (fv 0) st := by
    simp [mkT, line]; rfl
  rw [hst, bSum, ss_asg (v := fv 0) (st1 := st) (env1 := [some v, some (fv 0), none]) h0 rfl, ss_for (vs := [v]) (st1 := st) (by simp) (items_sq hv) hr, ss_ret (v := fv qs.sum) (st1 := st) (by simp)]
def SumsL (C : Fns) (i : Nat) : Prop := ∀ (b : Nat) (v : MV) (qs : List Rat) (st : Store), Sq v (qs.map fv) → (∀ q ∈ qs, Sz b q) → 1 + qs.length * (b + 1) ≤ 8900 → C i [v] st = .ok (fv qs.sum) st ∧ Sz (1 + qs.length * (b + 1)) qs.sum
end
end MP

/-! MiniK: weighted sums. -/
namespace MP
open PySem
open scoped Rat
theorem all2_map {α : Type} {g : α → MV} {l : List α} : All2 (fun x y => x = g y ∧ y ∈ l) (l.map g) l := by
  refine All2.of (by simp) fun i x y hx hy => ?_
  rw [List.getElem?_map, hy] at hx
  exact ⟨(Option.some.inj hx).symm, List.mem_of_getElem? hy⟩
theorem sum_sz {b : Nat} : ∀ {qs : List Rat}, (∀ q ∈ qs, Sz b q) → Sz (1 + qs.length * (b + 1)) qs.sum
  | [], _ => by simpa using sz_zero
  | q :: qs, h => by
    have h1 := (h q (List.mem_cons_self ..)).add (sum_sz (qs := qs) fun x hx => h x (List.mem_cons_of_mem _ hx))
    rw [List.sum_cons]
    exact h1.up (by simp only [List.length_cons, Nat.add_mul, Nat.one_mul]; omega)
theorem sum_pos : ∀ {qs : List Rat}, qs ≠ [] → (∀ q ∈ qs, 0 < q) → 0 < qs.sum
  | [], h, _ => absurd rfl h
  | [q], _, h => by
    have := h q (List.mem_cons_self ..)
    simpa [Rat.add_zero] using this
  | q :: r :: qs, _, h => by
    have h1 := h q (List.mem_cons_self ..)
    have h2 := sum_pos (qs := r :: qs) (by simp) fun x hx => h x (List.mem_cons_of_mem _ hx)
    rw [List.sum_cons]
    grind
theorem gn_fv {b : Nat} {q : Rat} (h : Sz b q) : Gn b (fv q) q := by
  have := Gn.tup (b := b) q.num q.den (den_pos q) h.1 h.den
  rwa [Rat.num_divInt_den] at this
theorem gn_all {b : Nat} {qs : List Rat} (h : ∀ q ∈ qs, Sz b q) : All2 (Gn b) (qs.map fv) qs := All2.imp (fun x y hxy => hxy) (by
  refine All2.of (by simp) fun i x y hx hy => ?_
  rw [List.getElem?_map, hy] at hx
  rw [← Option.some.inj hx]
  exact gn_fv (h y (List.mem_of_getElem? hy)))
theorem gn_sz {b : Nat} (hb : 1 ≤ b) {xs : List MV} {qs : List Rat} (h : All2 (Gn b) xs qs) : ∀ q ∈ qs, Sz b q := by
  intro q hq
  induction h with
  | nil => cases hq
  | cons a r ih =>
    rcases List.mem_cons.mp hq with e | hq
    · subst e; exact a.sz hb
    · exact ih hq
/-- the products, place by place -/
def prods (ps qs : List Rat) : List Rat := List.zipWith (· * ·) ps qs
theorem prods_zip (ps qs : List Rat) : prods ps qs = (ps.zip qs).map fun z => z.1 * z.2 := by
  unfold prods
  rw [List.zip, List.map_zipWith]
theorem prods_sz {b c : Nat} {ps qs : List Rat} (hp : ∀ p ∈ ps, Sz b p) (hq : ∀ q ∈ qs, Sz c q) : ∀ x ∈ prods ps qs, Sz (b + c) x := by
  intro x hx
  rw [prods_zip] at hx
  obtain ⟨z, hz, rfl⟩ := List.mem_map.mp hx
  obtain ⟨h1, h2⟩ := List.of_mem_zip (show (z.1, z.2) ∈ ps.zip qs from hz)
  exact (hp _ h1).mul (hq _ h2)
theorem prods_len {ps qs : List Rat} (h : ps.length = qs.length) : (prods ps qs).length = qs.length := by
  unfold prods
  rw [List.length_zipWith]
  omega
theorem prods_range {ps qs : List Rat} (h : ps.length = qs.length) : ((List.range ps.length).map fun k => ps.getD k 0 * qs.getD k 0) = prods ps qs := by
  apply List.ext_getElem
  · rw [List.length_map, List.length_range, prods_len h]
    exact h
  · intro i h1 h2
    rw [List.length_map, List.length_range] at h1
    simp only [List.getElem_map, List.getElem_range, prods, List.getElem_zipWith, List.getD_eq_getElem?_getD, List.getElem?_eq_getElem h1, List.getElem?_eq_getElem (show i < qs.length by omega), Option.getD_some]
theorem topOf_lt {l : Int} {q : Rat} {b c : Nat} (hl : 0 < l) (hc : l.natAbs < 2 ^ c) (hq : Sz b q) : (topOf l q).natAbs < 2 ^ (b + c) := natAbs_mul_lt hq.1 (Nat.lt_of_le_of_lt (fdiv_lt hl (den_pos q)) hc)
theorem sum_prods {l m : Int} {ps qs : List Rat} (hl : 0 < l) (hm : 0 < m) (hp : ∀ p ∈ ps, (p.den : Int) ∣ l) (hq : ∀ q ∈ qs, (q.den : Int) ∣ m) : ((ps.zip qs).map fun z => topOf l z.1 * topOf m z.2).sum /. (l * m) = (prods ps qs).sum := by
  rw [sum_over (Int.ne_of_gt (Int.mul_pos hl hm)), List.map_map, prods_zip]
  congr 1
  refine List.map_congr_left fun z hz => ?_
  obtain ⟨h1, h2⟩ := List.of_mem_zip (show (z.1, z.2) ∈ ps.zip qs from hz)
  show (topOf l z.1 * topOf m z.2) /. (l * m) = z.1 * z.2
  rw [← Rat.divInt_mul_divInt, topOf_eq (hp _ h1) hl, topOf_eq (hq _ h2) hm]
section
variable {C : Fns} {W : Nat} {st : Store} {f : Fn} {b c : Nat}
abbrev bProd (w fr : Nat) : List MS := [.asg (.tp [(.nm 2), (.nm 3)]) (.call w [(.var 0)]), .asg (.tp [(.nm 4), (.nm 5)]) (.call w [(.var 1)]), .ret (.call fr [(.blt .sum false [(.comp false [6, 7] (.bin .mul false (.var 6) (.var 7)) (.tp [(.nm 6), (.nm 7)]) .zip [(.var 2), (.var 4)] [])]), (.bin .mul false (.var 3) (.var 5))])]
theorem e_prod {w fr : Nat} {v u : MV} {ps qs : List Rat} (K : Wholes2 C w) (F : MkFr C fr) (hs : f.slots = 8) (hv : Sq v (ps.map fv)) (hu : Sq u (qs.map fv)) (hp : ∀ p ∈ ps, Sz b p) (hq : ∀ q ∈ qs, Sz c q) (hb : 1 + b * ps.length + (1 + c * qs.length) ≤ 8900) (hb2 : b ≤ 8900) (hc2 : c ≤ 8900) (hl : ps.length ≤ 1000) (hl2 : qs.length ≤ 1000) :
    eSs C W (bProd w fr) (startE f [v, u]) st = .ret (fv (prods ps qs).sum) st := by
  have e1 := K b v ps st hv hp (by omega) hb2 hl
  have e2 := K c u qs st hu hq (by omega) hc2 hl2
  obtain ⟨a1, _, a3⟩ := lcmL_spec ps 1 (by decide)
  obtain ⟨b1, _, b3⟩ := lcmL_spec qs 1 (by decide)
  have a4 := lcmL_lt ps 1 1 (by decide) (by decide) hp
  have b4 := lcmL_lt qs 1 1 (by decide) (by decide) hq
  have e3 := F ((ps.zip qs).map fun z => topOf (lcmL 1 ps) z.1 * topOf (lcmL 1 qs) z.2).sum (lcmL 1 ps * lcmL 1 qs) st (Int.ne_of_gt (Int.mul_pos a1 b1)) (lt_up (natAbs_mul_lt a4 b4) hb)
  rw [sum_prods a1 b1 a3 b3] at e3
  let L := lcmL 1 ps
  let M := lcmL 1 qs
  let env : MP.Env := [some v, some u, some (.lst (tops ps)), some (.int L), some (.lst (tops qs)), some (.int M), none, none]
  have hz : itemsM .zip [.lst (tops ps), .lst (tops qs)] st = some ((ps.zip qs).map fun z => .tup [.int (topOf L z.1), .int (topOf M z.2)], []) := by
    show some (zip2 _ _, ([] : Deps) ++ []) = _
    congr 2
    unfold zip2 tops
    rw [List.zipWith_map_left, List.zipWith_map_right, List.zip, List.map_zipWith]
  have cc := compL_all2 (turn := turnF C [6, 7] (.bin .mul false (.var 6) (.var 7)) (.tp [(.nm 6), (.nm 7)]) [] env) (g := fun z : Rat × Rat => MV.int (topOf L z.1 * topOf M z.2)) (st := st) (fun x z hx => by
    obtain ⟨rfl, hm⟩ := hx
    obtain ⟨h1, h2⟩ := List.of_mem_zip (show (z.1, z.2) ∈ ps.zip qs from hm)
    have m := mulOk_of (topOf_lt a1 a4 (hp _ h1)) (topOf_lt b1 b4 (hq _ h2)) (by omega)
    simp [turnF, env, wipeE, asgT, asgTs, binM, L, M, m]) [] (all2_map (g := fun z : Rat × Rat => .tup [.int (topOf L z.1), .int (topOf M z.2)]) (l := ps.zip qs)) (by simp [line]; omega)
  have ce := v_comp_of (mu := false) (st1 := st) (st := st) (env := env) (src := [.var 2, .var 4]) (vs := [.lst (tops ps), .lst (tops qs)]) (by simp [env]) hz cc (by simp [line]; omega)
  have hst : startE f [v, u] = [some v, some u, none, none, none, none, none, none] := by simp [startE, hs]
  rw [hst, bProd, ss_asg (v := .tup [.lst (tops ps), .int L]) (st1 := st) (env1 := [some v, some u, some (.lst (tops ps)), some (.int L), none, none, none, none]) (by simp [e1, L]) rfl,
    ss_asg (v := .tup [.lst (tops qs), .int M]) (st1 := st) (env1 := env) (by simp [e2, M]) rfl]
  refine ss_ret ?_
  have hi : (ps.zip qs).map (fun z => MV.int (topOf L z.1 * topOf M z.2)) = ((ps.zip qs).map fun z => topOf L z.1 * topOf M z.2).map MV.int := by rw [List.map_map]; rfl
  have e4 : bltM .sum false [.lst ([].reverse ++ (ps.zip qs).map (fun z => MV.int (topOf L z.1 * topOf M z.2)))] st = .ok (.int ((ps.zip qs).map fun z => topOf L z.1 * topOf M z.2).sum) st := by
    simp only [bltM, lc, List.reverse_nil, List.nil_append, hi, intsOf_map]
  have m2 : mulOk L M = true := mulOk_of a4 b4 (by omega)
  rw [v_call, vs_cons, v_blt, vs_cons, ce]
  simp only [R.bind_ok, vs_nil, e4, vs_cons, v_bin, v_var, env, List.getElem?_cons_zero, List.getElem?_cons_succ, binM, m2, if_true]
  exact e3
def Prods (C : Fns) (i : Nat) : Prop := ∀ (b c : Nat) (v u : MV) (ps qs : List Rat) (st : Store), Sq v (ps.map fv) → Sq u (qs.map fv) → (∀ p ∈ ps, Sz b p) → (∀ q ∈ qs, Sz c q) → 1 + b * ps.length + (1 + c * qs.length) ≤ 8900 → b ≤ 8900 → c ≤ 8900 → ps.length ≤ 1000 → qs.length ≤ 1000 → C i [v, u] st = .ok (fv (prods ps qs).sum) st
/-! weights asked -/
def Wt (b many : Nat) (v : MV) (hs : List Rat) : Prop := (v = .non ∧ hs = List.replicate many 1) ∨ (v ≠ .non ∧ ∃ ws, Sq v ws ∧ All2 (Gn b) ws hs ∧ ws.length = many ∧ ∀ h ∈ hs, 0 < h)
theorem Wt.len {b many : Nat} {v : MV} {hs : List Rat} (h : Wt b many v hs) : hs.length = many := by
  rcases h with ⟨_, rfl⟩ | ⟨_, ws, _, ha, hl, _⟩
  · simp
  · rw [← ha.len, hl]
theorem Wt.pos {b many : Nat} {v : MV} {hs : List Rat} (h : Wt b many v hs) : ∀ q ∈ hs, 0 < q := by
  rcases h with ⟨_, rfl⟩ | ⟨_, ws, _, ha, hl, hp⟩
  · intro q hq
    rw [List.eq_of_mem_replicate hq]
    decide
  · exact hp
theorem Wt.sz {b many : Nat} {v : MV} {hs : List Rat} (hb : 1 ≤ b) (h : Wt b many v hs) : ∀ q ∈ hs, Sz b q := by
  rcases h with ⟨_, rfl⟩ | ⟨_, ws, _, ha, hl, hp⟩
  · intro q hq
    rw [List.eq_of_mem_replicate hq]
    exact sz_one.up hb
  · exact gn_sz hb ha
abbrev bAskedW (n s : Nat) : List MS := [.ite (.cmp .isC (.var 0) (.k (.non))) [.ret (.comp false [3] (.tupE [(.k (.int 1)), (.k (.int 1))]) (.nm 3) .range [(.var 1)] [])] [], .asg (.nm 4) (.call n [(.var 0), (.var 1), (.var 2)]), .ite (.blt .any false [(.comp false [5] (.cmp .le (.call s [(.var 5)]) (.k (.int 0))) (.nm 5) .seq [(.var 4)] [])]) [.raise 0 (.var 2)] [], .ret (.var 4)]
theorem rep_range {n : Nat} : (List.range n).map (fun _ => fv 1) = (List.replicate n 1).map fv := by
  rw [List.map_const', List.map_replicate, List.length_range]
theorem rm_range {n : Nat} : All2 (fun x (k : Nat) => x = .int (k : Int) ∧ k ∈ List.range n) (rangeL 0 n) (List.range n) := by
  have : rangeL 0 n = (List.range n).map fun (k : Nat) => MV.int (k : Int) := by
    unfold rangeL
    simp
  rw [this]
  exact all2_map
theorem e_askedW {n s many : Nat} {v p : MV} {hs : List Rat} (A : AsksN C n) (S : Sign1 C s) (hs' : f.slots = 6) (h : Wt b many v hs) (hb : b + 1 ≤ 8900) (hb1 : 1 ≤ b) (hm : many ≤ 1000) : eSs C W (bAskedW n s) (startE f [v, .int many, p]) st = .ret (.lst (hs.map fv)) st := by
  have hst : startE f [v, .int many, p] = [some v, some (.int many), some p, none, none, none] := by simp [startE, hs']
  rw [hst, bAskedW]
  rcases h with ⟨rfl, rfl⟩ | ⟨hne, ws, hv, ha, hl, hp⟩
  · rw [ss_ite_t (by simp [cmpM, isM])]
    have hr := vit_range (n := (many : Int)) (st := st) (by omega) (by omega)
    rw [Int.toNat_natCast] at hr
    have cc := compL_all2 (turn := turnF C [3] (.tupE [(.k (.int 1)), (.k (.int 1))]) (.nm 3) [] [some .non, some (.int many), some p, none, none, none]) (g := fun _ : Nat => fv 1) (st := st) (fun x k hx => by
      simp [turnF, wipeE, asgT, mkT, line]
      rfl) [] (rm_range (n := many)) (by simp [line]; omega)
    have ce := v_comp_of (mu := false) (st1 := st) (st := st) (env := [some .non, some (.int many), some p, none, none, none]) (src := [.var 1]) (vs := [.int many]) (by simp) hr cc (by simp [line]; omega)
    rw [ss_ret ce, List.reverse_nil, List.nil_append, rep_range]
  · have hni : isM v .non = some false := by cases v <;> simp [isM] at hne ⊢
    subst hl
    have e1 := A b v p ws hs st (by omega) hv ha hm
    have hsz := gn_sz hb1 ha
    have cc := compL_all2 (turn := turnF C [5] (.cmp .le (.call s [(.var 5)]) (.k (.int 0))) (.nm 5) [] [some v, some (.int ws.length), some p, none, some (.lst (hs.map fv)), none]) (g := fun _ : Rat => MV.bl false) (st := st) (fun x q hx => by
      obtain ⟨rfl, hm⟩ := hx
      have e2 := S b q st (hsz q hm) (by omega)
      have e3 : cmpI q 0 = 1 := by
        have h0 := hp q hm
        unfold cmpI
        rw [if_neg (fun e => by rw [e] at h0; exact Rat.lt_irrefl h0), if_neg fun hh => by grind]
      simp [turnF, wipeE, asgT, cmpM, e2, e3]) [] (all2_fv (qs := hs)) (by have := ha.len; simp [line]; omega)
    have ce := v_comp_of (mu := false) (st1 := st) (st := st) (env := [some v, some (.int ws.length), some p, none, some (.lst (hs.map fv)), none]) (src := [.var 4]) (vs := [.lst (hs.map fv)]) (ik := .seq) (by simp) rfl cc (by have := ha.len; simp [line]; omega)
    rw [ss_ite_f (by simp [cmpM, hni]), ss_asg (v := .lst (hs.map fv)) (st1 := st) (env1 := [some v, some (.int ws.length), some p, none, some (.lst (hs.map fv)), none]) (by simp [e1]) rfl,
      ss_ite_f (by rw [v_blt, vs_cons, ce]; simp [bltM, lc, boolsOf_false, any_false]), ss_ret (v := .lst (hs.map fv)) (st1 := st) (by simp)]
def AsksW (C : Fns) (i : Nat) : Prop := ∀ (b many : Nat) (v p : MV) (hs : List Rat) (st : Store), Wt b many v hs → b + 1 ≤ 8900 → 1 ≤ b → many ≤ 1000 → C i [v, .int many, p] st = .ok (.lst (hs.map fv)) st
end
end MP

/-! MiniRd: readers at any plain value. -/
namespace MP
open PySem
open scoped Rat
/-- a plain value: its ints below 2^b, nothing shared -/
def Vk (b : Nat) : Nat → MV → Prop
  | _, .non => True
  | _, .bl _ => True
  | _, .str _ => True
  | _, .int i => i.natAbs < 2 ^ b
  | n + 1, .tup xs => xs.length ≤ 1000 ∧ ∀ x ∈ xs, Vk b n x
  | n + 1, .lst xs => xs.length ≤ 1000 ∧ ∀ x ∈ xs, Vk b n x
  | _, _ => False
theorem Vk.noRef {b : Nat} : ∀ {n : Nat} {v : MV}, Vk b n v → noRef v = true
  | 0, v, h => by cases v <;> first | rfl | exact h.elim
  | n + 1, v, h => by cases v <;> first | rfl | exact h.elim
theorem Vk.noScr {b n : Nat} {v : MV} (h : Vk b n v) : noScr v = true := by
  have := h.noRef
  cases v <;> first | rfl | cases this
def readP : List MV → Option Rat
  | [.int n, .int d] => if 1 ≤ d then some (n /. d) else none
  | _ => none
def readM : MV → Option Rat
  | .int t => some (t /. 1)
  | .tup xs => readP xs
  | .lst xs => readP xs
  | _ => none
def optF : Option Rat → MV
  | some q => fv q
  | none => .non
def seqM : MV → Option (List MV)
  | .tup xs => some xs
  | .lst xs => some xs
  | _ => none
def readsM (n : Nat) (v : MV) : Option (List Rat) := match seqM v with
  | some xs => if xs.length = n then optMap readM xs else none
  | none => none
theorem Vk.read {b : Nat} : ∀ {n : Nat} {v : MV} {q : Rat}, Vk b n v → readM v = some q → Gn b v q := by
  intro n v q h e
  have hp : ∀ (xs : List MV), (∀ x ∈ xs, ∃ m, Vk b m x) → readP xs = some q → ∃ n d, xs = [.int n, .int d] ∧ 0 < d ∧ n.natAbs < 2 ^ b ∧ d.natAbs < 2 ^ b ∧ q = n /. d := by
    intro xs hx e
    unfold readP at e
    split at e
    · rename_i n d
      split at e
      · rename_i hd
        obtain ⟨m1, h1⟩ := hx (.int n) (by simp)
        obtain ⟨m2, h2⟩ := hx (.int d) (by simp)
        refine ⟨n, d, rfl, by omega, ?_, ?_, (Option.some.inj e).symm⟩
        · cases m1 <;> exact h1
        · cases m2 <;> exact h2
      · cases e
    · cases e
  cases v with
  | int t =>
    simp only [readM, Option.some.injEq] at e
    subst e
    exact .int t (by cases n <;> exact h)
  | tup xs =>
    cases n with
    | zero => exact h.elim
    | succ n =>
      obtain ⟨a, d, rfl, h0, h1, h2, rfl⟩ := hp xs (fun x hx => ⟨n, h.2 x hx⟩) e
      exact .tup a d h0 h1 h2
  | lst xs =>
    cases n with
    | zero => exact h.elim
    | succ n =>
      obtain ⟨a, d, rfl, h0, h1, h2, rfl⟩ := hp xs (fun x hx => ⟨n, h.2 x hx⟩) e
      exact .lst a d h0 h1 h2
  | _ => cases e
section
variable {C : Fns} {W : Nat} {st : Store} {f : Fn} {b n : Nat}
theorem idx_at {v x y : MV} (hv : Sq v [x, y]) : idxM v (.int 0) st = .ok x st ∧ idxM v (.int 1) st = .ok y st := by
  obtain ⟨_, _, n3, _, _⟩ := hv.seq
  constructor <;> simp [idxM, n3, ixN]
theorem sq_int {v : MV} {xs : List MV} (hv : Sq v xs) : isIntM v = false := by rcases hv with rfl | rfl <;> rfl
theorem e_readSq {i s fr : Nat} {v : MV} {xs : List MV} (I : IsInt C i) (S : IsSeqOf C s) (F : MkFr C fr) (hs : f.slots = 1) (hb : b ≤ 8900) (hv : Sq v xs) (hx : ∀ x ∈ xs, Vk b n x) : eSs C W (bReadNum i s fr) (startE f [v]) st = .ret (optF (readP xs)) st := by
  obtain ⟨n1, n2, n3, n4, _⟩ := hv.seq
  have e1 := I v st (by rcases hv with rfl | rfl <;> rfl)
  rw [sq_int hv] at e1
  have e2 := S v 2 st n1
  rw [n2] at e2
  simp only at e2
  have short : ∀ k : Nat, xs.length = k → k ≠ 2 → eSs C W (bReadNum i s fr) (startE f [v]) st = .ret .non st := fun k hk h2 => by
    have h3 : decide ((xs.length : Int) = 2) = false := decide_eq_false (by omega)
    rw [h3] at e2
    simp [bReadNum, startE, hs, e1, e2]
  match xs, hx, short, hv, e2 with
  | [], _, short, _, _ => exact short 0 rfl (by decide)
  | [x], _, short, _, _ =>
    have : readP [x] = none := by unfold readP; split <;> first | rfl | (rename_i h; cases h)
    rw [this]
    exact short 1 rfl (by decide)
  | x :: y :: z :: l, _, short, _, _ =>
    have : readP (x :: y :: z :: l) = none := by unfold readP; split <;> first | rfl | (rename_i h; cases h)
    rw [this]
    exact short _ rfl (by simp)
  | [x, y], hx, _, hv, e2 =>
    obtain ⟨i0, i1⟩ := idx_at (st := st) hv
    have vx := hx x (by simp)
    have vy := hx y (by simp)
    have ex := I x st vx.noScr
    have ey := I y st vy.noScr
    have e2 : C s [v, .int 2] st = .ok (.bl true) st := by rw [e2]; rfl
    cases x with
    | int a =>
      cases y with
      | int d =>
        by_cases hd : 1 ≤ d
        · have h2 : d.natAbs < 2 ^ b := by cases n <;> exact vy
          have e4 := F a d st (by omega) (lt_up h2 hb)
          have e5 : ¬ d < 1 := by omega
          simp [bReadNum, startE, hs, e1, e2, i0, i1, ex, ey, isIntM, e4, cmpM, e5, readP, hd, optF]
        · have e5 : d < 1 := by omega
          simp [bReadNum, startE, hs, e1, e2, i0, i1, ex, ey, isIntM, cmpM, e5, readP, hd, optF]
      | _ => simp [bReadNum, startE, hs, e1, e2, i0, i1, ex, ey, isIntM, readP, optF]
    | _ => simp [bReadNum, startE, hs, e1, e2, i0, i1, ex, ey, isIntM, readP, optF]
theorem e_readAny {i s fr : Nat} {v : MV} (I : IsInt C i) (S : IsSeqOf C s) (F : MkFr C fr) (hs : f.slots = 1) (hb : b ≤ 8900) (hv : Vk b n v) : eSs C W (bReadNum i s fr) (startE f [v]) st = .ret (optF (readM v)) st := by
  have e1 := I v st hv.noScr
  have e2 := S v 2 st hv.noRef
  cases v with
  | int t => simp [bReadNum, startE, hs, e1, isIntM, mkT, line, readM, optF, fv_int]
  | tup xs =>
    cases n with
    | zero => exact hv.elim
    | succ n => exact e_readSq I S F hs hb (.inr rfl) hv.2
  | lst xs =>
    cases n with
    | zero => exact hv.elim
    | succ n => exact e_readSq I S F hs hb (.inl rfl) hv.2
  | ref a => exact absurd hv.noRef (by simp [noRef])
  | scr a => exact absurd hv.noRef (by simp [noRef])
  | _ => simp [bReadNum, startE, hs, e1, e2, isIntM, lenM, readM, optF]
def ReadAny (C : Fns) (r : Nat) : Prop := ∀ (b n : Nat) (v : MV) (st : Store), b ≤ 8900 → Vk b n v → C r [v] st = .ok (optF (readM v)) st
theorem isM_opt (o : Option Rat) : isM (optF o) .non = some o.isNone := by cases o <;> rfl
theorem boolsOf_map (bs : List Bool) : boolsOf (bs.map MV.bl) = some bs := by
  induction bs with
  | nil => rfl
  | cons x xs ih => simp [boolsOf, ih]
theorem optMap_some {α β : Type} {f : α → Option β} : ∀ {xs : List α} {ys : List β}, optMap f xs = some ys → All2 (fun x y => f x = some y) xs ys
  | [], ys, h => by simp [optMap] at h; subst h; exact .nil
  | x :: xs, ys, h => by
    simp only [optMap] at h
    split at h
    · cases h
    · rename_i y e
      split at h
      · cases h
      · rename_i zs e2
        simp only [Option.some.injEq] at h
        subst h
        exact .cons e (optMap_some e2)
theorem optMap_none {α β : Type} {f : α → Option β} : ∀ {xs : List α}, optMap f xs = none → (xs.map fun x => (f x).isNone).any id = true
  | [], h => by simp [optMap] at h
  | x :: xs, h => by
    simp only [optMap] at h
    split at h
    · rename_i e
      simp [e]
    · rename_i y e
      split at h
      · rename_i e2
        have := optMap_none e2
        simp only [List.map_cons, List.any_cons, this, Bool.or_true]
      · cases h
theorem optMap_any {α β : Type} {f : α → Option β} : ∀ {xs : List α} {ys : List β}, optMap f xs = some ys → (xs.map fun x => (f x).isNone).any id = false
  | [], _, _ => rfl
  | x :: xs, ys, h => by
    simp only [optMap] at h
    split at h
    · cases h
    · rename_i y e
      split at h
      · cases h
      · rename_i zs e2
        have := optMap_any e2
        simp only [List.map_cons, List.any_cons, this, e, Option.isNone_some, id_eq, Bool.or_false]
theorem optMap_opt {α : Type} {f : α → Option Rat} : ∀ {xs : List α} {ys : List Rat}, optMap f xs = some ys → (xs.map fun x => optF (f x)) = ys.map fv
  | [], ys, h => by simp [optMap] at h; subst h; rfl
  | x :: xs, ys, h => by
    simp only [optMap] at h
    split at h
    · cases h
    · rename_i y e
      split at h
      · cases h
      · rename_i zs e2
        simp only [Option.some.injEq] at h
        subst h
        simp only [List.map_cons, optMap_opt e2, e]
        rfl
theorem all2_self {α : Type} {l : List α} : All2 (fun x y => x = y ∧ y ∈ l) l l := by
  have g : ∀ (m : List α), (∀ x ∈ m, x ∈ l) → All2 (fun x y => x = y ∧ y ∈ l) m m := by
    intro m
    induction m with
    | nil => intro _; exact .nil
    | cons x xs ih => intro h; exact .cons ⟨rfl, h x (by simp)⟩ (ih fun y hy => h y (by simp [hy]))
  exact g l fun _ h => h
theorem seq_of {v : MV} {xs : List MV} (h : seqM v = some xs) : Sq v xs := by
  cases v <;> simp [seqM] at h
  · subst h; exact .inr rfl
  · subst h; exact .inl rfl
theorem Vk.items {v : MV} {xs : List MV} (hv : Vk b n v) (h : seqM v = some xs) : xs.length ≤ 1000 ∧ ∀ x ∈ xs, Vk b (n - 1) x := by
  cases v <;> simp [seqM] at h
  all_goals subst h
  all_goals cases n with
    | zero => exact hv.elim
    | succ n => exact hv
theorem e_readsAny {s r m : Nat} {v : MV} (S : IsSeqOf C s) (R : ReadAny C r) (hs : f.slots = 4) (hb : b ≤ 8900) (hv : Vk b n v) : eSs C W (bReadNums s r) (startE f [v, .int m]) st = .ret (match readsM m v with | some qs => .lst (qs.map fv) | none => .non) st := by
  have e1 := S v m st hv.noRef
  unfold readsM
  cases hq : seqM v with
  | none =>
    have hl : lenM v = none := by cases v <;> simp [seqM, lenM] at hq ⊢
    rw [hl] at e1
    simp [bReadNums, startE, hs, e1]
  | some xs =>
    have hsq := seq_of hq
    obtain ⟨hl, hx⟩ := hv.items hq
    obtain ⟨n1, n2, n3, n4, _⟩ := hsq.seq
    rw [n2] at e1
    simp only at e1 ⊢
    by_cases hm : xs.length = m
    · rw [if_pos hm]
      have h1 : decide ((xs.length : Int) = m) = true := decide_eq_true (by omega)
      rw [h1] at e1
      have e2 := compL_all2 (turn := turnF C [3] (.call r [.var 3]) (.nm 3) [] [some v, some (.int m), none, none]) (g := fun x => optF (readM x)) (P := fun x y => x = y ∧ y ∈ xs) (st := st) (fun x y hxy => by
        obtain ⟨rfl, hmem⟩ := hxy
        have := R b (n - 1) x st hb (hx x hmem)
        simp [turnF, wipeE, asgT, this]) [] (all2_self (l := xs)) (by simp [line]; omega)
      have e3 := compL_all2 (turn := turnF C [3] (.cmp .isC (.var 3) (.k .non)) (.nm 3) [] [some v, some (.int m), some (.lst (xs.map fun x => optF (readM x))), none]) (g := fun x => .bl (readM x).isNone) (P := fun z y => z = optF (readM y) ∧ y ∈ xs) (st := st) (fun z y hz => by
        obtain ⟨rfl, hmem⟩ := hz
        simp [turnF, wipeE, asgT, cmpM, isM_opt]) [] (all2_map (g := fun y => optF (readM y)) (l := xs)) (by simp [line]; omega)
      have e4 : xs.length ≤ line := by simp [line]; omega
      have e5 : boolsOf (xs.map fun x => MV.bl (readM x).isNone) = some (xs.map fun x => (readM x).isNone) := by
        have := boolsOf_map (xs.map fun x => (readM x).isNone)
        rwa [List.map_map] at this
      cases ho : optMap readM xs with
      | none =>
        have ha : ∃ x ∈ xs, readM x = none := by simpa using optMap_none ho
        simp [bReadNums, startE, hs, e1, n4, e2, mkL, e4, asgT, vit_lst, e3, bltM, lc, e5, ha]
      | some qs =>
        have ha : ¬ ∃ x ∈ xs, readM x = none := by
          have := optMap_any ho
          intro ⟨x, h1, h2⟩
          simp only [List.any_eq_false, List.mem_map, forall_exists_index, and_imp, id_eq] at this
          exact this _ x h1 rfl (by rw [h2]; rfl)
        have he := optMap_opt ho
        simp [bReadNums, startE, hs, e1, n4, e2, mkL, e4, asgT, vit_lst, e3, bltM, lc, e5, ha]
        exact he
    · rw [if_neg hm]
      have h1 : decide ((xs.length : Int) = m) = false := decide_eq_false (by omega)
      rw [h1] at e1
      simp [bReadNums, startE, hs, e1]
def ReadsAny (C : Fns) (r : Nat) : Prop := ∀ (b n m : Nat) (v : MV) (st : Store), b ≤ 8900 → Vk b n v → C r [v, .int m] st = .ok (match readsM m v with | some qs => .lst (qs.map fv) | none => .non) st
end
end MP

/-! MiniRe: the law's own readers at any plain value. -/
namespace MP
open PySem
open scoped Rat
theorem compL_flt {turn : MV → Store → R (Option MV)} {β : Type} {g : β → MV} {p : β → Bool} {P : MV → β → Prop} {st : Store} (h : ∀ x y, P x y → turn x st = .ok (if p y then some (g y) else none) st) : ∀ {items : List MV} {ys : List β} (acc : List MV), All2 P items ys → acc.length + items.length ≤ line →
    compL [] turn items acc st = .ok (acc.reverse ++ (ys.filter p).map g) st
  | _, _, acc, .nil, _ => by simp [compL, depOk]
  | _, _, acc, .cons (x := x) (y := y) (xs := xs) (ys := ys) a r, hl => by
    simp only [List.length_cons] at hl
    cases e : p y with
    | true =>
      simp only [compL, depOk, if_true, h x y a, e, R.bind_ok]
      rw [if_pos (by omega), compL_flt h (g y :: acc) r (by simp only [List.length_cons]; omega)]
      simp [e]
    | false =>
      simp only [compL, depOk, if_true, h x y a, e, R.bind_ok, Bool.false_eq_true, if_false]
      rw [compL_flt h acc r (by omega)]
      simp [e]
section
variable {C : Fns} {W : Nat} {st : Store} {f : Fn} {b n : Nat}
abbrev bIsNum (i : Nat) : List MS := [.ite (.call i [(.var 0)]) [.ret (.k (.bl true))] [], .ite (.orE (.notE (.isi [.list, .tuple] (.var 0))) (.cmp .ne (.blt .len false [(.var 0)]) (.k (.int 2)))) [.ret (.k (.bl false))] [], .ret (.andE (.call i [(.idx (.var 0) (.k (.int 0)))]) (.andE (.call i [(.idx (.var 0) (.k (.int 1)))]) (.cmp .gt (.idx (.var 0) (.k (.int 1))) (.k (.int 0)))))]
theorem len_seq {v : MV} {xs : List MV} (hv : Sq v xs) : bltM .len false [v] st = .ok (.int xs.length) st := by rcases hv with rfl | rfl <;> rfl
theorem e_isNumAny {i : Nat} {v : MV} (I : IsInt C i) (hs : f.slots = 1) (hv : Vk b n v) : eSs C W (bIsNum i) (startE f [v]) st = .ret (.bl (readM v).isSome) st := by
  have e1 := I v st hv.noScr
  cases hq : seqM v with
  | none => cases v <;> simp [seqM] at hq <;> simp [bIsNum, startE, hs, e1, isIntM, readM, isTy] <;> exact absurd hv.noRef (by simp [noRef])
  | some xs =>
    have hsq := seq_of hq
    obtain ⟨hl, hx⟩ := hv.items hq
    rw [sq_int hsq] at e1
    have hr : readM v = readP xs := by rcases hsq with rfl | rfl <;> rfl
    have e3 := len_seq (st := st) hsq
    have short : ∀ k : Nat, xs.length = k → k ≠ 2 → readP xs = none → eSs C W (bIsNum i) (startE f [v]) st = .ret (.bl (readM v).isSome) st := fun k hk h2 hp => by
      have h3 : ¬ ((xs.length : Int) = 2) := by omega
      rw [hr, hp]
      rcases hsq with rfl | rfl <;> simp [bIsNum, startE, hs, isTy, e1, e3, cmpM, h3]
    match xs, hx, short, hsq, hr, e3 with
    | [], _, short, _, _, _ => exact short 0 rfl (by decide) rfl
    | [x], _, short, _, _, _ => exact short 1 rfl (by decide) (by unfold readP; split <;> first | rfl | (rename_i h; cases h))
    | x :: y :: z :: l, _, short, _, _, _ => exact short _ rfl (by simp) (by unfold readP; split <;> first | rfl | (rename_i h; cases h))
    | [x, y], hx, _, hsq, hr, e3 =>
      obtain ⟨i0, i1⟩ := idx_at (st := st) hsq
      have vx := hx x (by simp)
      have vy := hx y (by simp)
      have ex := I x st vx.noScr
      have ey := I y st vy.noScr
      rw [hr]
      cases x with
      | int a =>
        cases y with
        | int d =>
          by_cases hd : 1 ≤ d
          · have h5 : 0 < d := by omega
            rcases hsq with rfl | rfl <;> simp [bIsNum, startE, hs, isTy, e1, e3, i0, i1, ex, ey, isIntM, cmpM, h5, readP, hd]
          · have h5 : ¬ 0 < d := by omega
            rcases hsq with rfl | rfl <;> simp [bIsNum, startE, hs, isTy, e1, e3, i0, i1, ex, ey, isIntM, cmpM, h5, readP, hd]
        | _ => rcases hsq with rfl | rfl <;> simp [bIsNum, startE, hs, isTy, e1, e3, i0, i1, ex, ey, isIntM, cmpM, readP]
      | _ => rcases hsq with rfl | rfl <;> simp [bIsNum, startE, hs, isTy, e1, e3, i0, i1, ex, ey, isIntM, cmpM, readP]
def IsNumAny (C : Fns) (r : Nat) : Prop := ∀ (b n : Nat) (v : MV) (st : Store), Vk b n v → C r [v] st = .ok (.bl (readM v).isSome) st
abbrev bNums (q r : Nat) : List MS := [.ite (.orE (.notE (.isi [.list, .tuple] (.var 0))) (.cmp .ne (.blt .len false [(.var 0)]) (.var 1))) [.ret (.k (.non))] [], .ite (.cmp .gt (.blt .len false [(.comp false [2] (.var 2) (.nm 2) .seq [(.var 0)] [(.notE (.call q [(.var 2)]))])]) (.k (.int 0))) [.ret (.k (.non))] [], .ret (.call r [(.var 0)])]
theorem e_numsAny {q r m : Nat} {v : MV} (Q : IsNumAny C q) (V : Vecs C r) (hs : f.slots = 3) (hb : b ≤ 8900) (hv : Vk b n v) : eSs C W (bNums q r) (startE f [v, .int m]) st = .ret (match readsM m v with | some qs => .tup (qs.map fv) | none => .non) st := by
  unfold readsM
  cases hq : seqM v with
  | none => cases v <;> simp [seqM] at hq <;> simp [bNums, startE, hs, isTy] <;> exact absurd hv.noRef (by simp [noRef])
  | some xs =>
    have hsq := seq_of hq
    obtain ⟨hl, hx⟩ := hv.items hq
    obtain ⟨n1, n2, n3, n4, _⟩ := hsq.seq
    have e3 := len_seq (st := st) hsq
    simp only
    by_cases hm : xs.length = m
    · rw [if_pos hm]
      have h1 : (xs.length : Int) = m := by omega
      have c := compL_flt (turn := turnF C [2] (.var 2) (.nm 2) [(.notE (.call q [(.var 2)]))] [some v, some (.int m), none]) (g := fun x => x) (p := fun x => (readM x).isNone) (P := fun x y => x = y ∧ y ∈ xs) (st := st) (fun x y hxy => by
        obtain ⟨rfl, hmem⟩ := hxy
        have := Q b (n - 1) x st (hx x hmem)
        cases hr : readM x <;> simp [turnF, wipeE, asgT, this, hr]) [] (all2_self (l := xs)) (by simp [line]; omega)
      have e4 : (xs.filter fun x => (readM x).isNone).length ≤ line := Nat.le_trans (List.length_filter_le _ _) (by simp [line]; omega)
      cases ho : optMap readM xs with
      | none =>
        have ha : ∃ x ∈ xs, readM x = none := by simpa using optMap_none ho
        have hpos : 0 < (xs.filter fun x => (readM x).isNone).length := by
          obtain ⟨x, h1, h2⟩ := ha
          exact List.length_pos_of_mem (List.mem_filter.mpr ⟨h1, by rw [h2]; rfl⟩)
        have hpos' : (0 : Int) < ((xs.filter fun x => (readM x).isNone).length : Int) := by omega
        rcases hsq with rfl | rfl <;> simp [bNums, startE, hs, isTy, e3, h1, cmpM, n4, c, mkL, e4, bltM, sqc, ha]
      | some qs =>
        have ha := optMap_any ho
        have hz : (xs.filter fun x => (readM x).isNone) = [] := by
          apply List.filter_eq_nil_iff.mpr
          intro x hx' hn
          simp only [List.any_eq_false, List.mem_map, forall_exists_index, and_imp, id_eq] at ha
          exact ha _ x hx' rfl hn
        have hA : All2 (Gn b) xs qs := by
          have := optMap_some ho
          have hlen := this.len
          exact All2.of hlen.symm fun i x y h1 h2 => by
            obtain ⟨y', h3, h4⟩ := this.get h1
            rw [h2] at h3
            cases h3
            exact (hx x (List.mem_of_getElem? h1)).read h4
        have VV := V b v xs qs st hb hsq hA hl
        rcases hsq with rfl | rfl <;> simp [bNums, startE, hs, isTy, e3, h1, cmpM, n4, c, mkL, hz, bltM, sqc, VV]
    · rw [if_neg hm]
      have h1 : ¬ ((xs.length : Int) = m) := by omega
      rcases hsq with rfl | rfl <;> simp [bNums, startE, hs, isTy, e3, h1, cmpM]
def NumsAny (C : Fns) (r : Nat) : Prop := ∀ (b n m : Nat) (v : MV) (st : Store), b ≤ 8900 → Vk b n v → C r [v, .int m] st = .ok (match readsM m v with | some qs => .tup (qs.map fv) | none => .non) st
theorem readsM_len {m : Nat} {v : MV} {qs : List Rat} (h : readsM m v = some qs) : qs.length = m := by
  unfold readsM at h
  split at h
  · split at h
    · rename_i hm
      rw [← (optMap_some h).len, hm]
    · cases h
  · cases h
theorem readsM_sz {m : Nat} {v : MV} {qs : List Rat} (hb : 1 ≤ b) (hv : Vk b n v) (h : readsM m v = some qs) : ∀ q ∈ qs, Sz b q := by
  unfold readsM at h
  split at h
  · rename_i xs hq
    obtain ⟨hl, hx⟩ := hv.items hq
    split at h
    · have hA := optMap_some h
      intro q hqm
      obtain ⟨i, hi⟩ := List.getElem?_of_mem hqm
      have hi' := (List.getElem?_eq_some_iff.mp hi).1
      have hlen := hA.len
      have hx' : i < xs.length := by omega
      obtain ⟨y', h3, h4⟩ := hA.get (List.getElem?_eq_getElem hx')
      rw [hi] at h3
      cases h3
      exact ((hx _ (List.getElem_mem hx')).read h4).sz hb
    · cases h
  · cases h
end
end MP

/-! MiniRk: loops as folds; rows of fractions in order. -/
namespace MP
open PySem
open scoped Rat
/-- a loop that is a fold: s what is kept, t what is thrown away -/
theorem forL_fold {α σ τ : Type} {tg : Tg} {deps : Deps} {body : MP.Env → Store → Fl} {m : α → MV} {E : σ → τ → MP.Env} {S : σ → Store} {g : σ → α → σ} {I : Nat → σ → Prop} (hd : ∀ i s, I i s → depOk (S s) deps = true) : ∀ (l : List α) (k : Nat) (s : σ) (t : τ),
    (∀ i s t a, l[i]? = some a → I (k + i) s → I (k + i + 1) (g s a) ∧ ∃ env1 t', asgT tg (m a) (E s t) = some env1 ∧ body env1 (S s) = .next (E (g s a) t') (S (g s a))) → I k s →
    ∃ t', forL tg deps body (l.map m) (E s t) (S s) = .next (E (l.foldl g s) t') (S (l.foldl g s)) ∧ I (k + l.length) (l.foldl g s)
  | [], k, s, t, _, hI => ⟨t, by simp [forL, hd k s hI], hI⟩
  | a :: l, k, s, t, h, hI => by
    obtain ⟨h1, env1, t1, h2, h3⟩ := h 0 s t a rfl hI
    obtain ⟨t2, h4, h5⟩ := forL_fold hd l (k + 1) (g s a) t1 (fun i s t b hb hi => by
      have := h (i + 1) s t b (by simpa using hb) (by rw [show k + (i + 1) = k + 1 + i by omega]; exact hi)
      rw [show k + (i + 1) = k + 1 + i by omega] at this
      exact this) h1
    refine ⟨t2, ?_, ?_⟩
    · simp only [List.map_cons, forL, hd k s hI, if_true, h2, h3, List.foldl_cons]
      rw [h4]
    · rw [List.foldl_cons, List.length_cons, show k + (l.length + 1) = k + 1 + l.length by omega]
      exact h5
theorem forL_nx {tg : Tg} {body : MP.Env → Store → Fl} {x : MV} {xs : List MV} {env env1 env2 : MP.Env} {st st2 : Store} (h : asgT tg x env = some env1) (hb : body env1 st = .next env2 st2) : forL tg [] body (x :: xs) env st = forL tg [] body xs env2 st2 := by
  simp [forL, depOk, h, hb]
theorem forL_rt {tg : Tg} {body : MP.Env → Store → Fl} {x v : MV} {xs : List MV} {env env1 : MP.Env} {st st2 : Store} (h : asgT tg x env = some env1) (hb : body env1 st = .ret v st2) : forL tg [] body (x :: xs) env st = .ret v st2 := by
  simp [forL, depOk, h, hb]
theorem forL_ct {tg : Tg} {body : MP.Env → Store → Fl} {x : MV} {xs : List MV} {env env1 env2 : MP.Env} {st st2 : Store} (h : asgT tg x env = some env1) (hb : body env1 st = .cont env2 st2) : forL tg [] body (x :: xs) env st = forL tg [] body xs env2 st2 := by
  simp [forL, depOk, h, hb]
theorem forL_bk {tg : Tg} {body : MP.Env → Store → Fl} {x : MV} {xs : List MV} {env env1 env2 : MP.Env} {st st2 : Store} (h : asgT tg x env = some env1) (hb : body env1 st = .brk env2 st2) : forL tg [] body (x :: xs) env st = .next env2 st2 := by
  simp [forL, depOk, h, hb]
theorem forL_z {tg : Tg} {body : MP.Env → Store → Fl} {env : MP.Env} {st : Store} : forL tg [] body [] env st = .next env st := by
  simp [forL, depOk]
theorem rangeL_succ (k : Int) (n : Nat) : rangeL k (n + 1) = .int k :: rangeL (k + 1) n := by
  simp only [rangeL, List.range_succ_eq_map, List.map_cons, List.map_map]
  congr 1
  · simp
  · refine List.map_congr_left fun i _ => ?_
    simp
    omega
/-- the order of two rows -/
def ordI : List Rat → List Rat → Int
  | [], [] => 0
  | [], _ :: _ => -1
  | _ :: _, [] => 1
  | x :: xs, y :: ys => if sideI x y = 0 then ordI xs ys else sideI x y
def tv (q : List Rat) : MV := .tup (q.map fv)
section
variable {C : Fns} {W : Nat} {st : Store} {f : Fn} {b : Nat}
abbrev bOrdIn (s : Nat) : List MS := [.asg (.nm 3) (.call s [(.idx (.var 0) (.var 2)), (.idx (.var 1) (.var 2))]), .ite (.cmp .ne (.var 3) (.k (.int 0))) [.ret (.var 3)] []]
abbrev bOrder (s : Nat) : List MS := [.forS (.nm 2) .range [(.blt .min2 false [(.blt .len false [(.var 0)]), (.blt .len false [(.var 1)])])] (bOrdIn s), .ret (.ite (.cmp .eq (.blt .len false [(.var 0)]) (.blt .len false [(.var 1)])) (.k (.int 0)) (.ite (.cmp .gt (.blt .len false [(.var 0)]) (.blt .len false [(.var 1)])) (.k (.int 1)) (.neg (.k (.int 1)))))]
theorem idx_tv {q : List Rat} {j : Nat} {x : Rat} (h : q[j]? = some x) : idxM (tv q) (.int (j : Int)) st = .ok (fv x) st := idx_tup (by rw [List.getElem?_map, h]; rfl)
/-- what is left from place k on -/
theorem ord_loop {s : Nat} {p q : List Rat} (S : Side2 C s) (hp : ∀ x ∈ p, Sz b x) (hq : ∀ x ∈ q, Sz b x) (hb : b + b ≤ 8900) : ∀ (n k : Nat) (t2 t3 : Option MV), k + n = min p.length q.length →
    (∃ u2 u3, forL (.nm 2) [] (bodyF C W (bOrdIn s)) (rangeL k n) [some (tv p), some (tv q), t2, t3] st = .next [some (tv p), some (tv q), u2, u3] st ∧ ordI (p.drop k) (q.drop k) = ordI (p.drop (k + n)) (q.drop (k + n))) ∨ 
    forL (.nm 2) [] (bodyF C W (bOrdIn s)) (rangeL k n) [some (tv p), some (tv q), t2, t3] st = .ret (.int (ordI (p.drop k) (q.drop k))) st := by
  intro n
  induction n with
  | zero => intro k t2 t3 _; exact .inl ⟨t2, t3, by simp [rangeL, forL, depOk], rfl⟩
  | succ n ih =>
    intro k t2 t3 hk
    have h1 : k < p.length := by omega
    have h2 : k < q.length := by omega
    have e1 := idx_tv (st := st) (List.getElem?_eq_getElem h1)
    have e2 := idx_tv (st := st) (List.getElem?_eq_getElem h2)
    have e3 := S b b p[k] q[k] st (hp _ (List.getElem_mem h1)) (hq _ (List.getElem_mem h2)) hb
    have d1 := List.drop_eq_getElem_cons h1
    have d2 := List.drop_eq_getElem_cons h2
    have er : rangeL (k : Int) (n + 1) = .int (k : Int) :: rangeL ((k + 1 : Nat) : Int) n := by rw [rangeL_succ]; norm_cast
    rw [er]
    by_cases hs : sideI p[k] q[k] = 0
    · have hb' : bodyF C W (bOrdIn s) [some (tv p), some (tv q), some (.int k), t3] st = .next [some (tv p), some (tv q), some (.int k), some (.int 0)] st := by
        simp [bodyF, e1, e2, e3, hs, asgT, cmpM]
      have hx := fun xs => forL_nx (tg := .nm 2) (x := .int (k : Int)) (xs := xs) (env := [some (tv p), some (tv q), t2, t3]) rfl hb'
      simp only [hx]
      have eo : ordI (p.drop k) (q.drop k) = ordI (p.drop (k + 1)) (q.drop (k + 1)) := by rw [d1, d2, ordI, if_pos hs]
      rw [eo]
      have := ih (k + 1) (some (.int k)) (some (.int 0)) (by omega)
      rw [show k + (n + 1) = k + 1 + n by omega]
      exact this
    · have hb' : bodyF C W (bOrdIn s) [some (tv p), some (tv q), some (.int k), t3] st = .ret (.int (sideI p[k] q[k])) st := by
        simp [bodyF, e1, e2, e3, hs, asgT, cmpM]
      right
      rw [forL_rt rfl hb']
      rw [d1, d2, ordI, if_neg hs]
theorem e_order {s : Nat} {p q : List Rat} (S : Side2 C s) (hs : f.slots = 4) (hp : ∀ x ∈ p, Sz b x) (hq : ∀ x ∈ q, Sz b x) (hb : b + b ≤ 8900) (hl : p.length ≤ 1000) (hl2 : q.length ≤ 1000) : eSs C W (bOrder s) (startE f [tv p, tv q]) st = .ret (.int (ordI p q)) st := by
  have hst : startE f [tv p, tv q] = [some (tv p), some (tv q), none, none] := by simp [startE, hs]
  have l1 : bltM .len false [tv p] st = .ok (.int (p.length : Int)) st := by simp [tv, bltM, sqc]
  have l2 : bltM .len false [tv q] st = .ok (.int (q.length : Int)) st := by simp [tv, bltM, sqc]
  have hm : bltM .min2 false [.int (p.length : Int), .int (q.length : Int)] st = .ok (.int ((min p.length q.length : Nat) : Int)) st := by
    simp only [bltM]
    congr 2
    omega
  have e0 : eEs C [(.blt .min2 false [(.blt .len false [(.var 0)]), (.blt .len false [(.var 1)])])] [some (tv p), some (tv q), none, none] st = .ok [.int ((min p.length q.length : Nat) : Int)] st := by
    simp [l1, l2, hm]
  have er := vit_range (n := ((min p.length q.length : Nat) : Int)) (st := st) (by omega) (by omega)
  simp only [Int.toNat_natCast] at er
  have key := ord_loop (W := W) (st := st) S hp hq hb (min p.length q.length) 0 none none (by omega)
  rw [hst]
  rcases key with ⟨t2, t3, k1, k2⟩ | k1
  · rw [bOrder, ss_for e0 er k1]
    refine ss_ret ?_
    simp only [List.drop_zero, Nat.zero_add] at k2
    rw [k2]
    rcases Nat.lt_trichotomy p.length q.length with h | h | h
    · have d1 : p.drop (min p.length q.length) = [] := List.drop_eq_nil_of_le (by omega)
      obtain ⟨y, ys, d2⟩ : ∃ y ys, q.drop (min p.length q.length) = y :: ys := ⟨_, _, List.drop_eq_getElem_cons (by omega)⟩
      simp only [v_ite, v_cmp, v_blt, vs_cons, vs_nil, v_var, v_k, v_neg, List.getElem?_cons_zero, List.getElem?_cons_succ, R.bind_ok, l1, l2, cmpM, eqM_int, toTruth_bl, d1, d2, ordI]
      have h1 : ¬ (p.length : Int) = q.length := by omega
      have h2 : ¬ (q.length : Int) < p.length := by omega
      simp [h1, h2]
    · have d1 : p.drop (min p.length q.length) = [] := List.drop_eq_nil_of_le (by omega)
      have d2 : q.drop (min p.length q.length) = [] := List.drop_eq_nil_of_le (by omega)
      rw [d1, d2]
      simp [l1, l2, cmpM, h, ordI]
    · have d1 : q.drop (min p.length q.length) = [] := List.drop_eq_nil_of_le (by omega)
      obtain ⟨y, ys, d2⟩ : ∃ y ys, p.drop (min p.length q.length) = y :: ys := ⟨_, _, List.drop_eq_getElem_cons (by omega)⟩
      simp only [v_ite, v_cmp, v_blt, vs_cons, vs_nil, v_var, v_k, v_neg, List.getElem?_cons_zero, List.getElem?_cons_succ, R.bind_ok, l1, l2, cmpM, eqM_int, toTruth_bl, d1, d2, ordI]
      have h1 : ¬ (p.length : Int) = q.length := by omega
      have h2 : (q.length : Int) < p.length := by omega
      simp [h1, h2]
  · rw [bOrder, ss_for_ret e0 er k1]
    simp
def Orders (C : Fns) (i : Nat) : Prop := ∀ (b : Nat) (p q : List Rat) (st : Store), (∀ x ∈ p, Sz b x) → (∀ x ∈ q, Sz b x) → b + b ≤ 8900 → p.length ≤ 1000 → q.length ≤ 1000 → C i [tv p, tv q] st = .ok (.int (ordI p q)) st
end
end MP

/-! MiniRl: rows of fractions sorted, each once. -/
namespace MP
open PySem
open scoped Rat
def insR (x : List Rat) : List (List Rat) → List (List Rat)
  | [] => [x]
  | y :: ys => if ordI y x < 0 then y :: insR x ys else if ordI y x = 0 then y :: ys else x :: y :: ys
def rankL (vs : List (List Rat)) : List (List Rat) := vs.foldl (fun a x => insR x a) []
theorem insR_len {x : List Rat} : ∀ {ys : List (List Rat)}, (insR x ys).length ≤ ys.length + 1
  | [] => by simp [insR]
  | y :: ys => by
    have := insR_len (x := x) (ys := ys)
    rw [insR]
    split
    · simp only [List.length_cons]; omega
    · split <;> simp
theorem mem_insR {x : List Rat} : ∀ {ys : List (List Rat)} {z : List Rat}, z ∈ insR x ys → z = x ∨ z ∈ ys
  | [], z, h => by simp [insR] at h; exact .inl h
  | y :: ys, z, h => by
    rw [insR] at h
    split at h
    · rcases List.mem_cons.mp h with rfl | h
      · exact .inr List.mem_cons_self
      · rcases mem_insR h with h | h
        · exact .inl h
        · exact .inr (List.mem_cons_of_mem _ h)
    · split at h
      · exact .inr h
      · rcases List.mem_cons.mp h with rfl | h
        · exact .inl rfl
        · exact .inr h
/-- how many stand ahead -/
def ahead (x : List Rat) (ys : List (List Rat)) : Nat := (ys.takeWhile fun y => decide (ordI y x < 0)).length
theorem ahead_le {x : List Rat} {ys : List (List Rat)} : ahead x ys ≤ ys.length := by
  unfold ahead
  exact (List.takeWhile_sublist _).length_le
theorem insR_cut {x : List Rat} : ∀ {ys : List (List Rat)}, insR x ys = if h : ahead x ys < ys.length then (if ordI (ys[ahead x ys]) x = 0 then ys else ys.take (ahead x ys) ++ [x] ++ ys.drop (ahead x ys)) else ys.take (ahead x ys) ++ [x] ++ ys.drop (ahead x ys)
  | [] => by simp [insR, ahead]
  | y :: ys => by
    have ih := insR_cut (x := x) (ys := ys)
    by_cases hy : ordI y x < 0
    · have e : ahead x (y :: ys) = ahead x ys + 1 := by simp [ahead, List.takeWhile_cons, hy]
      rw [insR, if_pos hy, ih]
      by_cases h : ahead x ys < ys.length
      · have h' : ahead x (y :: ys) < (y :: ys).length := by rw [e, List.length_cons]; omega
        rw [dif_pos h, dif_pos h']
        have eg : (y :: ys)[ahead x (y :: ys)] = ys[ahead x ys] := by simp [e]
        rw [eg, e]
        split <;> simp
      · have h' : ¬ ahead x (y :: ys) < (y :: ys).length := by rw [e, List.length_cons]; omega
        rw [dif_neg h, dif_neg h', e]
        simp
    · have e : ahead x (y :: ys) = 0 := by simp [ahead, List.takeWhile_cons, hy]
      have h' : ahead x (y :: ys) < (y :: ys).length := by rw [e]; simp
      rw [dif_pos h', insR, if_neg hy]
      simp only [e, List.getElem_cons_zero]
      split <;> simp
section
variable {C : Fns} {W : Nat} {st : Store} {f : Fn} {b : Nat}
abbrev cRk (o : Nat) : ME := .andE (.cmp .lt (.var 3) (.blt .len false [(.var 1)])) (.cmp .lt (.call o [(.idx (.var 1) (.var 3)), (.var 2)]) (.k (.int 0)))
abbrev bRkW : List MS := [.asg (.nm 3) (.bin .add false (.var 3) (.k (.int 1)))]
abbrev bRkIn (o : Nat) : List MS := [.asg (.nm 3) (.k (.int 0)), .whileS (cRk o) bRkW, .ite (.orE (.cmp .eq (.var 3) (.blt .len false [(.var 1)])) (.cmp .ne (.call o [(.idx (.var 1) (.var 3)), (.var 2)]) (.k (.int 0)))) [.asg (.nm 1) (.bin .add false (.bin .add false (.slc false (.var 1) (.k (.non)) (.var 3)) (.lstE false [(.var 2)])) (.slc false (.var 1) (.var 3) (.k (.non))))] []]
abbrev bRanked (o : Nat) : List MS := [.asg (.nm 1) (.lstE false []), .forS (.nm 2) .seq [(.var 0)] (bRkIn o), .ret (.blt .tuple false [(.var 1)])]
theorem ss_while {c : ME} {body ss : List MS} {env env1 : MP.Env} {st1 : Store} (h : whileL (condF C c) (bodyF C W body) W env st = .next env1 st1) : eSs C W (.whileS c body :: ss) env st = eSs C W ss env1 st1 := by
  rw [ss_cons, s_while, h]
theorem rk_while {o : Nat} {v0 : Option MV} {x : List Rat} {ys : List (List Rat)} (O : ∀ y ∈ ys, C o [tv y, tv x] st = .ok (.int (ordI y x)) st) : ∀ (zs : List (List Rat)) (k n : Nat), ys.drop k = zs → k ≤ ys.length → zs.length < n →
    whileL (condF C (cRk o)) (bodyF C W bRkW) n [v0, some (.lst (ys.map tv)), some (tv x), some (.int (k : Int))] st = .next [v0, some (.lst (ys.map tv)), some (tv x), some (.int ((k + (zs.takeWhile fun y => decide (ordI y x < 0)).length : Nat) : Int))] st
  | [], k, n + 1, hk, hl, hn => by
    have hkl : k = ys.length := by
      have := congrArg List.length hk
      rw [List.length_drop, List.length_nil] at this
      omega
    have hc : condF C (cRk o) [v0, some (.lst (ys.map tv)), some (tv x), some (.int (k : Int))] st = .ok false st := by
      simp [condF, bltM, sqc, cmpM, hkl]
    simp [whileL, hc]
  | z :: zs, k, n + 1, hk, hl, hn => by
    have hkl : k < ys.length := by
      have := congrArg List.length hk
      rw [List.length_drop, List.length_cons] at this
      omega
    have hz := List.drop_eq_getElem_cons hkl
    rw [hk] at hz
    obtain ⟨rfl, e2⟩ := List.cons.inj hz
    have ei : idxM (.lst (ys.map tv)) (.int (k : Int)) st = .ok (tv ys[k]) st := idx_lst (by rw [List.getElem?_map, List.getElem?_eq_getElem hkl]; rfl)
    have eo := O ys[k] (List.getElem_mem hkl)
    have hc : condF C (cRk o) [v0, some (.lst (ys.map tv)), some (tv x), some (.int (k : Int))] st = .ok (decide (ordI ys[k] x < 0)) st := by
      have h1 : (k : Int) < ys.length := by omega
      simp [condF, bltM, sqc, cmpM, h1, ei, eo]
    by_cases hs : ordI ys[k] x < 0
    · have hb : bodyF C W bRkW [v0, some (.lst (ys.map tv)), some (tv x), some (.int (k : Int))] st = .next [v0, some (.lst (ys.map tv)), some (tv x), some (.int ((k + 1 : Nat) : Int))] st := by
        simp [bodyF, binM, asgT]
      have ih := rk_while (v0 := v0) O zs (k + 1) n e2.symm (by omega) (by simp only [List.length_cons] at hn; omega)
      simp only [whileL, hc, hs, decide_true, R.fl_ok, if_true, hb]
      rw [ih, List.takeWhile_cons, decide_eq_true hs]
      simp only [if_true, List.length_cons]
      rw [show k + 1 + (List.takeWhile (fun y => decide (ordI y x < 0)) zs).length = k + ((List.takeWhile (fun y => decide (ordI y x < 0)) zs).length + 1) by omega]
    · simp [whileL, hc, hs, List.takeWhile_cons]
theorem line_1e4 : (10000 : Nat) < line := by decide
theorem cut_upto {xs : List MV} {k : Nat} (h : k ≤ xs.length) : cutM xs none (some (k : Int)) = xs.take k := by
  have h1 : sIx xs.length xs.length (some (k : Int)) = k := by rw [sIx_nat]; omega
  have h0 : sIx xs.length 0 none = 0 := rfl
  rw [cutM, h0, h1, List.drop_zero, Nat.sub_zero]
theorem rk_step {o : Nat} {v0 v3 : Option MV} {x : List Rat} {ys : List (List Rat)} (O : ∀ y ∈ ys, C o [tv y, tv x] st = .ok (.int (ordI y x)) st) (hl : ys.length ≤ 1000) (hW : 2000 ≤ W) :
    ∃ v3', bodyF C W (bRkIn o) [v0, some (.lst (ys.map tv)), some (tv x), v3] st = .next [v0, some (.lst ((insR x ys).map tv)), some (tv x), v3'] st := by
  refine ⟨some (.int (ahead x ys : Int)), ?_⟩
  have w := rk_while (W := W) (v0 := v0) O ys 0 W rfl (Nat.zero_le _) (by omega)
  rw [Nat.zero_add, show ((0 : Nat) : Int) = 0 from rfl] at w
  unfold bodyF
  rw [bRkIn, ss_asg (v := .int 0) (st1 := st) rfl (env1 := [v0, some (.lst (ys.map tv)), some (tv x), some (.int 0)]) rfl, ss_while w]
  have hle := ahead_le (x := x) (ys := ys)
  have hll := line_1e4
  have c1 : cutM (ys.map tv) none (some ((ahead x ys : Nat) : Int)) = (ys.take (ahead x ys)).map tv := by rw [cut_upto (by simpa using hle), List.map_take]
  have c2 : cutM (ys.map tv) (some ((ahead x ys : Nat) : Int)) none = (ys.drop (ahead x ys)).map tv := by rw [cut_from (by simpa using hle), List.map_drop]
  have l1 : ((ys.take (ahead x ys)).map tv).length ≤ line := by simp; omega
  have l2 : ((ys.drop (ahead x ys)).map tv).length ≤ line := by simp; omega
  have l3 : ((ys.take (ahead x ys)).map tv ++ [tv x]).length ≤ line := by simp; omega
  have l4 : ((ys.take (ahead x ys)).map tv ++ [tv x] ++ (ys.drop (ahead x ys)).map tv).length ≤ line := by simp; omega
  have l5 : [tv x].length ≤ line := by simp only [List.length_cons, List.length_nil]; omega
  have g : eE C (.bin .add false (.bin .add false (.slc false (.var 1) (.k (.non)) (.var 3)) (.lstE false [(.var 2)])) (.slc false (.var 1) (.var 3) (.k (.non)))) [v0, some (.lst (ys.map tv)), some (tv x), some (.int (ahead x ys : Int))] st = .ok (.lst ((ys.take (ahead x ys) ++ [x] ++ ys.drop (ahead x ys)).map tv)) st := by
    simp only [v_bin, v_slc, v_lst, vs_cons, vs_nil, v_var, v_k, List.getElem?_cons_zero, List.getElem?_cons_succ, R.bind_ok, R.noX_ok, slcM, optI, lc, c1, c2, mkL, l1, l2, l5, if_true, Bool.false_eq_true, if_false, binM, l3, l4]
    simp
  rw [show (List.takeWhile (fun y => decide (ordI y x < 0)) ys).length = ahead x ys from rfl]
  have hcut := insR_cut (x := x) (ys := ys)
  by_cases h : ahead x ys < ys.length
  · rw [dif_pos h] at hcut
    have ei : idxM (.lst (ys.map tv)) (.int (ahead x ys : Int)) st = .ok (tv ys[ahead x ys]) st := idx_lst (by rw [List.getElem?_map, List.getElem?_eq_getElem h]; rfl)
    have eo := O ys[ahead x ys] (List.getElem_mem h)
    have h1 : ¬ (ahead x ys : Int) = ys.length := by omega
    by_cases hz : ordI ys[ahead x ys] x = 0
    · rw [if_pos hz] at hcut
      rw [hcut]
      simp [bltM, sqc, cmpM, h1, ei, eo, hz]
    · rw [if_neg hz] at hcut
      rw [hcut]
      have t : toTruth (eE C (.orE (.cmp .eq (.var 3) (.blt .len false [(.var 1)])) (.cmp .ne (.call o [(.idx (.var 1) (.var 3)), (.var 2)]) (.k (.int 0)))) [v0, some (.lst (ys.map tv)), some (tv x), some (.int (ahead x ys : Int))] st) = .ok true st := by
        simp [bltM, sqc, cmpM, h1, ei, eo, hz]
      rw [ss_cons, s_ite, t]
      simp only [R.fl_ok, if_true]
      rw [ss_asg g (env1 := [v0, some (.lst ((ys.take (ahead x ys) ++ [x] ++ ys.drop (ahead x ys)).map tv)), some (tv x), some (.int (ahead x ys : Int))]) rfl]
      simp
  · rw [dif_neg h] at hcut
    rw [hcut]
    have h1 : (ahead x ys : Int) = ys.length := by omega
    have t : toTruth (eE C (.orE (.cmp .eq (.var 3) (.blt .len false [(.var 1)])) (.cmp .ne (.call o [(.idx (.var 1) (.var 3)), (.var 2)]) (.k (.int 0)))) [v0, some (.lst (ys.map tv)), some (tv x), some (.int (ahead x ys : Int))] st) = .ok true st := by
      simp [bltM, sqc, cmpM, h1]
    rw [ss_cons, s_ite, t]
    simp only [R.fl_ok, if_true]
    rw [ss_asg g (env1 := [v0, some (.lst ((ys.take (ahead x ys) ++ [x] ++ ys.drop (ahead x ys)).map tv)), some (tv x), some (.int (ahead x ys : Int))]) rfl]
    simp
theorem rankL_in : ∀ {vs a : List (List Rat)} {z : List Rat}, z ∈ vs.foldl (fun a x => insR x a) a → z ∈ a ∨ z ∈ vs
  | [], a, z, h => .inl h
  | v :: vs, a, z, h => by
    rw [List.foldl_cons] at h
    rcases rankL_in h with h | h
    · rcases mem_insR h with rfl | h
      · exact .inr List.mem_cons_self
      · exact .inl h
    · exact .inr (List.mem_cons_of_mem _ h)
theorem e_ranked {o : Nat} {v : MV} {vs : List (List Rat)} (O : ∀ y ∈ vs, ∀ x ∈ vs, C o [tv y, tv x] st = .ok (.int (ordI y x)) st) (hs : f.slots = 4) {deps : Deps} (hdp : depOk st deps = true) (hi : itemsM .seq [v] st = some (vs.map tv, deps)) (hl : vs.length ≤ 1000) (hW : 2000 ≤ W) : eSs C W (bRanked o) (startE f [v]) st = .ret (.tup ((rankL vs).map tv)) st := by
  have hst : startE f [v] = [some v, none, none, none] := by simp [startE, hs]
  obtain ⟨t', k1, k2⟩ := forL_fold (deps := deps) (hd := fun _ _ _ => hdp) (m := tv) (tg := .nm 2) (body := bodyF C W (bRkIn o)) (E := fun (a : List (List Rat)) (t : Option MV × Option MV) => [some v, some (.lst (a.map tv)), t.1, t.2]) (S := fun _ => st) (g := fun a x => insR x a) (I := fun i a => a.length ≤ i ∧ ∀ y ∈ a, y ∈ vs) vs 0 [] (none, none) (fun i a t x hx hI => by
    rw [Nat.zero_add] at hI ⊢
    have hxm := List.mem_of_getElem? hx
    have hil := (List.getElem?_eq_some_iff.mp hx).1
    obtain ⟨v3', hb⟩ := rk_step (W := W) (v0 := some v) (v3 := t.2) (x := x) (ys := a) (fun y hy => O y (hI.2 y hy) x hxm) (by omega) hW
    refine ⟨⟨Nat.le_trans insR_len (by omega), fun y hy => ?_⟩, [some v, some (.lst (a.map tv)), some (tv x), t.2], (some (tv x), v3'), rfl, hb⟩
    rcases mem_insR hy with rfl | hy
    · exact hxm
    · exact hI.2 y hy) ⟨Nat.le_refl _, fun y hy => absurd hy (by simp)⟩
  simp only [List.map_nil] at k1
  rw [hst, bRanked, ss_asg (v := .lst []) (st1 := st) (by simp [mkL]) (env1 := [some v, some (.lst []), none, none]) rfl, ss_for (vs := [v]) (st1 := st) (by simp) hi k1]
  refine ss_ret ?_
  have := k2.1
  have hll := line_1e4
  simp [bltM, sqc, mkT, rankL]
def Ranks (C : Fns) (i : Nat) : Prop := ∀ (b : Nat) (v : MV) (vs : List (List Rat)) (deps : Deps) (st : Store), depOk st deps = true → itemsM .seq [v] st = some (vs.map tv, deps) → (∀ v ∈ vs, v.length ≤ 1000 ∧ ∀ x ∈ v, Sz b x) → b + b ≤ 8900 → vs.length ≤ 1000 → C i [v] st = .ok (.tup ((rankL vs).map tv)) st
end
end MP

/-! MiniRm: rising lists are told by their members. -/
namespace MP
open PySem
open scoped Rat
theorem side_zero {p q : Rat} : sideI p q = 0 ↔ p = q := by
  unfold sideI
  split
  · rename_i h
    constructor
    · intro h; cases h
    · intro e; subst e; exact absurd h (by grind)
  · split
    · rename_i h; simp [h]
    · rename_i h1 h2
      constructor
      · intro h; cases h
      · intro e; exact absurd e h2
theorem side_neg {p q : Rat} : sideI p q < 0 ↔ p < q := by
  unfold sideI
  split
  · rename_i h
    constructor
    · intro h; exact absurd h (by decide)
    · intro e; exfalso; grind
  · split
    · rename_i h
      constructor
      · intro h; exact absurd h (by decide)
      · intro e; exfalso; grind
    · rename_i h1 h2
      constructor
      · intro _; grind
      · intro _; decide
def insD (x : Rat) : List Rat → List Rat
  | [] => [x]
  | y :: ys => if y < x then y :: insD x ys else if y = x then y :: ys else x :: y :: ys
def sortD (xs : List Rat) : List Rat := xs.foldl (fun a x => insD x a) []
theorem ord_one {x y : Rat} : ordI [x] [y] = sideI x y := by
  unfold ordI
  split
  · rename_i h; rw [ordI, h]
  · rfl
theorem insR_one {x : Rat} : ∀ ys : List Rat, insR [x] (ys.map fun y => [y]) = (insD x ys).map fun y => [y]
  | [] => rfl
  | y :: ys => by
    have ih := insR_one (x := x) ys
    rw [List.map_cons, insR, insD, ord_one, ih]
    simp only [side_neg, side_zero]
    split
    · rfl
    · split <;> rfl
theorem rankL_one (xs : List Rat) : rankL (xs.map fun x => [x]) = (sortD xs).map fun x => [x] := by
  have : ∀ (xs a : List Rat), (xs.map fun x => [x]).foldl (fun a x => insR x a) (a.map fun y => [y]) = (xs.foldl (fun a x => insD x a) a).map fun y => [y] := by
    intro xs
    induction xs with
    | nil => intro a; rfl
    | cons x xs ih =>
      intro a
      rw [List.map_cons, List.foldl_cons, List.foldl_cons, insR_one, ih]
  exact this xs []
theorem mem_insD {x z : Rat} : ∀ {ys : List Rat}, z ∈ insD x ys ↔ z = x ∨ z ∈ ys
  | [] => by simp [insD]
  | y :: ys => by
    have ih := mem_insD (x := x) (z := z) (ys := ys)
    rw [insD]
    split
    · rw [List.mem_cons, ih, List.mem_cons]
      constructor
      · rintro (h | h | h)
        · exact .inr (.inl h)
        · exact .inl h
        · exact .inr (.inr h)
      · rintro (h | h | h)
        · exact .inr (.inl h)
        · exact .inl h
        · exact .inr (.inr h)
    · split
      · rename_i h; subst h; simp
      · simp
theorem insD_asc {x : Rat} : ∀ {ys : List Rat}, ys.Pairwise (· < ·) → (insD x ys).Pairwise (· < ·)
  | [], _ => by simp [insD]
  | y :: ys, h => by
    obtain ⟨h1, h2⟩ := List.pairwise_cons.mp h
    rw [insD]
    split
    · rename_i hx
      refine List.pairwise_cons.mpr ⟨fun z hz => ?_, insD_asc h2⟩
      rcases mem_insD.mp hz with rfl | hz
      · exact hx
      · exact h1 z hz
    · split
      · exact h
      · refine List.pairwise_cons.mpr ⟨fun z hz => ?_, h⟩
        rcases List.mem_cons.mp hz with rfl | hz
        · grind
        · have := h1 z hz
          grind
theorem sortD_spec (xs : List Rat) : (sortD xs).Pairwise (· < ·) ∧ ∀ z, z ∈ sortD xs ↔ z ∈ xs := by
  have : ∀ (xs a : List Rat), a.Pairwise (· < ·) → (xs.foldl (fun a x => insD x a) a).Pairwise (· < ·) ∧ ∀ z, z ∈ xs.foldl (fun a x => insD x a) a ↔ z ∈ a ∨ z ∈ xs := by
    intro xs
    induction xs with
    | nil => intro a h; exact ⟨h, by simp⟩
    | cons x xs ih =>
      intro a h
      obtain ⟨h1, h2⟩ := ih (insD x a) (insD_asc h)
      refine ⟨h1, fun z => ?_⟩
      rw [List.foldl_cons, h2, mem_insD, List.mem_cons]
      constructor
      · rintro ((h | h) | h)
        · exact .inr (.inl h)
        · exact .inl h
        · exact .inr (.inr h)
      · rintro (h | h | h)
        · exact .inl (.inr h)
        · exact .inl (.inl h)
        · exact .inr h
  obtain ⟨h1, h2⟩ := this xs [] .nil
  exact ⟨h1, fun z => by rw [sortD, h2]; simp⟩
/-- rising lists of the same members -/
theorem asc_uniq : ∀ {xs ys : List Rat}, xs.Pairwise (· < ·) → ys.Pairwise (· < ·) → (∀ z, z ∈ xs ↔ z ∈ ys) → xs = ys
  | [], [], _, _, _ => rfl
  | [], y :: ys, _, _, h => absurd ((h y).mpr List.mem_cons_self) (by simp)
  | x :: xs, [], _, _, h => absurd ((h x).mp List.mem_cons_self) (by simp)
  | x :: xs, y :: ys, hx, hy, h => by
    obtain ⟨x1, x2⟩ := List.pairwise_cons.mp hx
    obtain ⟨y1, y2⟩ := List.pairwise_cons.mp hy
    have e : x = y := by
      rcases List.mem_cons.mp ((h x).mp List.mem_cons_self) with e | e
      · exact e
      · rcases List.mem_cons.mp ((h y).mpr List.mem_cons_self) with e' | e'
        · exact e'.symm
        · have := y1 x e
          have := x1 y e'
          grind
    subst e
    congr 1
    refine asc_uniq x2 y2 fun z => ?_
    constructor
    · intro hz
      rcases List.mem_cons.mp ((h z).mp (List.mem_cons_of_mem _ hz)) with rfl | h'
      · have := x1 z hz; grind
      · exact h'
    · intro hz
      rcases List.mem_cons.mp ((h z).mpr (List.mem_cons_of_mem _ hz)) with rfl | h'
      · have := y1 z hz; grind
      · exact h'
end MP

/-! MiniLw: the common functions of the laws, over any program. -/
namespace MP
open PySem
open scoped Rat
theorem line_1e6 : (1000000 : Nat) ≤ line := by decide
theorem spot_cons {z : Int} {g s : Store} (h : Spot 0 ([.int z] :: g) s) : ∃ w : Int, 0 ≤ w ∧ s = [.int w] :: g := by
  obtain ⟨w, h0, e, _⟩ := h
  exact ⟨w, h0, by rw [e]; rfl⟩
section
variable {C : Fns} {W : Nat} {c : ME} {a b ss : List MS} {env env1 : MP.Env} {st st1 st2 : Store}
theorem ite_f (h : toTruth (eE C c env st) = .ok false st1) : eSs C W (.ite c a [] :: ss) env st = eSs C W ss env st1 := by
  rw [ss_cons, s_ite, h]
  simp
theorem ite_n (h : toTruth (eE C c env st) = .ok true st1) (hb : eSs C W a env st1 = .next env1 st2) : eSs C W (.ite c a b :: ss) env st = eSs C W ss env1 st2 := by
  rw [ss_cons, s_ite, h]
  simp only [R.fl_ok, if_true, hb]
theorem ite_m (h : toTruth (eE C c env st) = .ok false st1) (hb : eSs C W b env st1 = .next env1 st2) : eSs C W (.ite c a b :: ss) env st = eSs C W ss env1 st2 := by
  rw [ss_cons, s_ite, h]
  simp only [R.fl_ok, Bool.false_eq_true, if_false, hb]
theorem ite_ret {v : MV} (h : toTruth (eE C c env st) = .ok true st1) (hb : eSs C W a env st1 = .ret v st2) : eSs C W (.ite c a b :: ss) env st = .ret v st2 := by
  rw [ss_cons, s_ite, h]
  simp only [R.fl_ok, if_true, hb]
theorem ite_e {k : Bool} (h : toTruth (eE C c env st) = .ok k st) (h1 : k = true → eSs C W a env st = .next env st2) (h2 : k = false → st2 = st) : eSs C W (.ite c a [] :: ss) env st = eSs C W ss env st2 := by
  cases k with
  | true => rw [ss_cons, s_ite, h]; simp only [R.fl_ok, if_true, h1 rfl]
  | false => rw [ite_f h, h2 rfl]
theorem app_gen {em : ME} {r k : Nat} {y : MV} (h5 : env[k]? = some (some (.ref r))) (he : eE C em env st = .ok y st1) (hm : methM .append (.ref r) [y] st1 = .ok .non st2) : eE C (.meth .append (.var k) [em]) env st = .ok .non st2 := by
  simp only [v_meth, vs_cons, vs_nil, v_var, h5, R.bind_ok, isLs_ref, if_true, he, hm]
end
/-! ### comprehensions over what is mapped -/
section
variable {α : Type} {C : Fns} {own : List Nat} {elt : ME} {tg : Tg} {ik : IK} {src ifs : List ME} {env : MP.Env} {st st1 : Store} {vs : List MV} {deps : Deps} {m g : α → MV} {l : List α}
theorem all2_mem {α : Type} {m : α → MV} : ∀ {l : List α}, All2 (fun x y => x = m y ∧ y ∈ l) (l.map m) l := by
  intro l
  exact all2_map
theorem compL_flt_d {turn : MV → Store → R (Option MV)} {p : α → Bool} (hd : depOk st deps = true) : ∀ (l : List α) (acc : List MV), (∀ x ∈ l, turn (m x) st = .ok (if p x then some (g x) else none) st) → acc.length + l.length ≤ line →
    compL deps turn (l.map m) acc st = .ok (acc.reverse ++ (l.filter p).map g) st
  | [], acc, _, _ => by simp [compL, hd]
  | x :: l, acc, h, hl => by
    have hx := h x List.mem_cons_self
    simp only [List.length_cons] at hl
    simp only [List.map_cons, compL, hd, if_true, hx, R.bind_ok]
    by_cases hp : p x = true
    · simp only [hp, if_true, List.filter_cons]
      rw [if_pos (by omega), compL_flt_d hd l (g x :: acc) (fun y hy => h y (List.mem_cons_of_mem _ hy)) (by simp only [List.length_cons]; omega)]
      simp
    · simp only [hp, if_false, List.filter_cons, Bool.false_eq_true]
      rw [compL_flt_d hd l acc (fun y hy => h y (List.mem_cons_of_mem _ hy)) (by omega)]
theorem comp_flt {p : α → Bool} (h : eEs C src env st = .ok vs st1) (hi : itemsM ik vs st1 = some (l.map m, deps)) (hd : depOk st1 deps = true) (hl : l.length ≤ 1000000) (ht : ∀ x ∈ l, turnF C own elt tg ifs env (m x) st1 = .ok (if p x then some (g x) else none) st1) :
    eE C (.comp false own elt tg ik src ifs) env st = .ok (.lst ((l.filter p).map g)) st1 := by
  have hll := line_1e6
  have cc := compL_flt_d (turn := turnF C own elt tg ifs env) (m := m) (g := g) hd l [] ht (by simp only [List.length_nil]; omega)
  rw [v_comp, h, srcX_ok]
  simp only [R.bind_ok, hi, cc, List.reverse_nil, List.nil_append, mkL]
  have hz : ((l.filter p).map g).length ≤ line := by
    have := List.length_filter_le p l
    rw [List.length_map]
    omega
  rw [if_pos hz]
  rfl
theorem comp_map (h : eEs C src env st = .ok vs st1) (hi : itemsM ik vs st1 = some (l.map m, deps)) (hd : depOk st1 deps = true) (hl : l.length ≤ 1000000) (ht : ∀ x ∈ l, turnF C own elt tg ifs env (m x) st1 = .ok (some (g x)) st1) :
    eE C (.comp false own elt tg ik src ifs) env st = .ok (.lst (l.map g)) st1 := by
  have := comp_flt (p := fun _ => true) (g := g) h hi hd hl (fun x hx => by rw [if_pos rfl]; exact ht x hx)
  rw [List.filter_eq_self.mpr fun _ _ => rfl] at this
  exact this
theorem tup_of {e : ME} {xs : List MV} (h : eE C e env st = .ok (.lst xs) st1) : eE C (.blt .tuple false [e]) env st = .ok (.tup xs) st1 := by
  rw [v_blt, vs_cons, h]
  simp only [R.bind_ok, vs_nil, bltM, sqc]
theorem len_of {e : ME} {xs : List MV} (h : eE C e env st = .ok (.lst xs) st1) : eE C (.blt .len false [e]) env st = .ok (.int xs.length) st1 := by
  rw [v_blt, vs_cons, h]
  simp only [R.bind_ok, vs_nil, bltM, sqc]
end
/-! ### calls that leave lists behind -/
theorem callF_fz {fs : List Fn} {W d i : Nat} {f : Fn} {args : List MV} {st st1 : Store} {v : MV} (hf : fs[i]? = some f) (ha : args.length = f.arity) (hs : f.arity ≤ f.slots) (hk : f.keep = false) (h : eSs (callF fs W d) W f.body (startE f args) st = .ret v st1) (hz : fz st.length st1 fzFuel v = some v) (hp : st1.take st.length = st) : callF fs W (d + 1) i args st = .ok v st := by
  simp only [callF, hf]
  rw [if_pos ⟨ha, hs⟩, h]
  simp only [hk]
  unfold MP.finish
  simp only [Bool.false_or]
  split
  · rename_i hl
    have hl' : st1.length = st.length := by simpa using hl
    rw [← hp, ← hl', List.take_length]
  · simp only [hz, hp, if_true]
/-- what is handed back is frozen first -/
theorem callF_fzv {fs : List Fn} {W d i : Nat} {f : Fn} {args : List MV} {st st1 : Store} {v w : MV} (hf : fs[i]? = some f) (ha : args.length = f.arity) (hs : f.arity ≤ f.slots) (hk : f.keep = false) (h : eSs (callF fs W d) W f.body (startE f args) st = .ret v st1) (hl : st1.length ≠ st.length) (hz : fz st.length st1 fzFuel v = some w) (hp : st1.take st.length = st) : callF fs W (d + 1) i args st = .ok w st := by
  simp only [callF, hf]
  rw [if_pos ⟨ha, hs⟩, h]
  simp only [hk]
  unfold MP.finish
  simp only [Bool.false_or]
  rw [if_neg (by simpa using hl)]
  simp only [hz, hp, if_true]
theorem fz_fv {n0 n : Nat} {st : Store} (q : Rat) : fz n0 st (n + 1) (fv q) = some (fv q) := by simp [fz, fv, optMap]
theorem fz_fvs {n0 n : Nat} {st : Store} : ∀ qs : List Rat, optMap (fz n0 st (n + 1)) (qs.map fv) = some (qs.map fv)
  | [] => rfl
  | q :: qs => by simp only [List.map_cons, optMap, fz_fv, fz_fvs qs]
theorem fz_tup {n0 : Nat} {st : Store} (qs : List Rat) : fz n0 st fzFuel (.tup (qs.map fv)) = some (.tup (qs.map fv)) := by
  show fz n0 st (18 + 1 + 1) _ = _
  rw [fz, fz_fvs]
/-! ### loosened -/
theorem Lo_tup {xs : List MV} {w : MV} (h : Lo (.tup xs) w) : ∃ ys, All2 Lo xs ys ∧ Sq w ys := by
  cases h with
  | same _ hn => exact absurd rfl (hn _)
  | tup ha hs => exact ⟨_, ha, hs⟩
theorem lo_fv {b : Nat} {q : Rat} {w : MV} (h : Sz b q) (hl : Lo (fv q) w) : Gn b w q := Drawn.lo (.inr ⟨q.num, q.den, rfl, den_pos q, h.1, h.den⟩) (gn_fv h) hl
theorem lo_fvs {b : Nat} : ∀ {qs : List Rat} {ys : List MV}, (∀ q ∈ qs, Sz b q) → All2 Lo (qs.map fv) ys → All2 (Gn b) ys qs
  | [], _, _, h => by cases h; exact .nil
  | q :: qs, _, hs, h => by
    cases h with
    | cons a r => exact .cons (lo_fv (hs q List.mem_cons_self) a) (lo_fvs (fun p hp => hs p (List.mem_cons_of_mem _ hp)) r)
theorem fv_whole (t : Int) : (.tup [.int t, .int 1] : MV) = fv (t /. 1) := (fv_int t).symm
theorem sz_whole {t : Int} {b : Nat} (h : t.natAbs < 2 ^ b) (hb : 1 ≤ b) : Sz b (t /. 1) := by
  obtain ⟨h1, h2⟩ := divInt_one t
  refine ⟨by rw [h1]; exact h, ?_⟩
  have e : (t /. 1).den = 1 := by omega
  rw [e]
  exact Nat.one_lt_two_pow (by omega)
theorem npos {a : Rat} : (0 : Int) < a.num ↔ 0 < a := by
  rw [Rat.lt_iff]
  simp
theorem nneg {a : Rat} : a.num < 0 ↔ a < 0 := by
  rw [Rat.lt_iff]
  simp
theorem nzero {a : Rat} : a.num = 0 ↔ a = 0 := Rat.num_eq_zero
section
variable {C : Fns} {W : Nat} {st : Store} {f : Fn} {b c : Nat} {p q : Rat}
abbrev bNegP : List MS := [.ret (.tupE [(.neg (.idx (.var 0) (.k (.int 0)))), (.idx (.var 0) (.k (.int 1)))])]
theorem e_negP (hs : f.slots = 1) : eSs C W bNegP (startE f [fv q]) st = .ret (fv (-q)) st := by
  have h : (-q : Rat).num = -q.num ∧ (-q : Rat).den = q.den := ⟨Rat.neg_num q, Rat.neg_den q⟩
  have e : fv (-q) = .tup [.int (-q.num), .int q.den] := by rw [fv, h.1, h.2]
  rw [e]
  simp [bNegP, startE, hs, idx_fv0, idx_fv1, mkT, line]
def Abs1 (C : Fns) (i : Nat) : Prop := ∀ (q : Rat) (st : Store), C i [fv q] st = .ok (fv q.abs) st
abbrev bAbsP : List MS := [.ret (.tupE [(.blt .abs false [(.idx (.var 0) (.k (.int 0)))]), (.idx (.var 0) (.k (.int 1)))])]
theorem abs_parts (q : Rat) : (q.abs).num = (if q.num < 0 then -q.num else q.num) ∧ (q.abs).den = q.den := by
  unfold Rat.abs
  split
  · rename_i h
    have h' := Rat.num_nonneg.mpr h
    rw [if_neg (by omega)]
    exact ⟨rfl, rfl⟩
  · rename_i h
    have h' : q.num < 0 := nneg.mpr (by grind)
    rw [if_pos h']
    exact ⟨Rat.neg_num q, Rat.neg_den q⟩
theorem e_absP (hs : f.slots = 1) : eSs C W bAbsP (startE f [fv q]) st = .ret (fv q.abs) st := by
  obtain ⟨h1, h2⟩ := abs_parts q
  have e : fv q.abs = .tup [.int (if q.num < 0 then -q.num else q.num), .int q.den] := by rw [fv, h1, h2]
  rw [e]
  simp [bAbsP, startE, hs, idx_fv0, idx_fv1, bltM, mkT, line]
abbrev bMost2 : List MS := [.ret (.cmp .le (.bin .mul false (.idx (.var 0) (.k (.int 0))) (.idx (.var 1) (.k (.int 1)))) (.bin .mul false (.idx (.var 1) (.k (.int 0))) (.idx (.var 0) (.k (.int 1)))))]
def Most2 (C : Fns) (i : Nat) : Prop := ∀ (b c : Nat) (p q : Rat) (st : Store), Sz b p → Sz c q → b + c ≤ 8900 → C i [fv p, fv q] st = .ok (.bl (decide (p ≤ q))) st
theorem e_most (hs : f.slots = 2) (hp : Sz b p) (hq : Sz c q) (h : b + c ≤ 8900) : eSs C W bMost2 (startE f [fv p, fv q]) st = .ret (.bl (decide (p ≤ q))) st := by
  have m1 := mulOk_of hp.1 hq.den (by omega)
  have m2 := mulOk_of hq.1 hp.den (by omega)
  simp [bMost2, startE, hs, idx_fv0, idx_fv1, binM, m1, m2, cmpM, Rat.le_iff]
def Asks1 (C : Fns) (i : Nat) : Prop := ∀ (b : Nat) (v p : MV) (q : Rat) (st : Store), b ≤ 8900 → Gn b v q → C i [v, p] st = .ok (fv q) st
abbrev bAsked1 (r : Nat) : List MS := [.asg (.nm 2) (.call r [(.var 0)]), .ite (.cmp .isC (.var 2) (.k (.non))) [.raise 0 (.var 1)] [], .ret (.var 2)]
theorem e_asked1 {r : Nat} {v pl : MV} (R : Reads C r) (hs : f.slots = 3) (hb : b ≤ 8900) (hg : Gn b v q) : eSs C W (bAsked1 r) (startE f [v, pl]) st = .ret (fv q) st := by
  have e := R b v q st hb hg
  have hi : isM (fv q) .non = some false := rfl
  simp [bAsked1, startE, hs, e, asgT, cmpM, hi]
def Turns (C : Fns) (i : Nat) : Prop := ∀ (qs : List Rat) (st : Store), qs.length ≤ 1000 → C i [.tup (qs.map fv)] st = .ok (.tup ((qs.map (- ·)).map fv)) st
abbrev bTurned (n : Nat) : List MS := [.ret (.blt .tuple false [(.comp false [1] (.call n [(.var 1)]) (.nm 1) .seq [(.var 0)] [])])]
theorem e_turned {n : Nat} {qs : List Rat} (N : Neg1 C n) (hs : f.slots = 2) (hl : qs.length ≤ 1000) : eSs C W (bTurned n) (startE f [.tup (qs.map fv)]) st = .ret (.tup ((qs.map (- ·)).map fv)) st := by
  have hst : startE f [.tup (qs.map fv)] = [some (.tup (qs.map fv)), none] := by simp [startE, hs]
  rw [hst, bTurned]
  refine ss_ret (tup_of ?_)
  rw [List.map_map]
  exact comp_map (m := fv) (l := qs) (vs := [.tup (qs.map fv)]) (by simp) rfl rfl (by omega) (fun x hx => by simp [turnF, wipeE, asgT, N x st])
/-! ### weights -/
abbrev bWeights (t : Nat) : List MS := [.ite (.cmp .eq (.call t [(.var 0), (.var 1), (.k (.int 2))]) (.k (.int 0))) [.ret (.k (.non))] [], .ret (.blt .tuple false [(.comp false [3] (.tupE [(.bin .add false (.k (.int 1)) (.call t [(.var 0), (.var 1), (.k (.int 5))])), (.bin .add false (.k (.int 1)) (.call t [(.var 0), (.var 1), (.k (.int 3))]))]) (.nm 3) .range [(.var 2)] [])])]
theorem weights_ok {fs : List Fn} {d i t a many : Nat} {row : MV} {st0 : Store} (hf : fs[i]? = some f) (hb : f.body = bWeights t) (hs : f.slots = 4) (har : f.arity = 3) (T : Takes (callF fs W d) t) (hr : Row row) (hsp : Spot a st0 st) (hm : many ≤ 1000) :
    ∃ v hs st', callF fs W (d + 1) i [row, .ref a, .int many] st = .ok v st' ∧ Spot a st0 st' ∧ Wt 3 many v hs := by
  have hst : startE f [row, .ref a, .int many] = [some row, some (.ref a), some (.int many), none] := by simp [startE, hs]
  obtain ⟨r1, s1, p1, p2, p3, p4⟩ := T row a 2 st0 st hr hsp (by decide)
  have t1 : eE (callF fs W d) (.cmp .eq (.call t [(.var 0), (.var 1), (.k (.int 2))]) (.k (.int 0))) [some row, some (.ref a), some (.int many), none] st = .ok (.bl (decide (r1 = 0))) s1 := by
    simp [p3, cmpM]
  by_cases hz : r1 = 0
  · refine ⟨.non, List.replicate many 1, s1, callF_st (f := f) (st1 := s1) hf (by rw [har]; rfl) (by omega) ?_ (by rw [p4.len, hsp.len]), p4, .inl ⟨rfl, rfl⟩⟩
    rw [hst, hb, bWeights, ss_cons, s_ite, t1, decide_eq_true hz]
    simp
  · have hr2 : itemsM .range [.int (many : Int)] s1 = some (rangeL 0 many, []) := by
      have := vit_range (n := (many : Int)) (st := s1) (by omega) (by omega)
      rw [Int.toNat_natCast] at this
      exact this
    let env : MP.Env := [some row, some (.ref a), some (.int many), none]
    obtain ⟨ys, s2, c1, c2, c3, c4⟩ := compL_inv (turn := turnF (callF fs W d) [3] (.tupE [(.bin .add false (.k (.int 1)) (.call t [(.var 0), (.var 1), (.k (.int 5))])), (.bin .add false (.k (.int 1)) (.call t [(.var 0), (.var 1), (.k (.int 3))]))]) (.nm 3) [] env) (P := fun s => Spot a st0 s) (Qv := fun _ y => ∃ n d : Int, y = .tup [.int n, .int d] ∧ 0 < n ∧ n < 8 ∧ 0 < d ∧ d < 8) (deps := [])
      (rangeL 0 many) [] s1 (fun _ _ => rfl) (fun x _ s hp => by
        obtain ⟨u1, z1, q1, q2, q3, q4⟩ := T row a 5 st0 s hr hp (by decide)
        obtain ⟨u2, z2, w1, w2, w3, w4⟩ := T row a 3 st0 z1 hr q4 (by decide)
        exact ⟨.tup [.int (1 + u1), .int (1 + u2)], z2, by simp [turnF, env, wipeE, asgT, binM, q3, w3, mkT, line], w4, _, _, rfl, by omega, by omega, by omega, by omega⟩) (by simp [line]; omega) p4
    rw [rangeL_len] at c3
    have hy : ys.length ≤ line := by simp only [line]; omega
    have hall : ∀ y ∈ ys, ∃ n d : Int, y = .tup [.int n, .int d] ∧ 0 < n ∧ n < 8 ∧ 0 < d ∧ d < 8 := fun y hyy => by
      obtain ⟨i, hi, e⟩ := List.getElem_of_mem hyy
      have hi2 : i < (rangeL 0 many).length := by rw [rangeL_len]; omega
      exact c4 i _ y (List.getElem?_eq_getElem hi2) (by rw [List.getElem?_eq_getElem hi, e])
    obtain ⟨hs', hhs⟩ := All2.pick (P := fun y (q : Rat) => Gn 3 y q ∧ 0 < q) (xs := ys) fun y hyy => by
      obtain ⟨n, d, rfl, g1, g2, g3, g4⟩ := hall y hyy
      refine ⟨n /. d, .tup n d g3 (by omega) (by omega), ?_⟩
      refine npos.mp ?_
      rw [num_divInt' g3]
      refine Int.ediv_pos_of_pos_of_dvd g1 (by omega) (Int.gcd_dvd_left ..)
    refine ⟨.tup ys, hs', s2, callF_st (f := f) (st1 := s2) hf (by rw [har]; rfl) (by omega) ?_ (by rw [c2.len, hsp.len]), c2, .inr ⟨by simp, ys, .inr rfl, hhs.imp fun x y hxy => hxy.1, c3, ?_⟩⟩
    · rw [hst]
      have ce := v_comp_of (mu := false) (st1 := s1) (st := s1) (env := env) (src := [.var 2]) (vs := [.int many]) (ik := .range) (by simp [env]) hr2 c1 (by simpa using hy)
      rw [decide_eq_false hz] at t1
      rw [hb, bWeights, ite_f (st1 := s1) (by rw [t1]; rfl)]
      refine ss_ret ?_
      rw [v_blt, vs_cons, ce]
      simp [bltM, sqc]
    · intro q hq
      obtain ⟨y, _, hy2⟩ : ∃ y ∈ ys, Gn 3 y q ∧ 0 < q := by
        clear c1 c3 c4 hall hy
        induction hhs with
        | nil => cases hq
        | cons a r ih =>
          rcases List.mem_cons.mp hq with e | hq
          · subst e; exact ⟨_, List.mem_cons_self .., a⟩
          · obtain ⟨y, h1, h2⟩ := ih hq
            exact ⟨y, List.mem_cons_of_mem _ h1, h2⟩
      exact hy2.2
abbrev bLoads (r : Nat) : List MS := [.ret (.ite (.cmp .isC (.var 0) (.k (.non))) (.blt .tuple false [(.comp false [2] (.tupE [(.k (.int 1)), (.k (.int 1))]) (.nm 2) .range [(.var 1)] [])]) (.call r [(.var 0)]))]
theorem e_loads {r : Nat} (V : Vecs C r) (hs' : f.slots = 3) {b many : Nat} {v : MV} {hs : List Rat} {st : Store} (hw : Wt b many v hs) (hb : b ≤ 8900) (hm : many ≤ 1000) : eSs C W (bLoads r) (startE f [v, .int many]) st = .ret (.tup (hs.map fv)) st := by
  have hst : startE f [v, .int many] = [some v, some (.int many), none] := by simp [startE, hs']
  rw [hst, bLoads]
  refine ss_ret ?_
  rcases hw with ⟨rfl, rfl⟩ | ⟨hne, ws, hv, ha, hl, hp⟩
  · have hr : itemsM .range [.int (many : Int)] st = some (rangeL 0 many, []) := by
      have := vit_range (n := (many : Int)) (st := st) (by omega) (by omega)
      rw [Int.toNat_natCast] at this
      exact this
    have h1 : toTruth (eE C (.cmp .isC (.var 0) (.k .non)) [some .non, some (.int many), none] st) = .ok true st := by simp [cmpM, isM]
    rw [v_ite, h1, R.bind_ok, if_pos rfl]
    rw [← rep_range]
    refine tup_of (comp_map (m := fun k : Nat => MV.int (0 + (k : Int))) (l := List.range many) (vs := [.int many]) (by simp) hr rfl (by simp; omega) (fun x _ => ?_))
    simp [turnF, wipeE, asgT, mkT, line]
    rfl
  · have hni : isM v .non = some false := by cases v <;> simp [isM] at hne ⊢
    have e1 := V b v ws hs st hb hv ha (by omega)
    have h1 : toTruth (eE C (.cmp .isC (.var 0) (.k .non)) [some v, some (.int many), none] st) = .ok false st := by simp [cmpM, hni]
    rw [v_ite, h1]
    simp only [R.bind_ok, Bool.false_eq_true, if_false, v_call, vs_cons, vs_nil, v_var, List.getElem?_cons_zero, e1]
/-! ### means -/
def mn (qs hs : List Rat) : Rat := (prods qs hs).sum / hs.sum
theorem ne_sum {hs : List Rat} (hne : hs ≠ []) (hp : ∀ h ∈ hs, 0 < h) : hs.sum ≠ 0 := fun e => by
  have := sum_pos hne hp
  rw [e] at this
  exact Rat.lt_irrefl this
theorem mn_sz {qs hs : List Rat} (hl : qs.length = hs.length) (hq : ∀ q ∈ qs, Sz b q) (hh : ∀ h ∈ hs, Sz c h) (h0 : hs.sum ≠ 0) : Sz (1 + hs.length * (b + c + 1) + (1 + hs.length * (c + 1))) (mn qs hs) := by
  have h1 := sum_sz (prods_sz hq hh)
  rw [prods_len hl] at h1
  exact h1.div (sum_sz hh) h0
theorem idx_sq {v : MV} {ps : List Rat} {k : Nat} (hv : Sq v (ps.map fv)) (hk : k < ps.length) : idxM v (.int (k : Int)) st = .ok (fv (ps.getD k 0)) st := by
  have hg : (ps.map fv)[k]? = some (fv (ps.getD k 0)) := by
    rw [List.getElem?_map, List.getElem?_eq_getElem hk, Option.map_some, List.getD_eq_getElem?_getD, List.getElem?_eq_getElem hk, Option.getD_some]
  rcases hv with rfl | rfl
  · exact idx_lst hg
  · exact idx_tup hg
theorem getD_mem {ps : List Rat} {k : Nat} (hk : k < ps.length) : ps.getD k 0 ∈ ps := by
  rw [List.getD_eq_getElem?_getD, List.getElem?_eq_getElem hk, Option.getD_some]
  exact List.getElem_mem hk
theorem rgN {n : Nat} (h : n ≤ 1000000) : itemsM .range [.int (n : Int)] st = some ((List.range n).map fun k : Nat => MV.int (0 + (k : Int)), []) := by
  have := vit_range (n := (n : Int)) (st := st) (by omega) (by omega)
  rw [Int.toNat_natCast] at this
  exact this
theorem rgN2 {m n : Nat} (h : n ≤ 1000000) (h' : m ≤ 1000000) : itemsM .range [.int (m : Int), .int (n : Int)] st = some ((List.range (n - m)).map fun k : Nat => MV.int ((m : Int) + (k : Int)), []) := by
  have := vit_range2 (m := (m : Int)) (n := (n : Int)) (st := st) (by omega) (by omega) (by omega) (by omega)
  rw [show ((n : Int) - (m : Int)).toNat = n - m by omega] at this
  exact this
def LMeans (C : Fns) (i : Nat) : Prop := ∀ (b c : Nat) (v u : MV) (ps hs : List Rat) (st : Store), Sq v (ps.map fv) → Sq u (hs.map fv) → ps.length = hs.length → hs.length ≤ 1000 → (∀ p ∈ ps, Sz b p) → (∀ h ∈ hs, Sz c h) → hs.sum ≠ 0 →
    1 + hs.length * (b + c + 1) + (1 + hs.length * (c + 1)) ≤ 8900 → b + c ≤ 8900 → C i [v, u] st = .ok (fv (mn ps hs)) st
abbrev bLMean (s o m : Nat) : List MS := [.asg (.nm 2) (.call s [(.var 1)]), .ret (.call o [(.call s [(.comp false [3] (.call m [(.idx (.var 0) (.var 3)), (.idx (.var 1) (.var 3))]) (.nm 3) .range [(.blt .len false [(.var 0)])] [])]), (.var 2)])]
theorem e_lmean {s o m : Nat} {v u : MV} {ps hs : List Rat} (S : SumsL C s) (B : Bin2 C m (· * ·)) (V : Div2 C o) (hs' : f.slots = 4) (hv : Sq v (ps.map fv)) (hu : Sq u (hs.map fv)) (hl : ps.length = hs.length) (hn : hs.length ≤ 1000) (hp : ∀ p ∈ ps, Sz b p) (hh : ∀ h ∈ hs, Sz c h) (h0 : hs.sum ≠ 0)
    (s1 : 1 + hs.length * (b + c + 1) + (1 + hs.length * (c + 1)) ≤ 8900) (s2 : b + c ≤ 8900) : eSs C W (bLMean s o m) (startE f [v, u]) st = .ret (fv (mn ps hs)) st := by
  have hst : startE f [v, u] = [some v, some u, none, none] := by simp [startE, hs']
  obtain ⟨t1, t2⟩ := S c u hs st hu hh (by omega)
  have hlen : bltM .len false [v] st = .ok (.int (ps.length : Int)) st := by rcases hv with rfl | rfl <;> simp [bltM, sqc]
  have cc := comp_map (C := C) (own := [3]) (elt := .call m [(.idx (.var 0) (.var 3)), (.idx (.var 1) (.var 3))]) (tg := .nm 3) (ik := .range) (ifs := []) (src := [.blt .len false [.var 0]]) (env := [some v, some u, some (fv hs.sum), none]) (st := st) (st1 := st) (vs := [.int ps.length]) (m := fun k : Nat => MV.int (0 + (k : Int))) (g := fun k : Nat => fv (ps.getD k 0 * hs.getD k 0)) (by simp [hlen]) (rgN (by omega)) rfl (by simp; omega) (fun k hk => by
    have hk := List.mem_range.mp hk
    have i1 := idx_sq (st := st) hv hk
    have i2 := idx_sq (st := st) hu (show k < hs.length by omega)
    have e := B b c _ _ st (hp _ (getD_mem hk)) (hh _ (getD_mem (show k < hs.length by omega))) s2
    simp [-List.getD_eq_getElem?_getD, turnF, wipeE, asgT, i1, i2, e])
  have hmm : (List.range ps.length).map (fun k : Nat => fv (ps.getD k 0 * hs.getD k 0)) = (prods ps hs).map fv := by
    rw [← prods_range hl, List.map_map]; rfl
  rw [hmm] at cc
  have psz := prods_sz hp hh
  obtain ⟨t3, t4⟩ := S (b + c) (.lst ((prods ps hs).map fv)) (prods ps hs) st (.inl rfl) psz (by rw [prods_len hl]; omega)
  rw [prods_len hl] at t4
  have E := V _ _ _ _ st t4 t2 s1 h0
  rw [hst, bLMean, ss_asg (v := fv hs.sum) (st1 := st) (env1 := [some v, some u, some (fv hs.sum), none]) (by simp [t1]) rfl]
  refine ss_ret ?_
  rw [v_call, vs_cons, v_call, vs_cons, cc]
  simp only [R.bind_ok, vs_cons, vs_nil, v_var, List.getElem?_cons_zero, List.getElem?_cons_succ, t3]
  exact E
/-! ### the greatest, the least -/
abbrev bMostL (s : Nat) : List MS := bPick (.cmp .gt (.call s [.var 2, .var 1]) (.k (.int 0)))
theorem e_mostL {s : Nat} {v : MV} {qs : List Rat} (S : Side2 C s) (hs : f.slots = 3) (hb : b ≤ 4000) (hv : Sq v ((q :: qs).map fv)) (hq : ∀ x ∈ q :: qs, Sz b x) : eSs C W (bMostL s) (startE f [v]) st = .ret (fv (maxL (q :: qs))) st := by
  refine e_pick (t := .cmp .gt (.call s [.var 2, .var 1]) (.k (.int 0))) (g := maxF) hs hv hq fun a x ha hx => ?_
  have e := S b b x a st hx ha (by omega)
  have s := side_pos (p := x) (q := a)
  rcases maxF_or (a := a) (x := x) with ⟨h1, h2⟩ | ⟨h1, h2⟩
  · exact .inl ⟨by simp [e, cmpM, s, h1], h2⟩
  · exact .inr ⟨by simp [e, cmpM, s, h1], h2⟩
theorem e_mostR {s a : Nat} {qs : List Rat} (S : Side2 C s) (hs : f.slots = 3) (hb : b ≤ 4000) (ha : st[a]? = some ((q :: qs).map fv)) (hq : ∀ x ∈ q :: qs, Sz b x) : eSs C W (bMostL s) (startE f [.ref a]) st = .ret (fv (maxL (q :: qs))) st := by
  have hst : startE f [.ref a] = [some (.ref a), none, none] := by simp [startE, hs]
  have hd : depOk st [(a, (q :: qs).map fv)] = true := by simp [depOk, ha]
  have h0 : idxM (.ref a) (.int 0) st = .ok (fv q) st := by simp [idxM, sqc, ha, ixN]
  obtain ⟨t, k1, k2⟩ := forL_fold (tg := .nm 2) (deps := [(a, (q :: qs).map fv)]) (m := fv) (body := bodyF C W (bTest (.cmp .gt (.call s [.var 2, .var 1]) (.k (.int 0))))) (E := fun (a' : Rat) (t : Option MV) => [some (.ref a), some (fv a'), t]) (S := fun _ => st) (g := maxF) (I := fun _ a' => Sz b a') (fun _ _ _ => hd) (q :: qs) 0 q none (fun i a' t x hx hI => by
    have hxm := hq x (List.mem_of_getElem? hx)
    have e := S b b x a' st hxm hI (by omega)
    have sp := side_pos (p := x) (q := a')
    rcases maxF_or (a := a') (x := x) with ⟨h1, h2⟩ | ⟨h1, h2⟩
    · refine ⟨by rw [h2]; exact hxm, [some (.ref a), some (fv a'), some (fv x)], some (fv x), rfl, ?_⟩
      rw [h2]
      simp [bodyF, bTest, e, cmpM, sp, h1, asgT]
    · refine ⟨by rw [h2]; exact hI, [some (.ref a), some (fv a'), some (fv x)], some (fv x), rfl, ?_⟩
      rw [h2]
      simp [bodyF, bTest, e, cmpM, sp, h1]) (hq q List.mem_cons_self)
  have e1 : (q :: qs).foldl maxF q = maxL (q :: qs) := by
    simp only [maxL, List.foldl_cons]
  rw [e1] at k1
  rw [hst, bMostL, bPick, ss_asg (v := fv q) (st1 := st) (by simp [h0]) (env1 := [some (.ref a), some (fv q), none]) rfl, ss_for (vs := [.ref a]) (st1 := st) (items := (q :: qs).map fv) (deps := [(a, (q :: qs).map fv)]) (by simp) (by simp only [itemsM, srcOf, ha]) k1]
  exact ss_ret (by simp)
abbrev bLeastL (n m : Nat) : List MS := [.ret (.call n [(.call m [(.comp false [1] (.call n [(.var 1)]) (.nm 1) .seq [(.var 0)] [])])])]
theorem e_leastL {n m : Nat} {v : MV} {qs : List Rat} (M : Picks C m maxL) (N : Neg1 C n) (hs : f.slots = 2) (hb : b ≤ 4000) (hv : Sq v ((q :: qs).map fv)) (hq : ∀ x ∈ q :: qs, Sz b x) (hl : (q :: qs).length ≤ 1000) : eSs C W (bLeastL n m) (startE f [v]) st = .ret (fv (minL (q :: qs))) st := by
  have hst : startE f [v] = [some v, none] := by simp [startE, hs]
  have e2 : itemsM .seq [v] st = some ((q :: qs).map fv, []) := by rcases hv with rfl | rfl <;> rfl
  have cc := comp_map (C := C) (own := [1]) (elt := .call n [.var 1]) (tg := .nm 1) (ik := .seq) (ifs := []) (src := [.var 0]) (env := [some v, none]) (st := st) (st1 := st) (vs := [v]) (m := fv) (l := q :: qs) (g := fun q => fv (-q)) (by simp) e2 rfl (by omega) (fun x _ => by simp [turnF, wipeE, asgT, N x st])
  have e3 : (q :: qs).map (fun q => fv (-q)) = ((q :: qs).map (- ·)).map fv := by simp
  rw [e3] at cc
  have m := M b (.lst (((q :: qs).map (- ·)).map fv)) (-q) (qs.map (- ·)) st hb (.inl rfl) (fun x hx => by
    have hx' : x ∈ (q :: qs).map (- ·) := hx
    obtain ⟨y, hy, rfl⟩ := List.mem_map.mp hx'
    exact (hq y hy).neg)
  have n' := N (maxL ((-q) :: qs.map (- ·))) st
  have e4 : -(maxL ((-q) :: qs.map (- ·))) = minL (q :: qs) := neg_maxL
  rw [e4] at n'
  rw [hst, bLeastL]
  refine ss_ret ?_
  rw [v_call, vs_cons, v_call, vs_cons, cc]
  simp only [R.bind_ok, vs_nil, m, n']
end
end MP

/-! MiniRi: the law's rising row, as it is computed. -/
namespace MP
open PySem
open scoped Rat
/-- a loop that is a fold, with things thrown away in the store, too -/
theorem forL_foldT {α σ τ : Type} {tg : Tg} {deps : Deps} {body : MP.Env → Store → Fl} {m : α → MV} {E : σ → τ → MP.Env} {S : σ → τ → Store} {g : σ → α → σ} {I : Nat → σ → Prop} (hd : ∀ i s t, I i s → depOk (S s t) deps = true) : ∀ (l : List α) (k : Nat) (s : σ) (t : τ),
    (∀ i s t a, l[i]? = some a → I (k + i) s → I (k + i + 1) (g s a) ∧ ∃ env1 t', asgT tg (m a) (E s t) = some env1 ∧ body env1 (S s t) = .next (E (g s a) t') (S (g s a) t')) → I k s →
    ∃ t', forL tg deps body (l.map m) (E s t) (S s t) = .next (E (l.foldl g s) t') (S (l.foldl g s) t') ∧ I (k + l.length) (l.foldl g s)
  | [], k, s, t, _, hI => ⟨t, by simp [forL, hd k s t hI], hI⟩
  | a :: l, k, s, t, h, hI => by
    obtain ⟨h1, env1, t1, h2, h3⟩ := h 0 s t a rfl hI
    obtain ⟨t2, h4, h5⟩ := forL_foldT hd l (k + 1) (g s a) t1 (fun i s t b hb hi => by
      have := h (i + 1) s t b (by simpa using hb) (by rw [show k + (i + 1) = k + 1 + i by omega]; exact hi)
      rw [show k + (i + 1) = k + 1 + i by omega] at this
      exact this) h1
    refine ⟨t2, ?_, ?_⟩
    · simp only [List.map_cons, forL, hd k s t hI, if_true, h2, h3, List.foldl_cons]
      rw [h4]
    · rw [List.foldl_cons, List.length_cons, show k + (l.length + 1) = k + 1 + l.length by omega]
      exact h5
theorem fold_snoc {α β : Type} (F : α → β) : ∀ (l : List α) (a : List β), l.foldl (fun a k => a ++ [F k]) a = a ++ l.map F
  | [], a => by simp
  | x :: l, a => by rw [List.foldl_cons, fold_snoc F l, List.map_cons, List.append_assoc]; rfl
def segM (xs ws : List Rat) (i j : Nat) : Rat := mn ((xs.drop i).take (j + 1 - i)) ((ws.drop i).take (j + 1 - i))
def lowL (xs ws : List Rat) (i k : Nat) : Rat := minL ((List.range (xs.length - k)).map fun t => segM xs ws i (k + t))
def topL (xs ws : List Rat) (k : Nat) : Rat := maxL ((List.range (k + 1)).map fun i => lowL xs ws i k)
def riseL (xs ws : List Rat) : List Rat := (List.range xs.length).map (topL xs ws)
theorem cut_mid {xs : List Rat} {i j : Nat} (h1 : i ≤ j) (h2 : j < xs.length) : cutM (xs.map fv) (some (i : Int)) (some ((j : Int) + 1)) = ((xs.drop i).take (j + 1 - i)).map fv := by
  have e : ((j : Int) + 1) = ((j + 1 : Nat) : Int) := by omega
  unfold cutM
  rw [e, sIx_nat, sIx_nat, List.length_map, show min i xs.length = i by omega, show min (j + 1) xs.length = j + 1 by omega, ← List.map_drop, ← List.map_take]
theorem range_cons {n : Nat} (h : 0 < n) : ∃ l, List.range n = 0 :: l := by
  cases n with
  | zero => omega
  | succ n => exact ⟨_, List.range_succ_eq_map⟩
theorem map_range_cons {β : Type} {n : Nat} (F : Nat → β) (h : 0 < n) : ∃ q l, (List.range n).map F = q :: l := by
  obtain ⟨l, hl⟩ := range_cons h
  exact ⟨_, _, by rw [hl, List.map_cons]⟩
theorem minL_in {l : List Rat} {P : Rat → Prop} (h : l ≠ []) (hp : ∀ x ∈ l, P x) : P (minL l) := hp _ (minL_spec h).1
theorem maxL_in {l : List Rat} {P : Rat → Prop} (h : l ≠ []) (hp : ∀ x ∈ l, P x) : P (maxL l) := hp _ (maxL_spec h).1
section
variable {C : Fns} {W : Nat} {f : Fn} {b lm le mo : Nat} {xs ws : List Rat}
/-- what is asked of the helpers -/
structure RiseH (C : Fns) (b lm le mo : Nat) (xs ws : List Rat) : Prop where
  m : ∀ i j (st : Store), i ≤ j → j < xs.length → C lm [.tup (((xs.drop i).take (j + 1 - i)).map fv), .tup (((ws.drop i).take (j + 1 - i)).map fv)] st = .ok (fv (segM xs ws i j)) st
  z : ∀ i j, i ≤ j → j < xs.length → Sz b (segM xs ws i j)
  le : ∀ (q : Rat) (qs : List Rat) (st : Store), (∀ x ∈ q :: qs, Sz b x) → (q :: qs).length ≤ 1000 → C le [.lst ((q :: qs).map fv)] st = .ok (fv (minL (q :: qs))) st
  mo : ∀ (q : Rat) (qs : List Rat) (a : Nat) (st : Store), st[a]? = some ((q :: qs).map fv) → (∀ x ∈ q :: qs, Sz b x) → C mo [.ref a] st = .ok (fv (maxL (q :: qs))) st
  wl : ws.length = xs.length
  xl : xs.length ≤ 100
abbrev eMeans (lm : Nat) : ME := .comp false [7] (.call lm [(.slc false (.var 0) (.var 6) (.bin .add false (.var 7) (.k (.int 1)))), (.slc false (.var 1) (.var 6) (.bin .add false (.var 7) (.k (.int 1))))]) (.nm 7) .range [(.var 4), (.var 2)] []
abbrev bRIn (lm le : Nat) : List MS := [.expr (.meth .append (.var 5) [(.call le [eMeans lm])])]
abbrev bROut (lm le mo : Nat) : List MS := [.asg (.nm 5) (.lstE true []), .forS (.nm 6) .range [(.bin .add false (.var 4) (.k (.int 1)))] (bRIn lm le), .expr (.meth .append (.var 3) [(.call mo [(.var 5)])])]
abbrev bRise (lm le mo : Nat) : List MS := [.asg (.nm 2) (.blt .len false [(.var 0)]), .asg (.nm 3) (.lstE true []), .forS (.nm 4) .range [(.var 2)] (bROut lm le mo), .ret (.blt .tuple false [(.var 3)])]
theorem low_sz (Rh : RiseH C b lm le mo xs ws) {i k : Nat} (hi : i ≤ k) (hk : k < xs.length) : Sz b (lowL xs ws i k) := by
  refine minL_in (fun e => ?_) fun x hx => ?_
  · have := congrArg List.length e
    simp at this
    omega
  · obtain ⟨t, ht, rfl⟩ := List.mem_map.mp hx
    have := List.mem_range.mp ht
    exact Rh.z i (k + t) (by omega) (by omega)
theorem top_sz (Rh : RiseH C b lm le mo xs ws) {k : Nat} (hk : k < xs.length) : Sz b (topL xs ws k) := by
  refine maxL_in (fun e => ?_) fun x hx => ?_
  · have := congrArg List.length e
    simp at this
  · obtain ⟨t, ht, rfl⟩ := List.mem_map.mp hx
    have := List.mem_range.mp ht
    exact low_sz Rh (by omega) hk
theorem rise_low (Rh : RiseH C b lm le mo xs ws) {i k : Nat} {st : Store} {x3 x5 : Option MV} (hi : i ≤ k) (hk : k < xs.length) :
    eE C (.call le [eMeans lm]) [some (.tup (xs.map fv)), some (.tup (ws.map fv)), some (.int (xs.length : Int)), x3, some (.int (0 + (k : Int))), x5, some (.int (0 + (i : Int))), none] st = .ok (fv (lowL xs ws i k)) st := by
  have hwl := Rh.wl
  have hxl := Rh.xl
  rw [Int.zero_add, Int.zero_add]
  have cc := comp_map (C := C) (own := [7]) (elt := .call lm [(.slc false (.var 0) (.var 6) (.bin .add false (.var 7) (.k (.int 1)))), (.slc false (.var 1) (.var 6) (.bin .add false (.var 7) (.k (.int 1))))]) (tg := .nm 7) (ik := .range) (ifs := []) (src := [(.var 4), (.var 2)]) (env := [some (.tup (xs.map fv)), some (.tup (ws.map fv)), some (.int (xs.length : Int)), x3, some (.int (k : Int)), x5, some (.int (i : Int)), none]) (st := st) (st1 := st) (vs := [.int (k : Int), .int (xs.length : Int)]) (m := fun t : Nat => MV.int ((k : Int) + (t : Int))) (g := fun t => fv (segM xs ws i (k + t))) (by simp) (rgN2 (by omega) (by omega)) rfl (by simp; omega) (fun t ht => by
    have ht := List.mem_range.mp ht
    have e0 : (k : Int) + (t : Int) = ((k + t : Nat) : Int) := by omega
    have c1 := cut_mid (xs := xs) (i := i) (j := k + t) (by omega) (by omega)
    have c2 := cut_mid (xs := ws) (i := i) (j := k + t) (by omega) (by omega)
    have e := Rh.m i (k + t) st (by omega) (by omega)
    rw [e0]
    simp only [turnF, wipeE, asgT, List.set_cons_zero, List.set_cons_succ, List.length_cons, List.length_nil, vi_nil, R.bind_ok, if_true, v_call, vs_cons, vs_nil, v_slc, v_bin, v_var, v_k, List.getElem?_cons_zero, List.getElem?_cons_succ, R.noX_ok, binM, slcM, optI, c1, c2, e, show 7 < 0 + 1 + 1 + 1 + 1 + 1 + 1 + 1 + 1 from by decide])
  obtain ⟨q, l, hq⟩ := map_range_cons (fun t => segM xs ws i (k + t)) (show 0 < xs.length - k by omega)
  have hg : (List.range (xs.length - k)).map (fun t => fv (segM xs ws i (k + t))) = (q :: l).map fv := by rw [← hq, List.map_map]; rfl
  rw [hg] at cc
  have hl : (q :: l).length ≤ 1000 := by rw [← hq]; simp; omega
  have e := Rh.le q l st (fun x hx => by
    rw [← hq] at hx
    obtain ⟨t, ht, rfl⟩ := List.mem_map.mp hx
    have := List.mem_range.mp ht
    exact Rh.z i (k + t) (by omega) (by omega)) hl
  rw [v_call, vs_cons, cc]
  simp only [R.bind_ok, vs_nil, e]
  rw [← hq]
  rfl
theorem rise_in (Rh : RiseH C b lm le mo xs ws) {k : Nat} {A : Store} {x3 x6 : Option MV} (hk : k < xs.length) :
    ∃ y6, forL (.nm 6) [] (bodyF C W (bRIn lm le)) ((List.range (k + 1)).map fun i : Nat => MV.int (0 + (i : Int))) [some (.tup (xs.map fv)), some (.tup (ws.map fv)), some (.int (xs.length : Int)), x3, some (.int (0 + (k : Int))), some (.ref A.length), x6, none] (A ++ [[]]) =
      .next [some (.tup (xs.map fv)), some (.tup (ws.map fv)), some (.int (xs.length : Int)), x3, some (.int (0 + (k : Int))), some (.ref A.length), y6, none] (A ++ [((List.range (k + 1)).map fun i => lowL xs ws i k).map fv]) := by
  have hxl := Rh.xl
  have hll := line_1e6
  obtain ⟨t, k1, _⟩ := forL_fold (deps := []) (tg := .nm 6) (m := fun i : Nat => MV.int (0 + (i : Int))) (body := bodyF C W (bRIn lm le)) (E := fun (_ : List Rat) (t : Option MV) => [some (.tup (xs.map fv)), some (.tup (ws.map fv)), some (.int (xs.length : Int)), x3, some (.int (0 + (k : Int))), some (.ref A.length), t, none])
    (S := fun hs => A ++ [hs.map fv]) (g := fun hs i => hs ++ [lowL xs ws i k]) (I := fun i hs => hs.length = i) (fun _ _ _ => rfl) (List.range (k + 1)) 0 [] x6 (fun i hs t a ha hI => by
      have hi := (List.getElem?_eq_some_iff.mp ha).1
      rw [List.length_range] at hi
      have ea : a = i := by rw [List.getElem?_range hi] at ha; exact (Option.some.inj ha).symm
      subst ea
      have L := rise_low Rh (i := a) (k := k) (st := A ++ [hs.map fv]) (x3 := x3) (x5 := some (.ref A.length)) (by omega) hk
      refine ⟨by simp [hI], [some (.tup (xs.map fv)), some (.tup (ws.map fv)), some (.int (xs.length : Int)), x3, some (.int (0 + (k : Int))), some (.ref A.length), some (.int (0 + (a : Int))), none], some (.int (0 + (a : Int))), rfl, ?_⟩
      have ap : methM .append (.ref A.length) [fv (lowL xs ws a k)] (A ++ [hs.map fv]) = .ok .non (A ++ [(hs ++ [lowL xs ws a k]).map fv]) := by
        rw [app_snoc (by rw [List.length_map]; omega), List.map_append]
        rfl
      unfold bodyF
      rw [bRIn, ss_expr (app_gen rfl L ap), ss_nil]) rfl
  rw [fold_snoc, List.nil_append] at k1
  exact ⟨t, k1⟩
theorem mkL_new (s : Store) : mkL true [] s = .ok (.ref s.length) (s ++ [[]]) := by
  have : ([] : List MV).length ≤ line := by decide
  simp only [mkL, if_pos this, if_true]
theorem e_rise (Rh : RiseH C b lm le mo xs ws) (hs : f.slots = 8) {st : Store} : ∃ g, eSs C W (bRise lm le mo) (startE f [.tup (xs.map fv), .tup (ws.map fv)]) st = .ret (.tup ((riseL xs ws).map fv)) (st ++ ((riseL xs ws).map fv :: g)) := by
  have hxl := Rh.xl
  have hll := line_1e6
  have hst : startE f [.tup (xs.map fv), .tup (ws.map fv)] = [some (.tup (xs.map fv)), some (.tup (ws.map fv)), none, none, none, none, none, none] := by simp [startE, hs]
  obtain ⟨t, k1, _⟩ := forL_foldT (deps := []) (tg := .nm 4) (m := fun k : Nat => MV.int (0 + (k : Int))) (body := bodyF C W (bROut lm le mo)) (E := fun (_ : List Rat) (t : Option MV × Option MV × Option MV × Store) => [some (.tup (xs.map fv)), some (.tup (ws.map fv)), some (.int (xs.length : Int)), some (.ref st.length), t.1, t.2.1, t.2.2.1, none])
    (S := fun made t => st ++ (made.map fv :: t.2.2.2)) (g := fun made k => made ++ [topL xs ws k]) (I := fun i made => made.length = i) (fun _ _ _ _ => rfl) (List.range xs.length) 0 [] (none, none, none, []) (fun i made t a ha hI => by
      have hi := (List.getElem?_eq_some_iff.mp ha).1
      rw [List.length_range] at hi
      have ea : a = i := by rw [List.getElem?_range hi] at ha; exact (Option.some.inj ha).symm
      subst ea
      obtain ⟨s0, hs0⟩ : ∃ s0, s0 = st ++ (made.map fv :: t.2.2.2) := ⟨_, rfl⟩
      obtain ⟨y6, L⟩ := rise_in (W := W) Rh (k := a) (A := s0) (x3 := some (.ref st.length)) (x6 := t.2.2.1) hi
      obtain ⟨q, l, hq⟩ := map_range_cons (fun i => lowL xs ws i a) (show 0 < a + 1 by omega)
      rw [hq] at L
      have Mo := Rh.mo q l s0.length (s0 ++ [(q :: l).map fv]) (by simp) (fun x hx => by
        rw [← hq] at hx
        obtain ⟨t, ht, rfl⟩ := List.mem_map.mp hx
        have := List.mem_range.mp ht
        exact low_sz Rh (by omega) hi)
      have etop : maxL (q :: l) = topL xs ws a := by rw [← hq]; rfl
      rw [etop] at Mo
      refine ⟨by simp [hI], [some (.tup (xs.map fv)), some (.tup (ws.map fv)), some (.int (xs.length : Int)), some (.ref st.length), some (.int (0 + (a : Int))), t.2.1, t.2.2.1, none], (some (.int (0 + (a : Int))), some (.ref s0.length), y6, t.2.2.2 ++ [(q :: l).map fv]), rfl, ?_⟩
      rw [← hs0]
      have g2 : eEs C [(.bin .add false (.var 4) (.k (.int 1)))] [some (.tup (xs.map fv)), some (.tup (ws.map fv)), some (.int (xs.length : Int)), some (.ref st.length), some (.int (0 + (a : Int))), some (.ref s0.length), t.2.2.1, none] (s0 ++ [[]]) = .ok [.int ((a + 1 : Nat) : Int)] (s0 ++ [[]]) := by
        simp [binM]
      have ap : methM .append (.ref st.length) [fv (topL xs ws a)] (s0 ++ [(q :: l).map fv]) = .ok .non (st ++ ((made ++ [topL xs ws a]).map fv :: (t.2.2.2 ++ [(q :: l).map fv]))) := by
        have h1 : (s0 ++ [(q :: l).map fv])[st.length]? = some (made.map fv) := by rw [hs0]; simp
        have hlt : (made.map fv).length < line := by rw [List.length_map]; omega
        simp only [methM, h1, if_pos hlt]
        rw [hs0]
        simp
      have g4 : eE C (.call mo [(.var 5)]) [some (.tup (xs.map fv)), some (.tup (ws.map fv)), some (.int (xs.length : Int)), some (.ref st.length), some (.int (0 + (a : Int))), some (.ref s0.length), y6, none] (s0 ++ [(q :: l).map fv]) = .ok (fv (topL xs ws a)) (s0 ++ [(q :: l).map fv]) := by
        simp only [v_call, vs_cons, vs_nil, v_var, List.getElem?_cons_zero, List.getElem?_cons_succ, R.bind_ok, Mo]
      unfold bodyF
      rw [bROut, ss_asg (v := .ref s0.length) (st1 := s0 ++ [[]]) (by simp only [v_lst, vs_nil, R.bind_ok, mkL_new]) (env1 := [some (.tup (xs.map fv)), some (.tup (ws.map fv)), some (.int (xs.length : Int)), some (.ref st.length), some (.int (0 + (a : Int))), some (.ref s0.length), t.2.2.1, none]) rfl,
        ss_for g2 (rgN (by omega)) L, ss_expr (app_gen rfl g4 ap), ss_nil]) rfl
  rw [fold_snoc, List.nil_append] at k1
  refine ⟨t.2.2.2, ?_⟩
  have hlen : bltM .len false [.tup (xs.map fv)] st = .ok (.int (xs.length : Int)) st := by simp [bltM, sqc]
  have hget : (st ++ ((riseL xs ws).map fv :: t.2.2.2))[st.length]? = some ((riseL xs ws).map fv) := by simp
  rw [hst, bRise, ss_asg (v := .int (xs.length : Int)) (st1 := st) (by simp [hlen]) (env1 := [some (.tup (xs.map fv)), some (.tup (ws.map fv)), some (.int (xs.length : Int)), none, none, none, none, none]) rfl,
    ss_asg (v := .ref st.length) (st1 := st ++ [[]]) (by simp only [v_lst, vs_nil, R.bind_ok, mkL_new]) (env1 := [some (.tup (xs.map fv)), some (.tup (ws.map fv)), some (.int (xs.length : Int)), some (.ref st.length), none, none, none, none]) rfl,
    ss_for (vs := [.int (xs.length : Int)]) (by simp) (rgN (by omega)) k1]
  refine ss_ret ?_
  simp only [v_blt, vs_cons, vs_nil, v_var, List.getElem?_cons_zero, List.getElem?_cons_succ, R.bind_ok, bltM, sqc]
  rw [show (List.range xs.length).map (topL xs ws) = riseL xs ws from rfl, hget]
end
end MP

/-! MiniPv: parts that are pooled make the greatest of the least means. -/
namespace MP
open scoped Rat
abbrev Seg := List (Rat × Rat)
def Seg.W (l : Seg) : Rat := (l.map (·.2)).sum
def Seg.M (l : Seg) : Rat := (l.map fun z => z.1 * z.2).sum
def Seg.mean (l : Seg) : Rat := l.M / l.W
def Seg.T (t : Rat) (l : Seg) : Rat := l.M - t * l.W
def Seg.Pos (l : Seg) : Prop := ∀ z ∈ l, 0 < z.2
theorem W_append (a b : Seg) : Seg.W (a ++ b) = Seg.W a + Seg.W b := by simp [Seg.W]
theorem M_append (a b : Seg) : Seg.M (a ++ b) = Seg.M a + Seg.M b := by simp [Seg.M]
theorem T_append (t : Rat) (a b : Seg) : Seg.T t (a ++ b) = Seg.T t a + Seg.T t b := by
  unfold Seg.T
  rw [W_append, M_append]
  grind
theorem W_nonneg : ∀ {l : Seg}, l.Pos → 0 ≤ l.W
  | [], _ => by simp [Seg.W]
  | z :: l, h => by
    have h1 := h z List.mem_cons_self
    have h2 := W_nonneg (l := l) fun y hy => h y (List.mem_cons_of_mem _ hy)
    have e : Seg.W (z :: l) = z.2 + Seg.W l := by simp [Seg.W]
    rw [e]
    grind
theorem W_pos {l : Seg} (hn : l ≠ []) (h : l.Pos) : 0 < l.W := by
  cases l with
  | nil => exact absurd rfl hn
  | cons z l =>
    have h1 := h z List.mem_cons_self
    have h2 := W_nonneg (l := l) fun y hy => h y (List.mem_cons_of_mem _ hy)
    have e : Seg.W (z :: l) = z.2 + Seg.W l := by simp [Seg.W]
    rw [e]
    grind
theorem mean_mul {l : Seg} (h : 0 < l.W) : l.mean * l.W = l.M := Rat.div_mul_cancel (by grind)
theorem T_mean {l : Seg} (h : 0 < l.W) : l.T l.mean = 0 := by
  unfold Seg.T
  rw [mean_mul h]
  grind
theorem T_sub (s t : Rat) (l : Seg) : Seg.T s l = Seg.T t l + (t - s) * Seg.W l := by
  unfold Seg.T
  grind
theorem nonneg_mul {a b : Rat} (h : 0 ≤ a) (g : 0 ≤ b) : 0 ≤ a * b := Rat.mul_nonneg h g
theorem le_of_mul {a b w : Rat} (hw : 0 < w) (h : a * w ≤ b * w) : a ≤ b := by
  by_cases hh : a ≤ b
  · exact hh
  · have := Rat.mul_pos (show 0 < a - b by grind) hw
    grind
theorem mean_ge {l : Seg} {m : Rat} (h : 0 < l.W) (ht : 0 ≤ Seg.T m l) : m ≤ l.mean := by
  refine le_of_mul h ?_
  rw [mean_mul h]
  unfold Seg.T at ht
  grind
theorem mean_le {l : Seg} {m : Rat} (h : 0 < l.W) (ht : Seg.T m l ≤ 0) : l.mean ≤ m := by
  refine le_of_mul h ?_
  rw [mean_mul h]
  unfold Seg.T at ht
  grind
/-- a part of the row: what begins it is no lower than it -/
structure SegOk (l : Seg) : Prop where
  ne : l ≠ []
  pos : l.Pos
  pre : ∀ a b : Seg, l = a ++ b → 0 ≤ Seg.T l.mean a
theorem SegOk.w {l : Seg} (h : SegOk l) : 0 < l.W := W_pos h.ne h.pos
theorem SegOk.one {z : Rat × Rat} (h : 0 < z.2) : SegOk [z] := by
  have hp : Seg.Pos [z] := fun y hy => by rw [List.mem_singleton.mp hy]; exact h
  have hw : 0 < Seg.W [z] := W_pos (by simp) hp
  refine ⟨by simp, hp, fun a b e => ?_⟩
  cases a with
  | nil => simp [Seg.T, Seg.M, Seg.W]; grind
  | cons y a =>
    obtain ⟨rfl, e2⟩ := List.cons.inj e
    have ha : a = [] := (List.append_eq_nil_iff.mp e2.symm).1
    subst ha
    rw [T_mean hw]
    grind
theorem join_means {q p : Seg} (hq : 0 < q.W) (hp : 0 < p.W) (h : p.mean ≤ q.mean) : p.mean ≤ Seg.mean (q ++ p) ∧ Seg.mean (q ++ p) ≤ q.mean := by
  have hw : 0 < Seg.W (q ++ p) := by rw [W_append]; grind
  have e1 := mean_mul hq
  have e2 := mean_mul hp
  have n1 := nonneg_mul (show 0 ≤ q.mean - p.mean by grind) (show 0 ≤ p.W by grind)
  have n2 := nonneg_mul (show 0 ≤ q.mean - p.mean by grind) (show 0 ≤ q.W by grind)
  constructor
  · refine mean_ge hw ?_
    unfold Seg.T
    rw [W_append, M_append]
    grind
  · refine mean_le hw ?_
    unfold Seg.T
    rw [W_append, M_append]
    grind
theorem SegOk.join {q p : Seg} (hq : SegOk q) (hp : SegOk p) (h : p.mean ≤ q.mean) : SegOk (q ++ p) := by
  obtain ⟨m1, m2⟩ := join_means hq.w hp.w h
  have hw : 0 < Seg.W (q ++ p) := by have := hq.w; have := hp.w; rw [W_append]; grind
  refine ⟨fun e => hq.ne (List.append_eq_nil_iff.mp e).1, fun z hz => (List.mem_append.mp hz).elim (hq.pos z) (hp.pos z), fun a b e => ?_⟩
  rcases List.append_eq_append_iff.mp e with ⟨c, rfl, e2⟩ | ⟨c, rfl, e2⟩
  · -- a = q ++ c
    have hc : Seg.Pos c := fun z hz => hp.pos z (by rw [e2]; exact List.mem_append_left _ hz)
    have hb : Seg.Pos b := fun z hz => hp.pos z (by rw [e2]; exact List.mem_append_right _ hz)
    have t1 := hp.pre c b e2
    have t2 := T_mean hw
    rw [T_append] at t2 ⊢
    have t3 := T_sub (Seg.mean (q ++ p)) p.mean c
    have t4 := T_sub (Seg.mean (q ++ p)) p.mean p
    rw [T_mean hp.w] at t4
    have wb : Seg.W p = Seg.W c + Seg.W b := by rw [← W_append, ← e2]
    have n := nonneg_mul (show 0 ≤ Seg.mean (q ++ p) - p.mean by grind) (W_nonneg hb)
    rw [wb] at t4
    grind
  · -- q = a ++ c
    have t1 := hq.pre a c rfl
    have ha : a.Pos := fun z hz => hq.pos z (List.mem_append_left _ hz)
    have t3 := T_sub (Seg.mean ((a ++ c) ++ p)) (Seg.mean (a ++ c)) a
    have n := nonneg_mul (show 0 ≤ Seg.mean (a ++ c) - Seg.mean ((a ++ c) ++ p) by grind) (W_nonneg ha)
    rw [t3]
    grind
/-- the last part first -/
def pushS : List Seg → Seg → List Seg
  | [], p => [p]
  | q :: s, p => if p.mean ≤ q.mean then pushS s (q ++ p) else p :: q :: s
structure StOk (s : List Seg) : Prop where
  ok : ∀ p ∈ s, SegOk p
  up : s.Pairwise fun p q => q.mean < p.mean
theorem push_ok : ∀ {s : List Seg} {p : Seg}, StOk s → SegOk p → StOk (pushS s p) ∧ (pushS s p).reverse.flatten = s.reverse.flatten ++ p
  | [], p, _, hp => ⟨⟨fun q hq => by rw [pushS] at hq; rw [List.mem_singleton.mp hq]; exact hp, by rw [pushS]; exact List.pairwise_singleton ..⟩, by simp [pushS]⟩
  | q :: s, p, hs, hp => by
    obtain ⟨u1, u2⟩ := List.pairwise_cons.mp hs.up
    have hq := hs.ok q List.mem_cons_self
    rw [pushS]
    split
    · rename_i h
      obtain ⟨a, b⟩ := push_ok (s := s) (p := q ++ p) ⟨fun z hz => hs.ok z (List.mem_cons_of_mem _ hz), u2⟩ (hq.join hp h)
      exact ⟨a, by rw [b]; simp⟩
    · rename_i h
      refine ⟨⟨fun z hz => ?_, List.pairwise_cons.mpr ⟨fun z hz => ?_, hs.up⟩⟩, by simp⟩
      · rcases List.mem_cons.mp hz with rfl | hz
        · exact hp
        · exact hs.ok z hz
      · rcases List.mem_cons.mp hz with rfl | hz
        · grind
        · have := u1 z hz
          grind
def poolS (zs : Seg) : List Seg := zs.foldl (fun s z => pushS s [z]) []
theorem pool_ok {zs : Seg} (h : zs.Pos) : StOk (poolS zs) ∧ (poolS zs).reverse.flatten = zs := by
  have : ∀ (zs : Seg) (s : List Seg), zs.Pos → StOk s → StOk (zs.foldl (fun s z => pushS s [z]) s) ∧ (zs.foldl (fun s z => pushS s [z]) s).reverse.flatten = s.reverse.flatten ++ zs := by
    intro zs
    induction zs with
    | nil => intro s _ hs; exact ⟨hs, by simp⟩
    | cons z zs ih =>
      intro s hz hs
      obtain ⟨a, b⟩ := push_ok hs (SegOk.one (hz z List.mem_cons_self))
      obtain ⟨c, d⟩ := ih _ (fun y hy => hz y (List.mem_cons_of_mem _ hy)) a
      exact ⟨c, by rw [List.foldl_cons, d, b]; simp⟩
  obtain ⟨a, b⟩ := this zs [] h ⟨fun p hp => absurd hp (by simp), .nil⟩
  exact ⟨a, by rw [poolS, b]; simp⟩
/-! ### the greatest of the least -/
theorem pre_nonneg {m : Rat} : ∀ {segs : List Seg}, (∀ s ∈ segs, m ≤ s.mean ∧ SegOk s) → ∀ p q : Seg, segs.flatten = p ++ q → 0 ≤ Seg.T m p
  | [], _, p, q, e => by
    have : p = [] := (List.append_eq_nil_iff.mp e.symm).1
    subst this
    simp [Seg.T, Seg.M, Seg.W]
    grind
  | s :: segs, h, p, q, e => by
    obtain ⟨h1, h2⟩ := h s List.mem_cons_self
    have ih := pre_nonneg (segs := segs) fun z hz => h z (List.mem_cons_of_mem _ hz)
    rw [List.flatten_cons] at e
    have ws := W_nonneg h2.pos
    rcases List.append_eq_append_iff.mp e with ⟨c, rfl, e2⟩ | ⟨c, rfl, e2⟩
    · rw [T_append]
      have t1 := ih c q e2
      have t2 := T_sub m s.mean s
      rw [T_mean h2.w] at t2
      have n := nonneg_mul (show 0 ≤ s.mean - m by grind) ws
      grind
    · have t1 := h2.pre p c rfl
      have t2 := T_sub m (Seg.mean (p ++ c)) p
      have n := nonneg_mul (show 0 ≤ Seg.mean (p ++ c) - m by grind) (W_nonneg fun z hz => h2.pos z (List.mem_append_left _ hz))
      grind
theorem suf_nonpos {m : Rat} : ∀ {segs : List Seg}, (∀ s ∈ segs, s.mean ≤ m ∧ SegOk s) → ∀ p q : Seg, segs.flatten = p ++ q → Seg.T m q ≤ 0
  | [], _, p, q, e => by
    have : q = [] := (List.append_eq_nil_iff.mp e.symm).2
    subst this
    simp [Seg.T, Seg.M, Seg.W]
    grind
  | s :: segs, h, p, q, e => by
    obtain ⟨h1, h2⟩ := h s List.mem_cons_self
    have ih := suf_nonpos (segs := segs) fun z hz => h z (List.mem_cons_of_mem _ hz)
    rw [List.flatten_cons] at e
    rcases List.append_eq_append_iff.mp e with ⟨c, rfl, e2⟩ | ⟨c, rfl, e2⟩
    · exact ih c q e2
    · rw [e2, T_append]
      have t0 := ih [] segs.flatten rfl
      have t1 := h2.pre p c rfl
      have t2 := T_mean h2.w
      rw [T_append] at t2
      have t3 := T_sub m (Seg.mean (p ++ c)) c
      have n := nonneg_mul (show 0 ≤ m - Seg.mean (p ++ c) by grind) (W_nonneg (l := c) fun z hz => h2.pos z (List.mem_append_right _ hz))
      grind
theorem segM_mean {zs : Seg} {i j : Nat} : segM (zs.map (·.1)) (zs.map (·.2)) i j = Seg.mean ((zs.drop i).take (j + 1 - i)) := by
  unfold segM mn Seg.mean Seg.M Seg.W
  rw [prods_zip, ← List.map_drop, ← List.map_drop, ← List.map_take, ← List.map_take]
  congr 2
  generalize (zs.drop i).take (j + 1 - i) = l
  induction l with
  | nil => rfl
  | cons z l ih => simp only [List.map_cons, List.zip_cons_cons, ih]
theorem top_seg {pre post : List Seg} {seg zs : Seg} {k : Nat} (hz : zs = (pre ++ seg :: post).flatten) (h1 : pre.flatten.length ≤ k) (h2 : k < pre.flatten.length + seg.length) (hs : SegOk seg) (hpre : ∀ s ∈ pre, s.mean ≤ seg.mean ∧ SegOk s) (hpost : ∀ s ∈ post, seg.mean ≤ s.mean ∧ SegOk s) : topL (zs.map (·.1)) (zs.map (·.2)) k = seg.mean := by
  have hz2 : zs = pre.flatten ++ (seg ++ post.flatten) := by rw [hz]; simp
  have hlen : zs.length = pre.flatten.length + (seg.length + post.flatten.length) := by rw [hz2]; simp
  have hpos : zs.Pos := fun z hzm => by
    rw [hz2] at hzm
    have fl : ∀ {segs : List Seg}, (∀ s ∈ segs, SegOk s) → ∀ z ∈ segs.flatten, 0 < z.2 := fun {segs} h z hm => by
      obtain ⟨s, hs1, hs2⟩ := List.mem_flatten.mp hm
      exact (h s hs1).pos z hs2
    rcases List.mem_append.mp hzm with hm | hm
    · exact fl (fun s hs => (hpre s hs).2) z hm
    · rcases List.mem_append.mp hm with hm | hm
      · exact hs.pos z hm
      · exact fl (fun s hs => (hpost s hs).2) z hm
  have sub : ∀ i c, 0 < c → i < zs.length → 0 < Seg.W ((zs.drop i).take c) := fun i c hc hi => by
    refine W_pos (fun e => ?_) fun z hm => hpos z (List.mem_of_mem_drop (List.mem_of_mem_take hm))
    have := congrArg List.length e
    rw [List.length_take, List.length_drop, List.length_nil] at this
    omega
  have lt : k < zs.length := by omega
  have xl : (zs.map (·.1)).length = zs.length := by simp
  -- from the part's begin on
  have A : ∀ j, k ≤ j → j < zs.length → seg.mean ≤ segM (zs.map (·.1)) (zs.map (·.2)) pre.flatten.length j := fun j hj hjl => by
    rw [segM_mean]
    refine mean_ge (sub _ _ (by omega) (by omega)) ?_
    have e : zs.drop pre.flatten.length = (seg :: post).flatten := by rw [hz2, List.drop_left]; simp
    rw [e]
    exact pre_nonneg (segs := seg :: post) (fun s hsm => by
      rcases List.mem_cons.mp hsm with rfl | hsm
      · exact ⟨by grind, hs⟩
      · exact hpost s hsm) _ (((seg :: post).flatten).drop (j + 1 - pre.flatten.length)) (List.take_append_drop _ _).symm
  -- up to the part's end
  have B : ∀ i, i ≤ k → segM (zs.map (·.1)) (zs.map (·.2)) i (pre.flatten.length + seg.length - 1) ≤ seg.mean := fun i hi => by
    rw [segM_mean]
    refine mean_le (sub _ _ (by omega) (by omega)) ?_
    have e : (zs.drop i).take (pre.flatten.length + seg.length - 1 + 1 - i) = ((pre ++ [seg]).flatten).drop i := by
      have e1 : zs = (pre ++ [seg]).flatten ++ post.flatten := by rw [hz]; simp
      have e2 : ((pre ++ [seg]).flatten).length = pre.flatten.length + seg.length := by simp
      rw [e1, List.drop_append_of_le_length (by omega), List.take_append_of_le_length (by rw [List.length_drop]; omega), List.take_of_length_le (by rw [List.length_drop]; omega)]
    rw [e]
    exact suf_nonpos (segs := pre ++ [seg]) (fun s hsm => by
      rcases List.mem_append.mp hsm with hsm | hsm
      · exact hpre s hsm
      · rw [List.mem_singleton.mp hsm]; exact ⟨by grind, hs⟩) (((pre ++ [seg]).flatten).take i) _ (List.take_append_drop _ _).symm
  have lowA : seg.mean ≤ lowL (zs.map (·.1)) (zs.map (·.2)) pre.flatten.length k := by
    refine minL_in (P := fun x => seg.mean ≤ x) (fun e => ?_) fun x hx => ?_
    · have := congrArg List.length e
      simp at this
      omega
    · obtain ⟨t, ht, rfl⟩ := List.mem_map.mp hx
      have ht := List.mem_range.mp ht
      rw [xl] at ht
      exact A (k + t) (by omega) (by omega)
  have lowB : ∀ i, i ≤ k → lowL (zs.map (·.1)) (zs.map (·.2)) i k ≤ seg.mean := fun i hi => by
    have hne : (List.range ((zs.map (·.1)).length - k)).map (fun t => segM (zs.map (·.1)) (zs.map (·.2)) i (k + t)) ≠ [] := fun e => by
      have := congrArg List.length e
      simp at this
      omega
    have hm := (minL_spec hne).2 (segM (zs.map (·.1)) (zs.map (·.2)) i (pre.flatten.length + seg.length - 1)) (List.mem_map.mpr ⟨pre.flatten.length + seg.length - 1 - k, List.mem_range.mpr (by rw [xl]; omega), by rw [show k + (pre.flatten.length + seg.length - 1 - k) = pre.flatten.length + seg.length - 1 by omega]⟩)
    exact Rat.le_trans hm (B i hi)
  have hne : (List.range (k + 1)).map (fun i => lowL (zs.map (·.1)) (zs.map (·.2)) i k) ≠ [] := fun e => by
    have := congrArg List.length e
    simp at this
  refine Rat.le_antisymm ?_ ?_
  · exact maxL_in (P := fun x => x ≤ seg.mean) hne fun x hx => by
      obtain ⟨i, hi, rfl⟩ := List.mem_map.mp hx
      have := List.mem_range.mp hi
      exact lowB i (by omega)
  · exact Rat.le_trans lowA ((maxL_spec hne).2 _ (List.mem_map.mpr ⟨pre.flatten.length, List.mem_range.mpr (by omega), rfl⟩))
def rowOf (segs : List Seg) : List Rat := segs.flatMap fun s => List.replicate s.length s.mean
theorem row_at : ∀ (segs : List Seg) (k : Nat), k < segs.flatten.length → ∃ pre seg post, segs = pre ++ seg :: post ∧ pre.flatten.length ≤ k ∧ k < pre.flatten.length + seg.length ∧ (rowOf segs)[k]? = some seg.mean
  | [], k, h => by simp at h
  | s :: segs, k, h => by
    by_cases hk : k < s.length
    · refine ⟨[], s, segs, rfl, Nat.zero_le _, by simpa using hk, ?_⟩
      unfold rowOf
      rw [List.flatMap_cons, List.getElem?_append_left (by simpa using hk)]
      simp [hk]
    · rw [List.flatten_cons, List.length_append] at h
      obtain ⟨pre, seg, post, h1, h2, h3, h4⟩ := row_at segs (k - s.length) (by omega)
      refine ⟨s :: pre, seg, post, by rw [h1]; rfl, by rw [List.flatten_cons, List.length_append]; omega, by rw [List.flatten_cons, List.length_append]; omega, ?_⟩
      unfold rowOf at h4 ⊢
      rw [List.flatMap_cons, List.getElem?_append_right (by simp; omega)]
      simpa using h4
theorem row_len : ∀ (segs : List Seg), (rowOf segs).length = segs.flatten.length
  | [] => rfl
  | s :: segs => by
    have := row_len segs
    unfold rowOf at this ⊢
    rw [List.flatMap_cons, List.length_append, List.length_replicate, this, List.flatten_cons, List.length_append]
/-- what is pooled is the greatest of the least means -/
theorem pool_rise {zs : Seg} (h : zs.Pos) : rowOf (poolS zs).reverse = riseL (zs.map (·.1)) (zs.map (·.2)) := by
  obtain ⟨h1, h2⟩ := pool_ok h
  have hup : ((poolS zs).reverse).Pairwise fun p q => p.mean < q.mean := List.pairwise_reverse.mpr h1.up
  have hok : ∀ p ∈ (poolS zs).reverse, SegOk p := fun p hp => h1.ok p (List.mem_reverse.mp hp)
  have hl : (rowOf (poolS zs).reverse).length = zs.length := by rw [row_len, h2]
  refine List.ext_getElem? fun k => ?_
  by_cases hk : k < zs.length
  · obtain ⟨pre, seg, post, g1, g2, g3, g4⟩ := row_at (poolS zs).reverse k (by rw [h2]; exact hk)
    rw [g4]
    rw [g1] at hup hok h2
    obtain ⟨_, u2, u3⟩ := List.pairwise_append.mp hup
    obtain ⟨u4, _⟩ := List.pairwise_cons.mp u2
    have t := top_seg (k := k) h2.symm g2 g3 (hok seg (by simp)) (fun s hs => ⟨Rat.le_of_lt (u3 s hs seg List.mem_cons_self), hok s (by simp [hs])⟩) (fun s hs => ⟨Rat.le_of_lt (u4 s hs), hok s (by simp [hs])⟩)
    unfold riseL
    rw [List.getElem?_map, List.getElem?_range (by simpa using hk), Option.map_some, t]
  · rw [List.getElem?_eq_none (by omega), List.getElem?_eq_none (by unfold riseL; simp; omega)]
end MP

/-! MiniPw: the pooling, as it is walked. -/
namespace MP
open PySem
open scoped Rat
def pv (s : Seg) : MV := .tup [.int s.length, fv s.W, fv s.mean]
theorem zip2_map {α β : Type} (f : α → MV) (g : β → MV) : ∀ (xs : List α) (ys : List β), zip2 (xs.map f) (ys.map g) = (xs.zip ys).map fun z => .tup [f z.1, g z.2]
  | [], _ => rfl
  | _ :: _, [] => rfl
  | x :: xs, y :: ys => by
    have ih := zip2_map f g xs ys
    simp only [zip2, List.map_cons, List.zipWith_cons_cons, List.zip_cons_cons] at ih ⊢
    rw [ih]
/-! ### comprehensions of two clauses -/
section
variable {C : Fns} {own own2 : List Nat} {elt : ME} {tg tg2 : Tg} {ik ik2 : IK} {src src2 : List ME} {env : MP.Env} {st st1 : Store}
def turnJ (C : Fns) (elt : ME) (own2 : List Nat) (tg2 : Tg) (env1 : MP.Env) (y : MV) (s : Store) : R (Option MV) := match asgT tg2 y (wipeE own2 env1) with
  | none => .stuck
  | some env2 => (eE C elt env2 s).noX.bind fun z s3 => .ok (some z) s3
def turnO (C : Fns) (own : List Nat) (elt : ME) (tg : Tg) (own2 : List Nat) (tg2 : Tg) (ik2 : IK) (src2 : List ME) (env : MP.Env) (x : MV) (acc : List MV) (s : Store) : R (List MV) := match asgT tg x (wipeE own env) with
  | none => .stuck
  | some env1 => (eEs C src2 env1 s).noX.bind fun vs2 s2 => match itemsM ik2 vs2 s2 with
    | none => .stuck
    | some (items2, deps2) => compL deps2 (turnJ C elt own2 tg2 env1) items2 acc.reverse s2
theorem v_comp2 (mu : Bool) : eE C (.comp2 mu own elt tg ik src own2 tg2 ik2 src2) env st = (srcX ik (eEs C src env st)).bind fun vs st1 => match itemsM ik vs st1 with
    | none => .stuck
    | some (items, deps) => (outL deps (turnO C own elt tg own2 tg2 ik2 src2 env) items [] st1).bind fun xs st2 => mkL mu xs st2 := by
  simp only [eE]
  rfl
theorem outL_map {α : Type} {m : α → MV} {F : α → List MV} {turn : MV → List MV → Store → R (List MV)} : ∀ (l : List α) (acc : List MV), (∀ x ∈ l, ∀ acc : List MV, acc.length ≤ 1000000 → turn (m x) acc st = .ok (acc ++ F x) st) → (acc ++ l.flatMap F).length ≤ 1000000 → outL [] turn (l.map m) acc st = .ok (acc ++ l.flatMap F) st
  | [], acc, _, _ => by simp [outL, depOk]
  | x :: l, acc, h, hl => by
    rw [List.flatMap_cons, ← List.append_assoc] at hl
    have e := h x List.mem_cons_self acc (by simp only [List.length_append] at hl; omega)
    simp only [List.map_cons, outL, depOk, if_true, e, R.bind_ok]
    rw [outL_map l (acc ++ F x) (fun y hy => h y (List.mem_cons_of_mem _ hy)) hl, List.flatMap_cons, List.append_assoc]
theorem comp2_map {α : Type} {m : α → MV} {F : α → List MV} {l : List α} {vs : List MV} (h : eEs C src env st = .ok vs st) (hi : itemsM ik vs st = some (l.map m, [])) (hl : (l.flatMap F).length ≤ 1000000) (ht : ∀ x ∈ l, ∀ acc : List MV, acc.length ≤ 1000000 → turnO C own elt tg own2 tg2 ik2 src2 env (m x) acc st = .ok (acc ++ F x) st) :
    eE C (.comp2 false own elt tg ik src own2 tg2 ik2 src2) env st = .ok (.lst (l.flatMap F)) st := by
  have hll := line_1e6
  rw [v_comp2, h, srcX_ok]
  simp only [R.bind_ok, hi]
  rw [outL_map l [] ht (by simpa using hl)]
  simp only [R.bind_ok, List.nil_append, mkL]
  rw [if_pos (by omega)]
  rfl
theorem compL_acc {α : Type} {m g : α → MV} {turn : MV → Store → R (Option MV)} : ∀ (l : List α) (acc : List MV), (∀ x ∈ l, turn (m x) st = .ok (some (g x)) st) → acc.length + l.length ≤ line → compL [] turn (l.map m) acc.reverse st = .ok (acc ++ l.map g) st := by
  intro l acc h hl
  have := compL_flt_d (p := fun _ => true) (deps := []) (m := m) (g := g) (turn := turn) (st := st) rfl l acc.reverse (fun x hx => by rw [if_pos rfl]; exact h x hx) (by rw [List.length_reverse]; exact hl)
  rw [List.filter_eq_self.mpr fun _ _ => rfl, List.reverse_reverse] at this
  exact this
end
/-! ### stacks -/
def popS : List Seg → Seg → Seg × List Seg
  | [], p => (p, [])
  | q :: s, p => if p.mean ≤ q.mean then popS s (q ++ p) else (p, q :: s)
theorem push_pop : ∀ (s : List Seg) (p : Seg), pushS s p = (popS s p).1 :: (popS s p).2
  | [], _ => rfl
  | q :: s, p => by
    rw [pushS, popS]
    split
    · exact push_pop s (q ++ p)
    · rfl
/-- sizes of parts: values below 2^b, weights below 2^c, at most N of them -/
structure SegSz (b c N : Nat) (s : Seg) : Prop where
  x : ∀ z ∈ s, Sz b z.1 ∧ Sz c z.2
  l : s.length ≤ N
theorem SegSz.w {b c N : Nat} {s : Seg} (h : SegSz b c N s) : Sz (1 + N * (c + 1)) s.W := by
  have := sum_sz (b := c) (qs := s.map (·.2)) fun q hq => by
    obtain ⟨z, hz, rfl⟩ := List.mem_map.mp hq
    exact (h.x z hz).2
  rw [List.length_map] at this
  exact this.up (by have := Nat.mul_le_mul_right (c + 1) h.l; omega)
theorem SegSz.m {b c N : Nat} {s : Seg} (h : SegSz b c N s) : Sz (1 + N * (b + c + 1)) s.M := by
  have := sum_sz (b := b + c) (qs := s.map fun z => z.1 * z.2) fun q hq => by
    obtain ⟨z, hz, rfl⟩ := List.mem_map.mp hq
    exact (h.x z hz).1.mul (h.x z hz).2
  rw [List.length_map] at this
  exact this.up (by have := Nat.mul_le_mul_right (b + c + 1) h.l; omega)
theorem SegSz.mean {b c N : Nat} {s : Seg} (h : SegSz b c N s) (hw : 0 < s.W) : Sz (1 + N * (b + c + 1) + (1 + N * (c + 1))) s.mean := h.m.div h.w (by grind)
section
variable {C : Fns} {W : Nat} {f : Fn} {b c N : Nat} {st : Store}
abbrev bJoined (a m d : Nat) : List MS := [.asg (.nm 2) (.call a [(.idx (.var 0) (.k (.int 1))), (.idx (.var 1) (.k (.int 1)))]), .asg (.nm 3) (.call a [(.call m [(.idx (.var 0) (.k (.int 1))), (.idx (.var 0) (.k (.int 2)))]), (.call m [(.idx (.var 1) (.k (.int 1))), (.idx (.var 1) (.k (.int 2)))])]), .ret (.tupE [(.bin .add false (.idx (.var 0) (.k (.int 0))) (.idx (.var 1) (.k (.int 0)))), (.var 2), (.call d [(.var 3), (.var 2)])])]
theorem idx_p0 {s : Seg} : idxM (pv s) (.int 0) st = .ok (.int s.length) st := by simp [pv, idxM, sqc, ixN]
theorem idx_p1 {s : Seg} : idxM (pv s) (.int 1) st = .ok (fv s.W) st := by simp [pv, idxM, sqc, ixN]
theorem idx_p2 {s : Seg} : idxM (pv s) (.int 2) st = .ok (fv s.mean) st := by simp [pv, idxM, sqc, ixN]
theorem e_joined {a m d : Nat} {q p : Seg} (A : Bin2 C a (· + ·)) (Mu : Bin2 C m (· * ·)) (Dv : Div2 C d) (hs : f.slots = 4) (hq : SegSz b c N q) (hp : SegSz b c N p) (hqp : SegSz b c N (q ++ p)) (wq : 0 < q.W) (wp : 0 < p.W) (hb : (1 + N * (c + 1)) + (1 + N * (b + c + 1) + (1 + N * (c + 1))) ≤ 8900) (hb2 : (1 + N * (b + c + 1)) + (1 + N * (b + c + 1)) ≤ 8900) :
    eSs C W (bJoined a m d) (startE f [pv q, pv p]) st = .ret (pv (q ++ p)) st := by
  have hst : startE f [pv q, pv p] = [some (pv q), some (pv p), none, none] := by simp [startE, hs]
  have e1 := A _ _ q.W p.W st hq.w hp.w (by omega)
  have e2 := Mu _ _ q.W q.mean st hq.w (hq.mean wq) (by omega)
  have e3 := Mu _ _ p.W p.mean st hp.w (hp.mean wp) (by omega)
  have f2 : q.W * q.mean = q.M := by rw [Rat.mul_comm]; exact mean_mul wq
  have f3 : p.W * p.mean = p.M := by rw [Rat.mul_comm]; exact mean_mul wp
  simp only [f2] at e2
  simp only [f3] at e3
  have e4 := A _ _ q.M p.M st hq.m hp.m (by omega)
  have w0 : Seg.W (q ++ p) ≠ 0 := by rw [W_append]; grind
  have e5 := Dv _ _ (Seg.M (q ++ p)) (Seg.W (q ++ p)) st hqp.m hqp.w (by omega) w0
  simp only [← W_append] at e1
  simp only [← M_append] at e4
  have mk : ∀ (x y z : MV) (st : Store), mkT [x, y, z] st = .ok (.tup [x, y, z]) st := fun _ _ _ _ => rfl
  have hlen : ((q.length : Int) + (p.length : Int)) = ((q ++ p).length : Int) := by simp
  rw [hst, bJoined, ss_asg (v := fv (Seg.W (q ++ p))) (st1 := st) (by simp only [v_call, vs_cons, vs_nil, v_idx, v_var, v_k, List.getElem?_cons_zero, List.getElem?_cons_succ, R.bind_ok, idx_p1, e1]) (env1 := [some (pv q), some (pv p), some (fv (Seg.W (q ++ p))), none]) rfl,
    ss_asg (v := fv (Seg.M (q ++ p))) (st1 := st) (by simp only [v_call, vs_cons, vs_nil, v_idx, v_var, v_k, List.getElem?_cons_zero, List.getElem?_cons_succ, R.bind_ok, idx_p1, idx_p2, e2, e3, e4]) (env1 := [some (pv q), some (pv p), some (fv (Seg.W (q ++ p))), some (fv (Seg.M (q ++ p)))]) rfl]
  refine ss_ret ?_
  simp only [v_tup, v_bin, v_call, vs_cons, vs_nil, v_idx, v_var, v_k, List.getElem?_cons_zero, List.getElem?_cons_succ, R.bind_ok, idx_p0, binM, e5, mk, hlen]
  rfl
/-- joins of parts of a row zs -/
def Joins (C : Fns) (j : Nat) (b c N : Nat) : Prop := ∀ (q p : Seg) (st : Store), SegSz b c N q → SegSz b c N p → SegSz b c N (q ++ p) → 0 < q.W → 0 < p.W → C j [pv q, pv p] st = .ok (pv (q ++ p)) st
abbrev cPool (le : Nat) : ME := .andE (.var 2) (.call le [(.idx (.var 5) (.k (.int 2))), (.idx (.idx (.var 2) (.neg (.k (.int 1)))) (.k (.int 2)))])
abbrev bPoolW (j : Nat) : List MS := [.asg (.nm 5) (.call j [(.meth .pop (.var 2) []), (.var 5)])]
abbrev bPoolIn (le j : Nat) : List MS := [.asg (.nm 5) (.tupE [(.k (.int 1)), (.var 4), (.var 3)]), .whileS (cPool le) (bPoolW j), .expr (.meth .append (.var 2) [(.var 5)])]
abbrev bPool (le j : Nat) : List MS := [.asg (.nm 2) (.lstE true []), .forS (.tp [(.nm 3), (.nm 4)]) .zip [(.var 0), (.var 1)] (bPoolIn le j), .ret (.var 2)]
theorem stk_get {s : List Seg} : (st ++ [s.reverse.map pv])[st.length]? = some (s.reverse.map pv) := by simp
theorem pool_while {le j : Nat} {v0 v1 v3 v4 : Option MV} (Le : Most2 C le) (J : Joins C j b c N) (hb : (1 + N * (b + c + 1) + (1 + N * (c + 1))) + (1 + N * (b + c + 1) + (1 + N * (c + 1))) ≤ 8900) : ∀ (s : List Seg) (p : Seg) (n : Nat), (∀ q ∈ s, SegOk q) → SegOk p → (∀ q ∈ s, ∀ r : Seg, r.length + q.length ≤ s.reverse.flatten.length + p.length → True) → (∀ q : Seg, q ≠ [] → (∃ a e, s.reverse.flatten ++ p = a ++ q ++ e) → SegSz b c N q) → s.length < n →
    whileL (condF C (cPool le)) (bodyF C W (bPoolW j)) n [v0, v1, some (.ref st.length), v3, v4, some (pv p)] (st ++ [s.reverse.map pv]) = .next [v0, v1, some (.ref st.length), v3, v4, some (pv (popS s p).1)] (st ++ [(popS s p).2.reverse.map pv])
  | [], p, n + 1, _, hp, _, hz, hn => by
    have hc : condF C (cPool le) [v0, v1, some (.ref st.length), v3, v4, some (pv p)] (st ++ [([] : List Seg).reverse.map pv]) = .ok false (st ++ [([] : List Seg).reverse.map pv]) := by
      have t : truth (st ++ [[]]) (.ref st.length) = some false := by simp [truth]
      simp [condF, t, toTruth]
    simp only [whileL, hc]
    simp [popS]
  | q :: s, p, n + 1, hs, hp, _, hz, hn => by
    have hq := hs q List.mem_cons_self
    have zq : SegSz b c N q := hz q hq.ne ⟨s.reverse.flatten, p, by simp⟩
    have zp : SegSz b c N p := hz p hp.ne ⟨s.reverse.flatten ++ q, [], by simp⟩
    have zqp : SegSz b c N (q ++ p) := hz (q ++ p) (by simp [hq.ne]) ⟨s.reverse.flatten, [], by simp⟩
    have hl : (q :: s).reverse.map pv = s.reverse.map pv ++ [pv q] := by simp
    have t : truth (st ++ [(q :: s).reverse.map pv]) (.ref st.length) = some true := by
      simp only [truth, stk_get]
      rw [hl]
      simp
    have i1 : idxM (.ref st.length) (.int (-1)) (st ++ [(q :: s).reverse.map pv]) = .ok (pv q) (st ++ [(q :: s).reverse.map pv]) := by
      have hx : ixN ((q :: s).reverse.map pv).length (-1) = some s.length := by
        rw [hl]
        simp only [ixN, List.length_append, List.length_map, List.length_reverse, List.length_cons, List.length_nil]
        rw [if_neg (by omega), if_pos (by omega)]
        congr 1
        omega
      simp only [idxM, sqc, stk_get, hx]
      rw [hl, List.getElem?_append_right (by simp)]
      simp
    have e := Le _ _ p.mean q.mean (st ++ [(q :: s).reverse.map pv]) (zp.mean hp.w) (zq.mean hq.w) hb
    have hc : condF C (cPool le) [v0, v1, some (.ref st.length), v3, v4, some (pv p)] (st ++ [(q :: s).reverse.map pv]) = .ok (decide (p.mean ≤ q.mean)) (st ++ [(q :: s).reverse.map pv]) := by
      unfold condF
      simp only [v_and, v_var, List.getElem?_cons_zero, List.getElem?_cons_succ, R.bind_ok, t, v_call, vs_cons, vs_nil, v_idx, v_neg, v_k, idx_p2, i1, e, toTruth_bl]
    by_cases hpq : p.mean ≤ q.mean
    · have hpop : methM .pop (.ref st.length) [] (st ++ [(q :: s).reverse.map pv]) = .ok (pv q) (st ++ [s.reverse.map pv]) := by
        simp only [methM, stk_get]
        rw [hl]
        have h1 : (s.reverse.map pv ++ [pv q])[(s.reverse.map pv ++ [pv q]).length - 1]? = some (pv q) := by simp
        rw [h1]
        simp
      have ej := J q p (st ++ [s.reverse.map pv]) zq zp zqp hq.w hp.w
      have hbd : bodyF C W (bPoolW j) [v0, v1, some (.ref st.length), v3, v4, some (pv p)] (st ++ [(q :: s).reverse.map pv]) = .next [v0, v1, some (.ref st.length), v3, v4, some (pv (q ++ p))] (st ++ [s.reverse.map pv]) := by
        unfold bodyF
        rw [bPoolW, ss_asg (v := pv (q ++ p)) (st1 := st ++ [s.reverse.map pv]) (by simp only [v_call, v_meth, vs_cons, vs_nil, v_var, List.getElem?_cons_zero, List.getElem?_cons_succ, R.bind_ok, isLs_ref, if_true, hpop, ej]) (env1 := [v0, v1, some (.ref st.length), v3, v4, some (pv (q ++ p))]) rfl, ss_nil]
      have ih := pool_while (v0 := v0) (v1 := v1) (v3 := v3) (v4 := v4) Le J hb s (q ++ p) n (fun r hr => hs r (List.mem_cons_of_mem _ hr)) (hq.join hp hpq) (fun _ _ _ _ => trivial) (fun r hr ⟨a, e', he⟩ => hz r hr ⟨a, e', by rw [← he]; simp⟩) (by simp only [List.length_cons] at hn; omega)
      simp only [whileL, hc, hpq, decide_true, R.fl_ok, if_true, hbd]
      rw [ih, popS, if_pos hpq]
    · simp only [whileL, hc, hpq, decide_false, R.fl_ok]
      rw [popS, if_neg hpq]
      simp
theorem mul_one' (a : Rat) : a * 1 = a := Rat.mul_one a
theorem mean_one {z : Rat × Rat} (h : 0 < z.2) : Seg.mean [z] = z.1 ∧ Seg.W [z] = z.2 := by
  have hw : Seg.W [z] = z.2 := by
    unfold Seg.W
    simp
    try grind
  have hm : Seg.M [z] = z.1 * z.2 := by
    unfold Seg.M
    simp
    try grind
  refine ⟨?_, hw⟩
  unfold Seg.mean
  rw [hw, hm, Rat.div_def, Rat.mul_assoc, Rat.mul_inv_cancel _ (by grind), Rat.mul_one]
theorem stk_len {s : List Seg} (h : ∀ q ∈ s, SegOk q) : s.length ≤ s.reverse.flatten.length := by
  induction s with
  | nil => simp
  | cons q s ih =>
    have h1 := ih fun r hr => h r (List.mem_cons_of_mem _ hr)
    have h2 : 0 < q.length := List.length_pos_iff.mpr (h q List.mem_cons_self).ne
    simp only [List.reverse_cons, List.flatten_append, List.length_append, List.flatten_cons, List.flatten_nil, List.length_cons, List.length_nil]
    omega
theorem pool_loop {le j : Nat} {zs : Seg} {v u : MV} (Le : Most2 C le) (J : Joins C j b c N) (hb : (1 + N * (b + c + 1) + (1 + N * (c + 1))) + (1 + N * (b + c + 1) + (1 + N * (c + 1))) ≤ 8900) (hz : SegSz b c N zs) (hp : zs.Pos) (hN : N ≤ 1000) (hW : 2000 ≤ W) :
    ∃ t : Option MV × Option MV × Option MV, forL (.tp [(.nm 3), (.nm 4)]) [] (bodyF C W (bPoolIn le j)) (zs.map fun z => MV.tup [fv z.1, fv z.2]) [some v, some u, some (.ref st.length), none, none, none] (st ++ [[]]) = .next [some v, some u, some (.ref st.length), t.1, t.2.1, t.2.2] (st ++ [(poolS zs).reverse.map pv]) := by
  have hll := line_1e6
  obtain ⟨t, k1, _⟩ := forL_fold (deps := []) (tg := .tp [(.nm 3), (.nm 4)]) (m := fun z : Rat × Rat => MV.tup [fv z.1, fv z.2]) (body := bodyF C W (bPoolIn le j)) (E := fun (_ : List Seg) (t : Option MV × Option MV × Option MV) => [some v, some u, some (.ref st.length), t.1, t.2.1, t.2.2])
    (S := fun s => st ++ [s.reverse.map pv]) (g := fun s z => pushS s [z]) (I := fun i s => StOk s ∧ s.reverse.flatten = zs.take i) (fun _ _ _ => rfl) zs 0 [] (none, none, none) (fun i s t z hzi hI => by
      rw [Nat.zero_add] at hI ⊢
      obtain ⟨h1, h2⟩ := hI
      have hzm := List.mem_of_getElem? hzi
      have hil := (List.getElem?_eq_some_iff.mp hzi).1
      have o1 := SegOk.one (hp z hzm)
      obtain ⟨p1, p2⟩ := push_ok h1 o1
      obtain ⟨m1, m2⟩ := mean_one (hp z hzm)
      have etk : zs.take (i + 1) = zs.take i ++ [z] := by rw [List.take_add_one, hzi]; rfl
      have sl := stk_len h1.ok
      rw [h2, List.length_take] at sl
      have hzl := hz.l
      have w := pool_while (W := W) (v0 := some v) (v1 := some u) (v3 := some (fv z.1)) (v4 := some (fv z.2)) (st := st) Le J hb s [z] W h1.ok o1 (fun _ _ _ _ => trivial) (fun q hq ⟨a, e, he⟩ => by
        rw [h2, ← etk] at he
        have hsub : ∀ y ∈ q, y ∈ zs := fun y hy => List.mem_of_mem_take (i := i + 1) (by rw [he]; simp [hy])
        refine ⟨fun y hy => hz.x y (hsub y hy), ?_⟩
        have := congrArg List.length he
        simp only [List.length_take, List.length_append] at this
        omega) (by omega)
      refine ⟨⟨p1, by rw [p2, h2, etk]⟩, [some v, some u, some (.ref st.length), some (fv z.1), some (fv z.2), t.2.2], (some (fv z.1), some (fv z.2), some (pv (popS s [z]).1)), rfl, ?_⟩
      have ap : methM .append (.ref st.length) [pv (popS s [z]).1] (st ++ [(popS s [z]).2.reverse.map pv]) = .ok .non (st ++ [(pushS s [z]).reverse.map pv]) := by
        have hps : ∀ q ∈ (pushS s [z]), SegOk q := p1.ok
        have sl2 := stk_len hps
        rw [p2, h2, ← etk, List.length_take, push_pop, List.length_cons] at sl2
        rw [app_snoc (by rw [List.length_map, List.length_reverse]; omega), push_pop]
        simp
      unfold bodyF
      rw [bPoolIn, ss_asg (v := pv [z]) (st1 := st ++ [s.reverse.map pv]) (by
        simp only [v_tup, vs_cons, vs_nil, v_k, v_var, List.getElem?_cons_zero, List.getElem?_cons_succ, R.bind_ok]
        unfold pv
        rw [m1, m2]
        rfl) (env1 := [some v, some u, some (.ref st.length), some (fv z.1), some (fv z.2), some (pv [z])]) rfl, ss_while w, ss_expr (app_gen (y := pv (popS s [z]).1) rfl (by simp only [v_var, List.getElem?_cons_zero, List.getElem?_cons_succ]) ap), ss_nil]) ⟨⟨fun p hp => absurd hp (by simp), .nil⟩, by simp⟩
  exact ⟨t, k1⟩
theorem e_pool {le j : Nat} {xs ws : List Rat} (Le : Most2 C le) (J : Joins C j b c N) (hb : (1 + N * (b + c + 1) + (1 + N * (c + 1))) + (1 + N * (b + c + 1) + (1 + N * (c + 1))) ≤ 8900) (hz : SegSz b c N (xs.zip ws)) (hp : Seg.Pos (xs.zip ws)) (hN : N ≤ 1000) (hW : 2000 ≤ W) (hs : f.slots = 6) :
    eSs C W (bPool le j) (startE f [.lst (xs.map fv), .lst (ws.map fv)]) st = .ret (.ref st.length) (st ++ [(poolS (xs.zip ws)).reverse.map pv]) := by
  have hst : startE f [.lst (xs.map fv), .lst (ws.map fv)] = [some (.lst (xs.map fv)), some (.lst (ws.map fv)), none, none, none, none] := by simp [startE, hs]
  obtain ⟨t, k1⟩ := pool_loop (W := W) (v := .lst (xs.map fv)) (u := .lst (ws.map fv)) (st := st) Le J hb hz hp hN hW
  rw [hst, bPool, ss_asg (v := .ref st.length) (st1 := st ++ [[]]) (by simp only [v_lst, vs_nil, R.bind_ok, mkL_new]) (env1 := [some (.lst (xs.map fv)), some (.lst (ws.map fv)), some (.ref st.length), none, none, none]) rfl,
    ss_for (vs := [.lst (xs.map fv), .lst (ws.map fv)]) (st1 := st ++ [[]]) (by simp) (by simp only [itemsM, srcL, zip2_map]; rfl) k1]
  exact ss_ret (by simp)
theorem fz_pvs {n0 n : Nat} {st : Store} : ∀ qs : List Seg, optMap (fz n0 st (n + 2)) (qs.map pv) = some (qs.map pv)
  | [] => rfl
  | q :: qs => by
    have e : fz n0 st (n + 2) (pv q) = some (pv q) := by simp [pv, fv, fz, optMap]
    simp only [List.map_cons, optMap, e, fz_pvs qs]
def Pools (C : Fns) (i b c N : Nat) : Prop := ∀ (xs ws : List Rat) (st : Store), SegSz b c N (xs.zip ws) → Seg.Pos (xs.zip ws) → C i [.lst (xs.map fv), .lst (ws.map fv)] st = .ok (.lst ((poolS (xs.zip ws)).reverse.map pv)) st
theorem pools_ok {fs : List Fn} {d i le j : Nat} (hf : fs[i]? = some f) (hbd : f.body = bPool le j) (hs : f.slots = 6) (har : f.arity = 2) (hk : f.keep = false) (Le : Most2 (callF fs W d) le) (J : Joins (callF fs W d) j b c N) (hb : (1 + N * (b + c + 1) + (1 + N * (c + 1))) + (1 + N * (b + c + 1) + (1 + N * (c + 1))) ≤ 8900) (hN : N ≤ 1000) (hW : 2000 ≤ W) : Pools (callF fs W (d + 1)) i b c N := fun xs ws st hz hp => by
  have e := e_pool (W := W) (f := f) (st := st) Le J hb hz hp hN hW hs
  rw [← hbd] at e
  refine callF_fzv hf (by rw [har]; rfl) (by omega) hk e (by simp) ?_ (by simp)
  show fz _ _ (17 + 2 + 1) _ = _
  simp only [fz, Nat.lt_irrefl, if_false, stk_get, fz_pvs]
/-! ### written out again -/
abbrev bExpanded : List MS := [.ret (.comp2 false [1, 2] (.idx (.var 1) (.k (.int 2))) (.nm 1) .seq [(.var 0)] [2] (.nm 2) .range [(.idx (.var 1) (.k (.int 0)))])]
/-- one turn of the outer loop -/
theorem turnO_of {own own2 : List Nat} {elt : ME} {tg tg2 : Tg} {ik2 : IK} {src2 : List ME} {env env1 : MP.Env} {x : MV} {acc vs2 L ys : List MV} (e1 : asgT tg x (wipeE own env) = some env1) (e2 : eEs C src2 env1 st = .ok vs2 st) (e3 : itemsM ik2 vs2 st = some (L, [])) (e4 : compL [] (turnJ C elt own2 tg2 env1) L acc.reverse st = .ok ys st) : turnO C own elt tg own2 tg2 ik2 src2 env x acc st = .ok ys st := by
  have a1 : turnO C own elt tg own2 tg2 ik2 src2 env x acc st = (eEs C src2 env1 st).noX.bind fun vs2 s2 => match itemsM ik2 vs2 s2 with
    | none => .stuck
    | some (items2, deps2) => compL deps2 (turnJ C elt own2 tg2 env1) items2 acc.reverse s2 := by
    unfold turnO
    rw [e1]
  have a2 : ∀ (r : Option (List MV × Deps)) (L : List MV), r = some (L, []) → (match r with
    | none => R.stuck
    | some (items2, deps2) => compL deps2 (turnJ C elt own2 tg2 env1) items2 acc.reverse st) = compL [] (turnJ C elt own2 tg2 env1) L acc.reverse st := fun r L h => by rw [h]
  rw [a1, e2, R.noX_ok, R.bind_ok]
  exact (a2 _ _ e3).trans e4
theorem line_2e6 : (2000000 : Nat) ≤ line := by decide
theorem exp_turn {s : Seg} {v : MV} {acc : List MV} (ha : acc.length ≤ 1000000) (hsl : s.length ≤ 1000) : turnO C [1, 2] (.idx (.var 1) (.k (.int 2))) (.nm 1) [2] (.nm 2) .range [(.idx (.var 1) (.k (.int 0)))] [some v, none, none] (pv s) acc st = .ok (acc ++ List.replicate s.length (fv s.mean)) st := by
  have hll := line_2e6
  have e1 : asgT (.nm 1) (pv s) (wipeE [1, 2] [some v, none, none]) = some [some v, some (pv s), none] := rfl
  have e2 : eEs C [(.idx (.var 1) (.k (.int 0)))] [some v, some (pv s), none] st = .ok [.int (s.length : Int)] st := by
    simp only [vs_cons, vs_nil, v_idx, v_var, v_k, List.getElem?_cons_zero, List.getElem?_cons_succ, R.bind_ok, idx_p0]
  have e4 := rgN (st := st) (n := s.length) (by omega)
  have e5 := compL_acc (st := st) (m := fun k : Nat => MV.int (0 + (k : Int))) (turn := turnJ C (.idx (.var 1) (.k (.int 2))) [2] (.nm 2) [some v, some (pv s), none]) (List.range s.length) acc (g := fun _ => fv s.mean) (fun k _ => by
    have e3 : asgT (.nm 2) (.int (0 + (k : Int))) (wipeE [2] [some v, some (pv s), none]) = some [some v, some (pv s), some (.int (0 + (k : Int)))] := rfl
    simp only [turnJ, e3, v_idx, v_var, v_k, List.getElem?_cons_zero, List.getElem?_cons_succ, R.bind_ok, idx_p2, R.noX_ok]) (by rw [List.length_range]; omega)
  rw [List.map_const', List.length_range] at e5
  exact turnO_of e1 e2 e4 e5
theorem rowOf_fv {segs : List Seg} : (rowOf segs).map fv = segs.flatMap fun s => List.replicate s.length (fv s.mean) := by
  unfold rowOf
  rw [List.map_flatMap]
  congr 1
  funext s
  simp
theorem e_expanded {segs : List Seg} (hs : f.slots = 3) (hl : segs.flatten.length ≤ 1000) : eSs C W bExpanded (startE f [.lst (segs.map pv)]) st = .ret (.lst ((rowOf segs).map fv)) st := by
  have hst : startE f [.lst (segs.map pv)] = [some (.lst (segs.map pv)), none, none] := by simp [startE, hs]
  have hrl := row_len segs
  have sl : ∀ s ∈ segs, s.length ≤ 1000 := fun s hs => by
    have := (List.sublist_flatten_of_mem hs).length_le
    omega
  have hlen : (segs.flatMap fun s => List.replicate s.length (fv s.mean)).length ≤ 1000000 := by rw [← rowOf_fv, List.length_map, hrl]; omega
  rw [hst, bExpanded, rowOf_fv]
  exact ss_ret (comp2_map (l := segs) (m := pv) (F := fun s => List.replicate s.length (fv s.mean)) (vs := [.lst (segs.map pv)]) (by simp) rfl hlen (fun s hs acc ha => exp_turn ha (sl s hs)))
end
end MP

/-! MiniBn: bent and odd answers of the laws, at any plain value. -/
namespace MP
open PySem
open scoped Rat
theorem vk_fv {b n : Nat} {q : Rat} (h : Sz b q) : Vk b (n + 1) (fv q) := by
  refine ⟨by simp, fun x hx => ?_⟩
  simp only [List.mem_cons, List.mem_singleton, List.not_mem_nil, or_false] at hx
  rcases hx with rfl | rfl
  · cases n <;> exact h.1
  · cases n <;> exact h.den
theorem vk_up {b c : Nat} (hbc : b ≤ c) : ∀ {n m : Nat} {v : MV}, Vk b n v → n ≤ m → Vk c m v := by
  intro n
  induction n with
  | zero =>
    intro m v h _
    cases v <;> cases m <;> first | trivial | exact h.elim | exact lt_up h hbc
  | succ n ih =>
    intro m v h hm
    obtain ⟨k, rfl⟩ : ∃ k, m = k + 1 := ⟨m - 1, by omega⟩
    cases v with
    | tup xs => exact ⟨h.1, fun x hx => ih (h.2 x hx) (by omega)⟩
    | lst xs => exact ⟨h.1, fun x hx => ih (h.2 x hx) (by omega)⟩
    | int i => exact lt_up h hbc
    | ref a => exact h.elim
    | scr a => exact h.elim
    | _ => trivial
theorem fz_vk {b n0 : Nat} {st : Store} : ∀ {n m : Nat} {v : MV}, Vk b n v → n ≤ m → fz n0 st m v = some v := by
  intro n
  induction n with
  | zero =>
    intro m v h _
    cases v <;> cases m <;> first | rfl | exact h.elim
  | succ n ih =>
    intro m v h hm
    obtain ⟨k, rfl⟩ : ∃ k, m = k + 1 := ⟨m - 1, by omega⟩
    have all : ∀ (xs : List MV), (∀ x ∈ xs, Vk b n x) → optMap (fz n0 st k) xs = some xs := by
      intro xs
      induction xs with
      | nil => intro _; rfl
      | cons x xs ihx =>
        intro hx
        simp only [optMap, ih (hx x (by simp)) (show n ≤ k by omega), ihx fun y hy => hx y (by simp [hy])]
    cases v with
    | tup xs => simp only [fz, all xs h.2]
    | lst xs => simp only [fz, all xs h.2]
    | ref a => exact h.elim
    | scr a => exact h.elim
    | _ => rfl
theorem idx_in {v : MV} {xs : List MV} {i : Int} {st : Store} (hv : sqc st v = some xs) (h1 : -(xs.length : Int) ≤ i) (h2 : i < xs.length) : ∃ y ∈ xs, idxM v (.int i) st = .ok y st := by
  by_cases h0 : 0 ≤ i
  · have hlt : i.toNat < xs.length := by omega
    refine ⟨xs[i.toNat], List.getElem_mem hlt, ?_⟩
    simp only [idxM, hv, ixN, if_pos h0, if_pos h2, List.getElem?_eq_getElem hlt]
  · have hlt : (i + xs.length).toNat < xs.length := by omega
    refine ⟨xs[(i + xs.length).toNat], List.getElem_mem hlt, ?_⟩
    simp only [idxM, hv, ixN, if_neg h0, if_pos h1, List.getElem?_eq_getElem hlt]
theorem cut_mem {xs : List MV} {lo hi : Option Int} : ∀ x ∈ cutM xs lo hi, x ∈ xs := fun x hx => List.mem_of_mem_drop (List.mem_of_mem_take hx)
theorem cut_len {xs : List MV} {lo hi : Option Int} : (cutM xs lo hi).length ≤ xs.length := by
  unfold cutM
  rw [List.length_take, List.length_drop]
  omega
theorem fv_half : MV.tup [.int 1, .int 2] = fv (mkRat 1 2) := by rfl
theorem fv_third : MV.tup [.int 1, .int 3] = fv (mkRat 1 3) := by rfl
theorem sz_half : Sz 2 (mkRat 1 2) := ⟨by decide, by decide⟩
theorem sz_third : Sz 2 (mkRat 1 3) := ⟨by decide, by decide⟩
theorem gcd_fv (q : Rat) : gcdI q.num q.den = 1 := by
  unfold gcdI
  rw [Int.natAbs_natCast]
  have := q.reduced
  unfold Nat.Coprime at this
  rw [this]
  rfl
/-- the law's _law_is_frac -/
def isFrM : MV → Bool
  | .tup [.int n, .int d] => decide (0 < d) && decide (gcdI n d = 1)
  | _ => false
theorem isFr_fv {v : MV} (h : isFrM v = true) : ∃ q : Rat, v = fv q := by
  unfold isFrM at h
  split at h
  · rename_i n d
    simp only [Bool.and_eq_true, decide_eq_true_eq] at h
    obtain ⟨hd, hg⟩ := h
    refine ⟨n /. d, ?_⟩
    have e1 := num_divInt' (n := n) hd
    have e2 := den_divInt' (n := n) hd
    have hg' : (Int.gcd n d : Int) = 1 := hg
    unfold fv
    rw [e1, e2, hg', Int.ediv_one, Int.ediv_one]
  · cases h
theorem isFr_of (q : Rat) : isFrM (fv q) = true := by
  show (decide (0 < (q.den : Int)) && decide (gcdI q.num q.den = 1)) = true
  rw [gcd_fv, decide_eq_true (den_pos q)]
  rfl
section
variable {C : Fns} {W : Nat} {f : Fn} {st : Store}
def IsFr (C : Fns) (i : Nat) : Prop := ∀ (b n : Nat) (v : MV) (st : Store), b ≤ 8900 → Vk b n v → C i [v] st = .ok (.bl (isFrM v)) st
abbrev bIsFr (q g : Nat) : List MS := [.ite (.orE (.notE (.isi [.tuple] (.var 0))) (.cmp .ne (.blt .len false [(.var 0)]) (.k (.int 2)))) [.ret (.k (.bl false))] [], .ite (.orE (.notE (.call q [(.idx (.var 0) (.k (.int 0)))])) (.notE (.call q [(.idx (.var 0) (.k (.int 1)))]))) [.ret (.k (.bl false))] [], .ret (.andE (.cmp .gt (.idx (.var 0) (.k (.int 1))) (.k (.int 0))) (.cmp .eq (.call g [(.idx (.var 0) (.k (.int 0))), (.idx (.var 0) (.k (.int 1)))]) (.k (.int 1))))]
theorem fr_not {v : MV} {b n : Nat} (hv : Vk b n v) (h : ∀ xs, v ≠ .tup xs) : isTy v .tuple = false ∧ isFrM v = false := by
  cases v with
  | tup xs => exact absurd rfl (h xs)
  | _ => exact ⟨rfl, rfl⟩
theorem isi_vk {ts : List Ty} {v : MV} {b n i : Nat} {env : Env} (hv : Vk b n v) (h : env[i]? = some (some v)) : eE C (.isi ts (.var i)) env st = .ok (.bl (ts.any (isTy v))) st := by
  have hns := hv.noScr
  rw [v_isi, v_var, h]
  cases v <;> first | rfl | cases hns
theorem e_isFr {q g : Nat} {v : MV} {b n : Nat} (Q : IsInt C q) (G : ∀ (a b : Int) (st : Store), b.natAbs < 2 ^ 8900 → C g [.int a, .int b] st = .ok (.int (gcdI a b)) st) (hs : f.slots = 1) (hb : b ≤ 8900) (hv : Vk b n v) : eSs C W (bIsFr q g) (startE f [v]) st = .ret (.bl (isFrM v)) st := by
  have hst : startE f [v] = [some v] := by simp [startE, hs]
  rw [hst]
  have t0 := isi_vk (C := C) (st := st) (ts := [.tuple]) (i := 0) (env := [some v]) hv rfl
  by_cases ht : ∃ xs, v = .tup xs
  · obtain ⟨xs, rfl⟩ := ht
    have hxv : ∀ x ∈ xs, ∃ m, Vk b m x := fun x hx => by
      cases n with
      | zero => exact hv.elim
      | succ n => exact ⟨n, hv.2 x hx⟩
    have t1 : bltM .len false [.tup xs] st = .ok (.int (xs.length : Int)) st := rfl
    have t0' : eE C (.isi [.tuple] (.var 0)) [some (.tup xs)] st = .ok (.bl true) st := t0
    have c1 : toTruth (eE C (.orE (.notE (.isi [.tuple] (.var 0))) (.cmp .ne (.blt .len false [(.var 0)]) (.k (.int 2)))) [some (.tup xs)] st) = .ok (!decide ((xs.length : Int) = 2)) st := by
      rw [v_or, v_not, t0']
      simp only [toTruth_bl, R.bind_ok, Bool.not_true, truth_bl, v_cmp, v_blt, vs_cons, vs_nil, v_var, v_k, List.getElem?_cons_zero, t1, cmpM, eqM_int, Option.map_some]
    by_cases h2 : (xs.length : Int) = 2
    · rw [decide_eq_true h2] at c1
      obtain ⟨x, y, rfl⟩ : ∃ x y, xs = [x, y] := by
        match xs, h2 with
        | [x, y], _ => exact ⟨x, y, rfl⟩
        | [], h => simp at h
        | [x], h => simp at h
        | x :: y :: z :: l, h => simp at h; omega
      obtain ⟨m1, hx⟩ := hxv x (by simp)
      obtain ⟨m2, hy⟩ := hxv y (by simp)
      have n1 := Q x st hx.noScr
      have n2 := Q y st hy.noScr
      have i0 : idxM (.tup [x, y]) (.int 0) st = .ok x st := rfl
      have i1 : idxM (.tup [x, y]) (.int 1) st = .ok y st := rfl
      have c2 : toTruth (eE C (.orE (.notE (.call q [(.idx (.var 0) (.k (.int 0)))])) (.notE (.call q [(.idx (.var 0) (.k (.int 1)))]))) [some (.tup [x, y])] st) = .ok (!isIntM x || !isIntM y) st := by
        simp only [v_or, v_not, v_call, vs_cons, vs_nil, v_idx, v_var, v_k, List.getElem?_cons_zero, R.bind_ok, i0, i1, n1, n2, toTruth_bl, truth_bl]
        cases isIntM x <;> simp [toTruth_bl]
      rw [bIsFr, ite_f c1]
      by_cases hi : ∃ a c, x = .int a ∧ y = .int c
      · obtain ⟨a, c, rfl, rfl⟩ := hi
        have hcz : c.natAbs < 2 ^ b := by cases m2 <;> exact hy
        have gg := G a c st (lt_up hcz hb)
        rw [ite_f c2]
        refine ss_ret ?_
        show _ = R.ok (MV.bl (decide (0 < c) && decide (gcdI a c = 1))) st
        simp only [v_and, v_cmp, v_call, vs_cons, vs_nil, v_idx, v_var, v_k, List.getElem?_cons_zero, R.bind_ok, i0, i1, cmpM, truth_bl, gg, eqM_int]
        by_cases hc : 0 < c <;> simp [hc]
      · have hb2 : (!isIntM x || !isIntM y) = true := by
          cases x with
          | int a =>
            cases y with
            | int c => exact absurd ⟨a, c, rfl, rfl⟩ hi
            | _ => rfl
          | _ => rfl
        have hf : isFrM (.tup [x, y]) = false := by
          unfold isFrM
          split
          · rename_i n d e
            injection e with e
            injection e with e1 e2
            injection e2 with e2 _
            exact absurd ⟨n, d, e1, e2⟩ hi
          · rfl
        rw [hb2] at c2
        rw [hf]
        exact ite_ret c2 (ss_ret (by rw [v_k]))
    · rw [decide_eq_false h2] at c1
      have hf : isFrM (.tup xs) = false := by
        unfold isFrM
        split
        · rename_i n d e
          injection e with e
          rw [e] at h2
          exact absurd rfl h2
        · rfl
      rw [bIsFr, hf]
      exact ite_ret c1 (ss_ret (by rw [v_k]))
  · obtain ⟨h1, h2⟩ := fr_not hv fun xs e => ht ⟨xs, e⟩
    have hany : [Ty.tuple].any (isTy v) = false := by simp [h1]
    rw [hany] at t0
    have c1 : toTruth (eE C (.orE (.notE (.isi [.tuple] (.var 0))) (.cmp .ne (.blt .len false [(.var 0)]) (.k (.int 2)))) [some v] st) = .ok true st := by
      rw [v_or, v_not, t0]
      simp only [toTruth_bl, R.bind_ok, Bool.not_false, truth_bl]
    rw [bIsFr, h2]
    exact ite_ret c1 (ss_ret (by rw [v_k]))
end
end MP

/-! MiniBo: set, odd, bent. -/
namespace MP
open PySem
open scoped Rat
/-- a list of constants, one of them drawn -/
theorem pick_lst {C : Fns} {es : List ME} {L : List MV} {env : MP.Env} {st st' : Store} {n : Nat} {r : Int} {ce : ME} (he : eEs C es env st = .ok L st) (hl : L.length = n) (hn : n ≤ 1000) (h0 : 0 ≤ r) (h1 : r < n) (hc : eE C ce env st = .ok (.int r) st') : ∃ v ∈ L, eE C (.idx (.lstE false es) ce) env st = .ok v st' := by
  obtain ⟨v, hv, e⟩ := idx_in (v := .lst L) (xs := L) (i := r) (st := st') rfl (by omega) (by omega)
  refine ⟨v, hv, ?_⟩
  have hL : L.length ≤ line := by have := line_1e6; omega
  simp only [v_idx, v_lst, he, R.bind_ok, mkL, hL, if_true, Bool.false_eq_true, if_false, hc, e]
abbrev bSet : List MS := [.asg (.nm 3) (.blt .list true [(.var 0)]), .store (.var 3) (.var 1) (.var 2), .ret (.blt .tuple false [(.var 3)])]
theorem set_vk {b n : Nat} {xs : List MV} {j : Nat} {v : MV} (hx : Vk b (n + 1) (.tup xs)) (hv : Vk b n v) : Vk b (n + 1) (.tup (xs.set j v)) := by
  refine ⟨by rw [List.length_set]; exact hx.1, fun x hxm => ?_⟩
  rcases List.mem_or_eq_of_mem_set hxm with hm | rfl
  · exact hx.2 x hm
  · exact hv
theorem setTup_ok {fs : List Fn} {W d s b n : Nat} {f : Fn} {xs : List MV} {i : Nat} {v : MV} {st : Store} (hf : fs[s]? = some f) (hbd : f.body = bSet) (hs : f.slots = 4) (har : f.arity = 3) (hk : f.keep = false) (hx : Vk b (n + 1) (.tup xs)) (hv : Vk b n v) (hn : n ≤ 18) (h1 : i < xs.length) : callF fs W (d + 1) s [.tup xs, .int (i : Int), v] st = .ok (.tup (xs.set i v)) st := by
  have hL : xs.length ≤ line := by have := line_1e6; have := hx.1; omega
  have hst : startE f [.tup xs, .int (i : Int), v] = [some (.tup xs), some (.int (i : Int)), some v, none] := by simp [startE, hs]
  have g1 : eE (callF fs W d) (.blt .list true [(.var 0)]) [some (.tup xs), some (.int (i : Int)), some v, none] st = .ok (.ref st.length) (st ++ [xs]) := by
    simp only [v_blt, vs_cons, vs_nil, v_var, List.getElem?_cons_zero, R.bind_ok, bltM, sqc, mkL, hL, if_true]
  have hset : setM (.ref st.length) (.int (i : Int)) v (st ++ [xs]) = some (st ++ [xs.set i v]) := by
    have e1 : (st ++ [xs])[st.length]? = some xs := by simp
    have e2 : (st ++ [xs]).set st.length (xs.set i v) = st ++ [xs.set i v] := by simp
    have e3 : ixN xs.length (i : Int) = some i := ixN_nat (by omega) (by omega)
    simp only [setM, e1, e3, e2]
  have hget : (st ++ [xs.set i v])[st.length]? = some (xs.set i v) := by simp
  have hb : eSs (callF fs W d) W f.body (startE f [.tup xs, .int (i : Int), v]) st = .ret (.tup (xs.set i v)) (st ++ [xs.set i v]) := by
    rw [hst, hbd, bSet, ss_asg g1 (env1 := [some (.tup xs), some (.int (i : Int)), some v, some (.ref st.length)]) rfl]
    have hs2 : eS (callF fs W d) W (.store (.var 3) (.var 1) (.var 2)) [some (.tup xs), some (.int (i : Int)), some v, some (.ref st.length)] (st ++ [xs]) = .next [some (.tup xs), some (.int (i : Int)), some v, some (.ref st.length)] (st ++ [xs.set i v]) := by
      simp only [s_store, v_var, List.getElem?_cons_zero, List.getElem?_cons_succ, R.fl_ok, hset]
    rw [ss_cons, hs2]
    refine ss_ret ?_
    simp only [v_blt, vs_cons, vs_nil, v_var, List.getElem?_cons_zero, List.getElem?_cons_succ, R.bind_ok, bltM, sqc, hget]
  refine callF_fz (f := f) hf (by rw [har]; rfl) (by omega) hk hb ?_ (by simp)
  exact fz_vk (set_vk (j := i) hx hv) (by show n + 1 ≤ 20; omega)
abbrev bOdd (t : Nat) : List MS := [.ret (.idx (.lstE false [(.k (.non)), (.k (.int 5)), (.k (.str "ab")), (.tupE []), (.tupE [(.k (.int 1)), (.k (.int 2))]), (.tupE [(.tupE [(.k (.int 1)), (.k (.int 2))]), (.k (.int 3))]), (.tupE [(.k (.str "line")), (.k (.int 0)), (.k (.int 0))]), (.lstE false [(.lstE false []), (.lstE false [])]), (.k (.bl true)), (.tupE [(.tupE [])]), (.tupE [(.k (.str "ring")), (.tupE [])]), (.neg (.k (.int 1)))]) (.call t [(.var 0), (.var 1), (.k (.int 12))]))]
theorem e_odd {C : Fns} {W t : Nat} {f : Fn} {row : MV} {a : Nat} {st0 st : Store} (T : Takes C t) (hs : f.slots = 2) (hr : Row row) (hsp : Spot a st0 st) : ∃ v st', eSs C W (bOdd t) (startE f [row, .ref a]) st = .ret v st' ∧ Spot a st0 st' ∧ Vk 3 2 v := by
  obtain ⟨r, s1, p1, p2, p3, p4⟩ := T row a 12 st0 st hr hsp (by decide)
  have he : eEs C [(.k (.non)), (.k (.int 5)), (.k (.str "ab")), (.tupE []), (.tupE [(.k (.int 1)), (.k (.int 2))]), (.tupE [(.tupE [(.k (.int 1)), (.k (.int 2))]), (.k (.int 3))]), (.tupE [(.k (.str "line")), (.k (.int 0)), (.k (.int 0))]), (.lstE false [(.lstE false []), (.lstE false [])]), (.k (.bl true)), (.tupE [(.tupE [])]), (.tupE [(.k (.str "ring")), (.tupE [])]), (.neg (.k (.int 1)))] [some row, some (.ref a)] st =
      .ok [.non, .int 5, .str "ab", .tup [], .tup [.int 1, .int 2], .tup [.tup [.int 1, .int 2], .int 3], .tup [.str "line", .int 0, .int 0], .lst [.lst [], .lst []], .bl true, .tup [.tup []], .tup [.str "ring", .tup []], .int (-1)] st := rfl
  have hc : eE C (.call t [(.var 0), (.var 1), (.k (.int 12))]) [some row, some (.ref a)] st = .ok (.int r) s1 := by
    simp only [v_call, vs_cons, vs_nil, v_var, v_k, List.getElem?_cons_zero, List.getElem?_cons_succ, R.bind_ok, p3]
  obtain ⟨v, hv, e⟩ := pick_lst (n := 12) he rfl (by decide) p1 (by omega) hc
  have hst : startE f [row, .ref a] = [some row, some (.ref a)] := by simp [startE, hs]
  refine ⟨v, s1, ?_, p4, ?_⟩
  · rw [hst, bOdd]
    exact ss_ret e
  · simp only [List.mem_cons, List.not_mem_nil, or_false] at hv
    rcases hv with rfl | rfl | rfl | rfl | rfl | rfl | rfl | rfl | rfl | rfl | rfl | rfl <;> simp [Vk]
abbrev bBentT (i t s : Nat) : List MS := [.asg (.nm 3) (.call t [(.var 0), (.var 1), (.k (.int 8))]), .ite (.cmp .eq (.var 3) (.k (.int 0))) [.ret (.slc false (.var 2) (.k (.non)) (.neg (.k (.int 1))))] [], .ite (.cmp .eq (.var 3) (.k (.int 1))) [.ret (.bin .add false (.var 2) (.tupE [(.idx (.var 2) (.neg (.k (.int 1))))]))] [], .ite (.cmp .eq (.var 3) (.k (.int 2))) [.ret (.blt .list false [(.var 2)])] [], .asg (.nm 4) (.call t [(.var 0), (.var 1), (.blt .len false [(.var 2)])]), .ret (.call s [(.var 2), (.var 4), (.call i [(.var 0), (.var 1), (.idx (.var 2) (.var 4))])])]
abbrev bBent (i t s fr pl mi ng nm : Nat) : List MS := [.ite (.call fr [(.var 2)]) [.ret (.idx (.lstE false [(.call pl [(.var 2), (.tupE [(.k (.int 1)), (.k (.int 2))])]), (.call mi [(.var 2), (.tupE [(.k (.int 1)), (.k (.int 3))])]), (.tupE [(.bin .mul false (.idx (.var 2) (.k (.int 0))) (.k (.int 2))), (.bin .mul false (.idx (.var 2) (.k (.int 1))) (.k (.int 2)))]), (.k (.non)), (.k (.str "x")), (.call ng [(.var 2)])]) (.call t [(.var 0), (.var 1), (.k (.int 6))]))] [],
  .ite (.andE (.isi [.tuple] (.var 2)) (.cmp .gt (.blt .len false [(.var 2)]) (.k (.int 0)))) (bBentT i t s) [],
  .ite (.call nm [(.var 2)]) [.ret (.idx (.lstE false [(.bin .add false (.var 2) (.k (.int 1))), (.bin .sub false (.var 2) (.k (.int 1))), (.k (.non)), (.k (.str "x"))]) (.call t [(.var 0), (.var 1), (.k (.int 4))]))] [],
  .ite (.isi [.str] (.var 2)) [.ret (.idx (.lstE false [(.k (.str "heights")), (.k (.str "ring")), (.k (.str "line")), (.k (.str "bar")), (.k (.str "end")), (.k (.int 5))]) (.call t [(.var 0), (.var 1), (.k (.int 6))]))] [],
  .ret (.idx (.lstE false [(.k (.non)), (.k (.int 3)), (.k (.str "no")), (.tupE [])]) (.call t [(.var 0), (.var 1), (.k (.int 4))]))]
/-- no part is long -/
def Nw : Nat → MV → Prop
  | n + 1, .tup xs => xs.length ≤ 900 ∧ ∀ x ∈ xs, Nw n x
  | _, _ => True
theorem vk_str {b n : Nat} {s : String} : Vk b n (.str s) := by cases n <;> trivial
theorem vk_non {b n : Nat} : Vk b n .non := by cases n <;> trivial
theorem vk_int {b n : Nat} {i : Int} (h : i.natAbs < 2 ^ b) : Vk b n (.int i) := by cases n <;> exact h
section
variable {C : Fns} {W t : Nat} {row : MV} {a : Nat} {st0 st : Store}
theorem bent_frac {pl mi ng : Nat} {b : Nat} {q : Rat} (T : Takes C t) (P : Bin2 C pl (· + ·)) (M : Bin2 C mi (· - ·)) (N : Neg1 C ng) (hr : Row row) (hs : Spot a st0 st) (hq : Sz b q) (hb : b + 3 ≤ 8900) :
    ∃ v st', eE C (.idx (.lstE false [(.call pl [(.var 2), (.tupE [(.k (.int 1)), (.k (.int 2))])]), (.call mi [(.var 2), (.tupE [(.k (.int 1)), (.k (.int 3))])]), (.tupE [(.bin .mul false (.idx (.var 2) (.k (.int 0))) (.k (.int 2))), (.bin .mul false (.idx (.var 2) (.k (.int 1))) (.k (.int 2)))]), (.k (.non)), (.k (.str "x")), (.call ng [(.var 2)])]) (.call t [(.var 0), (.var 1), (.k (.int 6))])) [some row, some (.ref a), some (fv q), none, none] st = .ok v st' ∧ Spot a st0 st' ∧ Vk (b + 3) 1 v := by
  obtain ⟨r, s1, p1, p2, p3, p4⟩ := T row a 6 st0 st hr hs (by decide)
  have m1 := P b 2 q (mkRat 1 2) st hq sz_half (by omega)
  have m2 := M b 2 q (mkRat 1 3) st hq sz_third (by omega)
  have m3 := N q st
  have i0 := idx_fv0 (st := st) (q := q)
  have i1 := idx_fv1 (st := st) (q := q)
  have u1 : mulOk q.num 2 = true := mulOk_r (by decide)
  have u2 : mulOk (q.den : Int) 2 = true := mulOk_r (by decide)
  have mk : ∀ x y : MV, mkT [x, y] st = .ok (.tup [x, y]) st := fun x y => rfl
  have he : eEs C [(.call pl [(.var 2), (.tupE [(.k (.int 1)), (.k (.int 2))])]), (.call mi [(.var 2), (.tupE [(.k (.int 1)), (.k (.int 3))])]), (.tupE [(.bin .mul false (.idx (.var 2) (.k (.int 0))) (.k (.int 2))), (.bin .mul false (.idx (.var 2) (.k (.int 1))) (.k (.int 2)))]), (.k (.non)), (.k (.str "x")), (.call ng [(.var 2)])] [some row, some (.ref a), some (fv q), none, none] st =
      .ok [fv (q + mkRat 1 2), fv (q - mkRat 1 3), .tup [.int (q.num * 2), .int ((q.den : Int) * 2)], .non, .str "x", fv (-q)] st := by
    simp only [vs_cons, vs_nil, v_call, v_tup, v_bin, v_idx, v_var, v_k, List.getElem?_cons_zero, List.getElem?_cons_succ, R.bind_ok, mk, fv_half, fv_third, m1, m2, m3, i0, i1, binM, u1, u2, if_true]
  have hc : eE C (.call t [(.var 0), (.var 1), (.k (.int 6))]) [some row, some (.ref a), some (fv q), none, none] st = .ok (.int r) s1 := by
    simp only [v_call, vs_cons, vs_nil, v_var, v_k, List.getElem?_cons_zero, List.getElem?_cons_succ, R.bind_ok, p3]
  obtain ⟨v, hv, e⟩ := pick_lst (n := 6) he rfl (by decide) p1 (by omega) hc
  refine ⟨v, s1, e, p4, ?_⟩
  simp only [List.mem_cons, List.not_mem_nil, or_false] at hv
  rcases hv with rfl | rfl | rfl | rfl | rfl | rfl
  · exact vk_fv ((hq.add sz_half).up (by omega))
  · exact vk_fv ((hq.sub sz_third).up (by omega))
  · refine ⟨by simp, fun x hx => ?_⟩
    simp only [List.mem_cons, List.not_mem_nil, or_false] at hx
    have g1 := natAbs_mul_lt (i := q.num) (j := 2) (b := b) (c := 2) hq.1 (by decide)
    have g2 := natAbs_mul_lt (i := (q.den : Int)) (j := 2) (b := b) (c := 2) hq.den (by decide)
    rcases hx with rfl | rfl
    · exact vk_int (lt_up g1 (by omega))
    · exact vk_int (lt_up g2 (by omega))
  · exact vk_non
  · exact vk_str
  · exact vk_fv (hq.neg.up (by omega))
theorem two_le (b : Nat) : (8 : Nat) ≤ 2 ^ (b + 3) := by
  have : (2 : Nat) ^ 3 ≤ 2 ^ (b + 3) := Nat.pow_le_pow_right (by decide) (by omega)
  exact this
theorem bent_int {b : Nat} {i : Int} (T : Takes C t) (hr : Row row) (hs : Spot a st0 st) (hi : i.natAbs < 2 ^ b) :
    ∃ v st', eE C (.idx (.lstE false [(.bin .add false (.var 2) (.k (.int 1))), (.bin .sub false (.var 2) (.k (.int 1))), (.k (.non)), (.k (.str "x"))]) (.call t [(.var 0), (.var 1), (.k (.int 4))])) [some row, some (.ref a), some (.int i), none, none] st = .ok v st' ∧ Spot a st0 st' ∧ Vk (b + 3) 1 v := by
  obtain ⟨r, s1, p1, p2, p3, p4⟩ := T row a 4 st0 st hr hs (by decide)
  have he : eEs C [(.bin .add false (.var 2) (.k (.int 1))), (.bin .sub false (.var 2) (.k (.int 1))), (.k (.non)), (.k (.str "x"))] [some row, some (.ref a), some (.int i), none, none] st = .ok [.int (i + 1), .int (i - 1), .non, .str "x"] st := rfl
  have hc : eE C (.call t [(.var 0), (.var 1), (.k (.int 4))]) [some row, some (.ref a), some (.int i), none, none] st = .ok (.int r) s1 := by
    simp only [v_call, vs_cons, vs_nil, v_var, v_k, List.getElem?_cons_zero, List.getElem?_cons_succ, R.bind_ok, p3]
  obtain ⟨v, hv, e⟩ := pick_lst (n := 4) he rfl (by decide) p1 (by omega) hc
  refine ⟨v, s1, e, p4, ?_⟩
  have h8 : (2 : Nat) ^ (b + 3) = 2 ^ b * 8 := by rw [Nat.pow_add]
  simp only [List.mem_cons, List.not_mem_nil, or_false] at hv
  rcases hv with rfl | rfl | rfl | rfl
  · exact vk_int (by omega)
  · exact vk_int (by omega)
  · exact vk_non
  · exact vk_str
theorem bent_str {b : Nat} {x : MV} (T : Takes C t) (hr : Row row) (hs : Spot a st0 st) :
    ∃ v st', eE C (.idx (.lstE false [(.k (.str "heights")), (.k (.str "ring")), (.k (.str "line")), (.k (.str "bar")), (.k (.str "end")), (.k (.int 5))]) (.call t [(.var 0), (.var 1), (.k (.int 6))])) [some row, some (.ref a), some x, none, none] st = .ok v st' ∧ Spot a st0 st' ∧ Vk (b + 3) 1 v := by
  obtain ⟨r, s1, p1, p2, p3, p4⟩ := T row a 6 st0 st hr hs (by decide)
  have he : eEs C [(.k (.str "heights")), (.k (.str "ring")), (.k (.str "line")), (.k (.str "bar")), (.k (.str "end")), (.k (.int 5))] [some row, some (.ref a), some x, none, none] st = .ok [.str "heights", .str "ring", .str "line", .str "bar", .str "end", .int 5] st := rfl
  have hc : eE C (.call t [(.var 0), (.var 1), (.k (.int 6))]) [some row, some (.ref a), some x, none, none] st = .ok (.int r) s1 := by
    simp only [v_call, vs_cons, vs_nil, v_var, v_k, List.getElem?_cons_zero, List.getElem?_cons_succ, R.bind_ok, p3]
  obtain ⟨v, hv, e⟩ := pick_lst (n := 6) he rfl (by decide) p1 (by omega) hc
  refine ⟨v, s1, e, p4, ?_⟩
  have h8 := two_le b
  simp only [List.mem_cons, List.not_mem_nil, or_false] at hv
  rcases hv with rfl | rfl | rfl | rfl | rfl | rfl
  · exact vk_str
  · exact vk_str
  · exact vk_str
  · exact vk_str
  · exact vk_str
  · exact vk_int (by show (5 : Nat) < _; omega)
theorem bent_other {b : Nat} {x : MV} (T : Takes C t) (hr : Row row) (hs : Spot a st0 st) :
    ∃ v st', eE C (.idx (.lstE false [(.k (.non)), (.k (.int 3)), (.k (.str "no")), (.tupE [])]) (.call t [(.var 0), (.var 1), (.k (.int 4))])) [some row, some (.ref a), some x, none, none] st = .ok v st' ∧ Spot a st0 st' ∧ Vk (b + 3) 1 v := by
  obtain ⟨r, s1, p1, p2, p3, p4⟩ := T row a 4 st0 st hr hs (by decide)
  have he : eEs C [(.k (.non)), (.k (.int 3)), (.k (.str "no")), (.tupE [])] [some row, some (.ref a), some x, none, none] st = .ok [.non, .int 3, .str "no", .tup []] st := rfl
  have hc : eE C (.call t [(.var 0), (.var 1), (.k (.int 4))]) [some row, some (.ref a), some x, none, none] st = .ok (.int r) s1 := by
    simp only [v_call, vs_cons, vs_nil, v_var, v_k, List.getElem?_cons_zero, List.getElem?_cons_succ, R.bind_ok, p3]
  obtain ⟨v, hv, e⟩ := pick_lst (n := 4) he rfl (by decide) p1 (by omega) hc
  refine ⟨v, s1, e, p4, ?_⟩
  have h8 := two_le b
  simp only [List.mem_cons, List.not_mem_nil, or_false] at hv
  rcases hv with rfl | rfl | rfl | rfl
  · exact vk_non
  · exact vk_int (by show (3 : Nat) < _; omega)
  · exact vk_str
  · exact ⟨by simp, fun x hx => by cases hx⟩
/-- bent: a tuple -/
theorem bent_tup {i s b n : Nat} {xs : List MV} (T : Takes C t) (hr : Row row) (hs : Spot a st0 st) (hv : Vk b (n + 1) (.tup xs)) (hl : xs.length ≤ 900) (h1 : 1 ≤ xs.length)
    (S : ∀ (k : Nat) (v : MV) (st : Store), Vk (b + 3) (n + 1) v → k < xs.length → C s [.tup xs, .int (k : Int), v] st = .ok (.tup (xs.set k v)) st)
    (I : ∀ (x : MV) (st : Store), x ∈ xs → Spot a st0 st → ∃ v st', C i [row, .ref a, x] st = .ok v st' ∧ Spot a st0 st' ∧ Vk (b + 3) (n + 1) v) :
    ∃ v st', eSs C W (bBentT i t s) [some row, some (.ref a), some (.tup xs), none, none] st = .ret v st' ∧ Spot a st0 st' ∧ Vk (b + 3) (n + 2) v := by
  obtain ⟨r, s1, p1, p2, p3, p4⟩ := T row a 8 st0 st hr hs (by decide)
  have hll := line_1e6
  have vq : Vk (b + 3) (n + 2) (.tup xs) := vk_up (by omega) hv (by omega)
  have g1 : eE C (.call t [(.var 0), (.var 1), (.k (.int 8))]) [some row, some (.ref a), some (.tup xs), none, none] st = .ok (.int r) s1 := by
    simp only [v_call, vs_cons, vs_nil, v_var, v_k, List.getElem?_cons_zero, List.getElem?_cons_succ, R.bind_ok, p3]
  have ceq : ∀ k : Int, toTruth (eE C (.cmp .eq (.var 3) (.k (.int k))) [some row, some (.ref a), some (.tup xs), some (.int r), none] s1) = .ok (decide (r = k)) s1 := fun k => by
    simp only [v_cmp, v_var, v_k, List.getElem?_cons_zero, List.getElem?_cons_succ, R.bind_ok, cmpM, eqM_int, toTruth_bl]
  rw [bBentT, ss_asg g1 (env1 := [some row, some (.ref a), some (.tup xs), some (.int r), none]) rfl]
  by_cases r0 : r = 0
  · have c := ceq 0
    rw [decide_eq_true r0] at c
    refine ⟨.tup (cutM xs none (some (-1))), s1, ite_ret c (ss_ret ?_), p4, ?_⟩
    · simp only [v_slc, v_var, v_k, v_neg, List.getElem?_cons_zero, List.getElem?_cons_succ, R.bind_ok, R.noX_ok, slcM, optI]
    · exact ⟨Nat.le_trans cut_len (by omega), fun x hx => vq.2 x (cut_mem x hx)⟩
  · have c := ceq 0
    rw [decide_eq_false r0] at c
    rw [ite_f c]
    by_cases r1 : r = 1
    · have c := ceq 1
      rw [decide_eq_true r1] at c
      obtain ⟨y, hy, ei⟩ := idx_in (v := .tup xs) (xs := xs) (i := -1) (st := s1) rfl (by omega) (by omega)
      refine ⟨.tup (xs ++ [y]), s1, ite_ret c (ss_ret ?_), p4, ?_⟩
      · have hlen : (xs ++ [y]).length ≤ line := by
          rw [List.length_append, List.length_singleton]
          omega
        have mk : mkT [y] s1 = .ok (.tup [y]) s1 := rfl
        simp only [v_bin, v_tup, vs_cons, vs_nil, v_idx, v_neg, v_var, v_k, List.getElem?_cons_zero, List.getElem?_cons_succ, R.bind_ok, ei, mk, binM, hlen, if_true]
      · refine ⟨by rw [List.length_append, List.length_singleton]; omega, fun x hx => ?_⟩
        rcases List.mem_append.mp hx with hx | hx
        · exact vq.2 x hx
        · rw [List.mem_singleton.mp hx]; exact vq.2 y hy
    · have c := ceq 1
      rw [decide_eq_false r1] at c
      rw [ite_f c]
      by_cases r2 : r = 2
      · have c := ceq 2
        rw [decide_eq_true r2] at c
        refine ⟨.lst xs, s1, ite_ret c (ss_ret ?_), p4, vq⟩
        have hL : xs.length ≤ line := by omega
        simp only [v_blt, vs_cons, vs_nil, v_var, List.getElem?_cons_zero, List.getElem?_cons_succ, R.bind_ok, bltM, sqc, mkL, hL, if_true, Bool.false_eq_true, if_false]
      · have c := ceq 2
        rw [decide_eq_false r2] at c
        rw [ite_f c]
        obtain ⟨z, s2, w1, w2, w3, w4⟩ := T row a (xs.length : Int) st0 s1 hr p4 (by omega)
        have hln : bltM .len false [.tup xs] s1 = .ok (.int (xs.length : Int)) s1 := rfl
        have g2 : eE C (.call t [(.var 0), (.var 1), (.blt .len false [(.var 2)])]) [some row, some (.ref a), some (.tup xs), some (.int r), none] s1 = .ok (.int z) s2 := by
          simp only [v_call, v_blt, vs_cons, vs_nil, v_var, v_k, List.getElem?_cons_zero, List.getElem?_cons_succ, R.bind_ok, hln, w3]
        obtain ⟨k, rfl⟩ : ∃ k : Nat, z = (k : Int) := ⟨z.toNat, by omega⟩
        have hk : k < xs.length := by omega
        have ik : idxM (.tup xs) (.int (k : Int)) s2 = .ok xs[k] s2 := idx_tup (List.getElem?_eq_getElem hk)
        obtain ⟨y, s3, y1, y2, y3⟩ := I xs[k] s2 (List.getElem_mem hk) w4
        have z1 := S k y s3 y3 hk
        refine ⟨.tup (xs.set k y), s3, ?_, y2, set_vk vq y3⟩
        rw [ss_asg g2 (env1 := [some row, some (.ref a), some (.tup xs), some (.int r), some (.int (k : Int))]) rfl]
        refine ss_ret ?_
        simp only [v_call, vs_cons, vs_nil, v_idx, v_var, List.getElem?_cons_zero, List.getElem?_cons_succ, R.bind_ok, ik, y1, z1]
end
/-- bent: any plain value -/
theorem bent_ok {fs : List Fn} {W i t s fr pl mi ng nm b a : Nat} {f : Fn} {row : MV} {st0 : Store} (hf : fs[i]? = some f) (hbd : f.body = bBent i t s fr pl mi ng nm) (hs : f.slots = 5) (har : f.arity = 3) (hb : b + 3 ≤ 8900) (hr : Row row)
    (T : ∀ d, 5 ≤ d → Takes (callF fs W d) t) (P : ∀ d, 5 ≤ d → Bin2 (callF fs W d) pl (· + ·)) (M : ∀ d, 5 ≤ d → Bin2 (callF fs W d) mi (· - ·)) (N : ∀ d, 5 ≤ d → Neg1 (callF fs W d) ng) (Q : ∀ d, 5 ≤ d → IsInt (callF fs W d) nm) (F : ∀ d, 5 ≤ d → IsFr (callF fs W d) fr)
    (S : ∀ (d n k : Nat) (xs : List MV) (v : MV) (st : Store), 5 ≤ d → n ≤ 18 → Vk (b + 3) (n + 1) (.tup xs) → Vk (b + 3) n v → k < xs.length → callF fs W d s [.tup xs, .int (k : Int), v] st = .ok (.tup (xs.set k v)) st) :
    ∀ (n d : Nat) (v : MV) (st : Store), Vk b n v → Nw n v → n ≤ 17 → n + 5 ≤ d → Spot a st0 st → ∃ w st', callF fs W (d + 1) i [row, .ref a, v] st = .ok w st' ∧ Spot a st0 st' ∧ Vk (b + 3) (n + 1) w
  | n, d, v, st, hv, hw, hn, hd, hsp => by
    have hst : startE f [row, .ref a, v] = [some row, some (.ref a), some v, none, none] := by simp [startE, hs]
    have fin : ∀ {w : MV} {st' : Store} {m : Nat}, eSs (callF fs W d) W f.body (startE f [row, .ref a, v]) st = .ret w st' → Spot a st0 st' → Vk (b + 3) m w → m ≤ n + 1 → ∃ w st', callF fs W (d + 1) i [row, .ref a, v] st = .ok w st' ∧ Spot a st0 st' ∧ Vk (b + 3) (n + 1) w := fun h sp vk hm =>
      ⟨_, _, callF_st hf (by rw [har]; rfl) (by omega) h (by rw [sp.len, hsp.len]), sp, vk_up (Nat.le_refl _) vk hm⟩
    rw [hst, hbd] at fin
    have f1 := F d (by omega) b n v st (by omega) hv
    have c1 : toTruth (eE (callF fs W d) (.call fr [(.var 2)]) [some row, some (.ref a), some v, none, none] st) = .ok (isFrM v) st := by
      simp only [v_call, vs_cons, vs_nil, v_var, List.getElem?_cons_zero, List.getElem?_cons_succ, R.bind_ok, f1, toTruth_bl]
    by_cases hfr : isFrM v = true
    · rw [hfr] at c1
      obtain ⟨q, rfl⟩ := isFr_fv hfr
      have hq : Sz b q := by
        cases n with
        | zero => exact hv.elim
        | succ n =>
          have h1 := hv.2 (.int q.num) (by simp)
          have h2 := hv.2 (.int (q.den : Int)) (by simp)
          have h1' : q.num.natAbs < 2 ^ b := by cases n <;> exact h1
          have h2' : ((q.den : Int)).natAbs < 2 ^ b := by cases n <;> exact h2
          exact ⟨h1', by simpa using h2'⟩
      obtain ⟨w, st', e, sp, vk⟩ := bent_frac (T d (by omega)) (P d (by omega)) (M d (by omega)) (N d (by omega)) hr hsp hq hb
      exact fin (ite_ret c1 (ss_ret e)) sp vk (by omega)
    · rw [Bool.not_eq_true] at hfr
      rw [hfr] at c1
      have t0 := isi_vk (C := callF fs W d) (st := st) (ts := [.tuple]) (i := 2) (env := [some row, some (.ref a), some v, none, none]) hv rfl
      have t1 := isi_vk (C := callF fs W d) (st := st) (ts := [.str]) (i := 2) (env := [some row, some (.ref a), some v, none, none]) hv rfl
      have q1 := Q d (by omega) v st hv.noScr
      by_cases ht : ∃ xs, v = .tup xs ∧ xs ≠ []
      · obtain ⟨xs, rfl, hne⟩ := ht
        have h1 : 1 ≤ xs.length := List.length_pos_iff.mpr hne
        have hln : bltM .len false [.tup xs] st = .ok (.int (xs.length : Int)) st := rfl
        have t0' : eE (callF fs W d) (.isi [.tuple] (.var 2)) [some row, some (.ref a), some (.tup xs), none, none] st = .ok (.bl true) st := t0
        have c2 : toTruth (eE (callF fs W d) (.andE (.isi [.tuple] (.var 2)) (.cmp .gt (.blt .len false [(.var 2)]) (.k (.int 0)))) [some row, some (.ref a), some (.tup xs), none, none] st) = .ok true st := by
          have hpos : (0 : Int) < (xs.length : Int) := by omega
          rw [v_and, t0']
          simp only [R.bind_ok, truth_bl, v_cmp, v_blt, vs_cons, vs_nil, v_var, v_k, List.getElem?_cons_zero, List.getElem?_cons_succ, hln, cmpM, hpos, decide_true, toTruth_bl]
        cases n with
        | zero => exact hv.elim
        | succ n =>
          obtain ⟨e, rfl⟩ : ∃ e, d = e + 1 := ⟨d - 1, by omega⟩
          obtain ⟨w, st', e1, sp, vk⟩ := bent_tup (W := W) (i := i) (s := s) (T (e + 1) (by omega)) hr hsp hv hw.1 h1 (fun k y st2 hy hk => S (e + 1) (n + 1) k xs y st2 (by omega) (by omega) (vk_up (by omega) hv (by omega)) hy hk) (fun x st2 hx sp2 => bent_ok hf hbd hs har hb hr T P M N Q F S n e x st2 (hv.2 x hx) (hw.2 x hx) (by omega) (by omega) sp2)
          refine fin ?_ sp vk (by omega)
          rw [bBent, ite_f c1]
          exact ite_ret c2 e1
      · have c2 : toTruth (eE (callF fs W d) (.andE (.isi [.tuple] (.var 2)) (.cmp .gt (.blt .len false [(.var 2)]) (.k (.int 0)))) [some row, some (.ref a), some v, none, none] st) = .ok false st := by
          by_cases hx : ∃ xs, v = .tup xs
          · obtain ⟨xs, rfl⟩ := hx
            have hnil : xs = [] := Classical.byContradiction fun hne => ht ⟨xs, rfl, hne⟩
            subst hnil
            rfl
          · obtain ⟨g1, _⟩ := fr_not hv fun xs e => hx ⟨xs, e⟩
            have hany : [Ty.tuple].any (isTy v) = false := by simp [g1]
            rw [v_and, t0, hany]
            simp only [R.bind_ok, truth_bl, toTruth_bl]
        have c3 : toTruth (eE (callF fs W d) (.call nm [(.var 2)]) [some row, some (.ref a), some v, none, none] st) = .ok (isIntM v) st := by
          simp only [v_call, vs_cons, vs_nil, v_var, List.getElem?_cons_zero, List.getElem?_cons_succ, R.bind_ok, q1, toTruth_bl]
        by_cases hi : isIntM v = true
        · rw [hi] at c3
          obtain ⟨z, rfl⟩ : ∃ z, v = .int z := by
            cases v with
            | int z => exact ⟨z, rfl⟩
            | _ => cases hi
          have hz : z.natAbs < 2 ^ b := by cases n <;> exact hv
          obtain ⟨w, st', e, sp, vk⟩ := bent_int (T d (by omega)) hr hsp hz
          refine fin ?_ sp vk (by omega)
          rw [bBent, ite_f c1, ite_f c2]
          exact ite_ret c3 (ss_ret e)
        · rw [Bool.not_eq_true] at hi
          rw [hi] at c3
          have c4 : toTruth (eE (callF fs W d) (.isi [.str] (.var 2)) [some row, some (.ref a), some v, none, none] st) = .ok ([Ty.str].any (isTy v)) st := by rw [t1, toTruth_bl]
          by_cases hstr : [Ty.str].any (isTy v) = true
          · rw [hstr] at c4
            obtain ⟨w, st', e, sp, vk⟩ := bent_str (b := b) (x := v) (T d (by omega)) hr hsp
            refine fin ?_ sp vk (by omega)
            rw [bBent, ite_f c1, ite_f c2, ite_f c3]
            exact ite_ret c4 (ss_ret e)
          · rw [Bool.not_eq_true] at hstr
            rw [hstr] at c4
            obtain ⟨w, st', e, sp, vk⟩ := bent_other (b := b) (x := v) (T d (by omega)) hr hsp
            refine fin ?_ sp vk (by omega)
            rw [bBent, ite_f c1, ite_f c2, ite_f c3, ite_f c4]
            exact ss_ret e
end MP

/-! MiniEq: == on trees of whole numbers. -/
namespace MP
open PySem
open scoped Rat
/-- a tree of whole numbers and None -/
def Ft : Nat → MV → Prop
  | _, .non => True
  | _, .int _ => True
  | n + 1, .tup xs => ∀ x ∈ xs, Ft n x
  | n + 1, .lst xs => ∀ x ∈ xs, Ft n x
  | _, _ => False
theorem ft_up : ∀ {n m : Nat} {v : MV}, Ft n v → n ≤ m → Ft m v := by
  intro n
  induction n with
  | zero =>
    intro m v h _
    cases v <;> cases m <;> first | trivial | exact h.elim
  | succ n ih =>
    intro m v h hm
    obtain ⟨k, rfl⟩ : ∃ k, m = k + 1 := ⟨m - 1, by omega⟩
    cases v with
    | tup xs => exact fun x hx => ih (h x hx) (by omega)
    | lst xs => exact fun x hx => ih (h x hx) (by omega)
    | int i => trivial
    | non => trivial
    | _ => exact h.elim
/-- what it is as data -/
def FtD (n : Nat) (v : MV) (d : PyData) : Prop := toD v = some d ∧ d.canLay0 = true ∧ d.depth ≤ n + 1
theorem toDs_ft {n : Nat} (ih : ∀ v, Ft n v → ∃ d, FtD n v d) : ∀ xs : List MV, (∀ x ∈ xs, Ft n x) → ∃ ds, toDs xs = some ds ∧ PyData.canLayAll0 ds = true ∧ PyData.depthAll ds ≤ n + 1
  | [], _ => ⟨[], rfl, rfl, by simp [PyData.depthAll]⟩
  | x :: xs, h => by
    obtain ⟨d, h1, h2, h3⟩ := ih x (h x List.mem_cons_self)
    obtain ⟨ds, h4, h5, h6⟩ := toDs_ft ih xs fun y hy => h y (List.mem_cons_of_mem _ hy)
    refine ⟨d :: ds, by simp only [toDs, h1, h4], by simp only [PyData.canLayAll0, h2, h5, Bool.and_self], ?_⟩
    simp only [PyData.depthAll]
    omega
theorem ft_data : ∀ (n : Nat) (v : MV), Ft n v → ∃ d, FtD n v d
  | 0, v, h => by
    cases v with
    | non => exact ⟨.none, rfl, rfl, by simp [PyData.depth]⟩
    | int i => exact ⟨.int i, rfl, rfl, by simp [PyData.depth]⟩
    | _ => exact h.elim
  | n + 1, v, h => by
    cases v with
    | non => exact ⟨.none, rfl, rfl, by simp [PyData.depth]⟩
    | int i => exact ⟨.int i, rfl, rfl, by simp [PyData.depth]⟩
    | tup xs =>
      obtain ⟨ds, h1, h2, h3⟩ := toDs_ft (ft_data n) xs h
      exact ⟨.tuple ds, by simp only [toD, h1], by simpa only [PyData.canLay0] using h2, by simp only [PyData.depth]; omega⟩
    | lst xs =>
      obtain ⟨ds, h1, h2, h3⟩ := toDs_ft (ft_data n) xs h
      exact ⟨.list ds, by simp only [toD, h1], by simpa only [PyData.canLay0] using h2, by simp only [PyData.depth]; omega⟩
    | _ => exact h.elim
theorem toDs_cons {x : MV} {xs : List MV} {ds : List PyData} (h : toDs (x :: xs) = some ds) : ∃ d r, toD x = some d ∧ toDs xs = some r ∧ ds = d :: r := by
  simp only [toDs] at h
  cases h1 : toD x with
  | none => rw [h1] at h; cases h
  | some d =>
    cases h2 : toDs xs with
    | none => rw [h1, h2] at h; cases h
    | some r =>
      rw [h1, h2] at h
      exact ⟨d, r, rfl, rfl, (Option.some.inj h).symm⟩
theorem eqvs_ft {n : Nat} (ih : ∀ (v u : MV) (d e : PyData), Ft n v → Ft n u → toD v = some d → toD u = some e → PyData.eqv d e = decide (v = u)) : ∀ (xs ys : List MV) (ds es : List PyData), (∀ x ∈ xs, Ft n x) → (∀ y ∈ ys, Ft n y) → toDs xs = some ds → toDs ys = some es → PyData.eqvAll ds es = decide (xs = ys)
  | [], [], ds, es, _, _, h1, h2 => by
    cases h1; cases h2
    rfl
  | [], y :: ys, ds, es, _, _, h1, h2 => by
    obtain ⟨d, r, _, _, rfl⟩ := toDs_cons h2
    cases h1
    rw [decide_eq_false (by simp)]
    simp only [PyData.eqvAll]
  | x :: xs, [], ds, es, _, _, h1, h2 => by
    obtain ⟨d, r, _, _, rfl⟩ := toDs_cons h1
    cases h2
    rw [decide_eq_false (by simp)]
    simp only [PyData.eqvAll]
  | x :: xs, y :: ys, ds, es, hx, hy, h1, h2 => by
    obtain ⟨d, r, a1, a2, rfl⟩ := toDs_cons h1
    obtain ⟨e, t, b1, b2, rfl⟩ := toDs_cons h2
    have i1 := ih x y d e (hx x List.mem_cons_self) (hy y List.mem_cons_self) a1 b1
    have i2 := eqvs_ft ih xs ys r t (fun z hz => hx z (List.mem_cons_of_mem _ hz)) (fun z hz => hy z (List.mem_cons_of_mem _ hz)) a2 b2
    simp only [PyData.eqvAll, i1, i2, List.cons.injEq, Bool.decide_and]
theorem toD_tup {xs : List MV} {d : PyData} (h : toD (.tup xs) = some d) : ∃ ds, toDs xs = some ds ∧ d = .tuple ds := by
  simp only [toD] at h
  cases h1 : toDs xs with
  | none => rw [h1] at h; cases h
  | some ds => rw [h1] at h; exact ⟨ds, rfl, (Option.some.inj h).symm⟩
theorem toD_lst {xs : List MV} {d : PyData} (h : toD (.lst xs) = some d) : ∃ ds, toDs xs = some ds ∧ d = .list ds := by
  simp only [toD] at h
  cases h1 : toDs xs with
  | none => rw [h1] at h; cases h
  | some ds => rw [h1] at h; exact ⟨ds, rfl, (Option.some.inj h).symm⟩
theorem eqv_ft : ∀ (n : Nat) (v u : MV) (d e : PyData), Ft n v → Ft n u → toD v = some d → toD u = some e → PyData.eqv d e = decide (v = u)
  | 0, v, u, d, e, hv, hu, h1, h2 => by
    cases v <;> first | exact hv.elim | skip
    all_goals cases u <;> first | exact hu.elim | skip
    all_goals
      simp only [toD, Option.some.injEq] at h1 h2
      subst h1
      subst h2
      first | (simp [PyData.eqv]; done) | (simp only [PyData.eqv, MV.int.injEq]; rfl)
  | n + 1, v, u, d, e, hv, hu, h1, h2 => by
    have ih := eqv_ft n
    have base : ∀ {v u : MV} {d e : PyData}, toD v = some d → toD u = some e → (v = .non ∨ ∃ i, v = .int i) → (u = .non ∨ ∃ i, u = .int i) → PyData.eqv d e = decide (v = u) := fun {v u d e} h1 h2 a b => by
      rcases a with rfl | ⟨i, rfl⟩ <;> rcases b with rfl | ⟨j, rfl⟩
      all_goals
        simp only [toD, Option.some.injEq] at h1 h2
        subst h1
        subst h2
        first | (simp [PyData.eqv]; done) | (simp only [PyData.eqv, MV.int.injEq]; rfl)
    cases v <;> first | exact hv.elim | skip
    all_goals cases u <;> first | exact hu.elim | skip
    · exact base h1 h2 (.inl rfl) (.inl rfl)
    · exact base h1 h2 (.inl rfl) (.inr ⟨_, rfl⟩)
    · obtain ⟨es, _, rfl⟩ := toD_tup h2
      simp only [toD, Option.some.injEq] at h1
      subst h1
      simp [PyData.eqv]
    · obtain ⟨es, _, rfl⟩ := toD_lst h2
      simp only [toD, Option.some.injEq] at h1
      subst h1
      simp [PyData.eqv]
    · exact base h1 h2 (.inr ⟨_, rfl⟩) (.inl rfl)
    · exact base h1 h2 (.inr ⟨_, rfl⟩) (.inr ⟨_, rfl⟩)
    · obtain ⟨es, _, rfl⟩ := toD_tup h2
      simp only [toD, Option.some.injEq] at h1
      subst h1
      simp [PyData.eqv]
    · obtain ⟨es, _, rfl⟩ := toD_lst h2
      simp only [toD, Option.some.injEq] at h1
      subst h1
      simp [PyData.eqv]
    · obtain ⟨es, _, rfl⟩ := toD_tup h1
      simp only [toD, Option.some.injEq] at h2
      subst h2
      simp [PyData.eqv]
    · obtain ⟨es, _, rfl⟩ := toD_tup h1
      simp only [toD, Option.some.injEq] at h2
      subst h2
      simp [PyData.eqv]
    · obtain ⟨ds, a, rfl⟩ := toD_tup h1
      obtain ⟨es, b, rfl⟩ := toD_tup h2
      simp only [PyData.eqv, MV.tup.injEq]
      exact eqvs_ft ih _ _ ds es hv hu a b
    · obtain ⟨ds, a, rfl⟩ := toD_tup h1
      obtain ⟨es, b, rfl⟩ := toD_lst h2
      simp [PyData.eqv]
    · obtain ⟨es, _, rfl⟩ := toD_lst h1
      simp only [toD, Option.some.injEq] at h2
      subst h2
      simp [PyData.eqv]
    · obtain ⟨es, _, rfl⟩ := toD_lst h1
      simp only [toD, Option.some.injEq] at h2
      subst h2
      simp [PyData.eqv]
    · obtain ⟨ds, a, rfl⟩ := toD_lst h1
      obtain ⟨es, b, rfl⟩ := toD_tup h2
      simp [PyData.eqv]
    · obtain ⟨ds, a, rfl⟩ := toD_lst h1
      obtain ⟨es, b, rfl⟩ := toD_lst h2
      simp only [PyData.eqv, MV.lst.injEq]
      exact eqvs_ft ih _ _ ds es hv hu a b
/-- == on such trees is being alike -/
theorem eqM_ft {n : Nat} {v u : MV} {st : Store} (hv : Ft n v) (hu : Ft n u) (hn : n ≤ 60) : eqM st v u = some (decide (v = u)) := by
  obtain ⟨d, a1, a2, a3⟩ := ft_data n v hv
  obtain ⟨e, b1, b2, b3⟩ := ft_data n u hu
  have key := eqv_ft n v u d e hv hu a1 b1
  have s1 : SeqAt.shaped d = true := by
    unfold SeqAt.shaped
    rw [a2, decide_eq_true (by omega)]
    rfl
  have s2 : SeqAt.shaped e = true := by
    unfold SeqAt.shaped
    rw [b2, decide_eq_true (by omega)]
    rfl
  have d1 : dataOf st v = some d := by unfold dataOf; rw [a1]
  have d2 : dataOf st u = some e := by unfold dataOf; rw [b1]
  have hD : eqD st v u = some (decide (v = u)) := by
    unfold eqD
    rw [d1, d2]
    simp only [s1, s2, Bool.and_self, if_true, key]
  unfold eqM
  split
  · simp
  · exact hD
theorem ft_fv {n : Nat} (q : Rat) : Ft (n + 1) (fv q) := by
  intro x hx
  simp only [List.mem_cons, List.not_mem_nil, or_false] at hx
  rcases hx with rfl | rfl <;> cases n <;> trivial
theorem ft_tfv {n : Nat} (qs : List Rat) : Ft (n + 2) (.tup (qs.map fv)) := by
  intro x hx
  obtain ⟨q, _, rfl⟩ := List.mem_map.mp hx
  exact ft_fv q
theorem ft_lfv {n : Nat} (qs : List Rat) : Ft (n + 2) (.lst (qs.map fv)) := by
  intro x hx
  obtain ⟨q, _, rfl⟩ := List.mem_map.mp hx
  exact ft_fv q
theorem fvs_inj : ∀ {ps qs : List Rat}, ps.map fv = qs.map fv → ps = qs
  | [], [], _ => rfl
  | [], q :: qs, h => by cases h
  | p :: ps, [], h => by cases h
  | p :: ps, q :: qs, h => by
    rw [List.map_cons, List.map_cons] at h
    injection h with h1 h2
    rw [fv_inj h1, fvs_inj h2]
end MP

namespace Lk94
open PySem MP
open scoped Rat
section
variable {W D : Nat}
theorem k_isInt (h : 1 ≤ D) : IsInt (callF fs W D) 0 := fun v st hv => by
  obtain ⟨d, rfl, h'⟩ := succ_of h
  exact callF_of rfl rfl (by decide) (e_isInt rfl hv)
theorem k_isSeq (h : 1 ≤ D) : IsSeq (callF fs W D) 1 := fun v st hv => by
  obtain ⟨d, rfl, h'⟩ := succ_of h
  exact callF_of rfl rfl (by decide) (e_isSeq rfl hv)
theorem k_isSeqOf (h : 2 ≤ D) : IsSeqOf (callF fs W D) 2 := fun v n st hv => by
  obtain ⟨d, rfl, h'⟩ := succ_of h
  exact callF_of rfl rfl (by decide) (e_isSeqOf (k_isSeq h') rfl hv)
theorem k_fr (h : 1 ≤ D) : MkFr (callF fs W D) 3 := fun n d st hd hb => by
  obtain ⟨d, rfl, h'⟩ := succ_of h
  exact callF_of rfl rfl (by decide) (e_fraction rfl hd hb (by decide))
theorem k_read (h : 3 ≤ D) : Reads (callF fs W D) 4 := fun b v q st hb hg => by
  obtain ⟨d, rfl, h'⟩ := succ_of h
  exact callF_of rfl rfl (by decide) (e_readNum (k_isInt (by omega)) (k_isSeqOf h') (k_fr (by omega)) rfl hb hg)
theorem k_reads (h : 4 ≤ D) : ReadsN (callF fs W D) 5 := fun b v xs qs st hb hv ha hl => by
  obtain ⟨d, rfl, h'⟩ := succ_of h
  exact callF_of rfl rfl (by decide) (e_readNums (k_isSeqOf (by omega)) (k_read h') rfl hb hv ha hl)
theorem k_readAny (h : 3 ≤ D) : ReadAny (callF fs W D) 4 := fun b n v st hb hv => by
  obtain ⟨d, rfl, h'⟩ := succ_of h
  exact callF_of rfl rfl (by decide) (e_readAny (k_isInt (by omega)) (k_isSeqOf h') (k_fr (by omega)) rfl hb hv)
theorem k_readsAny (h : 4 ≤ D) : ReadsAny (callF fs W D) 5 := fun b n m v st hb hv => by
  obtain ⟨d, rfl, h'⟩ := succ_of h
  exact callF_of rfl rfl (by decide) (e_readsAny (k_isSeqOf (by omega)) (k_readAny h') rfl hb hv)
theorem k_add (h : 2 ≤ D) : Bin2 (callF fs W D) 6 (· + ·) := fun b c p q st hp hq hb => by
  obtain ⟨d, rfl, h'⟩ := succ_of h
  exact callF_of rfl rfl (by decide) (e_add (k_fr h') rfl hp hq hb)
theorem k_sub (h : 2 ≤ D) : Bin2 (callF fs W D) 7 (· - ·) := fun b c p q st hp hq hb => by
  obtain ⟨d, rfl, h'⟩ := succ_of h
  exact callF_of rfl rfl (by decide) (e_sub (k_fr h') rfl hp hq hb)
theorem k_div (h : 2 ≤ D) : Div2 (callF fs W D) 8 := fun b c p q st hp hq hb h0 => by
  obtain ⟨d, rfl, h'⟩ := succ_of h
  exact callF_of rfl rfl (by decide) (e_div (k_fr h') rfl hp hq hb h0)
theorem k_bottom (h : 1 ≤ D) : Bottoms (callF fs W D) 10 := fun b v qs st hv hq hb hb2 => by
  obtain ⟨d, rfl, h'⟩ := succ_of h
  exact callF_of rfl rfl (by decide) (e_bottom rfl hv hq hb hb2)
theorem k_whole (h : 1 ≤ D) : Wholes1 (callF fs W D) 11 := fun b c q l st hq hl hc hb hc2 => by
  obtain ⟨d, rfl, h'⟩ := succ_of h
  exact callF_of rfl rfl (by decide) (e_whole rfl hq hl hc hb hc2)
theorem k_wholes (h : 2 ≤ D) : Wholes2 (callF fs W D) 12 := fun b v qs st hv hq hb hb2 hl => by
  obtain ⟨d, rfl, h'⟩ := succ_of h
  exact callF_of rfl rfl (by decide) (e_wholes (k_bottom h') (k_whole h') rfl hv hq hb hb2 hl)
theorem k_total (h : 3 ≤ D) : Totals (callF fs W D) 13 := fun b v qs st hv hq hb hb2 hl => by
  obtain ⟨d, rfl, h'⟩ := succ_of h
  exact callF_of rfl rfl (by decide) (e_total (k_wholes h') (k_fr (by omega)) rfl hv hq hb hb2 hl)
theorem k_prod (h : 3 ≤ D) : Prods (callF fs W D) 14 := fun b c v u ps qs st hv hu hp hq hb hb2 hc2 hl hl2 => by
  obtain ⟨d, rfl, h'⟩ := succ_of h
  exact callF_of rfl rfl (by decide) (e_prod (k_wholes h') (k_fr (by omega)) rfl hv hu hp hq hb hb2 hc2 hl hl2)
theorem k_askN (h : 5 ≤ D) : AsksN (callF fs W D) 16 := fun b v p xs qs st hb hv ha hl => by
  obtain ⟨d, rfl, h'⟩ := succ_of h
  exact callF_of rfl rfl (by decide) (e_askedNums (k_reads h') rfl hb hv ha hl)
theorem k_draw (h : 1 ≤ D) : ∀ (row : MV) (at' lim : Int) (st : Store), Row row → 0 ≤ at' → 0 < lim → ∃ r : Int, 0 ≤ r ∧ r < lim ∧ callF fs W D 30 [row, .int at', .int lim] st = .ok (.int r) st := fun row at' lim st hr ha hl => by
  obtain ⟨d, rfl, _⟩ := succ_of h
  obtain ⟨r, h1, h2, h3⟩ := e_draw (C := callF fs W d) (W := W) (f := f30) (st := st) rfl hr ha hl
  exact ⟨r, h1, h2, callF_of rfl rfl (by decide) h3⟩
theorem k_take (h : 2 ≤ D) : Takes (callF fs W D) 31 := fun row a lim st st' hr hs hl => by
  obtain ⟨d, rfl, h'⟩ := succ_of h
  obtain ⟨s, h0, hg⟩ := hs.get
  obtain ⟨r, h1, h2, h3⟩ := e_take (C := callF fs W d) (W := W) (f := f31) (d := 30) (k_draw h') rfl hr hg h0 hl
  exact ⟨r, _, h1, h2, callF_st rfl rfl (by decide) h3 (by simp), hs.set (by omega)⟩
theorem takeG (h : 2 ≤ D) {row : MV} (hr : Row row) {z lim : Int} {g : Store} (hz : 0 ≤ z) (hl : 0 < lim) : ∃ r w : Int, 0 ≤ r ∧ r < lim ∧ 0 ≤ w ∧ callF fs W D 31 [row, .ref 0, .int lim] ([.int z] :: g) = .ok (.int r) ([.int w] :: g) := by
  obtain ⟨r, s, h1, h2, h3, h4⟩ := k_take (W := W) h row 0 lim ([.int z] :: g) ([.int z] :: g) hr (Spot.refl (s := z) rfl hz) hl
  obtain ⟨w, h0, rfl⟩ := spot_cons h4
  exact ⟨r, w, h1, h2, h0, h3⟩
theorem k_isNum (h : 1 ≤ D) : IsInt (callF fs W D) 34 := fun v st hv => by
  obtain ⟨d, rfl, h'⟩ := succ_of h
  exact callF_of rfl rfl (by decide) (e_isInt rfl hv)
theorem k_frac (hW : 2 ^ 8900 ≤ W) (h : 2 ≤ D) : MkFr (callF fs W D) 36 := fun n d st hd hb => by
  obtain ⟨k, rfl, h'⟩ := succ_of h
  obtain ⟨k, rfl, _⟩ := succ_of h'
  refine callF_of rfl rfl (by decide) (e_frac (g := 35) (b := 8900) ?_ rfl hd hb (by decide))
  exact callF_of rfl rfl (by decide) (e_gcd rfl (Nat.lt_of_lt_of_le hb hW))
theorem k_num (hW : 2 ^ 8900 ≤ W) (h : 3 ≤ D) : Reads (callF fs W D) 37 := fun b v q st hb hg => by
  obtain ⟨d, rfl, h'⟩ := succ_of h
  exact callF_of rfl rfl (by decide) (e_num (k_isNum (by omega)) (k_frac hW h') rfl hb hg)
theorem k_vec (hW : 2 ^ 8900 ≤ W) (h : 4 ≤ D) : Vecs (callF fs W D) 38 := fun b v xs qs st hb hv ha hl => by
  obtain ⟨d, rfl, h'⟩ := succ_of h
  exact callF_of rfl rfl (by decide) (e_vec (k_num hW h') rfl hb hv ha hl)
theorem k_plus (hW : 2 ^ 8900 ≤ W) (h : 3 ≤ D) : Bin2 (callF fs W D) 39 (· + ·) := fun b c p q st hp hq hb => by
  obtain ⟨d, rfl, h'⟩ := succ_of h
  exact callF_of rfl rfl (by decide) (e_add (k_frac hW h') rfl hp hq hb)
theorem k_neg (h : 1 ≤ D) : Neg1 (callF fs W D) 40 := fun q st => by
  obtain ⟨d, rfl, h'⟩ := succ_of h
  exact callF_of rfl rfl (by decide) (e_neg rfl)
theorem k_minus (hW : 2 ^ 8900 ≤ W) (h : 4 ≤ D) : Bin2 (callF fs W D) 41 (· - ·) := fun b c p q st hp hq hb => by
  obtain ⟨d, rfl, h'⟩ := succ_of h
  exact callF_of rfl rfl (by decide) (e_minus (k_plus hW h') (k_neg (by omega)) rfl hp hq hb)
theorem k_by (hW : 2 ^ 8900 ≤ W) (h : 3 ≤ D) : Bin2 (callF fs W D) 42 (· * ·) := fun b c p q st hp hq hb => by
  obtain ⟨d, rfl, h'⟩ := succ_of h
  exact callF_of rfl rfl (by decide) (e_mul (k_frac hW h') rfl hp hq hb)
theorem k_over (hW : 2 ^ 8900 ≤ W) (h : 3 ≤ D) : Div2 (callF fs W D) 43 := fun b c p q st hp hq hb h0 => by
  obtain ⟨d, rfl, h'⟩ := succ_of h
  exact callF_of rfl rfl (by decide) (e_div (k_frac hW h') rfl hp hq hb h0)
theorem k_sum (hW : 2 ^ 8900 ≤ W) (h : 4 ≤ D) : SumsL (callF fs W D) 44 := fun b v qs st hv hq hb => by
  obtain ⟨d, rfl, h'⟩ := succ_of h
  obtain ⟨e1, e2⟩ := e_sum (W := W) (f := f44) (st := st) (k_plus hW h') rfl hv hq hb
  exact ⟨callF_of rfl rfl (by decide) e1, e2⟩
theorem k_number (h : 3 ≤ D) : Numbers1 (callF fs W D) 47 := fun b a span row st0 st hr hs h0 h1 hb => by
  obtain ⟨d, rfl, h'⟩ := succ_of h
  have h4 : (4 : Int) < 2 ^ b := by
    have : (2 : Nat) ^ 3 ≤ 2 ^ b := Nat.pow_le_pow_right (by decide) hb
    have e2 : ((2 : Nat) ^ b : Nat) = ((2 : Int) ^ b) := by norm_cast
    omega
  obtain ⟨v, st', e1, e2, e3⟩ := e_number (C := callF fs W d) (W := W) (f := f47) (t := 31) (k5 := 5) (k4 := 4) (k_take h') rfl hr hs (by decide) (by decide) h0 h1 h4
  exact ⟨v, st', callF_st rfl rfl (by decide) e1 (by rw [e2.len, hs.len]), e2, e3⟩
theorem numberG (h : 3 ≤ D) {b : Nat} {span : Int} {row : MV} (hr : Row row) {z : Int} {g : Store} (hz : 0 ≤ z) (h0 : 0 ≤ span) (h1 : span < 2 ^ b) (hb : 3 ≤ b) : ∃ (v : MV) (q : Rat) (w : Int), 0 ≤ w ∧ callF fs W D 47 [row, .ref 0, .int span] ([.int z] :: g) = .ok v ([.int w] :: g) ∧ Drawn b v ∧ Gn b v q ∧ Sz b q := by
  obtain ⟨v, s, h1, h2, h3⟩ := k_number (W := W) h b 0 span row ([.int z] :: g) ([.int z] :: g) hr (Spot.refl (s := z) rfl hz) h0 h1 hb
  obtain ⟨w, h0, rfl⟩ := spot_cons h2
  obtain ⟨q, hq⟩ := h3.gn
  exact ⟨v, q, w, h0, h1, h3, hq, hq.sz (by omega)⟩
theorem k_isNumAny (h : 2 ≤ D) : IsNumAny (callF fs W D) 48 := fun b n v st hv => by
  obtain ⟨d, rfl, h'⟩ := succ_of h
  exact callF_of rfl rfl (by decide) (e_isNumAny (k_isNum h') rfl hv)
theorem k_numsAny (hW : 2 ^ 8900 ≤ W) (h : 5 ≤ D) : NumsAny (callF fs W D) 49 := fun b n m v st hb hv => by
  obtain ⟨d, rfl, h'⟩ := succ_of h
  exact callF_of rfl rfl (by decide) (e_numsAny (k_isNumAny (by omega)) (k_vec hW h') rfl hb hv)
theorem k_gcdL (hW : 2 ^ 8900 ≤ W) (h : 1 ≤ D) (a b : Int) (st : Store) (hb : b.natAbs < 2 ^ 8900) : callF fs W D 35 [.int a, .int b] st = .ok (.int (gcdI a b)) st := by
  obtain ⟨d, rfl, h'⟩ := succ_of h
  exact callF_of (f := f35) rfl rfl (by decide) (e_gcd rfl (Nat.lt_of_lt_of_le hb hW))
theorem k_isFr (hW : 2 ^ 8900 ≤ W) (h : 2 ≤ D) : IsFr (callF fs W D) 46 := fun b n v st hb hv => by
  obtain ⟨d, rfl, h'⟩ := succ_of h
  exact callF_of (f := f46) rfl rfl (by decide) (e_isFr (k_isNum h') (fun a b st hb => k_gcdL hW h' a b st hb) rfl hb hv)
theorem k_setL (h : 1 ≤ D) {b n k : Nat} {xs : List MV} {v : MV} {st : Store} (hn : n ≤ 18) (hx : Vk b (n + 1) (.tup xs)) (hv : Vk b n v) (hk : k < xs.length) : callF fs W D 33 [.tup xs, .int (k : Int), v] st = .ok (.tup (xs.set k v)) st := by
  obtain ⟨d, rfl, h'⟩ := succ_of h
  exact setTup_ok (f := f33) rfl rfl rfl rfl rfl hx hv hn hk
theorem k_odd (h : 3 ≤ D) {row : MV} {a : Nat} {st0 st : Store} (hr : Row row) (hs : Spot a st0 st) : ∃ v st', callF fs W D 51 [row, .ref a] st = .ok v st' ∧ Spot a st0 st' ∧ Vk 3 2 v := by
  obtain ⟨d, rfl, h'⟩ := succ_of h
  obtain ⟨v, st', e, sp, vk⟩ := e_odd (W := W) (f := f51) (k_take (W := W) (D := d) (by omega)) rfl hr hs
  exact ⟨v, st', callF_st (f := f51) rfl rfl (by decide) e (by rw [sp.len, hs.len]), sp, vk⟩
theorem k_bent (hW : 2 ^ 8900 ≤ W) {n b : Nat} (h : n + 6 ≤ D) {row v : MV} {a : Nat} {st0 st : Store} (hr : Row row) (hs : Spot a st0 st) (hb : b + 3 ≤ 8900) (hv : Vk b n v) (hw : Nw n v) (hn : n ≤ 17) : ∃ w st', callF fs W D 52 [row, .ref a, v] st = .ok w st' ∧ Spot a st0 st' ∧ Vk (b + 3) (n + 1) w := by
  obtain ⟨d, rfl, h'⟩ := succ_of h
  exact bent_ok (i := 52) (t := 31) (s := 33) (fr := 46) (pl := 39) (mi := 41) (ng := 40) (nm := 34) (f := f52) rfl rfl rfl rfl hb hr (fun e he => k_take (by omega)) (fun e he => k_plus hW (by omega)) (fun e he => k_minus hW (by omega)) (fun e he => k_neg (by omega)) (fun e he => k_isNum (by omega)) (fun e he => k_isFr hW (by omega)) (fun e n k xs v st he hn hx hv hk => k_setL (by omega) hn hx hv hk) n d v st hv hw hn h' hs
end
theorem k_so {W D : Nat} {n : Nat} {v : MV} {st : Store} (hv : hgt n v = true) (hd : n + 1 ≤ D) : callF fs W D 28 [v, v] st = .ok (.bl true) st := by
  obtain ⟨d, rfl, h'⟩ := succ_of hd
  exact so_ok (i := 28) (f := f28) rfl rfl rfl rfl n d v st hv h'
theorem k_loose {W D : Nat} {n : Nat} {v : MV} {t : Int} {st : Store} (hv : hgt n v = true) (hd : n + 1 ≤ D) : ∃ w, callF fs W D 32 [v, .int t] st = .ok w st ∧ Lo v w := by
  obtain ⟨d, rfl, h'⟩ := succ_of hd
  exact loose_ok (fs := fs) (W := W) (i := 32) (f := f32) rfl rfl rfl rfl n d v t st hv h'
theorem k_numbers {W D : Nat} (h : 1 ≤ D) {st : Store} {ns : List Int} (hn : ns.length ≤ 63) : ∃ row, callF fs W D 29 [.scr (ns.map MV.int)] st = .ok row st ∧ Row row := by
  obtain ⟨d, rfl, _⟩ := succ_of h
  exact numbers_ok (fs := fs) (W := W) (d := d) (i := 29) (st := st) (f := f29) (ns := ns) rfl rfl rfl rfl rfl hn
/-- the law, from its body -/
theorem law_of (h : ∀ ns : List Int, ns.length ≤ 63 → ∃ st', eSs (callF fs (2 ^ 8900) 199) (2 ^ 8900) b54 (startE f54 [.scr (ns.map MV.int)]) [] = .ret (.bl true) st') : Law := by
  intro ns hn
  obtain ⟨st', h⟩ := h ns hn
  refine ⟨2 ^ 8900, ?_⟩
  have hf : fs[54]? = some f54 := rfl
  have : callF fs (2 ^ 8900) 200 54 [.scr (ns.map MV.int)] [] = MP.finish false [] (.bl true) st' := by
    show callF fs (2 ^ 8900) (199 + 1) 54 [.scr (ns.map MV.int)] [] = _
    simp only [callF, hf]
    rw [if_pos ⟨rfl, by decide⟩]
    show (match eSs (callF fs (2 ^ 8900) 199) (2 ^ 8900) b54 _ [] with | .next _ st1 => _ | .ret v st1 => MP.finish false [] v st1 | .exc c v _ st1 => _ | _ => _) = _
    rw [h]
  rw [this]
  unfold MP.finish
  by_cases hl : (false || st'.length == ([] : Store).length) = true
  · rw [if_pos hl]; exact ⟨_, rfl⟩
  · rw [if_neg hl]
    exact ⟨[], rfl⟩
end Lk94

namespace Lk94
open PySem MP
open scoped Rat
/-! ### sums over places -/
def Sm (n : Nat) (f : Nat → Rat) : Rat := ((List.range n).map f).sum
theorem Sm_zero (f : Nat → Rat) : Sm 0 f = 0 := rfl
theorem sum_snoc' (l : List Rat) (a : Rat) : (l ++ [a]).sum = l.sum + a := by
  rw [List.sum_append]
  simp only [List.sum_cons, List.sum_nil]
  grind
theorem Sm_succ (n : Nat) (f : Nat → Rat) : Sm (n + 1) f = Sm n f + f n := by
  unfold Sm
  rw [List.range_succ, List.map_append]
  exact sum_snoc' _ _
theorem Sm_congr {n : Nat} {f g : Nat → Rat} (h : ∀ i, i < n → f i = g i) : Sm n f = Sm n g := by
  unfold Sm
  congr 1
  exact List.map_congr_left fun i hi => h i (List.mem_range.mp hi)
theorem Sm_add (n : Nat) (f g : Nat → Rat) : Sm n (fun i => f i + g i) = Sm n f + Sm n g := by
  induction n with
  | zero => rw [Sm_zero, Sm_zero, Sm_zero]; grind
  | succ n ih => rw [Sm_succ, Sm_succ, Sm_succ, ih]; grind
theorem Sm_mul (n : Nat) (c : Rat) (f : Nat → Rat) : Sm n (fun i => c * f i) = c * Sm n f := by
  induction n with
  | zero => rw [Sm_zero, Sm_zero]; grind
  | succ n ih => rw [Sm_succ, Sm_succ, ih]; grind
theorem Sm_const (n : Nat) (c : Rat) : Sm n (fun _ => c) = (n : Rat) * c := by
  induction n with
  | zero => rw [Sm_zero]; show (0 : Rat) = (0 : Nat) * c; grind
  | succ n ih =>
    rw [Sm_succ, ih]
    have : ((n + 1 : Nat) : Rat) = (n : Rat) + 1 := by exact_mod_cast rfl
    rw [this]; grind
theorem Sm_comm (m n : Nat) (f : Nat → Nat → Rat) : Sm m (fun i => Sm n (f i)) = Sm n fun j => Sm m fun i => f i j := by
  induction m with
  | zero =>
    rw [Sm_zero]
    have : (fun j => Sm 0 fun i => f i j) = fun _ => (0 : Rat) := rfl
    rw [this, Sm_const]; grind
  | succ m ih =>
    rw [Sm_succ, ih, ← Sm_add]
    exact Sm_congr fun j _ => (Sm_succ m fun i => f i j).symm
/-! ### the parts of a table -/
section
variable (m w : Nat) (x : Nat → Nat → Rat)
def Gm : Rat := Sm m (fun i => Sm w (x i)) / ((m * w : Nat) : Rat)
def Dn (i : Nat) : Rat := Sm w (x i) / (w : Rat) - Gm m w x
def Ac (j : Nat) : Rat := Sm m (fun i => x i j) / (m : Rat) - Gm m w x
def Lf (i j : Nat) : Rat := x i j - (Gm m w x + (Dn m w x i + Ac m w x j))
def Sq2 (f : Nat → Nat → Rat) : Rat := Sm m fun i => Sm w fun j => f i j * f i j
end
section
variable {m w : Nat} {x : Nat → Nat → Rat}
theorem rat_ne {n : Nat} (h : 1 ≤ n) : (n : Rat) ≠ 0 := fun e => by
  have h0 : ((n : Int) : Rat) = ((0 : Int) : Rat) := by exact_mod_cast e
  have := Rat.intCast_inj.mp h0
  omega
theorem dn_zero (hm : 1 ≤ m) (hw : 1 ≤ w) : Sm m (Dn m w x) = 0 := by
  have e : Sm m (Dn m w x) = Sm m (fun i => (1 / (w : Rat)) * Sm w (x i)) + Sm m fun _ => - Gm m w x := by
    rw [← Sm_add]
    exact Sm_congr fun i _ => by unfold Dn; grind
  rw [e, Sm_mul, Sm_const]
  unfold Gm
  have h1 := rat_ne hm
  have h2 := rat_ne hw
  have h3 : ((m * w : Nat) : Rat) = (m : Rat) * (w : Rat) := by exact_mod_cast rfl
  rw [h3]
  generalize (m : Rat) = a at *
  generalize (w : Rat) = b at *
  generalize Sm m (fun i => Sm w (x i)) = s
  grind
theorem ac_zero (hm : 1 ≤ m) (hw : 1 ≤ w) : Sm w (Ac m w x) = 0 := by
  have e : Sm w (Ac m w x) = Sm w (fun j => (1 / (m : Rat)) * Sm m (fun i => x i j)) + Sm w fun _ => - Gm m w x := by
    rw [← Sm_add]
    exact Sm_congr fun i _ => by unfold Ac; grind
  rw [e, Sm_mul, Sm_const, ← Sm_comm]
  unfold Gm
  have h1 := rat_ne hm
  have h2 := rat_ne hw
  have h3 : ((m * w : Nat) : Rat) = (m : Rat) * (w : Rat) := by exact_mod_cast rfl
  rw [h3]
  generalize (m : Rat) = a at *
  generalize (w : Rat) = b at *
  generalize Sm m (fun i => Sm w (x i)) = s
  grind
theorem lf_row (hm : 1 ≤ m) (hw : 1 ≤ w) (i : Nat) : Sm w (Lf m w x i) = 0 := by
  have e : Sm w (Lf m w x i) = Sm w (x i) + (Sm w (fun _ => - (Gm m w x + Dn m w x i)) + Sm w fun j => (-1) * Ac m w x j) := by
    rw [← Sm_add, ← Sm_add]
    exact Sm_congr fun j _ => by unfold Lf; grind
  rw [e, Sm_mul, ac_zero hm hw, Sm_const]
  unfold Dn
  have h2 := rat_ne hw
  generalize (w : Rat) = b at *
  generalize Sm w (x i) = s
  grind
theorem lf_col (hm : 1 ≤ m) (hw : 1 ≤ w) (j : Nat) : Sm m (fun i => Lf m w x i j) = 0 := by
  have e : Sm m (fun i => Lf m w x i j) = Sm m (fun i => x i j) + (Sm m (fun _ => - (Gm m w x + Ac m w x j)) + Sm m fun i => (-1) * Dn m w x i) := by
    rw [← Sm_add, ← Sm_add]
    exact Sm_congr fun i _ => by unfold Lf; grind
  rw [e, Sm_mul, dn_zero hm hw, Sm_const]
  unfold Ac
  have h1 := rat_ne hm
  generalize (m : Rat) = a at *
  generalize Sm m (fun i => x i j) = s
  grind
/-- the squares of a table and of its parts -/
theorem anova (hm : 1 ≤ m) (hw : 1 ≤ w) : Sq2 m w (fun i j => x i j - Gm m w x) = (w : Rat) * Sm m (fun i => Dn m w x i * Dn m w x i) + (m : Rat) * Sm w (fun j => Ac m w x j * Ac m w x j) + Sq2 m w (Lf m w x) := by
  unfold Sq2
  have row : ∀ i, Sm w (fun j => (x i j - Gm m w x) * (x i j - Gm m w x)) = (w : Rat) * (Dn m w x i * Dn m w x i) + (Sm w (fun j => Ac m w x j * Ac m w x j) + (Sm w (fun j => Lf m w x i j * Lf m w x i j) + Sm w (fun j => (2 * Ac m w x j) * Lf m w x i j))) := fun i => by
    have e : Sm w (fun j => (x i j - Gm m w x) * (x i j - Gm m w x)) = Sm w (fun _ => Dn m w x i * Dn m w x i) + (Sm w (fun j => (2 * Dn m w x i) * Ac m w x j) + (Sm w (fun j => (2 * Dn m w x i) * Lf m w x i j) + (Sm w (fun j => Ac m w x j * Ac m w x j) + (Sm w (fun j => Lf m w x i j * Lf m w x i j) + Sm w (fun j => (2 * Ac m w x j) * Lf m w x i j))))) := by
      rw [← Sm_add, ← Sm_add, ← Sm_add, ← Sm_add, ← Sm_add]
      exact Sm_congr fun j _ => by
        have : x i j - Gm m w x = Dn m w x i + Ac m w x j + Lf m w x i j := by unfold Lf; grind
        rw [this]
        grind
    rw [e, Sm_mul w (2 * Dn m w x i) (Ac m w x), Sm_mul w (2 * Dn m w x i) (Lf m w x i), ac_zero hm hw, show Sm w (Lf m w x i) = 0 from lf_row hm hw i, Sm_const]
    grind
  rw [Sm_congr fun i _ => row i, Sm_add, Sm_add, Sm_add, Sm_mul, Sm_const]
  have cross : Sm m (fun i => Sm w fun j => (2 * Ac m w x j) * Lf m w x i j) = 0 := by
    rw [Sm_comm]
    have : (fun j => Sm m fun i => (2 * Ac m w x j) * Lf m w x i j) = fun _ => (0 : Rat) := funext fun j => by
      rw [Sm_mul, lf_col hm hw]; grind
    rw [this, Sm_const]; grind
  rw [cross]
  grind
end
end Lk94

namespace Lk94
open PySem MP
open scoped Rat
/-! ### sizes, by a bottom in common -/
def Fr (L B : Nat) (q : Rat) : Prop := ∃ n : Int, q = n /. (L : Int) ∧ n.natAbs ≤ B
theorem div_cast (n : Int) (L : Nat) : n /. (L : Int) = (n : Rat) / (L : Rat) := by rw [Rat.divInt_eq_div]; exact_mod_cast rfl
theorem Fr.sz {L B c : Nat} {q : Rat} (h : Fr L B q) (h0 : 1 ≤ L) (h1 : L < 2 ^ c) (h2 : B < 2 ^ c) : Sz c q := by
  obtain ⟨n, rfl, hn⟩ := h
  exact Sz.divInt (by omega) (by omega) (by simpa using h1) (Nat.le_refl _)
theorem Fr.mono {L B B' : Nat} {q : Rat} (h : Fr L B q) (hb : B ≤ B') : Fr L B' q := by
  obtain ⟨n, e, hn⟩ := h
  exact ⟨n, e, by omega⟩
theorem Fr.zero {L : Nat} : Fr L 0 0 := ⟨0, by simp [Rat.zero_divInt], by simp⟩
theorem Fr.add {L B B' : Nat} {p q : Rat} (hp : Fr L B p) (hq : Fr L B' q) : Fr L (B + B') (p + q) := by
  obtain ⟨n, rfl, hn⟩ := hp
  obtain ⟨k, rfl, hk⟩ := hq
  refine ⟨n + k, ?_, by omega⟩
  rw [div_cast, div_cast, div_cast, Rat.intCast_add]
  grind
theorem Fr.neg {L B : Nat} {p : Rat} (hp : Fr L B p) : Fr L B (-p) := by
  obtain ⟨n, rfl, hn⟩ := hp
  refine ⟨-n, ?_, by omega⟩
  rw [div_cast, div_cast, Rat.intCast_neg]
  grind
theorem Fr.sub {L B B' : Nat} {p q : Rat} (hp : Fr L B p) (hq : Fr L B' q) : Fr L (B + B') (p - q) := by
  rw [Rat.sub_eq_add_neg]
  exact hp.add hq.neg
theorem Fr.mul {L M B B' : Nat} {p q : Rat} (hp : Fr L B p) (hq : Fr M B' q) (h1 : 1 ≤ L) (h2 : 1 ≤ M) : Fr (L * M) (B * B') (p * q) := by
  obtain ⟨n, rfl, hn⟩ := hp
  obtain ⟨k, rfl, hk⟩ := hq
  refine ⟨n * k, ?_, by rw [Int.natAbs_mul]; exact Nat.mul_le_mul hn hk⟩
  rw [Rat.divInt_mul_divInt, Int.natCast_mul]
theorem Fr.sum {L B : Nat} {f : Nat → Rat} : ∀ n, (∀ i, i < n → Fr L B (f i)) → Fr L (n * B) (Sm n f)
  | 0, _ => Fr.zero.mono (Nat.zero_le _)
  | n + 1, h => by
    rw [Sm_succ, Nat.succ_mul]
    exact (Fr.sum n fun i hi => h i (by omega)).add (h n (by omega))
theorem Fr.lift {L B k : Nat} {q : Rat} (h : Fr L B q) (hk : 1 ≤ k) (hL : 1 ≤ L) : Fr (L * k) (B * k) q := by
  obtain ⟨n, rfl, hn⟩ := h
  refine ⟨n * (k : Int), ?_, by rw [Int.natAbs_mul, Int.natAbs_natCast]; exact Nat.mul_le_mul_right _ hn⟩
  rw [Rat.divInt_eq_divInt_iff (by omega) (by
    have : 0 < L * k := Nat.mul_pos hL hk
    omega), Int.natCast_mul]
  ac_rfl
theorem Fr.div {L B k : Nat} {q : Rat} (h : Fr L B q) (hk : 1 ≤ k) (hL : 1 ≤ L) : Fr (L * k) B (q / (k : Rat)) := by
  obtain ⟨n, rfl, hn⟩ := h
  refine ⟨n, ?_, hn⟩
  rw [div_cast, div_cast]
  have h1 := rat_ne hL
  have h2 := rat_ne hk
  have h3 : ((L * k : Nat) : Rat) = (L : Rat) * (k : Rat) := by exact_mod_cast rfl
  rw [h3]
  generalize (L : Rat) = a at *
  generalize (k : Rat) = b at *
  grind
theorem Fr.nat {k : Nat} {L B : Nat} {q : Rat} (h : Fr L B q) : Fr L (k * B) ((k : Rat) * q) := by
  obtain ⟨n, rfl, hn⟩ := h
  refine ⟨(k : Int) * n, ?_, by rw [Int.natAbs_mul, Int.natAbs_natCast]; exact Nat.mul_le_mul_left _ hn⟩
  rw [div_cast, div_cast, Rat.intCast_mul]
  have : (((k : Int)) : Rat) = (k : Rat) := by exact_mod_cast rfl
  rw [this]
  grind
theorem Fr.share {L B c : Nat} {p q : Rat} (hp : Fr L B p) (hq : Fr L B q) (h0 : q ≠ 0) (hL : 1 ≤ L) (hB : B < 2 ^ c) : Sz c (p / q) := by
  obtain ⟨n, rfl, hn⟩ := hp
  obtain ⟨k, rfl, hk⟩ := hq
  have hk0 : k ≠ 0 := fun e => h0 (by rw [e]; exact Rat.zero_divInt _)
  have e : (n /. (L : Int)) / (k /. (L : Int)) = n /. k := by
    rw [div_cast, div_cast, Rat.divInt_eq_div]
    have h1 := rat_ne hL
    have h2 : (k : Rat) ≠ 0 := fun z => by
      have h0' : ((k : Int) : Rat) = ((0 : Int) : Rat) := by exact_mod_cast z
      exact hk0 (Rat.intCast_inj.mp h0')
    generalize (L : Rat) = a at *
    generalize (n : Rat) = b at *
    generalize (k : Rat) = d at *
    grind
  rw [e]
  exact Sz.divInt hk0 (by omega) (by omega) (Nat.le_refl _)
theorem fr_cell {q : Rat} (h : Sz 3 q) : Fr 420 2940 q := by
  have h1 : q.num.natAbs < 8 := h.1
  have h2 : q.den < 8 := h.2
  have h3 := q.den_pos
  have e : q = q.num /. (q.den : Int) := (Rat.num_divInt_den q).symm
  have key : ∀ d k : Nat, q.den = d → d * k = 420 → k ≤ 420 → Fr 420 2940 q := fun d k hd hk hk2 => by
    refine ⟨q.num * (k : Int), ?_, ?_⟩
    · rw [e, Rat.divInt_eq_divInt_iff (by omega) (by decide), ← e, hd]
      have hk' : (d : Int) * (k : Int) = 420 := by exact_mod_cast hk
      rw [Int.mul_assoc, Int.mul_comm (k : Int), hk']
      rfl
    · rw [Int.natAbs_mul, Int.natAbs_natCast]
      have := Nat.mul_le_mul (show q.num.natAbs ≤ 7 by omega) hk2
      omega
  have : q.den = 1 ∨ q.den = 2 ∨ q.den = 3 ∨ q.den = 4 ∨ q.den = 5 ∨ q.den = 6 ∨ q.den = 7 := by omega
  rcases this with d | d | d | d | d | d | d
  · exact key 1 420 d rfl (by decide)
  · exact key 2 210 d rfl (by decide)
  · exact key 3 140 d rfl (by decide)
  · exact key 4 105 d rfl (by decide)
  · exact key 5 84 d rfl (by decide)
  · exact key 6 70 d rfl (by decide)
  · exact key 7 60 d rfl (by decide)
theorem fr_mean {B d k : Nat} {q : Rat} (h : Fr 420 B q) (hd : 1 ≤ d) (hk : d * k = 144) : Fr 60480 (B * 144) (q / (d : Rat)) := by
  have hk1 : 1 ≤ k := by
    rcases Nat.eq_zero_or_pos k with e | e
    · rw [e] at hk; simp at hk
    · exact e
  have h1 := (h.div hd (by decide)).lift hk1 (Nat.mul_pos (by decide) hd)
  rw [Nat.mul_assoc, hk] at h1
  refine h1.mono (Nat.mul_le_mul_left _ ?_)
  have := Nat.le_mul_of_pos_left k hd
  omega
theorem parts144 {m w : Nat} (hm : 1 ≤ m) (hm4 : m ≤ 4) (hw : 1 ≤ w) (hw4 : w ≤ 4) : (∃ k, (m * w) * k = 144) ∧ (∃ k, m * k = 144) ∧ ∃ k, w * k = 144 := by
  have h1 : m = 1 ∨ m = 2 ∨ m = 3 ∨ m = 4 := by omega
  have h2 : w = 1 ∨ w = 2 ∨ w = 3 ∨ w = 4 := by omega
  refine ⟨⟨144 / (m * w), ?_⟩, ⟨144 / m, ?_⟩, ⟨144 / w, ?_⟩⟩ <;> rcases h1 with rfl | rfl | rfl | rfl <;> rcases h2 with rfl | rfl | rfl | rfl <;> rfl
structure Good (m w : Nat) (x : Nat → Nat → Rat) : Prop where
  m1 : 1 ≤ m
  m4 : m ≤ 4
  w1 : 1 ≤ w
  w4 : w ≤ 4
  x : ∀ i j, Sz 3 (x i j)
section
variable {m w : Nat} {x : Nat → Nat → Rat}
theorem Good.fr (g : Good m w x) (i j : Nat) : Fr 60480 423360 (x i j) := (fr_cell (g.x i j)).lift (k := 144) (by decide) (by decide)
theorem Good.frG (g : Good m w x) : Fr 60480 6773760 (Gm m w x) := by
  obtain ⟨⟨k, hk⟩, _, _⟩ := parts144 g.m1 g.m4 g.w1 g.w4
  have h1 : Fr 420 47040 (Sm m fun i => Sm w (x i)) := (Fr.sum (B := w * 2940) m fun i _ => Fr.sum w fun j _ => fr_cell (g.x i j)).mono (by
    have := Nat.mul_le_mul g.m4 (Nat.mul_le_mul_right 2940 g.w4)
    omega)
  exact fr_mean h1 (Nat.mul_pos g.m1 g.w1) hk
theorem Good.frR (g : Good m w x) (i : Nat) : Fr 60480 1693440 (Sm w (x i) / (w : Rat)) := by
  obtain ⟨_, _, ⟨k, hk⟩⟩ := parts144 g.m1 g.m4 g.w1 g.w4
  have h1 : Fr 420 11760 (Sm w (x i)) := (Fr.sum w fun j _ => fr_cell (g.x i j)).mono (by
    have := Nat.mul_le_mul_right 2940 g.w4
    omega)
  exact fr_mean h1 g.w1 hk
theorem Good.frC (g : Good m w x) (j : Nat) : Fr 60480 1693440 (Sm m (fun i => x i j) / (m : Rat)) := by
  obtain ⟨_, ⟨k, hk⟩, _⟩ := parts144 g.m1 g.m4 g.w1 g.w4
  have h1 : Fr 420 11760 (Sm m fun i => x i j) := (Fr.sum m fun i _ => fr_cell (g.x i j)).mono (by
    have := Nat.mul_le_mul_right 2940 g.m4
    omega)
  exact fr_mean h1 g.m1 hk
theorem Good.frD (g : Good m w x) (i : Nat) : Fr 60480 8467200 (Dn m w x i) := (g.frR i).sub g.frG
theorem Good.frA (g : Good m w x) (j : Nat) : Fr 60480 8467200 (Ac m w x j) := (g.frC j).sub g.frG
theorem Good.frL (g : Good m w x) (i j : Nat) : Fr 60480 24131520 (Lf m w x i j) := (g.fr i j).sub (g.frG.add ((g.frD i).add (g.frA j)))
theorem Good.frX (g : Good m w x) (i j : Nat) : Fr 60480 7197120 (x i j - Gm m w x) := (g.fr i j).sub g.frG
theorem fr_sq2 {B : Nat} {f : Nat → Nat → Rat} (g : Good m w x) (h : ∀ i j, Fr 60480 B (f i j)) : Fr 3657830400 (16 * (B * B)) (Sq2 m w f) := (Fr.sum (B := w * (B * B)) m fun i _ => Fr.sum w fun j _ => (h i j).mul (h i j) (by decide) (by decide)).mono (by
  have := Nat.mul_le_mul g.m4 (Nat.mul_le_mul_right (B * B) g.w4)
  omega)
theorem fr_sq1 {B n : Nat} {f : Nat → Rat} (hn : n ≤ 4) (h : ∀ i, Fr 60480 B (f i)) : Fr 3657830400 (4 * (B * B)) (Sm n fun i => f i * f i) := (Fr.sum n fun i _ => (h i).mul (h i) (by decide) (by decide)).mono (Nat.mul_le_mul_right _ hn)
def bigN : Nat := 9316960920 * 1000000
theorem Good.szG (g : Good m w x) : Sz 25 (Gm m w x) := g.frG.sz (by decide) (by decide) (by decide)
theorem Good.szD (g : Good m w x) (i : Nat) : Sz 25 (Dn m w x i) := (g.frD i).sz (by decide) (by decide) (by decide)
theorem Good.szA (g : Good m w x) (j : Nat) : Sz 25 (Ac m w x j) := (g.frA j).sz (by decide) (by decide) (by decide)
theorem Good.szL (g : Good m w x) (i j : Nat) : Sz 25 (Lf m w x i j) := (g.frL i j).sz (by decide) (by decide) (by decide)
theorem Good.szX (g : Good m w x) (i j : Nat) : Sz 25 (x i j - Gm m w x) := (g.frX i j).sz (by decide) (by decide) (by decide)
theorem Good.frLL (g : Good m w x) : Fr 3657830400 (2 ^ 54) (Sq2 m w (Lf m w x)) := (fr_sq2 g fun i j => g.frL i j).mono (by decide)
theorem Good.frXX (g : Good m w x) : Fr 3657830400 (2 ^ 54) (Sq2 m w (fun i j => x i j - Gm m w x)) := (fr_sq2 g fun i j => g.frX i j).mono (by decide)
theorem Good.frDD (g : Good m w x) : Fr 3657830400 (2 ^ 50) (Sm m fun i => Dn m w x i * Dn m w x i) := (fr_sq1 g.m4 fun i => g.frD i).mono (by decide)
theorem Good.frAA (g : Good m w x) : Fr 3657830400 (2 ^ 50) (Sm w fun i => Ac m w x i * Ac m w x i) := (fr_sq1 g.w4 fun i => g.frA i).mono (by decide)
theorem Good.frWD (g : Good m w x) : Fr 3657830400 (2 ^ 54) ((w : Rat) * Sm m fun i => Dn m w x i * Dn m w x i) := g.frDD.nat.mono (by
  have := Nat.mul_le_mul_right (2 ^ 50) g.w4
  omega)
theorem Good.frMA (g : Good m w x) : Fr 3657830400 (2 ^ 54) ((m : Rat) * Sm w fun i => Ac m w x i * Ac m w x i) := g.frAA.nat.mono (by
  have := Nat.mul_le_mul_right (2 ^ 50) g.m4
  omega)
end
end Lk94

namespace Lk94
open PySem MP
open scoped Rat
def rowL (w : Nat) (f : Nat → Rat) : List Rat := (List.range w).map f
def rowV (w : Nat) (f : Nat → Rat) : MV := .lst ((rowL w f).map fv)
def tv (m w : Nat) (x : Nat → Nat → Rat) : MV := .lst ((List.range m).map fun i => rowV w (x i))
def cells (m w : Nat) (x : Nat → Nat → Rat) : List Rat := (List.range m).flatMap fun i => rowL w (x i)
theorem rowV_eq (w : Nat) (f : Nat → Rat) : rowV w f = .lst ((List.range w).map fun j => fv (f j)) := by
  unfold rowV rowL
  rw [List.map_map]
  rfl
theorem rowL_len {w : Nat} {f : Nat → Rat} : (rowL w f).length = w := by simp [rowL]
theorem rowL_mem {w : Nat} {f : Nat → Rat} {q : Rat} (h : q ∈ rowL w f) : ∃ j, j < w ∧ q = f j := by
  obtain ⟨j, hj, rfl⟩ := List.mem_map.mp h
  exact ⟨j, List.mem_range.mp hj, rfl⟩
theorem cells_mem {m w : Nat} {x : Nat → Nat → Rat} {q : Rat} (h : q ∈ cells m w x) : ∃ i j, i < m ∧ j < w ∧ q = x i j := by
  obtain ⟨i, hi, hq⟩ := List.mem_flatMap.mp h
  obtain ⟨j, hj, e⟩ := rowL_mem hq
  exact ⟨i, j, List.mem_range.mp hi, hj, e⟩
theorem cells_succ (m w : Nat) (x : Nat → Nat → Rat) : cells (m + 1) w x = cells m w x ++ rowL w (x m) := by
  unfold cells
  rw [List.range_succ, List.flatMap_append]
  simp
theorem sum_app (a b : List Rat) : (a ++ b).sum = a.sum + b.sum := List.sum_append
theorem cells_sum (m w : Nat) (x : Nat → Nat → Rat) : (cells m w x).sum = Sm m fun i => Sm w (x i) := by
  induction m with
  | zero => rfl
  | succ m ih => rw [cells_succ, sum_app, ih, Sm_succ]; rfl
theorem cells_len (m w : Nat) (x : Nat → Nat → Rat) : (cells m w x).length = m * w := by
  induction m with
  | zero => simp [cells]
  | succ m ih => rw [cells_succ, List.length_append, ih, rowL_len, Nat.succ_mul]
theorem prods_app (a b : List Rat) : (prods (a ++ b) (a ++ b)).sum = (prods a a).sum + (prods b b).sum := by
  unfold prods
  rw [List.zipWith_append rfl, sum_app]
theorem row_sq (w : Nat) (f : Nat → Rat) : (prods (rowL w f) (rowL w f)).sum = Sm w fun j => f j * f j := by
  unfold Sm
  congr 1
  unfold prods rowL
  induction (List.range w) with
  | nil => rfl
  | cons a l ih => rw [List.map_cons, List.map_cons, List.zipWith_cons_cons, ih]
theorem cells_sq (m w : Nat) (x : Nat → Nat → Rat) : (prods (cells m w x) (cells m w x)).sum = Sq2 m w x := by
  unfold Sq2
  induction m with
  | zero => rfl
  | succ m ih => rw [cells_succ, prods_app, ih, row_sq, Sm_succ]
section
variable {C : Fns} {W : Nat} {st : Store} {m w : Nat} {x : Nat → Nat → Rat}
theorem len_lst {l : List MV} : bltM .len false [.lst l] st = .ok (.int (l.length : Int)) st := rfl
theorem len_tup {l : List MV} : bltM .len false [.tup l] st = .ok (.int (l.length : Int)) st := rfl
theorem mk2 (a b : MV) (st : Store) : mkT [a, b] st = .ok (.tup [a, b]) st := rfl
theorem mk3 (a b c : MV) (st : Store) : mkT [a, b, c] st = .ok (.tup [a, b, c]) st := rfl
theorem mk4 (a b c d : MV) (st : Store) : mkT [a, b, c, d] st = .ok (.tup [a, b, c, d]) st := rfl
theorem len_row {f : Nat → Rat} : bltM .len false [rowV w f] st = .ok (.int (w : Int)) st := by
  unfold rowV
  rw [len_lst, List.length_map, rowL_len]
theorem len_tv : bltM .len false [tv m w x] st = .ok (.int (m : Int)) st := by
  unfold tv
  rw [len_lst, List.length_map, List.length_range]
theorem idx_row {f : Nat → Rat} {j : Nat} (h : j < w) : idxM (rowV w f) (.int (j : Int)) st = .ok (fv (f j)) st := idx_lst (by
  unfold rowL
  rw [List.getElem?_map, List.getElem?_map, List.getElem?_range h]
  rfl)
theorem idx_tv {i : Nat} (h : i < m) : idxM (tv m w x) (.int (i : Int)) st = .ok (rowV w (x i)) st := idx_lst (by
  rw [List.getElem?_map, List.getElem?_range h]
  rfl)
theorem sz_up {b c : Nat} {q : Rat} (h : Sz b q) (hbc : b ≤ c) : Sz c q := h.up hbc
theorem call_of {i : Nat} {es : List ME} {en : MP.Env} {st1 : Store} {vs : List MV} (h : eEs C es en st = .ok vs st1) : eE C (.call i es) en st = C i vs st1 := by
  rw [v_call, h, R.bind_ok]
theorem vs1 {a : ME} {en : MP.Env} {st1 : Store} {x : MV} (h1 : eE C a en st = .ok x st1) : eEs C [a] en st = .ok [x] st1 := by
  simp only [vs_cons, vs_nil, h1, R.bind_ok]
theorem vs2 {a b : ME} {en : MP.Env} {st1 st2 : Store} {x y : MV} (h1 : eE C a en st = .ok x st1) (h2 : eE C b en st1 = .ok y st2) : eEs C [a, b] en st = .ok [x, y] st2 := by
  simp only [vs_cons, vs_nil, h1, h2, R.bind_ok]
theorem e_cells (hl : m * w ≤ 1000) (hm : m ≤ 1000) (hw : w ≤ 1000) : eE C (.comp2 false [1, 2] (.var 2) (.nm 1) .seq [(.var 0)] [2] (.nm 2) .seq [(.var 1)]) [some (tv m w x), none, none] st = .ok (.lst ((cells m w x).map fv)) st := by
  have hll := line_2e6
  have e : (cells m w x).map fv = (List.range m).flatMap fun i => (rowL w (x i)).map fv := by
    unfold cells
    rw [List.map_flatMap]
  rw [e]
  refine comp2_map (l := List.range m) (m := fun i => rowV w (x i)) (vs := [tv m w x]) (by simp only [vs_cons, vs_nil, v_var, List.getElem?_cons_zero, R.bind_ok]) rfl (by rw [← e, List.length_map, cells_len]; omega) (fun i hi acc ha => ?_)
  refine turnO_of (env1 := [some (tv m w x), some (rowV w (x i)), none]) (vs2 := [rowV w (x i)]) (L := (rowL w (x i)).map fv) rfl (by simp only [vs_cons, vs_nil, v_var, List.getElem?_cons_zero, List.getElem?_cons_succ, R.bind_ok]) rfl ?_
  refine compL_acc (g := fv) (rowL w (x i)) acc (fun q hq => ?_) (by rw [rowL_len]; omega)
  have hasg : asgT (.nm 2) (fv q) (wipeE [2] [some (tv m w x), some (rowV w (x i)), none]) = some [some (tv m w x), some (rowV w (x i)), some (fv q)] := rfl
  unfold turnJ
  rw [hasg]
  simp only [v_var, List.getElem?_cons_zero, List.getElem?_cons_succ, R.noX_ok, R.bind_ok]
theorem e_cols (hm1 : 1 ≤ m) (hm : m ≤ 1000) (hw : w ≤ 1000) : eE C (.comp false [2] (.comp false [1] (.idx (.var 1) (.var 2)) (.nm 1) .seq [(.var 0)] []) (.nm 2) .range [(.blt .len false [(.idx (.var 0) (.k (.int 0)))])] []) [some (tv m w x), none, none] st = .ok (tv w m fun j i => x i j) st := by
  have i0 : idxM (tv m w x) (.int 0) st = .ok (rowV w (x 0)) st := idx_tv hm1
  have ln := len_row (st := st) (w := w) (f := x 0)
  unfold tv
  refine comp_map (m := fun j : Nat => MV.int (0 + (j : Int))) (l := List.range w) (vs := [.int (w : Int)]) (by
    show eEs C _ [some (tv m w x), none, none] st = _
    simp only [vs_cons, vs_nil, v_blt, v_idx, v_k, v_var, List.getElem?_cons_zero, R.bind_ok, i0, ln]) (rgN (by omega)) rfl (by rw [List.length_range]; omega) (fun j hj => ?_)
  have hj' := List.mem_range.mp hj
  show turnF C [2] _ (.nm 2) [] [some (tv m w x), none, none] _ st = _
  have hasg : asgT (.nm 2) (.int (0 + (j : Int))) (wipeE [2] [some (tv m w x), none, none]) = some [some (tv m w x), none, some (.int (j : Int))] := by rw [Int.zero_add]; rfl
  have inn : eE C (.comp false [1] (.idx (.var 1) (.var 2)) (.nm 1) .seq [(.var 0)] []) [some (tv m w x), none, some (.int (j : Int))] st = .ok (rowV m fun i => x i j) st := by
    unfold rowV rowL
    rw [List.map_map]
    refine comp_map (m := fun i => rowV w (x i)) (l := List.range m) (vs := [tv m w x]) (by simp only [vs_cons, vs_nil, v_var, List.getElem?_cons_zero, R.bind_ok]) rfl rfl (by rw [List.length_range]; omega) (fun i hi => ?_)
    have hasg : asgT (.nm 1) (rowV w (x i)) (wipeE [1] [some (tv m w x), none, some (.int (j : Int))]) = some [some (tv m w x), some (rowV w (x i)), some (.int (j : Int))] := rfl
    have ix := idx_row (st := st) (f := x i) hj'
    simp only [turnF, hasg, vi_nil, v_idx, v_var, List.getElem?_cons_zero, List.getElem?_cons_succ, R.bind_ok, ix, if_true]
    rfl
  simp only [turnF, hasg, vi_nil, inn, R.bind_ok, if_true]
/-- what is left of a table -/
theorem e_left {g : Rat} {d a : Nat → Rat} (A : Bin2 C 6 (· + ·)) (S : Bin2 C 7 (· - ·)) (hm : m ≤ 1000) (hw : w ≤ 1000) (zx : ∀ i j, i < m → j < w → Sz 25 (x i j)) (zg : Sz 25 g) (zd : ∀ i, i < m → Sz 25 (d i)) (za : ∀ j, j < w → Sz 25 (a j)) :
    eE C (.comp false [6, 7] (.comp false [4, 5] (.call 7 [(.var 4), (.call 6 [(.var 1), (.call 6 [(.var 7), (.var 5)])])]) (.tp [(.nm 4), (.nm 5)]) .zip [(.var 6), (.var 3)] []) (.tp [(.nm 6), (.nm 7)]) .zip [(.var 0), (.var 2)] []) [some (tv m w x), some (fv g), some (rowV m d), some (rowV w a), none, none, none, none] st = .ok (tv m w fun i j => x i j - (g + (d i + a j))) st := by
  have ez : ∀ {α : Type} (f h : α → MV) (l : List α), zip2 (l.map f) (l.map h) = l.map fun z => .tup [f z, h z] := fun f h l => by
    induction l with
    | nil => rfl
    | cons a l ih =>
      show (MV.tup [f a, h a] :: zip2 (l.map f) (l.map h)) = _
      rw [ih]
      rfl
  have hi1 : itemsM .zip [tv m w x, rowV m d] st = some ((List.range m).map fun i => .tup [rowV w (x i), fv (d i)], []) := by
    show some (zip2 ((List.range m).map fun i => rowV w (x i)) ((rowL m d).map fv), []) = _
    unfold rowL
    rw [List.map_map, ez]
    rfl
  unfold tv
  refine comp_map (m := fun i => .tup [rowV w (x i), fv (d i)]) (l := List.range m) (vs := [tv m w x, rowV m d]) (by
    show eEs C _ [some (tv m w x), some (fv g), some (rowV m d), some (rowV w a), none, none, none, none] st = _
    simp only [vs_cons, vs_nil, v_var, List.getElem?_cons_zero, List.getElem?_cons_succ, R.bind_ok]) hi1 rfl (by rw [List.length_range]; omega) (fun i hi => ?_)
  have hi' := List.mem_range.mp hi
  show turnF C [6, 7] _ (.tp [(.nm 6), (.nm 7)]) [] [some (tv m w x), some (fv g), some (rowV m d), some (rowV w a), none, none, none, none] _ st = _
  have hasg : asgT (.tp [(.nm 6), (.nm 7)]) (.tup [rowV w (x i), fv (d i)]) (wipeE [6, 7] [some (tv m w x), some (fv g), some (rowV m d), some (rowV w a), none, none, none, none]) = some [some (tv m w x), some (fv g), some (rowV m d), some (rowV w a), none, none, some (rowV w (x i)), some (fv (d i))] := rfl
  have hi2 : itemsM .zip [rowV w (x i), rowV w a] st = some ((List.range w).map fun j => .tup [fv (x i j), fv (a j)], []) := by
    show some (zip2 ((rowL w (x i)).map fv) ((rowL w a).map fv), []) = _
    unfold rowL
    rw [List.map_map, List.map_map, ez]
    rfl
  have inn : eE C (.comp false [4, 5] (.call 7 [(.var 4), (.call 6 [(.var 1), (.call 6 [(.var 7), (.var 5)])])]) (.tp [(.nm 4), (.nm 5)]) .zip [(.var 6), (.var 3)] []) [some (tv m w x), some (fv g), some (rowV m d), some (rowV w a), none, none, some (rowV w (x i)), some (fv (d i))] st = .ok (rowV w fun j => x i j - (g + (d i + a j))) st := by
    rw [rowV_eq w (fun j => x i j - (g + (d i + a j)))]
    refine comp_map (m := fun j => .tup [fv (x i j), fv (a j)]) (l := List.range w) (vs := [rowV w (x i), rowV w a]) (by
      show eEs C _ [some (tv m w x), some (fv g), some (rowV m d), some (rowV w a), none, none, some (rowV w (x i)), some (fv (d i))] st = _
      simp only [vs_cons, vs_nil, v_var, List.getElem?_cons_zero, List.getElem?_cons_succ, R.bind_ok]) hi2 rfl (by rw [List.length_range]; omega) (fun j hj => ?_)
    have hj' := List.mem_range.mp hj
    show turnF C [4, 5] _ (.tp [(.nm 4), (.nm 5)]) [] [some (tv m w x), some (fv g), some (rowV m d), some (rowV w a), none, none, some (rowV w (x i)), some (fv (d i))] _ st = _
    have hasg : asgT (.tp [(.nm 4), (.nm 5)]) (.tup [fv (x i j), fv (a j)]) (wipeE [4, 5] [some (tv m w x), some (fv g), some (rowV m d), some (rowV w a), none, none, some (rowV w (x i)), some (fv (d i))]) = some [some (tv m w x), some (fv g), some (rowV m d), some (rowV w a), some (fv (x i j)), some (fv (a j)), some (rowV w (x i)), some (fv (d i))] := rfl
    have p1 := A 25 25 (d i) (a j) st (zd i hi') (za j hj') (by decide)
    have p2 := A 25 51 g (d i + a j) st zg ((zd i hi').add (za j hj')) (by decide)
    have p3 := S 25 77 (x i j) (g + (d i + a j)) st (zx i j hi' hj') (zg.add ((zd i hi').add (za j hj'))) (by decide)
    simp only [turnF, hasg, vi_nil, v_call, vs_cons, vs_nil, v_var, List.getElem?_cons_zero, List.getElem?_cons_succ, R.bind_ok, p1, p2, p3, if_true]
  simp only [turnF, hasg, vi_nil, inn, R.bind_ok, if_true]
end
section
variable {W D : Nat}
theorem k_cells (h : 1 ≤ D) {m w : Nat} {x : Nat → Nat → Rat} {st : Store} (hl : m * w ≤ 1000) (hm : m ≤ 1000) (hw : w ≤ 1000) : callF fs W D 20 [tv m w x] st = .ok (.lst ((cells m w x).map fv)) st := by
  obtain ⟨d, rfl, h'⟩ := succ_of h
  refine callF_of (f := f20) rfl rfl (by decide) ?_
  have hst : startE f20 [tv m w x] = [some (tv m w x), none, none] := rfl
  rw [hst]
  show eSs _ W b20 _ _ = _
  rw [b20]
  exact ss_ret (e_cells hl hm hw)
theorem k_cols (h : 1 ≤ D) {m w : Nat} {x : Nat → Nat → Rat} {st : Store} (hm1 : 1 ≤ m) (hm : m ≤ 1000) (hw : w ≤ 1000) : callF fs W D 19 [tv m w x] st = .ok (tv w m fun j i => x i j) st := by
  obtain ⟨d, rfl, h'⟩ := succ_of h
  refine callF_of (f := f19) rfl rfl (by decide) ?_
  have hst : startE f19 [tv m w x] = [some (tv m w x), none, none] := rfl
  rw [hst]
  show eSs _ W b19 _ _ = _
  rw [b19]
  exact ss_ret (e_cols hm1 hm hw)
theorem k_left (h : 3 ≤ D) {m w : Nat} {x : Nat → Nat → Rat} {st : Store} {g : Rat} {d' a : Nat → Rat} (hm : m ≤ 1000) (hw : w ≤ 1000) (zx : ∀ i j, i < m → j < w → Sz 25 (x i j)) (zg : Sz 25 g) (zd : ∀ i, i < m → Sz 25 (d' i)) (za : ∀ j, j < w → Sz 25 (a j)) : callF fs W D 23 [tv m w x, fv g, rowV m d', rowV w a] st = .ok (tv m w fun i j => x i j - (g + (d' i + a j))) st := by
  obtain ⟨d, rfl, h'⟩ := succ_of h
  refine callF_of (f := f23) rfl rfl (by decide) ?_
  have hst : startE f23 [tv m w x, fv g, rowV m d', rowV w a] = [some (tv m w x), some (fv g), some (rowV m d'), some (rowV w a), none, none, none, none] := rfl
  rw [hst]
  show eSs _ W b23 _ _ = _
  rw [b23]
  exact ss_ret (e_left (k_add (by omega)) (k_sub (by omega)) hm hw zx zg zd za)
theorem div_len {q : Rat} {n : Nat} (hn : 1 ≤ n) : q.num /. ((q.den : Int) * (n : Int)) = q / (n : Rat) := by
  have h1 : (q.den : Int) * (n : Int) = ((q.den * n : Nat) : Int) := by rw [Int.natCast_mul]
  rw [h1, div_cast]
  have h2 : ((q.den * n : Nat) : Rat) = (q.den : Rat) * (n : Rat) := by exact_mod_cast rfl
  rw [h2]
  have e : q = (q.num : Rat) / (q.den : Rat) := by
    have := div_cast q.num q.den
    rw [← this, Rat.num_divInt_den]
  have d0 := rat_ne q.den_pos
  have n0 := rat_ne hn
  have e' : q * (q.den : Rat) = (q.num : Rat) := by
    have : (q.num : Rat) / (q.den : Rat) * (q.den : Rat) = (q.num : Rat) := by
      generalize (q.num : Rat) = u
      generalize (q.den : Rat) = v at *
      grind
    rw [← e] at this
    exact this
  rw [← e']
  generalize (q.den : Rat) = v at *
  generalize (n : Rat) = u at *
  grind
theorem k_mean (h : 4 ≤ D) {qs : List Rat} {b : Nat} {st : Store} (hz : ∀ q ∈ qs, Sz b q) (hb : b ≤ 400) (hs : Sz 60 qs.sum) (h1 : 1 ≤ qs.length) (h2 : qs.length ≤ 20) : callF fs W D 21 [.lst (qs.map fv)] st = .ok (fv (qs.sum / (qs.length : Rat))) st := by
  obtain ⟨d, rfl, h'⟩ := succ_of h
  have hm := Nat.mul_le_mul hb h2
  have e1 := k_total (W := W) (D := d) (by omega) b (.lst (qs.map fv)) qs st (.inl rfl) hz (by omega) (by omega) (by omega)
  have F := k_fr (W := W) (D := d) (by omega)
  refine callF_of (f := f21) rfl rfl (by decide) ?_
  have hst : startE f21 [.lst (qs.map fv)] = [some (.lst (qs.map fv)), none] := rfl
  rw [hst]
  show eSs _ W b21 _ _ = _
  generalize callF fs W d = C at e1 F ⊢
  have ln : bltM .len false [.lst (qs.map fv)] st = .ok (.int (qs.length : Int)) st := by rw [len_lst, List.length_map]
  have i0 := idx_fv0 (st := st) (q := qs.sum)
  have i1 := idx_fv1 (st := st) (q := qs.sum)
  have mu : mulOk (qs.sum.den : Int) (qs.length : Int) = true := mulOk_r (by
    have : ((qs.length : Int)).natAbs = qs.length := Int.natAbs_natCast _
    rw [this]
    omega)
  have hd : ((qs.sum.den : Int) * (qs.length : Int)) ≠ 0 := by
    have := qs.sum.den_pos
    have h3 : 0 < (qs.sum.den : Int) * (qs.length : Int) := Int.mul_pos (by omega) (by omega)
    omega
  have hdz : ((qs.sum.den : Int) * (qs.length : Int)).natAbs < 2 ^ 8900 := lt_up (natAbs_mul_lt (i := (qs.sum.den : Int)) (j := (qs.length : Int)) (b := 60) (c := 6) hs.den (by
    rw [Int.natAbs_natCast]
    omega)) (by decide)
  have hF := F qs.sum.num ((qs.sum.den : Int) * (qs.length : Int)) st hd hdz
  rw [div_len h1] at hF
  rw [b21, ss_asg (v := fv qs.sum) (st1 := st) (by simp only [v_call, vs_cons, vs_nil, v_var, List.getElem?_cons_zero, R.bind_ok, e1]) (env1 := [some (.lst (qs.map fv)), some (fv qs.sum)]) rfl]
  exact ss_ret (by simp only [v_call, v_bin, v_blt, v_idx, vs_cons, vs_nil, v_var, v_k, List.getElem?_cons_zero, List.getElem?_cons_succ, R.bind_ok, i0, i1, ln, binM, mu, if_true, hF])
theorem k_square (h : 4 ≤ D) {v : MV} {qs : List Rat} {st : Store} (hv : Sq v (qs.map fv)) (hz : ∀ q ∈ qs, Sz 25 q) (h2 : qs.length ≤ 20) : callF fs W D 15 [v] st = .ok (fv (prods qs qs).sum) st := by
  obtain ⟨d, rfl, h'⟩ := succ_of h
  have e1 := k_prod (W := W) (D := d) (by omega) 25 25 v v qs qs st hv hv hz hz (by omega) (by decide) (by decide) (by omega) (by omega)
  refine callF_of (f := f15) rfl rfl (by decide) ?_
  have hst : startE f15 [v] = [some v] := rfl
  rw [hst]
  show eSs _ W b15 _ _ = _
  rw [b15]
  exact ss_ret ((call_of (vs2 rfl rfl)).trans e1)
end
end Lk94

namespace Lk94
open PySem MP
open scoped Rat
/-- a table, as it is given -/
def Tab (v : MV) (m w : Nat) (x : Nat → Nat → Rat) : Prop := ∃ vs, Sq v vs ∧ vs.length = m ∧ ∀ i, i < m → ∃ ys, Sq (vs.getD i .non) ys ∧ All2 (Gn 3) ys (rowL w (x i))
theorem sq_is {v : MV} {xs : List MV} (h : Sq v xs) : noRef v = true ∧ isSeqM v = true ∧ lenM v = some xs.length ∧ (∀ st, itemsM .seq [v] st = some (xs, [])) ∧ (∀ st, bltM .len false [v] st = .ok (.int (xs.length : Int)) st) ∧ ∀ (k : Nat) (y : MV) st, xs[k]? = some y → idxM v (.int (k : Int)) st = .ok y st := by
  rcases h with rfl | rfl
  · exact ⟨rfl, rfl, rfl, fun _ => rfl, fun _ => rfl, fun k y st h => idx_lst h⟩
  · exact ⟨rfl, rfl, rfl, fun _ => rfl, fun _ => rfl, fun k y st h => idx_tup h⟩
theorem range_getD (vs : List MV) : vs = (List.range vs.length).map fun i => vs.getD i .non := by
  apply List.ext_getElem?
  intro i
  rw [List.getElem?_map]
  by_cases h : i < vs.length
  · rw [List.getElem?_range h, List.getElem?_eq_getElem h]
    show _ = some (vs.getD i .non)
    rw [List.getD_eq_getElem?_getD, List.getElem?_eq_getElem h]
    rfl
  · rw [List.getElem?_eq_none (by omega), List.getElem?_eq_none (by rw [List.length_range]; omega)]
    rfl
section
variable {W D : Nat}
theorem k_tabN (h : 6 ≤ D) {v p : MV} {m w : Nat} {x : Nat → Nat → Rat} {st : Store} (hv : Tab v m w x) (hm : m ≤ 900) (hw : w ≤ 900) : callF fs W D 17 [v, .int (m : Int), .int (w : Int), p] st = .ok (tv m w x) st := by
  obtain ⟨d, rfl, h'⟩ := succ_of h
  obtain ⟨vs, h1, h2, h3⟩ := hv
  obtain ⟨s1, s2, s3, s4, s5, s6⟩ := sq_is h1
  have e1 := k_isSeqOf (W := W) (D := d) (by omega) v (m : Int) st s1
  rw [s3] at e1
  have A := k_askN (W := W) (D := d) (by omega)
  refine callF_of (f := f17) rfl rfl (by decide) ?_
  have hst : startE f17 [v, .int (m : Int), .int (w : Int), p] = [some v, some (.int (m : Int)), some (.int (w : Int)), some p, none] := rfl
  rw [hst]
  show eSs _ W b17 _ _ = _
  generalize callF fs W d = C at e1 A ⊢
  have hd : decide ((vs.length : Int) = (m : Int)) = true := decide_eq_true (by omega)
  have t1 : toTruth (eE C (.notE (.call 2 [(.var 0), (.var 1)])) [some v, some (.int (m : Int)), some (.int (w : Int)), some p, none] st) = .ok false st := by
    simp only [v_not, v_call, vs_cons, vs_nil, v_var, List.getElem?_cons_zero, List.getElem?_cons_succ, R.bind_ok, e1, hd, toTruth_bl, Bool.not_true]
  rw [b17, ite_f t1]
  refine ss_ret ?_
  unfold tv
  refine comp_map (m := fun i => vs.getD i .non) (l := List.range m) (vs := [v]) (by simp only [vs_cons, vs_nil, v_var, List.getElem?_cons_zero, R.bind_ok]) (by rw [s4 st, ← h2, ← range_getD]) rfl (by rw [List.length_range]; omega) (fun i hi => ?_)
  obtain ⟨ys, y1, y2⟩ := h3 i (List.mem_range.mp hi)
  have hyl : ys.length = w := by rw [y2.len, rowL_len]
  have e2 := A 3 (vs.getD i .non) p ys (rowL w (x i)) st (by decide) y1 y2 (by omega)
  rw [hyl] at e2
  generalize vs.getD i .non = r at e2 ⊢
  have hasg : asgT (.nm 4) r (wipeE [4] [some v, some (.int (m : Int)), some (.int (w : Int)), some p, none]) = some [some v, some (.int (m : Int)), some (.int (w : Int)), some p, some r] := rfl
  simp only [turnF, hasg, vi_nil, v_call, vs_cons, vs_nil, v_var, List.getElem?_cons_zero, List.getElem?_cons_succ, R.bind_ok, e2, if_true]
  rfl
theorem k_table (h : 7 ≤ D) {v : MV} {m w : Nat} {x : Nat → Nat → Rat} {st : Store} (hv : Tab v m w x) (g : Good m w x) : callF fs W D 18 [v] st = .ok (tv m w x) st := by
  obtain ⟨d, rfl, h'⟩ := succ_of h
  have m1 := g.m1
  have m4 := g.m4
  have w1 := g.w1
  have w4 := g.w4
  have e9 := k_tabN (W := W) (D := d) (p := .int 1) (st := st) h' hv (by omega) (by omega)
  obtain ⟨vs, h1, h2, h3⟩ := hv
  obtain ⟨s1, s2, s3, s4, s5, s6⟩ := sq_is h1
  obtain ⟨ys, y1, y2⟩ := h3 0 m1
  obtain ⟨r1, r2, r3, r4, r5, r6⟩ := sq_is y1
  have hyl : ys.length = w := by rw [y2.len, rowL_len]
  have i0 : idxM v (.int 0) st = .ok (vs.getD 0 .non) st := s6 0 (vs.getD 0 .non) st (by
    rw [List.getD_eq_getElem?_getD, List.getElem?_eq_getElem (by omega)]
    rfl)
  have q1 := k_isSeq (W := W) (D := d) (by omega) v st s1
  have q2 := k_isSeq (W := W) (D := d) (by omega) (vs.getD 0 .non) st r1
  rw [s2] at q1
  rw [r2] at q2
  have l1 := s5 st
  have l2 := r5 st
  rw [h2] at l1
  rw [hyl] at l2
  generalize vs.getD 0 .non = r0 at i0 q2 l2
  refine callF_of (f := f18) rfl rfl (by decide) ?_
  have hst : startE f18 [v] = [some v] := rfl
  rw [hst]
  show eSs _ W b18 _ _ = _
  generalize callF fs W d = C at e9 q1 q2 ⊢
  have a1 : decide ((1 : Int) ≤ (m : Int)) = true := decide_eq_true (by omega)
  have a2 : decide ((m : Int) ≤ 5) = true := decide_eq_true (by omega)
  have a3 : decide ((1 : Int) ≤ (w : Int)) = true := decide_eq_true (by omega)
  have a4 : decide ((w : Int) ≤ 5) = true := decide_eq_true (by omega)
  have t1 : toTruth (eE C (.orE (.notE (.call 1 [(.var 0)])) (.orE (.notE (.chain .le .le (.k (.int 1)) (.blt .len false [(.var 0)]) (.k (.int 5)))) (.notE (.call 1 [(.idx (.var 0) (.k (.int 0)))])))) [some v] st) = .ok false st := by
    simp only [v_or, v_not, v_chain, v_call, v_blt, v_idx, vs_cons, vs_nil, v_var, v_k, List.getElem?_cons_zero, R.bind_ok, q1, q2, l1, i0, cmpM, a1, a2, toTruth_bl, truth_bl, Bool.not_true]
  have t2 : toTruth (eE C (.notE (.chain .le .le (.k (.int 1)) (.blt .len false [(.idx (.var 0) (.k (.int 0)))]) (.k (.int 5)))) [some v] st) = .ok false st := by
    simp only [v_not, v_chain, v_blt, v_idx, vs_cons, vs_nil, v_var, v_k, List.getElem?_cons_zero, R.bind_ok, l2, i0, cmpM, a3, a4, toTruth_bl, Bool.not_true]
  rw [b18, ite_f t1, ite_f t2]
  exact ss_ret (by simp only [v_call, v_blt, v_idx, vs_cons, vs_nil, v_var, v_k, List.getElem?_cons_zero, R.bind_ok, l1, l2, i0, e9])
theorem Good.t {m w : Nat} {x : Nat → Nat → Rat} (g : Good m w x) : Good w m fun j i => x i j := ⟨g.w1, g.w4, g.m1, g.m4, fun j i => g.x i j⟩
theorem Good.szS {m w : Nat} {x : Nat → Nat → Rat} (g : Good m w x) : Sz 60 (Sm m fun i => Sm w (x i)) := by
  have h1 : Fr 420 47040 (Sm m fun i => Sm w (x i)) := (Fr.sum (B := w * 2940) m fun i _ => Fr.sum w fun j _ => fr_cell (g.x i j)).mono (by
    have := Nat.mul_le_mul g.m4 (Nat.mul_le_mul_right 2940 g.w4)
    omega)
  exact h1.sz (by decide) (by decide) (by decide)
theorem Good.szR {m w : Nat} {x : Nat → Nat → Rat} (g : Good m w x) (i : Nat) : Sz 60 (Sm w (x i)) := by
  have h1 : Fr 420 11760 (Sm w (x i)) := (Fr.sum w fun j _ => fr_cell (g.x i j)).mono (by
    have := Nat.mul_le_mul_right 2940 g.w4
    omega)
  exact h1.sz (by decide) (by decide) (by decide)
theorem k_whole' (h : 5 ≤ D) {m w : Nat} {x : Nat → Nat → Rat} {st : Store} (g : Good m w x) : callF fs W D 21 [.lst ((cells m w x).map fv)] st = .ok (fv (Gm m w x)) st := by
  have m1 := g.m1
  have m4 := g.m4
  have w1 := g.w1
  have w4 := g.w4
  have hl := Nat.mul_le_mul m4 w4
  have hl1 := Nat.mul_le_mul m1 w1
  have := k_mean (W := W) (D := D) (by omega) (qs := cells m w x) (b := 3) (st := st) (fun q hq => by
    obtain ⟨i, j, _, _, rfl⟩ := cells_mem hq
    exact g.x i j) (by decide) (by rw [cells_sum]; exact g.szS) (by rw [cells_len]; omega) (by rw [cells_len]; omega)
  rw [cells_sum, cells_len] at this
  exact this
theorem k_rowMean (h : 5 ≤ D) {m w : Nat} {x : Nat → Nat → Rat} {st : Store} (g : Good m w x) (i : Nat) : callF fs W D 21 [rowV w (x i)] st = .ok (fv (Sm w (x i) / (w : Rat))) st := by
  have w1 := g.w1
  have w4 := g.w4
  have := k_mean (W := W) (D := D) (by omega) (qs := rowL w (x i)) (b := 3) (st := st) (fun q hq => by
    obtain ⟨j, _, rfl⟩ := rowL_mem hq
    exact g.x i j) (by decide) (g.szR i) (by rw [rowL_len]; omega) (by rw [rowL_len]; omega)
  rw [rowL_len] at this
  exact this
/-- the parts, in the program's hands -/
def prts (m w : Nat) (x : Nat → Nat → Rat) : MV := .tup [fv (Gm m w x), rowV m (Dn m w x), rowV w (Ac m w x)]
theorem k_parts (h : 6 ≤ D) {m w : Nat} {x : Nat → Nat → Rat} {st : Store} (g : Good m w x) : callF fs W D 22 [tv m w x] st = .ok (prts m w x) st := by
  obtain ⟨d, rfl, h'⟩ := succ_of h
  have hll := line_1e6
  have m1 := g.m1
  have m4 := g.m4
  have w1 := g.w1
  have w4 := g.w4
  have hl := Nat.mul_le_mul m4 w4
  have e1 := k_cells (W := W) (D := d) (by omega) (m := m) (w := w) (x := x) (st := st) (by omega) (by omega) (by omega)
  have e2 := k_whole' (W := W) (D := d) (by omega) (st := st) g
  have e3 := fun i => k_rowMean (W := W) (D := d) (by omega) (st := st) g i
  have e4 := fun j => k_rowMean (W := W) (D := d) (by omega) (st := st) g.t j
  have e5 := k_cols (W := W) (D := d) (by omega) (m := m) (w := w) (x := x) (st := st) m1 (by omega) (by omega)
  have S := k_sub (W := W) (D := d) (by omega)
  have s3 := fun i => S 25 25 (Sm w (x i) / (w : Rat)) (Gm m w x) st ((g.frR i).sz (by decide) (by decide) (by decide)) g.szG (by decide)
  have s4 := fun j => S 25 25 (Sm m (fun i => x i j) / (m : Rat)) (Gm m w x) st ((g.frC j).sz (by decide) (by decide) (by decide)) g.szG (by decide)
  refine callF_of (f := f22) rfl rfl (by decide) ?_
  have hst : startE f22 [tv m w x] = [some (tv m w x), none, none, none, none, none] := rfl
  rw [hst]
  show eSs _ W b22 _ _ = _
  generalize callF fs W d = C at e1 e2 e3 e4 e5 s3 s4 ⊢
  have c1 : eE C (.comp false [3] (.call 7 [(.call 21 [(.var 3)]), (.var 1)]) (.nm 3) .seq [(.var 0)] []) [some (tv m w x), some (fv (Gm m w x)), none, none, none, none] st = .ok (rowV m (Dn m w x)) st := by
    rw [rowV_eq m (Dn m w x)]
    refine comp_map (m := fun i => rowV w (x i)) (l := List.range m) (vs := [tv m w x]) (by simp only [vs_cons, vs_nil, v_var, List.getElem?_cons_zero, R.bind_ok]) rfl rfl (by rw [List.length_range]; omega) (fun i hi => ?_)
    have hasg : asgT (.nm 3) (rowV w (x i)) (wipeE [3] [some (tv m w x), some (fv (Gm m w x)), none, none, none, none]) = some [some (tv m w x), some (fv (Gm m w x)), none, some (rowV w (x i)), none, none] := rfl
    simp only [turnF, hasg, vi_nil, v_call, vs_cons, vs_nil, v_var, List.getElem?_cons_zero, List.getElem?_cons_succ, R.bind_ok, e3, s3, if_true]
    rfl
  have c2 : eE C (.comp false [5] (.call 7 [(.call 21 [(.var 5)]), (.var 1)]) (.nm 5) .seq [(.call 19 [(.var 0)])] []) [some (tv m w x), some (fv (Gm m w x)), some (rowV m (Dn m w x)), none, none, none] st = .ok (rowV w (Ac m w x)) st := by
    rw [rowV_eq w (Ac m w x)]
    refine comp_map (m := fun j => rowV m fun i => x i j) (l := List.range w) (vs := [tv w m fun j i => x i j]) (by simp only [vs_cons, vs_nil, v_call, v_var, List.getElem?_cons_zero, R.bind_ok, e5]) rfl rfl (by rw [List.length_range]; omega) (fun j hj => ?_)
    have hasg : asgT (.nm 5) (rowV m fun i => x i j) (wipeE [5] [some (tv m w x), some (fv (Gm m w x)), some (rowV m (Dn m w x)), none, none, none]) = some [some (tv m w x), some (fv (Gm m w x)), some (rowV m (Dn m w x)), none, none, some (rowV m fun i => x i j)] := rfl
    simp only [turnF, hasg, vi_nil, v_call, vs_cons, vs_nil, v_var, List.getElem?_cons_zero, List.getElem?_cons_succ, R.bind_ok, e4, s4, if_true]
    rfl
  rw [b22, ss_asg (v := fv (Gm m w x)) (st1 := st) (by simp only [v_call, vs_cons, vs_nil, v_var, List.getElem?_cons_zero, R.bind_ok, e1, e2]) (env1 := [some (tv m w x), some (fv (Gm m w x)), none, none, none, none]) rfl,
    ss_asg c1 (env1 := [some (tv m w x), some (fv (Gm m w x)), some (rowV m (Dn m w x)), none, none, none]) rfl,
    ss_asg c2 (env1 := [some (tv m w x), some (fv (Gm m w x)), some (rowV m (Dn m w x)), none, some (rowV w (Ac m w x)), none]) rfl]
  exact ss_ret (by simp only [v_tup, vs_cons, vs_nil, v_var, List.getElem?_cons_zero, List.getElem?_cons_succ, R.bind_ok, mk3]; rfl)
theorem k_lessened (h : 4 ≤ D) {m w : Nat} {x : Nat → Nat → Rat} {st : Store} (g : Good m w x) : callF fs W D 23 [tv m w x, fv (Gm m w x), rowV m (Dn m w x), rowV w (Ac m w x)] st = .ok (tv m w (Lf m w x)) st := by
  have m4 := g.m4
  have w4 := g.w4
  exact k_left (by omega) (by omega) (by omega) (fun i j _ _ => (g.x i j).up (by decide)) g.szG (fun i _ => g.szD i) (fun j _ => g.szA j)
theorem k_sqCells (h : 5 ≤ D) {m w : Nat} {f : Nat → Nat → Rat} {st : Store} (hm : m ≤ 4) (hw : w ≤ 4) (hz : ∀ i j, Sz 25 (f i j)) : callF fs W D 15 [.lst ((cells m w f).map fv)] st = .ok (fv (Sq2 m w f)) st := by
  have hl := Nat.mul_le_mul hm hw
  have := k_square (W := W) (D := D) (by omega) (v := .lst ((cells m w f).map fv)) (qs := cells m w f) (st := st) (.inl rfl) (fun q hq => by
    obtain ⟨i, j, _, _, rfl⟩ := cells_mem hq
    exact hz i j) (by rw [cells_len]; omega)
  rw [cells_sq] at this
  exact this
theorem k_additive (h : 8 ≤ D) {v : MV} {m w : Nat} {x : Nat → Nat → Rat} {st : Store} (hv : Tab v m w x) (g : Good m w x) : callF fs W D 24 [v] st = .ok (.tup [fv (Gm m w x), .tup ((rowL m (Dn m w x)).map fv), .tup ((rowL w (Ac m w x)).map fv), fv (Sq2 m w (Lf m w x))]) st := by
  obtain ⟨d, rfl, h'⟩ := succ_of h
  have m4 := g.m4
  have w4 := g.w4
  have hl := Nat.mul_le_mul m4 w4
  have e1 := k_table (W := W) (D := d) (by omega) (st := st) hv g
  have e2 := k_parts (W := W) (D := d) (by omega) (st := st) g
  have e3 := k_lessened (W := W) (D := d) (by omega) (st := st) g
  have e4 := k_cells (W := W) (D := d) (by omega) (m := m) (w := w) (x := Lf m w x) (st := st) (by omega) (by omega) (by omega)
  have e5 := k_sqCells (W := W) (D := d) (by omega) (st := st) m4 w4 g.szL
  refine callF_of (f := f24) rfl rfl (by decide) ?_
  have hst : startE f24 [v] = [some v, none, none, none, none, none] := rfl
  rw [hst]
  show eSs _ W b24 _ _ = _
  generalize callF fs W d = C at e1 e2 e3 e4 e5 ⊢
  have t1 : ∀ f n, bltM .tuple false [rowV n f] st = .ok (.tup ((rowL n f).map fv)) st := fun f n => rfl
  rw [b24, ss_asg (v := tv m w x) (st1 := st) (by simp only [v_call, vs_cons, vs_nil, v_var, List.getElem?_cons_zero, R.bind_ok, e1]) (env1 := [some v, some (tv m w x), none, none, none, none]) rfl,
    ss_asg (v := prts m w x) (st1 := st) (by simp only [v_call, vs_cons, vs_nil, v_var, List.getElem?_cons_zero, List.getElem?_cons_succ, R.bind_ok, e2]) (env1 := [some v, some (tv m w x), some (fv (Gm m w x)), some (rowV m (Dn m w x)), some (rowV w (Ac m w x)), none]) rfl,
    ss_asg (v := fv (Sq2 m w (Lf m w x))) (st1 := st) (by simp only [v_call, vs_cons, vs_nil, v_var, List.getElem?_cons_zero, List.getElem?_cons_succ, R.bind_ok, e3, e4, e5]) (env1 := [some v, some (tv m w x), some (fv (Gm m w x)), some (rowV m (Dn m w x)), some (rowV w (Ac m w x)), some (fv (Sq2 m w (Lf m w x)))]) rfl]
  exact ss_ret (by simp only [v_tup, v_blt, vs_cons, vs_nil, v_var, List.getElem?_cons_zero, List.getElem?_cons_succ, R.bind_ok, t1, mk4])
def rowT (w : Nat) (f : Nat → Rat) : MV := .tup ((rowL w f).map fv)
theorem k_inter (h : 8 ≤ D) {v : MV} {m w : Nat} {x : Nat → Nat → Rat} {st : Store} (hv : Tab v m w x) (g : Good m w x) : callF fs W D 26 [v] st = .ok (.tup ((List.range m).map fun i => rowT w (Lf m w x i))) st := by
  obtain ⟨d, rfl, h'⟩ := succ_of h
  have hll := line_1e6
  have m4 := g.m4
  have w4 := g.w4
  have e1 := k_table (W := W) (D := d) (by omega) (st := st) hv g
  have e2 := k_parts (W := W) (D := d) (by omega) (st := st) g
  have e3 := k_lessened (W := W) (D := d) (by omega) (st := st) g
  refine callF_of (f := f26) rfl rfl (by decide) ?_
  have hst : startE f26 [v] = [some v, none, none, none, none, none] := rfl
  rw [hst]
  show eSs _ W b26 _ _ = _
  generalize callF fs W d = C at e1 e2 e3 ⊢
  rw [b26, ss_asg (v := tv m w x) (st1 := st) (by simp only [v_call, vs_cons, vs_nil, v_var, List.getElem?_cons_zero, R.bind_ok, e1]) (env1 := [some v, some (tv m w x), none, none, none, none]) rfl,
    ss_asg (v := prts m w x) (st1 := st) (by simp only [v_call, vs_cons, vs_nil, v_var, List.getElem?_cons_zero, List.getElem?_cons_succ, R.bind_ok, e2]) (env1 := [some v, some (tv m w x), some (fv (Gm m w x)), some (rowV m (Dn m w x)), some (rowV w (Ac m w x)), none]) rfl]
  refine ss_ret (tup_of (comp_map (m := fun i => rowV w (Lf m w x i)) (l := List.range m) (vs := [tv m w (Lf m w x)]) (by simp only [vs_cons, vs_nil, v_call, v_var, List.getElem?_cons_zero, List.getElem?_cons_succ, R.bind_ok, e3]) rfl rfl (by rw [List.length_range]; omega) (fun i hi => ?_)))
  have hasg : asgT (.nm 5) (rowV w (Lf m w x i)) (wipeE [5] [some v, some (tv m w x), some (fv (Gm m w x)), some (rowV m (Dn m w x)), some (rowV w (Ac m w x)), none]) = some [some v, some (tv m w x), some (fv (Gm m w x)), some (rowV m (Dn m w x)), some (rowV w (Ac m w x)), some (rowV w (Lf m w x i))] := rfl
  have t1 : bltM .tuple false [rowV w (Lf m w x i)] st = .ok (rowT w (Lf m w x i)) st := rfl
  simp only [turnF, hasg, vi_nil, v_blt, vs_cons, vs_nil, v_var, List.getElem?_cons_zero, List.getElem?_cons_succ, R.bind_ok, t1, if_true]
end
end Lk94

namespace Lk94
open PySem MP
open scoped Rat
theorem cells_map (m w : Nat) (x : Nat → Nat → Rat) (F : Rat → Rat) : cells m w (fun i j => F (x i j)) = (cells m w x).map F := by
  unfold cells rowL
  rw [List.map_flatMap]
  congr 1
  funext i
  rw [List.map_map]
  rfl
theorem fvn (n : Nat) : MV.tup [.int (n : Int), .int 1] = fv (n : Rat) := by
  rw [fv_whole]
  congr 1
  have h := div_cast (n : Int) 1
  rw [show ((1 : Nat) : Int) = 1 from rfl] at h
  have e : (((n : Int)) : Rat) = (n : Rat) := by exact_mod_cast rfl
  have e1 : ((1 : Nat) : Rat) = 1 := rfl
  rw [h, e, e1]
  grind
theorem szn {n : Nat} (h : n < 2 ^ 20) : Sz 20 (n : Rat) := ⟨by
  have : ((n : Rat)).num = (n : Int) := Rat.num_natCast n
  rw [this, Int.natAbs_natCast]
  exact h, by
  have : ((n : Rat)).den = 1 := Rat.den_natCast n
  rw [this]
  decide⟩
theorem nat_num (q : Rat) (k : Nat) : (q.num * (k : Int)) /. (q.den : Int) = (k : Rat) * q := by
  have e : q = (q.num : Rat) / (q.den : Rat) := by
    have := div_cast q.num q.den
    rw [← this, Rat.num_divInt_den]
  rw [div_cast, Rat.intCast_mul]
  have h : (((k : Int)) : Rat) = (k : Rat) := by exact_mod_cast rfl
  have d0 := rat_ne q.den_pos
  have e' : q * (q.den : Rat) = (q.num : Rat) := by
    have : (q.num : Rat) / (q.den : Rat) * (q.den : Rat) = (q.num : Rat) := by
      generalize (q.num : Rat) = u
      generalize (q.den : Rat) = v at *
      grind
    rw [← e] at this
    exact this
  rw [h, ← e']
  generalize (q.den : Rat) = v at *
  generalize (k : Rat) = u at *
  grind
section
variable {W D : Nat}
theorem k_scaled (h : 2 ≤ D) {q : Rat} {k : Nat} {b : Nat} {st : Store} (hq : Sz b q) (hb : b ≤ 8900) (hk : k < 2 ^ 20) : callF fs W D 9 [fv q, .int (k : Int)] st = .ok (fv ((k : Rat) * q)) st := by
  obtain ⟨d, rfl, h'⟩ := succ_of h
  have F := k_fr (W := W) (D := d) (by omega)
  refine callF_of (f := f9) rfl rfl (by decide) ?_
  have hst : startE f9 [fv q, .int (k : Int)] = [some (fv q), some (.int (k : Int))] := rfl
  rw [hst]
  show eSs _ W b9 _ _ = _
  generalize callF fs W d = C at F ⊢
  have i0 := idx_fv0 (st := st) (q := q)
  have i1 := idx_fv1 (st := st) (q := q)
  have mu : mulOk q.num (k : Int) = true := mulOk_r (by rw [Int.natAbs_natCast]; omega)
  have hd : (q.den : Int) ≠ 0 := by have := q.den_pos; omega
  have hF := F (q.num * (k : Int)) (q.den : Int) st hd (lt_up hq.den hb)
  rw [nat_num] at hF
  rw [b9]
  exact ss_ret (by simp only [v_call, v_bin, v_idx, vs_cons, vs_nil, v_var, v_k, List.getElem?_cons_zero, List.getElem?_cons_succ, R.bind_ok, i0, i1, binM, mu, if_true, hF])
theorem k_sqRow (h : 5 ≤ D) {n : Nat} {f : Nat → Rat} {st : Store} (hn : n ≤ 4) (hz : ∀ i, Sz 25 (f i)) : callF fs W D 15 [rowV n f] st = .ok (fv (Sm n fun i => f i * f i)) st := by
  have := k_square (W := W) (D := D) (by omega) (v := rowV n f) (qs := rowL n f) (st := st) (.inl rfl) (fun q hq => by
    obtain ⟨i, _, rfl⟩ := rowL_mem hq
    exact hz i) (by rw [rowL_len]; omega)
  rw [row_sq] at this
  exact this
def Xx (m w : Nat) (x : Nat → Nat → Rat) : Rat := Sq2 m w fun i j => x i j - Gm m w x
def Dd (m w : Nat) (x : Nat → Nat → Rat) : Rat := (w : Rat) * Sm m fun i => Dn m w x i * Dn m w x i
def Aa (m w : Nat) (x : Nat → Nat → Rat) : Rat := (m : Rat) * Sm w fun j => Ac m w x j * Ac m w x j
def Ll (m w : Nat) (x : Nat → Nat → Rat) : Rat := Sq2 m w (Lf m w x)
def shares (m w : Nat) (x : Nat → Nat → Rat) : List Rat := [Dd m w x / Xx m w x, Aa m w x / Xx m w x, Ll m w x / Xx m w x]
theorem Good.szXX {m w : Nat} {x : Nat → Nat → Rat} (g : Good m w x) : Sz 60 (Xx m w x) := g.frXX.sz (by decide) (by decide) (by decide)
theorem Good.szDD {m w : Nat} {x : Nat → Nat → Rat} (g : Good m w x) : Sz 60 (Dd m w x) := g.frWD.sz (by decide) (by decide) (by decide)
theorem Good.szAA {m w : Nat} {x : Nat → Nat → Rat} (g : Good m w x) : Sz 60 (Aa m w x) := g.frMA.sz (by decide) (by decide) (by decide)
theorem Good.szLL {m w : Nat} {x : Nat → Nat → Rat} (g : Good m w x) : Sz 60 (Ll m w x) := g.frLL.sz (by decide) (by decide) (by decide)
theorem shares_sum {m w : Nat} {x : Nat → Nat → Rat} (g : Good m w x) (h : Xx m w x ≠ 0) : (shares m w x).sum = 1 := by
  have a := anova (m := m) (w := w) (x := x) g.m1 g.w1
  have a' : Xx m w x = Dd m w x + Aa m w x + Ll m w x := a
  unfold shares
  simp only [List.sum_cons, List.sum_nil]
  generalize Xx m w x = X at *
  generalize Dd m w x = d at *
  generalize Aa m w x = e at *
  generalize Ll m w x = l at *
  grind
theorem shares_sz {m w : Nat} {x : Nat → Nat → Rat} (g : Good m w x) (h : Xx m w x ≠ 0) : ∀ q ∈ shares m w x, Sz 60 q := fun q hq => by
  unfold shares at hq
  simp only [List.mem_cons, List.not_mem_nil, or_false] at hq
  rcases hq with rfl | rfl | rfl
  · exact g.frWD.share g.frXX h (by decide) (by decide)
  · exact g.frMA.share g.frXX h (by decide) (by decide)
  · exact g.frLL.share g.frXX h (by decide) (by decide)
theorem lst_of {C : Fns} {es : List ME} {L : List MV} {env : MP.Env} {st st' : Store} (h : eEs C es env st = .ok L st') (hl : L.length ≤ 1000000) : eE C (.lstE false es) env st = .ok (.lst L) st' := by
  have hll := line_1e6
  have hL : L.length ≤ line := by omega
  simp only [v_lst, h, R.bind_ok, mkL, hL, if_true, Bool.false_eq_true, if_false]
theorem k_shares (h : 8 ≤ D) {v : MV} {m w : Nat} {x : Nat → Nat → Rat} {st : Store} (hv : Tab v m w x) (g : Good m w x) : callF fs W D 27 [v] st = .ok (if Xx m w x = 0 then .non else .tup ((shares m w x).map fv)) st := by
  obtain ⟨d, rfl, h'⟩ := succ_of h
  have hll := line_1e6
  have m4 := g.m4
  have w4 := g.w4
  have hl := Nat.mul_le_mul m4 w4
  have e1 := k_table (W := W) (D := d) (by omega) (st := st) hv g
  have e2 := k_parts (W := W) (D := d) (by omega) (st := st) g
  have e3 := k_lessened (W := W) (D := d) (by omega) (st := st) g
  have e4 := k_cells (W := W) (D := d) (by omega) (m := m) (w := w) (x := Lf m w x) (st := st) (by omega) (by omega) (by omega)
  have e5 := k_sqCells (W := W) (D := d) (by omega) (st := st) m4 w4 g.szL
  have e6 := k_cells (W := W) (D := d) (by omega) (m := m) (w := w) (x := x) (st := st) (by omega) (by omega) (by omega)
  have e7 := k_sqCells (W := W) (D := d) (by omega) (st := st) m4 w4 g.szX
  have e8 := k_sqRow (W := W) (D := d) (by omega) (st := st) m4 g.szD
  have e9 := k_sqRow (W := W) (D := d) (by omega) (st := st) w4 g.szA
  have S := k_sub (W := W) (D := d) (by omega)
  have V := k_div (W := W) (D := d) (by omega)
  have z1 := k_scaled (W := W) (D := d) (by omega) (q := Sm m fun i => Dn m w x i * Dn m w x i) (k := w) (st := st) (g.frDD.sz (c := 60) (by decide) (by decide) (by decide)) (by decide) (by omega)
  have z2 := k_scaled (W := W) (D := d) (by omega) (q := Sm w fun j => Ac m w x j * Ac m w x j) (k := m) (st := st) (g.frAA.sz (c := 60) (by decide) (by decide) (by decide)) (by decide) (by omega)
  have s1 : ∀ i j, i < m → j < w → callF fs W d 7 [fv (x i j), fv (Gm m w x)] st = .ok (fv (x i j - Gm m w x)) st := fun i j _ _ => S 25 25 (x i j) (Gm m w x) st ((g.x i j).up (by decide)) g.szG (by decide)
  have v1 : Xx m w x ≠ 0 → ∀ p, Sz 60 p → callF fs W d 8 [fv p, fv (Xx m w x)] st = .ok (fv (p / Xx m w x)) st := fun h p hp => V 60 60 p (Xx m w x) st hp g.szXX (by decide) h
  have zD := g.szDD
  have zA := g.szAA
  have zL := g.szLL
  refine callF_of (f := f27) rfl rfl (by decide) ?_
  have hst : startE f27 [v] = [some v, none, none, none, none, none, none, none, none, none] := rfl
  rw [hst]
  show eSs _ W b27 _ _ = _
  generalize callF fs W d = C at e1 e2 e3 e4 e5 e6 e7 e8 e9 z1 z2 s1 v1 ⊢
  have c5 : eE C (.comp false [6] (.call 7 [(.var 6), (.var 2)]) (.nm 6) .seq [(.call 20 [(.var 1)])] []) [some v, some (tv m w x), some (fv (Gm m w x)), some (rowV m (Dn m w x)), some (rowV w (Ac m w x)), none, none, none, none, none] st = .ok (.lst ((cells m w fun i j => x i j - Gm m w x).map fv)) st := by
    rw [cells_map m w x (fun q => q - Gm m w x), List.map_map]
    refine comp_map (m := fv) (l := cells m w x) (vs := [.lst ((cells m w x).map fv)]) (by simp only [vs_cons, vs_nil, v_call, v_var, List.getElem?_cons_zero, List.getElem?_cons_succ, R.bind_ok, e6]) rfl rfl (by rw [cells_len]; omega) (fun q hq => ?_)
    obtain ⟨i, j, hi, hj, rfl⟩ := cells_mem hq
    have s := s1 i j hi hj
    have hasg : asgT (.nm 6) (fv (x i j)) (wipeE [6] [some v, some (tv m w x), some (fv (Gm m w x)), some (rowV m (Dn m w x)), some (rowV w (Ac m w x)), none, none, none, none, none]) = some [some v, some (tv m w x), some (fv (Gm m w x)), some (rowV m (Dn m w x)), some (rowV w (Ac m w x)), none, some (fv (x i j)), none, none, none] := rfl
    simp only [turnF, hasg, vi_nil, v_call, vs_cons, vs_nil, v_var, List.getElem?_cons_zero, List.getElem?_cons_succ, R.bind_ok, s, if_true]
    rfl
  have c5' : eE C (.call 15 [(.comp false [6] (.call 7 [(.var 6), (.var 2)]) (.nm 6) .seq [(.call 20 [(.var 1)])] [])]) [some v, some (tv m w x), some (fv (Gm m w x)), some (rowV m (Dn m w x)), some (rowV w (Ac m w x)), none, none, none, none, none] st = .ok (fv (Xx m w x)) st := (call_of (vs1 c5)).trans e7
  have t6 : toTruth (eE C (.cmp .eq (.var 5) (.k (.tup [.int 0, .int 1]))) [some v, some (tv m w x), some (fv (Gm m w x)), some (rowV m (Dn m w x)), some (rowV w (Ac m w x)), some (fv (Xx m w x)), none, none, none, none] st) = .ok (decide (Xx m w x = 0)) st := by
    have hc : cmpM .eq (fv (Xx m w x)) (.tup [.int 0, .int 1]) st = some (decide (Xx m w x = 0)) := eqM_fv (st := st) (p := Xx m w x) (q := 0)
    simp only [v_cmp, v_var, v_k, List.getElem?_cons_zero, List.getElem?_cons_succ, R.bind_ok, hc, toTruth_bl]
  rw [b27, ss_asg (v := tv m w x) (st1 := st) (by simp only [v_call, vs_cons, vs_nil, v_var, List.getElem?_cons_zero, R.bind_ok, e1]) (env1 := [some v, some (tv m w x), none, none, none, none, none, none, none, none]) rfl,
    ss_asg (v := prts m w x) (st1 := st) (by simp only [v_call, vs_cons, vs_nil, v_var, List.getElem?_cons_zero, List.getElem?_cons_succ, R.bind_ok, e2]) (env1 := [some v, some (tv m w x), some (fv (Gm m w x)), some (rowV m (Dn m w x)), some (rowV w (Ac m w x)), none, none, none, none, none]) rfl,
    ss_asg c5' (env1 := [some v, some (tv m w x), some (fv (Gm m w x)), some (rowV m (Dn m w x)), some (rowV w (Ac m w x)), some (fv (Xx m w x)), none, none, none, none]) rfl]
  by_cases hX : Xx m w x = 0
  · rw [decide_eq_true hX] at t6
    rw [if_pos hX]
    exact ite_ret t6 (ss_ret (by rw [v_k]))
  · rw [decide_eq_false hX] at t6
    have v2 := v1 hX
    have l3 := len_row (st := st) (w := m) (f := Dn m w x)
    have l4 := len_row (st := st) (w := w) (f := Ac m w x)
    have c8 : eE C (.lstE false [(.call 9 [(.call 15 [(.var 3)]), (.blt .len false [(.var 4)])]), (.call 9 [(.call 15 [(.var 4)]), (.blt .len false [(.var 3)])]), (.var 7)]) [some v, some (tv m w x), some (fv (Gm m w x)), some (rowV m (Dn m w x)), some (rowV w (Ac m w x)), some (fv (Xx m w x)), none, some (fv (Ll m w x)), none, none] st = .ok (.lst ([Dd m w x, Aa m w x, Ll m w x].map fv)) st := lst_of (by
      simp only [vs_cons, vs_nil, v_call, v_blt, v_var, List.getElem?_cons_zero, List.getElem?_cons_succ, R.bind_ok, e8, e9, l3, l4, z1, z2]
      rfl) (by simp)
    rw [if_neg hX, ite_f t6, ss_asg (v := fv (Ll m w x)) (st1 := st) (by simp only [v_call, vs_cons, vs_nil, v_var, List.getElem?_cons_zero, List.getElem?_cons_succ, R.bind_ok, e3, e4, e5]; rfl) (env1 := [some v, some (tv m w x), some (fv (Gm m w x)), some (rowV m (Dn m w x)), some (rowV w (Ac m w x)), some (fv (Xx m w x)), none, some (fv (Ll m w x)), none, none]) rfl,
      ss_asg c8 (env1 := [some v, some (tv m w x), some (fv (Gm m w x)), some (rowV m (Dn m w x)), some (rowV w (Ac m w x)), some (fv (Xx m w x)), none, some (fv (Ll m w x)), some (.lst ([Dd m w x, Aa m w x, Ll m w x].map fv)), none]) rfl]
    have hsh : (shares m w x).map fv = [Dd m w x, Aa m w x, Ll m w x].map fun p => fv (p / Xx m w x) := rfl
    rw [hsh]
    refine ss_ret (tup_of (comp_map (m := fv) (l := [Dd m w x, Aa m w x, Ll m w x]) (vs := [.lst ([Dd m w x, Aa m w x, Ll m w x].map fv)]) (by simp only [vs_cons, vs_nil, v_var, List.getElem?_cons_zero, List.getElem?_cons_succ, R.bind_ok]) rfl rfl (by simp) (fun p hp => ?_)))
    have hpz : Sz 60 p := by
      simp only [List.mem_cons, List.not_mem_nil, or_false] at hp
      rcases hp with rfl | rfl | rfl
      · exact zD
      · exact zA
      · exact zL
    have v3 := v2 p hpz
    have hasg : asgT (.nm 9) (fv p) (wipeE [9] [some v, some (tv m w x), some (fv (Gm m w x)), some (rowV m (Dn m w x)), some (rowV w (Ac m w x)), some (fv (Xx m w x)), none, some (fv (Ll m w x)), some (.lst ([Dd m w x, Aa m w x, Ll m w x].map fv)), none]) = some [some v, some (tv m w x), some (fv (Gm m w x)), some (rowV m (Dn m w x)), some (rowV w (Ac m w x)), some (fv (Xx m w x)), none, some (fv (Ll m w x)), some (.lst ([Dd m w x, Aa m w x, Ll m w x].map fv)), some (fv p)] := rfl
    simp only [turnF, hasg, vi_nil, v_call, vs_cons, vs_nil, v_var, List.getElem?_cons_zero, List.getElem?_cons_succ, R.bind_ok, v3, if_true]
end
end Lk94

namespace Lk94
open PySem MP
open scoped Rat
def lv (m w : Nat) (x : Nat → Nat → Rat) : MV := .lst ((List.range m).map fun i => rowT w (x i))
theorem rowT_eq (w : Nat) (f : Nat → Rat) : rowT w f = .tup ((List.range w).map fun j => fv (f j)) := by
  unfold rowT rowL
  rw [List.map_map]
  rfl
section
variable {C : Fns} {W : Nat} {st : Store} {m w : Nat} {x : Nat → Nat → Rat}
theorem turn_of {own : List Nat} {elt : ME} {tg : Tg} {env env1 : MP.Env} {a y : MV} (h : asgT tg a (wipeE own env) = some env1) (he : eE C elt env1 st = .ok y st) : turnF C own elt tg [] env a st = .ok (some y) st := by
  unfold turnF
  rw [h]
  simp only [vi_nil, R.bind_ok, if_true, he]
theorem len_rowT {f : Nat → Rat} : bltM .len false [rowT w f] st = .ok (.int (w : Int)) st := by
  unfold rowT
  rw [len_tup, List.length_map, rowL_len]
theorem len_lv : bltM .len false [lv m w x] st = .ok (.int (m : Int)) st := by
  unfold lv
  rw [len_lst, List.length_map, List.length_range]
theorem idx_rowT {f : Nat → Rat} {j : Nat} (h : j < w) : idxM (rowT w f) (.int (j : Int)) st = .ok (fv (f j)) st := idx_tup (by
  unfold rowL
  rw [List.getElem?_map, List.getElem?_map, List.getElem?_range h]
  rfl)
theorem idx_lv {i : Nat} (h : i < m) : idxM (lv m w x) (.int (i : Int)) st = .ok (rowT w (x i)) st := idx_lst (by
  rw [List.getElem?_map, List.getElem?_range h]
  rfl)
theorem sum_rowT {b : Nat} {f : Nat → Rat} (S : SumsL C 44) (hz : ∀ j, Sz b (f j)) (hb : b ≤ 1000) (hw : w ≤ 4) : C 44 [rowT w f] st = .ok (fv (Sm w f)) st := by
  have hm := Nat.mul_le_mul hw (show b + 1 ≤ 1001 by omega)
  exact (S b (rowT w f) (rowL w f) st (.inr rfl) (fun q hq => by
    obtain ⟨j, _, rfl⟩ := rowL_mem hq
    exact hz j) (by rw [rowL_len]; omega)).1
theorem sum_rowV {b : Nat} {f : Nat → Rat} (S : SumsL C 44) (hz : ∀ j, Sz b (f j)) (hb : b ≤ 1000) (hw : w ≤ 4) : C 44 [rowV w f] st = .ok (fv (Sm w f)) st ∧ Sz (5 + 4 * b) (Sm w f) := by
  have hm := Nat.mul_le_mul hw (show b + 1 ≤ 1001 by omega)
  have := S b (rowV w f) (rowL w f) st (.inl rfl) (fun q hq => by
    obtain ⟨j, _, rfl⟩ := rowL_mem hq
    exact hz j) (by rw [rowL_len]; omega)
  rw [rowL_len] at this
  refine ⟨this.1, Sz.up this.2 ?_⟩
  have := Nat.mul_le_mul_right (b + 1) hw
  omega
end
section
variable {W D : Nat}
theorem k_dot (hW : 2 ^ 8900 ≤ W) (h : 5 ≤ D) {n : Nat} {f : Nat → Rat} {st : Store} (hz : ∀ j, Sz 25 (f j)) (hn : n ≤ 4) : callF fs W D 45 [rowT n f, rowT n f] st = .ok (fv (Sm n fun j => f j * f j)) st ∧ Sz 205 (Sm n fun j => f j * f j) := by
  obtain ⟨d, rfl, h'⟩ := succ_of h
  have hll := line_1e6
  have S := k_sum hW (D := d) (by omega)
  have B := k_by hW (D := d) (by omega)
  have e1 := sum_rowV (st := st) (w := n) (b := 50) (f := fun j => f j * f j) S (fun j => (hz j).mul (hz j)) (by decide) hn
  have b1 := fun j => B 25 25 (f j) (f j) st (hz j) (hz j) (by decide)
  refine ⟨callF_of (f := f45) rfl rfl (by decide) ?_, e1.2⟩
  have hst : startE f45 [rowT n f, rowT n f] = [some (rowT n f), some (rowT n f), none] := rfl
  rw [hst]
  show eSs _ W b45 _ _ = _
  have e2 := e1.1
  generalize callF fs W d = C at e2 b1 ⊢
  have ln := len_rowT (st := st) (w := n) (f := f)
  have c1 : eE C (.comp false [2] (.call 42 [(.idx (.var 0) (.var 2)), (.idx (.var 1) (.var 2))]) (.nm 2) .range [(.blt .len false [(.var 0)])] []) [some (rowT n f), some (rowT n f), none] st = .ok (rowV n fun j => f j * f j) st := by
    rw [rowV_eq n (fun j => f j * f j)]
    refine comp_map (m := fun j : Nat => MV.int (0 + (j : Int))) (l := List.range n) (vs := [.int (n : Int)]) (by simp only [vs_cons, vs_nil, v_blt, v_var, List.getElem?_cons_zero, R.bind_ok, ln]) (rgN (by omega)) rfl (by rw [List.length_range]; omega) (fun j hj => ?_)
    have hj' := List.mem_range.mp hj
    have ix := idx_rowT (st := st) (f := f) hj'
    have hasg : asgT (.nm 2) (.int (0 + (j : Int))) (wipeE [2] [some (rowT n f), some (rowT n f), none]) = some [some (rowT n f), some (rowT n f), some (.int (j : Int))] := by rw [Int.zero_add]; rfl
    simp only [turnF, hasg, vi_nil, v_call, vs_cons, vs_nil, v_idx, v_var, List.getElem?_cons_zero, List.getElem?_cons_succ, R.bind_ok, ix, b1, if_true]
  rw [b45]
  exact ss_ret ((call_of (vs1 c1)).trans e2)
/-- the parts, in the law's hands -/
def due (m w : Nat) (x : Nat → Nat → Rat) : List MV := [fv (Gm m w x), rowT m (Dn m w x), rowT w (Ac m w x), fv (Ll m w x), .tup ((List.range m).map fun i => rowT w (Lf m w x i))]
theorem lp_c3 {C : Fns} {st : Store} {m w : Nat} {x : Nat → Nat → Rat} (m4 : m ≤ 4) (sr : ∀ i, C 44 [rowT w (x i)] st = .ok (fv (Sm w (x i))) st) : eE C (.comp false [4] (.call 44 [(.var 4)]) (.nm 4) .seq [(.var 0)] []) [some (lv m w x), some (.int (m : Int)), some (.int (w : Int)), none, none, none, none, none, none, none, none] st = .ok (rowV m fun i => Sm w (x i)) st := by
  have hll := line_1e6
  rw [rowV_eq m (fun i => Sm w (x i))]
  refine comp_map (m := fun i => rowT w (x i)) (l := List.range m) (vs := [lv m w x]) (by simp only [vs_cons, vs_nil, v_var, List.getElem?_cons_zero, R.bind_ok]) rfl rfl (by rw [List.length_range]; omega) (fun i hi => ?_)
  have hasg : asgT (.nm 4) (rowT w (x i)) (wipeE [4] [some (lv m w x), some (.int (m : Int)), some (.int (w : Int)), none, none, none, none, none, none, none, none]) = some [some (lv m w x), some (.int (m : Int)), some (.int (w : Int)), none, some (rowT w (x i)), none, none, none, none, none, none] := rfl
  simp only [turnF, hasg, vi_nil, v_call, vs_cons, vs_nil, v_var, List.getElem?_cons_zero, List.getElem?_cons_succ, R.bind_ok, sr, if_true]
theorem lp_g3 {C : Fns} {st : Store} {m w : Nat} {x : Nat → Nat → Rat} (m4 : m ≤ 4) (w4 : w ≤ 4) (sr : ∀ i, C 44 [rowT w (x i)] st = .ok (fv (Sm w (x i))) st) (ss : C 44 [rowV m fun i => Sm w (x i)] st = .ok (fv (Sm m fun i => Sm w (x i))) st) (v0 : C 43 [fv (Sm m fun i => Sm w (x i)), fv ((m * w : Nat) : Rat)] st = .ok (fv (Gm m w x)) st) : eE C (.call 43 [(.call 44 [(.comp false [4] (.call 44 [(.var 4)]) (.nm 4) .seq [(.var 0)] [])]), (.tupE [(.bin .mul false (.var 1) (.var 2)), (.k (.int 1))])]) [some (lv m w x), some (.int (m : Int)), some (.int (w : Int)), none, none, none, none, none, none, none, none] st = .ok (fv (Gm m w x)) st := by
  have hll := line_1e6
  have mk : ∀ (a b : MV), mkT [a, b] st = .ok (.tup [a, b]) st := fun _ _ => rfl
  have mu : binM .mul false (.int (m : Int)) (.int (w : Int)) st = .ok (.int ((m * w : Nat) : Int)) st := by
    have : mulOk (m : Int) (w : Int) = true := mulOk_r (by rw [Int.natAbs_natCast]; omega)
    simp only [binM, this, if_true, Int.natCast_mul]
  have c3 := lp_c3 (C := C) (st := st) m4 sr
  refine (call_of (vs2 ((call_of (vs1 c3)).trans ss) (y := fv ((m * w : Nat) : Rat)) (st2 := st) ?_)).trans v0
  simp only [v_tup, v_bin, vs_cons, vs_nil, v_var, v_k, List.getElem?_cons_zero, List.getElem?_cons_succ, R.bind_ok, mu, mk, fvn]
theorem lp_g5 {C : Fns} {st : Store} {m w : Nat} {x : Nat → Nat → Rat} (m4 : m ≤ 4) (sr : ∀ i, C 44 [rowT w (x i)] st = .ok (fv (Sm w (x i))) st) (vr : ∀ i, C 43 [fv (Sm w (x i)), fv (w : Rat)] st = .ok (fv (Sm w (x i) / (w : Rat))) st) (dr : ∀ i, C 41 [fv (Sm w (x i) / (w : Rat)), fv (Gm m w x)] st = .ok (fv (Dn m w x i)) st) : eE C (.blt .tuple false [(.comp false [4] (.call 41 [(.call 43 [(.call 44 [(.var 4)]), (.tupE [(.var 2), (.k (.int 1))])]), (.var 3)]) (.nm 4) .seq [(.var 0)] [])]) [some (lv m w x), some (.int (m : Int)), some (.int (w : Int)), some (fv (Gm m w x)), none, none, none, none, none, none, none] st = .ok (rowT m (Dn m w x)) st := by
  have hll := line_1e6
  have mk : ∀ (a b : MV), mkT [a, b] st = .ok (.tup [a, b]) st := fun _ _ => rfl
  rw [rowT_eq m (Dn m w x)]
  refine tup_of ?_
  refine comp_map (m := fun i => rowT w (x i)) (l := List.range m) (vs := [lv m w x]) (by simp only [vs_cons, vs_nil, v_var, List.getElem?_cons_zero, R.bind_ok]) rfl rfl (by rw [List.length_range]; omega) (fun i hi => ?_)
  have hasg : asgT (.nm 4) (rowT w (x i)) (wipeE [4] [some (lv m w x), some (.int (m : Int)), some (.int (w : Int)), some (fv (Gm m w x)), none, none, none, none, none, none, none]) = some [some (lv m w x), some (.int (m : Int)), some (.int (w : Int)), some (fv (Gm m w x)), some (rowT w (x i)), none, none, none, none, none, none] := rfl
  simp only [turnF, hasg, vi_nil, v_call, v_tup, v_k, vs_cons, vs_nil, v_var, List.getElem?_cons_zero, List.getElem?_cons_succ, R.bind_ok, sr, mk, fvn, vr, dr, if_true]
  try rfl
theorem lp_g6 {C : Fns} {st : Store} {m w : Nat} {x : Nat → Nat → Rat} (m4 : m ≤ 4) (w4 : w ≤ 4) (sc : ∀ j, C 44 [rowV m fun i => x i j] st = .ok (fv (Sm m fun i => x i j)) st) (vc : ∀ j, C 43 [fv (Sm m fun i => x i j), fv (m : Rat)] st = .ok (fv (Sm m (fun i => x i j) / (m : Rat))) st) (dc : ∀ j, C 41 [fv (Sm m (fun i => x i j) / (m : Rat)), fv (Gm m w x)] st = .ok (fv (Ac m w x j)) st) : eE C (.blt .tuple false [(.comp false [7] (.call 41 [(.call 43 [(.call 44 [(.comp false [4] (.idx (.var 4) (.var 7)) (.nm 4) .seq [(.var 0)] [])]), (.tupE [(.var 1), (.k (.int 1))])]), (.var 3)]) (.nm 7) .range [(.var 2)] [])]) [some (lv m w x), some (.int (m : Int)), some (.int (w : Int)), some (fv (Gm m w x)), none, some (rowT m (Dn m w x)), none, none, none, none, none] st = .ok (rowT w (Ac m w x)) st := by
  have hll := line_1e6
  have mk : ∀ (a b : MV), mkT [a, b] st = .ok (.tup [a, b]) st := fun _ _ => rfl
  rw [rowT_eq w (Ac m w x)]
  refine tup_of ?_
  refine comp_map (m := fun j : Nat => MV.int (0 + (j : Int))) (l := List.range w) (vs := [.int (w : Int)]) (by simp only [vs_cons, vs_nil, v_var, List.getElem?_cons_zero, List.getElem?_cons_succ, R.bind_ok]) (rgN (by omega)) rfl (by rw [List.length_range]; omega) (fun j hj => ?_)
  have hj' := List.mem_range.mp hj
  have hasg : asgT (.nm 7) (.int (0 + (j : Int))) (wipeE [7] [some (lv m w x), some (.int (m : Int)), some (.int (w : Int)), some (fv (Gm m w x)), none, some (rowT m (Dn m w x)), none, none, none, none, none]) = some [some (lv m w x), some (.int (m : Int)), some (.int (w : Int)), some (fv (Gm m w x)), none, some (rowT m (Dn m w x)), none, some (.int (j : Int)), none, none, none] := by rw [Int.zero_add]; rfl
  have inn : eE C (.comp false [4] (.idx (.var 4) (.var 7)) (.nm 4) .seq [(.var 0)] []) [some (lv m w x), some (.int (m : Int)), some (.int (w : Int)), some (fv (Gm m w x)), none, some (rowT m (Dn m w x)), none, some (.int (j : Int)), none, none, none] st = .ok (rowV m fun i => x i j) st := by
    rw [rowV_eq m (fun i => x i j)]
    refine comp_map (m := fun i => rowT w (x i)) (l := List.range m) (vs := [lv m w x]) (by simp only [vs_cons, vs_nil, v_var, List.getElem?_cons_zero, R.bind_ok]) rfl rfl (by rw [List.length_range]; omega) (fun i hi => ?_)
    have hasg : asgT (.nm 4) (rowT w (x i)) (wipeE [4] [some (lv m w x), some (.int (m : Int)), some (.int (w : Int)), some (fv (Gm m w x)), none, some (rowT m (Dn m w x)), none, some (.int (j : Int)), none, none, none]) = some [some (lv m w x), some (.int (m : Int)), some (.int (w : Int)), some (fv (Gm m w x)), some (rowT w (x i)), some (rowT m (Dn m w x)), none, some (.int (j : Int)), none, none, none] := rfl
    have ix := idx_rowT (st := st) (f := x i) hj'
    simp only [turnF, hasg, vi_nil, v_idx, v_var, List.getElem?_cons_zero, List.getElem?_cons_succ, R.bind_ok, ix, if_true]
  have inn2 := (call_of (vs1 inn)).trans (sc j)
  have q1 : eE C (.tupE [(.var 1), (.k (.int 1))]) [some (lv m w x), some (.int (m : Int)), some (.int (w : Int)), some (fv (Gm m w x)), none, some (rowT m (Dn m w x)), none, some (.int (j : Int)), none, none, none] st = .ok (fv (m : Rat)) st := by
    simp only [v_tup, v_k, vs_cons, vs_nil, v_var, List.getElem?_cons_zero, List.getElem?_cons_succ, R.bind_ok, mk, fvn]
  have q2 := (call_of (vs2 inn2 q1)).trans (vc j)
  have q3 := (call_of (vs2 q2 (show eE C (.var 3) [some (lv m w x), some (.int (m : Int)), some (.int (w : Int)), some (fv (Gm m w x)), none, some (rowT m (Dn m w x)), none, some (.int (j : Int)), none, none, none] st = .ok (fv (Gm m w x)) st from rfl))).trans (dc j)
  simp only [turnF, hasg, vi_nil, R.bind_ok, if_true, q3]
  try rfl
theorem lp_in {C : Fns} {st : Store} {m w : Nat} {x : Nat → Nat → Rat} (m4 : m ≤ 4) (w4 : w ≤ 4) (x1 : ∀ i j, C 41 [fv (x i j), fv (Gm m w x)] st = .ok (fv (x i j - Gm m w x)) st) (x2 : ∀ i j, C 41 [fv (x i j - Gm m w x), fv (Dn m w x i)] st = .ok (fv (x i j - Gm m w x - Dn m w x i)) st) (x3 : ∀ i j, C 41 [fv (x i j - Gm m w x - Dn m w x i), fv (Ac m w x j)] st = .ok (fv (Lf m w x i j)) st) {i : Nat} (hi' : i < m) : eE C (.blt .tuple false [(.comp false [7] (.call 41 [(.call 41 [(.call 41 [(.idx (.idx (.var 0) (.var 9)) (.var 7)), (.var 3)]), (.idx (.var 5) (.var 9))]), (.idx (.var 6) (.var 7))]) (.nm 7) .range [(.var 2)] [])]) [some (lv m w x), some (.int (m : Int)), some (.int (w : Int)), some (fv (Gm m w x)), none, some (rowT m (Dn m w x)), some (rowT w (Ac m w x)), none, none, some (.int (i : Int)), none] st = .ok (rowT w (Lf m w x i)) st := by
  have hll := line_1e6
  rw [rowT_eq w (Lf m w x i)]
  refine tup_of ?_
  refine comp_map (m := fun j : Nat => MV.int (0 + (j : Int))) (l := List.range w) (vs := [.int (w : Int)]) (by simp only [vs_cons, vs_nil, v_var, List.getElem?_cons_zero, List.getElem?_cons_succ, R.bind_ok]) (rgN (by omega)) rfl (by rw [List.length_range]; omega) (fun j hj => ?_)
  have hj' := List.mem_range.mp hj
  have hasg : asgT (.nm 7) (.int (0 + (j : Int))) (wipeE [7] [some (lv m w x), some (.int (m : Int)), some (.int (w : Int)), some (fv (Gm m w x)), none, some (rowT m (Dn m w x)), some (rowT w (Ac m w x)), none, none, some (.int (i : Int)), none]) = some [some (lv m w x), some (.int (m : Int)), some (.int (w : Int)), some (fv (Gm m w x)), none, some (rowT m (Dn m w x)), some (rowT w (Ac m w x)), some (.int (j : Int)), none, some (.int (i : Int)), none] := by rw [Int.zero_add]; rfl
  have ix := idx_lv (st := st) (m := m) (w := w) (x := x) hi'
  have iy := idx_rowT (st := st) (f := x i) hj'
  have iz := idx_rowT (st := st) (f := Dn m w x) hi'
  have iw := idx_rowT (st := st) (f := Ac m w x) hj'
  have y1 := x1 i j
  have y2 := x2 i j
  have y3 := x3 i j
  simp only [turnF, hasg, vi_nil, v_call, v_idx, vs_cons, vs_nil, v_var, List.getElem?_cons_zero, List.getElem?_cons_succ, R.bind_ok, ix, iy, iz, iw, y1, y2, y3, if_true]
theorem lp_g8 {C : Fns} {st : Store} {m w : Nat} {x : Nat → Nat → Rat} (m4 : m ≤ 4) (w4 : w ≤ 4) (x1 : ∀ i j, C 41 [fv (x i j), fv (Gm m w x)] st = .ok (fv (x i j - Gm m w x)) st) (x2 : ∀ i j, C 41 [fv (x i j - Gm m w x), fv (Dn m w x i)] st = .ok (fv (x i j - Gm m w x - Dn m w x i)) st) (x3 : ∀ i j, C 41 [fv (x i j - Gm m w x - Dn m w x i), fv (Ac m w x j)] st = .ok (fv (Lf m w x i j)) st) : eE C (.comp false [9] (.blt .tuple false [(.comp false [7] (.call 41 [(.call 41 [(.call 41 [(.idx (.idx (.var 0) (.var 9)) (.var 7)), (.var 3)]), (.idx (.var 5) (.var 9))]), (.idx (.var 6) (.var 7))]) (.nm 7) .range [(.var 2)] [])]) (.nm 9) .range [(.var 1)] []) [some (lv m w x), some (.int (m : Int)), some (.int (w : Int)), some (fv (Gm m w x)), none, some (rowT m (Dn m w x)), some (rowT w (Ac m w x)), none, none, none, none] st = .ok (lv m w (Lf m w x)) st := by
  have hll := line_1e6
  have elv : lv m w (Lf m w x) = .lst ((List.range m).map fun i => rowT w (Lf m w x i)) := rfl
  rw [elv]
  refine comp_map (g := fun i => rowT w (Lf m w x i)) (m := fun i : Nat => MV.int (0 + (i : Int))) (l := List.range m) (vs := [.int (m : Int)]) (by simp only [vs_cons, vs_nil, v_var, List.getElem?_cons_zero, List.getElem?_cons_succ, R.bind_ok]) (rgN (by omega)) rfl (by rw [List.length_range]; omega) (fun i hi => ?_)
  have hi' := List.mem_range.mp hi
  have hasg : asgT (.nm 9) (.int (0 + (i : Int))) (wipeE [9] [some (lv m w x), some (.int (m : Int)), some (.int (w : Int)), some (fv (Gm m w x)), none, some (rowT m (Dn m w x)), some (rowT w (Ac m w x)), none, none, none, none]) = some [some (lv m w x), some (.int (m : Int)), some (.int (w : Int)), some (fv (Gm m w x)), none, some (rowT m (Dn m w x)), some (rowT w (Ac m w x)), none, none, some (.int (i : Int)), none] := by rw [Int.zero_add]; rfl
  have inn := lp_in (C := C) (st := st) m4 w4 x1 x2 x3 hi'
  exact turn_of hasg inn
theorem lp_g10 {C : Fns} {st : Store} {m w : Nat} {x : Nat → Nat → Rat} (m4 : m ≤ 4) (dt : ∀ i, C 45 [rowT w (Lf m w x i), rowT w (Lf m w x i)] st = .ok (fv (Sm w fun j => Lf m w x i j * Lf m w x i j)) st) (sq : C 44 [rowV m fun i => Sm w fun j => Lf m w x i j * Lf m w x i j] st = .ok (fv (Ll m w x)) st) : eE C (.call 44 [(.comp false [4] (.call 45 [(.var 4), (.var 4)]) (.nm 4) .seq [(.var 8)] [])]) [some (lv m w x), some (.int (m : Int)), some (.int (w : Int)), some (fv (Gm m w x)), none, some (rowT m (Dn m w x)), some (rowT w (Ac m w x)), none, some (lv m w (Lf m w x)), none, none] st = .ok (fv (Ll m w x)) st := by
  have hll := line_1e6
  have c : eE C (.comp false [4] (.call 45 [(.var 4), (.var 4)]) (.nm 4) .seq [(.var 8)] []) [some (lv m w x), some (.int (m : Int)), some (.int (w : Int)), some (fv (Gm m w x)), none, some (rowT m (Dn m w x)), some (rowT w (Ac m w x)), none, some (lv m w (Lf m w x)), none, none] st = .ok (rowV m fun i => Sm w fun j => Lf m w x i j * Lf m w x i j) st := by
    rw [rowV_eq m (fun i => Sm w fun j => Lf m w x i j * Lf m w x i j)]
    refine comp_map (m := fun i => rowT w (Lf m w x i)) (l := List.range m) (vs := [lv m w (Lf m w x)]) (by simp only [vs_cons, vs_nil, v_var, List.getElem?_cons_zero, List.getElem?_cons_succ, R.bind_ok]) rfl rfl (by rw [List.length_range]; omega) (fun i hi => ?_)
    have hasg : asgT (.nm 4) (rowT w (Lf m w x i)) (wipeE [4] [some (lv m w x), some (.int (m : Int)), some (.int (w : Int)), some (fv (Gm m w x)), none, some (rowT m (Dn m w x)), some (rowT w (Ac m w x)), none, some (lv m w (Lf m w x)), none, none]) = some [some (lv m w x), some (.int (m : Int)), some (.int (w : Int)), some (fv (Gm m w x)), some (rowT w (Lf m w x i)), some (rowT m (Dn m w x)), some (rowT w (Ac m w x)), none, some (lv m w (Lf m w x)), none, none] := rfl
    have d1 := dt i
    simp only [turnF, hasg, vi_nil, v_call, vs_cons, vs_nil, v_var, List.getElem?_cons_zero, List.getElem?_cons_succ, R.bind_ok, d1, if_true]
  exact (call_of (vs1 c)).trans sq
theorem law_body {C : Fns} {W : Nat} {st : Store} {m w : Nat} {x : Nat → Nat → Rat} (g : Good m w x) (S : SumsL C 44) (Mi : Bin2 C 41 (· - ·)) (V : Div2 C 43) (dt : ∀ i, C 45 [rowT w (Lf m w x i), rowT w (Lf m w x i)] st = .ok (fv (Sm w fun j => Lf m w x i j * Lf m w x i j)) st ∧ Sz 205 (Sm w fun j => Lf m w x i j * Lf m w x i j)) :
    eSs C W b53 [some (lv m w x), none, none, none, none, none, none, none, none, none, none] st = .ret (.tup (due m w x)) st := by
  have hll := line_1e6
  have m1 := g.m1
  have m4 := g.m4
  have w1 := g.w1
  have w4 := g.w4
  have hmw := Nat.mul_le_mul m4 w4
  have l0 := len_lv (st := st) (m := m) (w := w) (x := x)
  have i0 : idxM (lv m w x) (.int 0) st = .ok (rowT w (x 0)) st := idx_lv m1
  have l1 := len_rowT (st := st) (w := w) (f := x 0)
  have sr := fun i => sum_rowT (C := C) (st := st) (w := w) (b := 3) (f := x i) S (g.x i) (by decide) w4
  have sc := fun j => sum_rowV (C := C) (st := st) (w := m) (b := 3) (f := fun i => x i j) S (fun i => g.x i j) (by decide) m4
  have ss := sum_rowV (C := C) (st := st) (w := m) (b := 60) (f := fun i => Sm w (x i)) S (fun i => g.szR i) (by decide) m4
  have sq := sum_rowV (C := C) (st := st) (w := m) (b := 205) (f := fun i => Sm w fun j => Lf m w x i j * Lf m w x i j) S (fun i => (dt i).2) (by decide) m4
  have hmwz : ((m * w : Nat) : Rat) ≠ 0 := rat_ne (Nat.mul_pos m1 w1)
  have v0 := V 60 20 (Sm m fun i => Sm w (x i)) ((m * w : Nat) : Rat) st g.szS (szn (by omega)) (by decide) hmwz
  have vr := fun i => V 60 20 (Sm w (x i)) (w : Rat) st (g.szR i) (szn (by omega)) (by decide) (rat_ne w1)
  have vc := fun j => V 60 20 (Sm m fun i => x i j) (m : Rat) st (g.t.szR j) (szn (by omega)) (by decide) (rat_ne m1)
  have dr := fun i => Mi 25 25 (Sm w (x i) / (w : Rat)) (Gm m w x) st ((g.frR i).sz (by decide) (by decide) (by decide)) g.szG (by decide)
  have dc := fun j => Mi 25 25 (Sm m (fun i => x i j) / (m : Rat)) (Gm m w x) st ((g.frC j).sz (by decide) (by decide) (by decide)) g.szG (by decide)
  have x1 := fun i j => Mi 25 25 (x i j) (Gm m w x) st ((g.x i j).up (by decide)) g.szG (by decide)
  have x2 := fun i j => Mi 25 25 (x i j - Gm m w x) (Dn m w x i) st (g.szX i j) (g.szD i) (by decide)
  have x3 := fun i j => Mi 51 25 (x i j - Gm m w x - Dn m w x i) (Ac m w x j) st ((g.szX i j).sub (g.szD i)) (g.szA j) (by decide)
  have eL : ∀ i j, x i j - Gm m w x - Dn m w x i - Ac m w x j = Lf m w x i j := fun i j => by unfold Lf; grind
  have ss1 := ss.1
  have sq1 : C 44 [rowV m fun i => Sm w fun j => Lf m w x i j * Lf m w x i j] st = .ok (fv (Ll m w x)) st := sq.1
  have x3' : ∀ i j, C 41 [fv (x i j - Gm m w x - Dn m w x i), fv (Ac m w x j)] st = .ok (fv (Lf m w x i j)) st := fun i j => by
    have := x3 i j
    simp only [eL] at this
    exact this
  have g3 := lp_g3 (C := C) (st := st) m4 w4 sr ss1 v0
  have g5 := lp_g5 (C := C) (st := st) m4 sr vr dr
  have g6 := lp_g6 (C := C) (st := st) m4 w4 (fun j => (sc j).1) vc dc
  have g8 := lp_g8 (C := C) (st := st) m4 w4 x1 x2 x3'
  have g10 := lp_g10 (C := C) (st := st) m4 (fun i => (dt i).1) sq1
  rw [b53, ss_asg (v := .int (m : Int)) (st1 := st) (by simp only [v_blt, vs_cons, vs_nil, v_var, List.getElem?_cons_zero, R.bind_ok, l0]) (env1 := [some (lv m w x), some (.int (m : Int)), none, none, none, none, none, none, none, none, none]) rfl,
    ss_asg (v := .int (w : Int)) (st1 := st) (by simp only [v_blt, v_idx, v_k, vs_cons, vs_nil, v_var, List.getElem?_cons_zero, R.bind_ok, i0, l1]) (env1 := [some (lv m w x), some (.int (m : Int)), some (.int (w : Int)), none, none, none, none, none, none, none, none]) rfl,
    ss_asg g3 (env1 := [some (lv m w x), some (.int (m : Int)), some (.int (w : Int)), some (fv (Gm m w x)), none, none, none, none, none, none, none]) rfl, ss_asg g5 (env1 := [some (lv m w x), some (.int (m : Int)), some (.int (w : Int)), some (fv (Gm m w x)), none, some (rowT m (Dn m w x)), none, none, none, none, none]) rfl, ss_asg g6 (env1 := [some (lv m w x), some (.int (m : Int)), some (.int (w : Int)), some (fv (Gm m w x)), none, some (rowT m (Dn m w x)), some (rowT w (Ac m w x)), none, none, none, none]) rfl, ss_asg g8 (env1 := [some (lv m w x), some (.int (m : Int)), some (.int (w : Int)), some (fv (Gm m w x)), none, some (rowT m (Dn m w x)), some (rowT w (Ac m w x)), none, some (lv m w (Lf m w x)), none, none]) rfl, ss_asg g10 (env1 := [some (lv m w x), some (.int (m : Int)), some (.int (w : Int)), some (fv (Gm m w x)), none, some (rowT m (Dn m w x)), some (rowT w (Ac m w x)), none, some (lv m w (Lf m w x)), none, some (fv (Ll m w x))]) rfl]
  have t8 : bltM .tuple false [lv m w (Lf m w x)] st = .ok (.tup ((List.range m).map fun i => rowT w (Lf m w x i))) st := rfl
  have mk5 : ∀ (a b c d e : MV), mkT [a, b, c, d, e] st = .ok (.tup [a, b, c, d, e]) st := fun _ _ _ _ _ => rfl
  exact ss_ret (by simp only [v_tup, v_blt, vs_cons, vs_nil, v_var, List.getElem?_cons_zero, List.getElem?_cons_succ, R.bind_ok, t8, mk5]; rfl)
theorem k_lawParts (hW : 2 ^ 8900 ≤ W) (h : 7 ≤ D) {m w : Nat} {x : Nat → Nat → Rat} {st : Store} (g : Good m w x) : callF fs W D 53 [lv m w x] st = .ok (.tup (due m w x)) st := by
  obtain ⟨d, rfl, h'⟩ := succ_of h
  refine callF_of (f := f53) rfl rfl (by decide) ?_
  have hst : startE f53 [lv m w x] = [some (lv m w x), none, none, none, none, none, none, none, none, none, none] := rfl
  rw [hst]
  exact law_body g (k_sum hW (by omega)) (k_minus hW (by omega)) (k_over hW (by omega)) (fun i => k_dot hW (by omega) (g.szL i) g.w4)
end
end Lk94

namespace Lk94
open PySem MP
open scoped Rat
/-! ### the judge -/
def judge (m w : Nat) (x : Nat → Nat → Rat) (one : MV) : Bool := match seqM one with
  | some [a, b, c, e] => match readM a, readsM m b, readsM w c, readM e with
    | some g, some ds, some as, some s => decide (g = Gm m w x ∧ ds = rowL m (Dn m w x) ∧ as = rowL w (Ac m w x) ∧ s = Ll m w x)
    | _, _, _, _ => false
  | _ => false
def lstO : Option (List Rat) → MV
  | some qs => .lst (qs.map fv)
  | none => .non
def tupO : Option (List Rat) → MV
  | some qs => .tup (qs.map fv)
  | none => .non
theorem isN_optF (o : Option Rat) : isM (optF o) .non = some o.isNone := by cases o <;> rfl
theorem isN_lstO (o : Option (List Rat)) : isM (lstO o) .non = some o.isNone := by cases o <;> rfl
theorem seq_len {one : MV} {ys : List MV} (h : seqM one = some ys) : lenM one = some ys.length := by
  cases one with
  | tup xs => cases h; rfl
  | lst xs => cases h; rfl
  | _ => cases h
theorem seq_none {one : MV} (h : seqM one = none) : lenM one = none := by
  cases one with
  | tup xs => cases h
  | lst xs => cases h
  | _ => rfl
theorem four {ys : List MV} (h : ys.length = 4) : ∃ a b c e, ys = [a, b, c, e] := by
  match ys, h with
  | [a, b, c, e], _ => exact ⟨a, b, c, e, rfl⟩
section
variable {C : Fns} {W : Nat} {st : Store} {m w : Nat} {x : Nat → Nat → Rat}
theorem or4 {v v1 v2 v3 v4 v5 v6 : MV} {p3 p4 p5 p6 : Bool} (h3 : isM v3 .non = some p3) (h4 : isM v4 .non = some p4) (h5 : isM v5 .non = some p5) (h6 : isM v6 .non = some p6) :
    toTruth (eE C (.orE (.cmp .isC (.var 3) (.k (.non))) (.orE (.cmp .isC (.var 4) (.k (.non))) (.orE (.cmp .isC (.var 5) (.k (.non))) (.cmp .isC (.var 6) (.k (.non)))))) [some v, some v1, some v2, some v3, some v4, some v5, some v6] st) = .ok (p3 || (p4 || (p5 || p6))) st := by
  simp only [v_or, v_cmp, v_var, v_k, List.getElem?_cons_zero, List.getElem?_cons_succ, R.bind_ok, cmpM, h3, h4, h5, h6, truth_bl]
  cases p3
  · cases p4
    · cases p5
      · simp only [Bool.false_or, toTruth_bl]
      · simp only [Bool.false_or, Bool.true_or, toTruth_bl]
    · simp only [Bool.false_or, Bool.true_or, toTruth_bl]
  · simp only [Bool.true_or, toTruth_bl]
theorem prts_ft : Ft 3 (prts m w x) := by
  intro y hy
  simp only [List.mem_cons, List.not_mem_nil, or_false] at hy
  rcases hy with rfl | rfl | rfl
  · exact ft_fv _
  · exact ft_lfv _
  · exact ft_lfv _
theorem eq_prts {g : Rat} {ds as : List Rat} : eqM st (.tup [fv g, .lst (ds.map fv), .lst (as.map fv)]) (prts m w x) = some (decide (g = Gm m w x ∧ ds = rowL m (Dn m w x) ∧ as = rowL w (Ac m w x))) := by
  rw [eqM_ft (n := 3) (by
    intro y hy
    simp only [List.mem_cons, List.not_mem_nil, or_false] at hy
    rcases hy with rfl | rfl | rfl
    · exact ft_fv _
    · exact ft_lfv _
    · exact ft_lfv _) prts_ft (by decide)]
  congr 1
  apply decide_eq_decide.mpr
  unfold prts rowV
  constructor
  · intro h
    injection h with h
    injection h with h1 h
    injection h with h2 h
    injection h with h3 _
    injection h2 with h2
    injection h3 with h3
    exact ⟨fv_inj h1, fvs_inj h2, fvs_inj h3⟩
  · rintro ⟨rfl, rfl, rfl⟩
    rfl
def due4 (m w : Nat) (x : Nat → Nat → Rat) : List MV := [fv (Gm m w x), rowT m (Dn m w x), rowT w (Ac m w x), fv (Ll m w x)]
theorem tupO_ft {o : Option (List Rat)} : Ft 3 (tupO o) := by
  cases o with
  | none => trivial
  | some qs => exact ft_tfv _
theorem eq_due {g s : Rat} {ds as : Option (List Rat)} : eqM st (.tup [fv g, tupO ds, tupO as, fv s]) (.tup (due4 m w x)) = some (decide (g = Gm m w x ∧ ds = some (rowL m (Dn m w x)) ∧ as = some (rowL w (Ac m w x)) ∧ s = Ll m w x)) := by
  rw [eqM_ft (n := 4) (by
    intro y hy
    simp only [List.mem_cons, List.not_mem_nil, or_false] at hy
    rcases hy with rfl | rfl | rfl | rfl
    · exact ft_fv _
    · exact tupO_ft
    · exact tupO_ft
    · exact ft_fv _) (by
    intro y hy
    unfold due4 at hy
    simp only [List.mem_cons, List.not_mem_nil, or_false] at hy
    rcases hy with rfl | rfl | rfl | rfl
    · exact ft_fv _
    · exact ft_tfv _
    · exact ft_tfv _
    · exact ft_fv _) (by decide)]
  congr 1
  apply decide_eq_decide.mpr
  unfold due4 rowT
  have hto : ∀ {o : Option (List Rat)} {qs : List Rat}, tupO o = .tup (qs.map fv) → o = some qs := fun {o qs} h => by
    cases o with
    | none => cases h
    | some ps =>
      injection h with h
      rw [fvs_inj h]
  constructor
  · intro h
    injection h with h
    injection h with h1 h
    injection h with h2 h
    injection h with h3 h
    injection h with h4 _
    exact ⟨fv_inj h1, hto h2, hto h3, fv_inj h4⟩
  · rintro ⟨rfl, rfl, rfl, rfl⟩
    rfl
end
section
variable {W D : Nat}
theorem k_holds (h : 8 ≤ D) {v one : MV} {b n m w : Nat} {x : Nat → Nat → Rat} {st : Store} (hv : Tab v m w x) (g : Good m w x) (ho : Vk b n one) (hb : b ≤ 8900) : callF fs W D 25 [v, one] st = .ok (.bl (judge m w x one)) st := by
  obtain ⟨d, rfl, h'⟩ := succ_of h
  have m1 := g.m1
  have m4 := g.m4
  have w4 := g.w4
  have hl := Nat.mul_le_mul m4 w4
  have e1 := k_table (W := W) (D := d) (by omega) (st := st) hv g
  have e2 := k_parts (W := W) (D := d) (by omega) (st := st) g
  have e3 := k_lessened (W := W) (D := d) (by omega) (st := st) g
  have e4 := k_cells (W := W) (D := d) (by omega) (m := m) (w := w) (x := Lf m w x) (st := st) (by omega) (by omega) (by omega)
  have e5 := k_sqCells (W := W) (D := d) (by omega) (st := st) m4 w4 g.szL
  have Q := k_isSeqOf (W := W) (D := d) (by omega) one 4 st ho.noRef
  have Rd := k_readAny (W := W) (D := d) (by omega)
  have Rs : ∀ (k : Nat) (y : MV), Vk b (n - 1) y → callF fs W d 5 [y, .int (k : Int)] st = .ok (lstO (readsM k y)) st := fun k y hy => by
    rw [k_readsAny (W := W) (D := d) (by omega) b (n - 1) k y st hb hy]
    cases readsM k y <;> rfl
  refine callF_of (f := f25) rfl rfl (by decide) ?_
  have hst : startE f25 [v, one] = [some v, some one, none, none, none, none, none] := rfl
  rw [hst]
  show eSs _ W b25 _ _ = _
  generalize callF fs W d = C at e1 e2 e3 e4 e5 Q Rd Rs ⊢
  rw [b25, ss_asg (v := tv m w x) (st1 := st) (by simp only [v_call, vs_cons, vs_nil, v_var, List.getElem?_cons_zero, R.bind_ok, e1]) (env1 := [some v, some one, some (tv m w x), none, none, none, none]) rfl]
  have t1 : ∀ p : Bool, (match lenM one with | some m => decide ((m : Int) = 4) | none => false) = p → toTruth (eE C (.notE (.call 2 [(.var 1), (.k (.int 4))])) [some v, some one, some (tv m w x), none, none, none, none] st) = .ok (!p) st := fun p hp => by
    have Q2 : C 2 [one, .int 4] st = .ok (.bl p) st := by
      rw [Q, ← hp]
      all_goals (cases lenM one <;> rfl)
    simp only [v_not, v_call, vs_cons, vs_nil, v_var, v_k, List.getElem?_cons_zero, List.getElem?_cons_succ, R.bind_ok, Q2, toTruth_bl]
  by_cases hs : ∃ ys, seqM one = some ys ∧ ys.length = 4
  · obtain ⟨ys, hys, hl4⟩ := hs
    obtain ⟨a, b', c, e, rfl⟩ := four hl4
    have ht := t1 true (by rw [seq_len hys]; rfl)
    obtain ⟨_, hin⟩ := ho.items hys
    have va := hin a (by simp)
    have vb := hin b' (by simp)
    have vc := hin c (by simp)
    have ve := hin e (by simp)
    have sq := seq_of hys
    obtain ⟨_, _, _, _, _, ix⟩ := sq_is sq
    have i0 : idxM one (.int 0) st = .ok a st := ix 0 a st rfl
    have i1 : idxM one (.int 1) st = .ok b' st := ix 1 b' st rfl
    have i2 : idxM one (.int 2) st = .ok c st := ix 2 c st rfl
    have i3 : idxM one (.int 3) st = .ok e st := ix 3 e st rfl
    have ra := Rd b (n - 1) a st hb va
    have re := Rd b (n - 1) e st hb ve
    have rb := Rs m b' vb
    have rc := Rs w c vc
    have l1 := len_tv (st := st) (m := m) (w := w) (x := x)
    have j0 : idxM (tv m w x) (.int 0) st = .ok (rowV w (x 0)) st := idx_tv m1
    have l2 := len_row (st := st) (w := w) (f := x 0)
    have hj : judge m w x one = match readM a, readsM m b', readsM w c, readM e with
        | some g, some ds, some as, some s => decide (g = Gm m w x ∧ ds = rowL m (Dn m w x) ∧ as = rowL w (Ac m w x) ∧ s = Ll m w x)
        | _, _, _, _ => false := by
      unfold judge
      rw [hys]
    have or' := or4 (C := C) (st := st) (v := v) (v1 := one) (v2 := tv m w x) (isN_optF (readM a)) (isN_lstO (readsM m b')) (isN_lstO (readsM w c)) (isN_optF (readM e))
    rw [ite_f ht, ss_asg (v := optF (readM a)) (st1 := st) (by simp only [v_call, v_idx, v_k, vs_cons, vs_nil, v_var, List.getElem?_cons_zero, List.getElem?_cons_succ, R.bind_ok, i0, ra]) (env1 := [some v, some one, some (tv m w x), some (optF (readM a)), none, none, none]) rfl,
      ss_asg (v := lstO (readsM m b')) (st1 := st) (by simp only [v_call, v_blt, v_idx, v_k, vs_cons, vs_nil, v_var, List.getElem?_cons_zero, List.getElem?_cons_succ, R.bind_ok, i1, l1, rb]) (env1 := [some v, some one, some (tv m w x), some (optF (readM a)), some (lstO (readsM m b')), none, none]) rfl,
      ss_asg (v := lstO (readsM w c)) (st1 := st) (by simp only [v_call, v_blt, v_idx, v_k, vs_cons, vs_nil, v_var, List.getElem?_cons_zero, List.getElem?_cons_succ, R.bind_ok, i2, j0, l2, rc]) (env1 := [some v, some one, some (tv m w x), some (optF (readM a)), some (lstO (readsM m b')), some (lstO (readsM w c)), none]) rfl,
      ss_asg (v := optF (readM e)) (st1 := st) (by simp only [v_call, v_idx, v_k, vs_cons, vs_nil, v_var, List.getElem?_cons_zero, List.getElem?_cons_succ, R.bind_ok, i3, re]) (env1 := [some v, some one, some (tv m w x), some (optF (readM a)), some (lstO (readsM m b')), some (lstO (readsM w c)), some (optF (readM e))]) rfl]
    rw [hj]
    generalize readM a = oa at or' ⊢
    generalize readsM m b' = ob at or' ⊢
    generalize readsM w c = oc at or' ⊢
    generalize readM e = oe at or' ⊢
    cases oa with
    | none => exact ite_ret or' (ss_ret (by rw [v_k]))
    | some ga =>
      cases ob with
      | none => exact ite_ret or' (ss_ret (by rw [v_k]))
      | some ds =>
        cases oc with
        | none => exact ite_ret or' (ss_ret (by rw [v_k]))
        | some as =>
          cases oe with
          | none => exact ite_ret or' (ss_ret (by rw [v_k]))
          | some s =>
            have hne : toTruth (eE C (.cmp .ne (.tupE [(.var 3), (.var 4), (.var 5)]) (.call 22 [(.var 2)])) [some v, some one, some (tv m w x), some (fv ga), some (.lst (ds.map fv)), some (.lst (as.map fv)), some (fv s)] st) = .ok (!decide (ga = Gm m w x ∧ ds = rowL m (Dn m w x) ∧ as = rowL w (Ac m w x))) st := by
              have hc : cmpM .ne (.tup [fv ga, .lst (ds.map fv), .lst (as.map fv)]) (prts m w x) st = some (!decide (ga = Gm m w x ∧ ds = rowL m (Dn m w x) ∧ as = rowL w (Ac m w x))) := by
                show (eqM st _ _).map (!·) = _
                rw [eq_prts]
                rfl
              simp only [v_cmp, v_tup, v_call, vs_cons, vs_nil, v_var, List.getElem?_cons_zero, List.getElem?_cons_succ, R.bind_ok, mk3, e2, hc, toTruth_bl]
            have or2 : toTruth (eE C (.orE (.cmp .isC (.var 3) (.k (.non))) (.orE (.cmp .isC (.var 4) (.k (.non))) (.orE (.cmp .isC (.var 5) (.k (.non))) (.cmp .isC (.var 6) (.k (.non)))))) [some v, some one, some (tv m w x), some (fv ga), some (.lst (ds.map fv)), some (.lst (as.map fv)), some (fv s)] st) = .ok false st := or'
            show eSs C W _ [some v, some one, some (tv m w x), some (fv ga), some (.lst (ds.map fv)), some (.lst (as.map fv)), some (fv s)] st = Fl.ret (MV.bl (decide (ga = Gm m w x ∧ ds = rowL m (Dn m w x) ∧ as = rowL w (Ac m w x) ∧ s = Ll m w x))) st
            rw [ite_f or2]
            by_cases hq : ga = Gm m w x ∧ ds = rowL m (Dn m w x) ∧ as = rowL w (Ac m w x)
            · rw [decide_eq_true hq] at hne
              rw [ite_f hne]
              obtain ⟨q1, q2, q3⟩ := hq
              have hfin : decide (ga = Gm m w x ∧ ds = rowL m (Dn m w x) ∧ as = rowL w (Ac m w x) ∧ s = Ll m w x) = decide (s = Ll m w x) := decide_eq_decide.mpr ⟨fun z => z.2.2.2, fun z => ⟨q1, q2, q3, z⟩⟩
              rw [hfin]
              subst q1
              subst q2
              subst q3
              have hc : cmpM .eq (fv s) (fv (Ll m w x)) st = some (decide (s = Ll m w x)) := eqM_fv (st := st)
              have e3' : C 23 [tv m w x, fv (Gm m w x), .lst ((rowL m (Dn m w x)).map fv), .lst ((rowL w (Ac m w x)).map fv)] st = .ok (tv m w (Lf m w x)) st := e3
              have e5' : C 15 [.lst ((cells m w (Lf m w x)).map fv)] st = .ok (fv (Ll m w x)) st := e5
              exact ss_ret (by simp only [v_cmp, v_call, vs_cons, vs_nil, v_var, List.getElem?_cons_zero, List.getElem?_cons_succ, R.bind_ok, e3', e4, e5', hc])
            · rw [decide_eq_false hq] at hne
              have hfin : decide (ga = Gm m w x ∧ ds = rowL m (Dn m w x) ∧ as = rowL w (Ac m w x) ∧ s = Ll m w x) = false := decide_eq_false fun z => hq ⟨z.1, z.2.1, z.2.2.1⟩
              rw [hfin]
              exact ite_ret hne (ss_ret (by rw [v_k]))
  · have hp : (match lenM one with | some m => decide ((m : Int) = 4) | none => false) = false := by
      cases hq : seqM one with
      | none => rw [seq_none hq]
      | some ys =>
        rw [seq_len hq]
        exact decide_eq_false fun z => hs ⟨ys, hq, by omega⟩
    have ht := t1 false hp
    have hj : judge m w x one = false := by
      unfold judge
      cases hq : seqM one with
      | none => rfl
      | some ys =>
        split
        · rename_i a b' c e h4
          cases h4
          exact absurd ⟨_, hq, rfl⟩ hs
        · rfl
    rw [hj]
    exact ite_ret ht (ss_ret (by rw [v_k]))
end
end Lk94

namespace Lk94
open PySem MP
open scoped Rat
theorem comp_gen {C : Fns} {own : List Nat} {elt : ME} {tg : Tg} {ik : IK} {src ifs : List ME} {env : MP.Env} {st st1 st2 : Store} {vs items ys : List MV} {deps : Deps} (h : eEs C src env st = .ok vs st1) (hi : itemsM ik vs st1 = some (items, deps)) (hc : compL deps (turnF C own elt tg ifs env) items [] st1 = .ok ys st2) (hl : ys.length ≤ line) : eE C (.comp false own elt tg ik src ifs) env st = .ok (.lst ys) st2 := by
  rw [v_comp, h]
  simp only [srcX_ok, R.bind_ok, hi, hc, mkL]
  rw [if_pos hl]
  rfl
/-! ### the table that is drawn -/
def Drow (w : Nat) (r : MV) : Prop := ∃ ys, r = .tup ys ∧ ys.length = w ∧ ∀ y ∈ ys, Drawn 3 y
section
variable {C : Fns} {W : Nat} {st st0 : Store} {a : Nat}
theorem draw_row {w : Nat} {row : MV} {env : MP.Env} {s : Store} (U : Numbers1 C 47) (hr : Row row) (hs : Spot a st0 s) (hw : w ≤ 1000) (h1 : env[1]? = some (some row)) (h2 : env[2]? = some (some (.ref a))) (h3 : env[3]? = some (some (.int (w : Int)))) (h5 : 5 < env.length) :
    ∃ r s', eE C (.blt .tuple false [(.comp false [5] (.call 47 [(.var 1), (.var 2), (.k (.int 6))]) (.nm 5) .range [(.var 3)] [])]) env s = .ok r s' ∧ Spot a st0 s' ∧ Drow w r := by
  have hll := line_1e6
  obtain ⟨ys, s2, c1, c2, c3, c4⟩ := compL_inv (turn := turnF C [5] (.call 47 [(.var 1), (.var 2), (.k (.int 6))]) (.nm 5) [] env) (P := fun s => Spot a st0 s) (Qv := fun _ y => Drawn 3 y) (deps := [])
    ((List.range w).map fun k : Nat => MV.int (0 + (k : Int))) [] s (fun _ _ => rfl) (fun x _ s hp => by
      obtain ⟨v, s', e1, e2, e3⟩ := U 3 a 6 row st0 s hr hp (by decide) (by decide) (by decide)
      refine ⟨v, s', ?_, e2, e3⟩
      have hasg : asgT (.nm 5) x (wipeE [5] env) = some ((env.set 5 none).set 5 (some x)) := by
        show (if 5 < (env.set 5 none).length then some ((env.set 5 none).set 5 (some x)) else none) = _
        rw [if_pos (by rw [List.length_set]; exact h5)]
      have g1 : ((env.set 5 none).set 5 (some x))[1]? = some (some row) := by rw [List.getElem?_set_ne (by decide), List.getElem?_set_ne (by decide), h1]
      have g2 : ((env.set 5 none).set 5 (some x))[2]? = some (some (.ref a)) := by rw [List.getElem?_set_ne (by decide), List.getElem?_set_ne (by decide), h2]
      simp only [turnF, hasg, vi_nil, v_call, vs_cons, vs_nil, v_var, v_k, g1, g2, R.bind_ok, if_true, e1]) (by rw [List.length_map, List.length_range]; simp only [List.length_nil]; omega) hs
  simp only [List.length_map, List.length_range] at c3
  simp only [List.reverse_nil, List.nil_append] at c1
  have hsrc : eEs C [(.var 3)] env s = .ok [.int (w : Int)] s := by simp only [vs_cons, vs_nil, v_var, h3, R.bind_ok]
  have hy : ys.length ≤ line := by omega
  refine ⟨.tup ys, s2, tup_of ?_, c2, ys, rfl, c3, fun y hy' => ?_⟩
  · exact comp_gen hsrc (rgN (by omega)) c1 hy
  · obtain ⟨i, hi, e⟩ := List.getElem_of_mem hy'
    have hi2 : i < ((List.range w).map fun k : Nat => MV.int (0 + (k : Int))).length := by rw [List.length_map, List.length_range]; omega
    exact c4 i _ y (List.getElem?_eq_getElem hi2) (by rw [List.getElem?_eq_getElem hi, e])
theorem draw_table {w : Nat} {row : MV} {env : MP.Env} {s : Store} (T : Takes C 31) (U : Numbers1 C 47) (hr : Row row) (hs : Spot a st0 s) (hw : w ≤ 1000) (h1 : env[1]? = some (some row)) (h2 : env[2]? = some (some (.ref a))) (h3 : env[3]? = some (some (.int (w : Int)))) (h6 : 6 < env.length) :
    ∃ rs s', eE C (.blt .tuple false [(.comp false [6] (.blt .tuple false [(.comp false [5] (.call 47 [(.var 1), (.var 2), (.k (.int 6))]) (.nm 5) .range [(.var 3)] [])]) (.nm 6) .range [(.bin .add false (.k (.int 1)) (.call 31 [(.var 1), (.var 2), (.k (.int 4))]))] [])]) env s = .ok (.tup rs) s' ∧ Spot a st0 s' ∧ 1 ≤ rs.length ∧ rs.length ≤ 4 ∧ ∀ r ∈ rs, Drow w r := by
  have hll := line_1e6
  obtain ⟨r1, s1, p1, p2, p3, p4⟩ := T row a 4 st0 s hr hs (by decide)
  obtain ⟨m, hm⟩ : ∃ m : Nat, (m : Int) = 1 + r1 := ⟨(1 + r1).toNat, by omega⟩
  obtain ⟨ys, s2, c1, c2, c3, c4⟩ := compL_inv (turn := turnF C [6] (.blt .tuple false [(.comp false [5] (.call 47 [(.var 1), (.var 2), (.k (.int 6))]) (.nm 5) .range [(.var 3)] [])]) (.nm 6) [] env) (P := fun s => Spot a st0 s) (Qv := fun _ y => Drow w y) (deps := [])
    ((List.range m).map fun k : Nat => MV.int (0 + (k : Int))) [] s1 (fun _ _ => rfl) (fun x _ s hp => by
      have hasg : asgT (.nm 6) x (wipeE [6] env) = some ((env.set 6 none).set 6 (some x)) := by
        show (if 6 < (env.set 6 none).length then some ((env.set 6 none).set 6 (some x)) else none) = _
        rw [if_pos (by rw [List.length_set]; exact h6)]
      have g1 : ((env.set 6 none).set 6 (some x))[1]? = some (some row) := by rw [List.getElem?_set_ne (by decide), List.getElem?_set_ne (by decide), h1]
      have g2 : ((env.set 6 none).set 6 (some x))[2]? = some (some (.ref a)) := by rw [List.getElem?_set_ne (by decide), List.getElem?_set_ne (by decide), h2]
      have g3 : ((env.set 6 none).set 6 (some x))[3]? = some (some (.int (w : Int))) := by rw [List.getElem?_set_ne (by decide), List.getElem?_set_ne (by decide), h3]
      obtain ⟨v, s', e1, e2, e3⟩ := draw_row (C := C) (s := s) U hr hp hw g1 g2 g3 (by rw [List.length_set, List.length_set]; omega)
      refine ⟨v, s', ?_, e2, e3⟩
      unfold turnF
      rw [hasg]
      simp only [vi_nil, R.bind_ok, if_true, e1]) (by rw [List.length_map, List.length_range]; simp only [List.length_nil]; omega) p4
  simp only [List.length_map, List.length_range] at c3
  simp only [List.reverse_nil, List.nil_append] at c1
  have hsrc : eEs C [(.bin .add false (.k (.int 1)) (.call 31 [(.var 1), (.var 2), (.k (.int 4))]))] env s = .ok [.int (m : Int)] s1 := by
    simp only [vs_cons, vs_nil, v_bin, v_call, v_k, v_var, h1, h2, R.bind_ok, p3, binM, hm]
  have hy : ys.length ≤ line := by omega
  refine ⟨ys, s2, tup_of ?_, c2, by omega, by omega, fun y hy' => ?_⟩
  · exact comp_gen hsrc (rgN (by omega)) c1 hy
  · obtain ⟨i, hi, e⟩ := List.getElem_of_mem hy'
    have hi2 : i < ((List.range m).map fun k : Nat => MV.int (0 + (k : Int))).length := by rw [List.length_map, List.length_range]; omega
    exact c4 i _ y (List.getElem?_eq_getElem hi2) (by rw [List.getElem?_eq_getElem hi, e])
end
/-! ### the table as numbers -/
def Pr (w : Nat) (r : MV) (qs : List Rat) : Prop := ∃ ys, r = .tup ys ∧ (∀ y ∈ ys, Drawn 3 y) ∧ All2 (Gn 3) ys qs ∧ qs.length = w
theorem rows_pick {w : Nat} {rs : List MV} (h : ∀ r ∈ rs, Drow w r) : ∃ T, All2 (Pr w) rs T := All2.pick fun r hr => by
  obtain ⟨ys, rfl, hl, hd⟩ := h r hr
  obtain ⟨qs, hq⟩ := drawn_all hd
  exact ⟨qs, ys, rfl, hd, hq, by rw [← hq.len, hl]⟩
def fnT (T : List (List Rat)) (i j : Nat) : Rat := (T.getD i []).getD j 0
theorem rowL_fnT {T : List (List Rat)} {w i : Nat} (h : (T.getD i []).length = w) : rowL w (fnT T i) = T.getD i [] := by
  apply List.ext_getElem?
  intro j
  unfold rowL fnT
  rw [List.getElem?_map]
  by_cases hj : j < w
  · rw [List.getElem?_range hj, List.getElem?_eq_getElem (by omega)]
    show some ((T.getD i []).getD j 0) = _
    rw [List.getD_eq_getElem?_getD, List.getElem?_eq_getElem (by omega)]
    rfl
  · rw [List.getElem?_eq_none (by rw [List.length_range]; omega), List.getElem?_eq_none (by omega)]
    rfl
theorem rows_sz {w : Nat} : ∀ {rs : List MV} {T : List (List Rat)}, All2 (Pr w) rs T → ∀ qs ∈ T, ∀ q ∈ qs, Sz 3 q
  | _, _, .nil, qs, h => by cases h
  | _, _, .cons a as, qs, h => by
    rcases List.mem_cons.mp h with rfl | h
    · obtain ⟨ys, _, _, hq, _⟩ := a
      exact gn_sz (by decide) hq
    · exact rows_sz as qs h
theorem fnT_sz {T : List (List Rat)} (h : ∀ qs ∈ T, ∀ q ∈ qs, Sz 3 q) (i j : Nat) : Sz 3 (fnT T i j) := by
  unfold fnT
  have z : Sz 3 (0 : Rat) := ⟨by decide, by decide⟩
  have key : ∀ q ∈ T.getD i [], Sz 3 q := fun q hq => by
    by_cases hi : i < T.length
    · rw [List.getD_eq_getElem?_getD, List.getElem?_eq_getElem hi, Option.getD_some] at hq
      exact h _ (List.getElem_mem hi) q hq
    · rw [List.getD_eq_getElem?_getD, List.getElem?_eq_none (by omega)] at hq
      cases hq
  generalize T.getD i [] = l at key
  by_cases hj : j < l.length
  · rw [List.getD_eq_getElem?_getD, List.getElem?_eq_getElem hj, Option.getD_some]
    exact key _ (List.getElem_mem hj)
  · rw [List.getD_eq_getElem?_getD, List.getElem?_eq_none (by omega)]
    exact z
theorem row_at {w i : Nat} {rs : List MV} {T : List (List Rat)} (h : All2 (Pr w) rs T) (hi : i < rs.length) : ∃ ys, rs.getD i .non = .tup ys ∧ (∀ y ∈ ys, Drawn 3 y) ∧ All2 (Gn 3) ys (rowL w (fnT T i)) := by
  obtain ⟨qs, hq, ys, e, hd, ha, hl⟩ := h.get (List.getElem?_eq_getElem hi)
  have hT : T.getD i [] = qs := by rw [List.getD_eq_getElem?_getD, hq, Option.getD_some]
  refine ⟨ys, ?_, hd, ?_⟩
  · rw [List.getD_eq_getElem?_getD, List.getElem?_eq_getElem hi, Option.getD_some, e]
  · rw [rowL_fnT (by rw [hT, hl]), hT]
    exact ha
theorem tab_of {w : Nat} {rs : List MV} {T : List (List Rat)} (h : All2 (Pr w) rs T) : Tab (.tup rs) rs.length w (fnT T) := ⟨rs, .inr rfl, rfl, fun i hi => by
  obtain ⟨ys, e, _, ha⟩ := row_at h hi
  exact ⟨ys, .inr e, ha⟩⟩
theorem tab_lo {w : Nat} {rs : List MV} {T : List (List Rat)} {v : MV} (h : All2 (Pr w) rs T) (hl : Lo (.tup rs) v) : Tab v rs.length w (fnT T) := by
  obtain ⟨vs, l1, l2⟩ := Lo_tup hl
  refine ⟨vs, l2, l1.len.symm, fun i hi => ?_⟩
  obtain ⟨ys, e, hd, ha⟩ := row_at h hi
  obtain ⟨v', hv', lo⟩ := l1.get (List.getElem?_eq_getElem hi)
  have e2 : rs[i] = .tup ys := by
    rw [List.getD_eq_getElem?_getD, List.getElem?_eq_getElem hi, Option.getD_some] at e
    exact e
  rw [e2] at lo
  obtain ⟨zs, m1, m2⟩ := Lo_tup lo
  refine ⟨zs, ?_, lo_all hd ha m1⟩
  rw [List.getD_eq_getElem?_getD, hv', Option.getD_some]
  exact m2
end Lk94

namespace Lk94
open PySem MP
open scoped Rat
abbrev bTr : List MS := [.asg (.nm 16) (.k (.bl false)), .ite (.andE (.isi [.list, .tuple] (.var 12)) (.andE (.cmp .eq (.blt .len false [(.var 12)]) (.k (.int 4))) (.andE (.call 48 [(.idx (.var 12) (.k (.int 0)))]) (.call 48 [(.idx (.var 12) (.k (.int 3)))])))) [.asg (.nm 17) (.tupE [(.call 37 [(.idx (.var 12) (.k (.int 0)))]), (.call 49 [(.idx (.var 12) (.k (.int 1))), (.blt .len false [(.var 7)])]), (.call 49 [(.idx (.var 12) (.k (.int 2))), (.var 3)]), (.call 37 [(.idx (.var 12) (.k (.int 3)))])]), .asg (.nm 16) (.cmp .eq (.var 17) (.slc false (.var 9) (.k (.non)) (.k (.int 4))))] [], .ite (.notE (.call 28 [(.call 25 [(.var 4), (.var 12)]), (.var 16)])) [.ret (.k (.bl false))] []]
section
variable {C : Fns} {W : Nat} {st : Store} {m w : Nat} {x : Nat → Nat → Rat} {tb one : MV} {e0 e1 e2 e5 e6 e8 e10 e11 e12 e13 e14 e15 e16 e17 : Option MV}
theorem cut4 : cutM (due m w x) none (some 4) = due4 m w x := cut_upto (xs := due m w x) (k := 4) (by simp [due])
theorem slc4 : slcM false (.tup (due m w x)) .non (.int 4) st = .ok (.tup (due4 m w x)) st := by
  show R.ok (MV.tup (cutM (due m w x) none (some 4))) st = _
  rw [cut4]
/-- the law's own judgement -/
theorem tr_firm {b n : Nat} (ho : Vk b n one) (hb : b ≤ 8900) (N : IsNumAny C 48) (Nm : Reads C 37) (Ns : ∀ (k : Nat) (y : MV), Vk b (n - 1) y → C 49 [y, .int (k : Int)] st = .ok (tupO (readsM k y)) st) :
    ∃ t17 : Option MV, eSs C W [.ite (.andE (.isi [.list, .tuple] (.var 12)) (.andE (.cmp .eq (.blt .len false [(.var 12)]) (.k (.int 4))) (.andE (.call 48 [(.idx (.var 12) (.k (.int 0)))]) (.call 48 [(.idx (.var 12) (.k (.int 3)))])))) [.asg (.nm 17) (.tupE [(.call 37 [(.idx (.var 12) (.k (.int 0)))]), (.call 49 [(.idx (.var 12) (.k (.int 1))), (.blt .len false [(.var 7)])]), (.call 49 [(.idx (.var 12) (.k (.int 2))), (.var 3)]), (.call 37 [(.idx (.var 12) (.k (.int 3)))])]), .asg (.nm 16) (.cmp .eq (.var 17) (.slc false (.var 9) (.k (.non)) (.k (.int 4))))] []] [e0, e1, e2, some (.int (w : Int)), some tb, e5, e6, some (lv m w x), e8, some (.tup (due m w x)), e10, e11, some one, e13, e14, e15, some (.bl false), e17] st = .next [e0, e1, e2, some (.int (w : Int)), some tb, e5, e6, some (lv m w x), e8, some (.tup (due m w x)), e10, e11, some one, e13, e14, e15, some (.bl (judge m w x one)), t17] st := by
  have is0 := isi_vk (C := C) (st := st) (ts := [.list, .tuple]) (i := 12) (env := [e0, e1, e2, some (.int (w : Int)), some tb, e5, e6, some (lv m w x), e8, some (.tup (due m w x)), e10, e11, some one, e13, e14, e15, some (.bl false), e17]) ho rfl
  cases hq : seqM one with
  | none =>
    have hj : judge m w x one = false := by unfold judge; rw [hq]
    have ha : [Ty.list, Ty.tuple].any (isTy one) = false := by
      cases one with
      | tup xs => cases hq
      | lst xs => cases hq
      | ref a => exact absurd ho.noRef (by simp [noRef])
      | _ => rfl
    rw [ha] at is0
    have t : toTruth (eE C (.andE (.isi [.list, .tuple] (.var 12)) (.andE (.cmp .eq (.blt .len false [(.var 12)]) (.k (.int 4))) (.andE (.call 48 [(.idx (.var 12) (.k (.int 0)))]) (.call 48 [(.idx (.var 12) (.k (.int 3)))])))) [e0, e1, e2, some (.int (w : Int)), some tb, e5, e6, some (lv m w x), e8, some (.tup (due m w x)), e10, e11, some one, e13, e14, e15, some (.bl false), e17] st) = .ok false st := by
      rw [v_and, is0]
      simp only [R.bind_ok, truth_bl, toTruth_bl]
    exact ⟨e17, by rw [ite_f t, ss_nil, hj]⟩
  | some ys =>
    have sq := seq_of hq
    have ha : [Ty.list, Ty.tuple].any (isTy one) = true := by rcases sq with rfl | rfl <;> rfl
    rw [ha] at is0
    obtain ⟨_, _, _, _, hln, ix⟩ := sq_is sq
    have ln := hln st
    by_cases h4 : ys.length = 4
    · obtain ⟨a, b', c, e, rfl⟩ := four h4
      obtain ⟨_, hin⟩ := ho.items hq
      have va := hin a (by simp)
      have vb := hin b' (by simp)
      have vc := hin c (by simp)
      have ve := hin e (by simp)
      have i0 : idxM one (.int 0) st = .ok a st := ix 0 a st rfl
      have i1 : idxM one (.int 1) st = .ok b' st := ix 1 b' st rfl
      have i2 : idxM one (.int 2) st = .ok c st := ix 2 c st rfl
      have i3 : idxM one (.int 3) st = .ok e st := ix 3 e st rfl
      have na := N b (n - 1) a st va
      have ne := N b (n - 1) e st ve
      have rb := Ns m b' vb
      have rc := Ns w c vc
      have l7 := len_lv (st := st) (m := m) (w := w) (x := x)
      have hj : judge m w x one = match readM a, readsM m b', readsM w c, readM e with
          | some g, some ds, some as, some s => decide (g = Gm m w x ∧ ds = rowL m (Dn m w x) ∧ as = rowL w (Ac m w x) ∧ s = Ll m w x)
          | _, _, _, _ => false := by
        unfold judge
        rw [hq]
        all_goals rfl
      have e4 : eqM st (.int ([a, b', c, e].length : Int)) (.int 4) = some true := rfl
      have t : toTruth (eE C (.andE (.isi [.list, .tuple] (.var 12)) (.andE (.cmp .eq (.blt .len false [(.var 12)]) (.k (.int 4))) (.andE (.call 48 [(.idx (.var 12) (.k (.int 0)))]) (.call 48 [(.idx (.var 12) (.k (.int 3)))])))) [e0, e1, e2, some (.int (w : Int)), some tb, e5, e6, some (lv m w x), e8, some (.tup (due m w x)), e10, e11, some one, e13, e14, e15, some (.bl false), e17] st) = .ok ((readM a).isSome && (readM e).isSome) st := by
        rw [v_and, is0]
        simp only [R.bind_ok, truth_bl, v_and, v_cmp, v_call, v_blt, v_tup, v_idx, vs_cons, vs_nil, v_var, v_k, List.getElem?_cons_zero, List.getElem?_cons_succ, R.bind_ok, ln, cmpM, e4, i0, i3, na, ne]
        cases (readM a).isSome <;> simp [toTruth_bl]
      by_cases hs : (readM a).isSome = true ∧ (readM e).isSome = true
      · obtain ⟨h1, h2⟩ := hs
        obtain ⟨ga, hga⟩ := Option.isSome_iff_exists.mp h1
        obtain ⟨s, hse⟩ := Option.isSome_iff_exists.mp h2
        rw [h1, h2] at t
        have k1 := Nm b a ga st hb (va.read hga)
        have k2 := Nm b e s st hb (ve.read hse)
        have mk : ∀ p q r u : MV, mkT [p, q, r, u] st = .ok (.tup [p, q, r, u]) st := fun _ _ _ _ => rfl
        have c17 : eE C (.tupE [(.call 37 [(.idx (.var 12) (.k (.int 0)))]), (.call 49 [(.idx (.var 12) (.k (.int 1))), (.blt .len false [(.var 7)])]), (.call 49 [(.idx (.var 12) (.k (.int 2))), (.var 3)]), (.call 37 [(.idx (.var 12) (.k (.int 3)))])]) [e0, e1, e2, some (.int (w : Int)), some tb, e5, e6, some (lv m w x), e8, some (.tup (due m w x)), e10, e11, some one, e13, e14, e15, some (.bl false), e17] st = .ok (.tup [fv ga, tupO (readsM m b'), tupO (readsM w c), fv s]) st := by
          simp only [v_call, v_blt, v_tup, v_idx, vs_cons, vs_nil, v_var, v_k, List.getElem?_cons_zero, List.getElem?_cons_succ, R.bind_ok, i0, i1, i2, i3, l7, k1, k2, rb, rc, mk]
        have hjj : judge m w x one = decide (ga = Gm m w x ∧ readsM m b' = some (rowL m (Dn m w x)) ∧ readsM w c = some (rowL w (Ac m w x)) ∧ s = Ll m w x) := by
          rw [hj, hga, hse]
          cases readsM m b' with
          | none => simp
          | some ds =>
            cases readsM w c with
            | none => simp
            | some as => simp
        have c16 : eE C (.cmp .eq (.var 17) (.slc false (.var 9) (.k (.non)) (.k (.int 4)))) [e0, e1, e2, some (.int (w : Int)), some tb, e5, e6, some (lv m w x), e8, some (.tup (due m w x)), e10, e11, some one, e13, e14, e15, some (.bl false), some (.tup [fv ga, tupO (readsM m b'), tupO (readsM w c), fv s])] st = .ok (.bl (judge m w x one)) st := by
          have hc : cmpM .eq (.tup [fv ga, tupO (readsM m b'), tupO (readsM w c), fv s]) (.tup (due4 m w x)) st = some (judge m w x one) := by
            rw [hjj]
            exact eq_due (st := st)
          simp only [v_cmp, v_slc, v_var, v_k, List.getElem?_cons_zero, List.getElem?_cons_succ, R.bind_ok, R.noX_ok, slc4, hc]
        refine ⟨some (.tup [fv ga, tupO (readsM m b'), tupO (readsM w c), fv s]), ?_⟩
        rw [ite_n (env1 := [e0, e1, e2, some (.int (w : Int)), some tb, e5, e6, some (lv m w x), e8, some (.tup (due m w x)), e10, e11, some one, e13, e14, e15, some (.bl (judge m w x one)), some (.tup [fv ga, tupO (readsM m b'), tupO (readsM w c), fv s])]) (st1 := st) (st2 := st) t (by
          rw [ss_asg c17 (env1 := [e0, e1, e2, some (.int (w : Int)), some tb, e5, e6, some (lv m w x), e8, some (.tup (due m w x)), e10, e11, some one, e13, e14, e15, some (.bl false), some (.tup [fv ga, tupO (readsM m b'), tupO (readsM w c), fv s])]) rfl, ss_asg c16 (env1 := [e0, e1, e2, some (.int (w : Int)), some tb, e5, e6, some (lv m w x), e8, some (.tup (due m w x)), e10, e11, some one, e13, e14, e15, some (.bl (judge m w x one)), some (.tup [fv ga, tupO (readsM m b'), tupO (readsM w c), fv s])]) rfl, ss_nil]), ss_nil]
      · have hf : ((readM a).isSome && (readM e).isSome) = false := by
          cases h1 : (readM a).isSome with
          | false => rfl
          | true =>
            cases h2 : (readM e).isSome with
            | false => rfl
            | true => exact absurd ⟨h1, h2⟩ hs
        rw [hf] at t
        have hj2 : judge m w x one = false := by
          rw [hj]
          split
          · rename_i g ds as s h1 h2 h3 h4'
            rw [h1, h4'] at hs
            exact absurd ⟨rfl, rfl⟩ hs
          · rfl
        exact ⟨e17, by rw [ite_f t, ss_nil, hj2]⟩
    · have hj : judge m w x one = false := by
        unfold judge
        rw [hq]
        split
        · rename_i a b' c e h
          cases h
          exact absurd rfl h4
        · rfl
      have e4 : eqM st (.int (ys.length : Int)) (.int 4) = some false := by
        rw [eqM_int, decide_eq_false (by omega)]
      have t : toTruth (eE C (.andE (.isi [.list, .tuple] (.var 12)) (.andE (.cmp .eq (.blt .len false [(.var 12)]) (.k (.int 4))) (.andE (.call 48 [(.idx (.var 12) (.k (.int 0)))]) (.call 48 [(.idx (.var 12) (.k (.int 3)))])))) [e0, e1, e2, some (.int (w : Int)), some tb, e5, e6, some (lv m w x), e8, some (.tup (due m w x)), e10, e11, some one, e13, e14, e15, some (.bl false), e17] st) = .ok false st := by
        rw [v_and, is0]
        simp only [R.bind_ok, truth_bl, v_and, v_cmp, v_call, v_blt, v_tup, v_idx, vs_cons, vs_nil, v_var, v_k, List.getElem?_cons_zero, List.getElem?_cons_succ, R.bind_ok, ln, cmpM, e4, toTruth_bl]
      exact ⟨e17, by rw [ite_f t, ss_nil, hj]⟩
theorem tr_step {b n : Nat} (ho : Vk b n one) (hb : b ≤ 8900) (N : IsNumAny C 48) (Nm : Reads C 37) (Ns : ∀ (k : Nat) (y : MV), Vk b (n - 1) y → C 49 [y, .int (k : Int)] st = .ok (tupO (readsM k y)) st) (hold : C 25 [tb, one] st = .ok (.bl (judge m w x one)) st) (so : C 28 [.bl (judge m w x one), .bl (judge m w x one)] st = .ok (.bl true) st) :
    ∃ t16 t17 : Option MV, bodyF C W bTr [e0, e1, e2, some (.int (w : Int)), some tb, e5, e6, some (lv m w x), e8, some (.tup (due m w x)), e10, e11, some one, e13, e14, e15, e16, e17] st = .next [e0, e1, e2, some (.int (w : Int)), some tb, e5, e6, some (lv m w x), e8, some (.tup (due m w x)), e10, e11, some one, e13, e14, e15, t16, t17] st := by
  obtain ⟨t17, k⟩ := tr_firm (C := C) (W := W) (st := st) (m := m) (w := w) (x := x) (tb := tb) (one := one) (e0 := e0) (e1 := e1) (e2 := e2) (e5 := e5) (e6 := e6) (e8 := e8) (e10 := e10) (e11 := e11) (e13 := e13) (e14 := e14) (e15 := e15) (e17 := e17) ho hb N Nm Ns
  refine ⟨some (.bl (judge m w x one)), t17, ?_⟩
  have t : toTruth (eE C (.notE (.call 28 [(.call 25 [(.var 4), (.var 12)]), (.var 16)])) [e0, e1, e2, some (.int (w : Int)), some tb, e5, e6, some (lv m w x), e8, some (.tup (due m w x)), e10, e11, some one, e13, e14, e15, some (.bl (judge m w x one)), t17] st) = .ok false st := by
    simp only [v_not, v_call, v_blt, v_tup, v_idx, vs_cons, vs_nil, v_var, v_k, List.getElem?_cons_zero, List.getElem?_cons_succ, R.bind_ok, hold, so, toTruth_bl, Bool.not_true]
  unfold bodyF
  rw [bTr, ss_asg (v := .bl false) (st1 := st) (by rw [v_k]) (env1 := [e0, e1, e2, some (.int (w : Int)), some tb, e5, e6, some (lv m w x), e8, some (.tup (due m w x)), e10, e11, some one, e13, e14, e15, some (.bl false), e17]) rfl]
  have app : ∀ (a b : MS) (env env1 env2 : MP.Env), eSs C W [a] env st = .next env1 st → eSs C W [b] env1 st = .next env2 st → eSs C W [a, b] env st = .next env2 st := fun a b env env1 env2 h1 h2 => by
    rw [ss_cons] at h1 ⊢
    cases hq : eS C W a env st with
    | next e s =>
      rw [hq] at h1
      simp only [ss_nil] at h1
      cases h1
      exact h2
    | _ => rw [hq] at h1; cases h1
  exact app _ _ _ _ _ k (by rw [ite_f t, ss_nil])
end
end Lk94

namespace Lk94
open PySem MP
open scoped Rat
abbrev bA1 : List MS := [.asg (.nm 11) (.call 39 [(.var 11), (.call 50 [(.call 41 [(.var 12), (.var 10)])])])]
abbrev bA2 : List MS := [.forS (.nm 12) .seq [(.var 8)] bA1]
def dX (m w : Nat) (x : Nat → Nat → Rat) (i j : Nat) : Rat := (x i j - Gm m w x) * (x i j - Gm m w x)
section
variable {C : Fns} {W : Nat} {st : Store} {m w : Nat} {x : Nat → Nat → Rat} {e0 e1 e2 e3 e4 e5 e6 e7 e8 e9 e10 e11 e12 e13 e14 e15 e16 e17 : Option MV}
theorem ss_step {a : MS} {ss : List MS} {env env1 : MP.Env} {st1 : Store} (h : eSs C W [a] env st = .next env1 st1) : eSs C W (a :: ss) env st = eSs C W ss env1 st1 := by
  rw [ss_cons] at h ⊢
  cases hq : eS C W a env st with
  | next e s =>
    rw [hq] at h
    simp only [ss_nil] at h
    cases h
    rfl
  | _ => rw [hq] at h; cases h
theorem acc_in {i : Nat} {A0 : Rat} {t12 : Option MV} (M : ∀ i j, C 41 [fv (x i j), fv (Gm m w x)] st = .ok (fv (x i j - Gm m w x)) st) (Q : ∀ i j, C 50 [fv (x i j - Gm m w x)] st = .ok (fv (dX m w x i j)) st) (P : Bin2 C 39 (· + ·)) (zA : ∀ k, k ≤ w → Sz 60 (A0 + Sm k (dX m w x i))) (zd : ∀ j, Sz 60 (dX m w x i j)) :
    ∃ t, forL (.nm 12) [] (bodyF C W bA1) ((rowL w (x i)).map fv) [e0, e1, e2, e3, e4, e5, e6, some (lv m w x), e8, e9, some (fv (Gm m w x)), some (fv (A0)), t12, e13, e14, e15, e16, e17] st = .next [e0, e1, e2, e3, e4, e5, e6, some (lv m w x), e8, e9, some (fv (Gm m w x)), some (fv (A0 + Sm w (dX m w x i))), t, e13, e14, e15, e16, e17] st := by
  obtain ⟨t, k1, k2⟩ := forL_fold (deps := []) (tg := .nm 12) (m := fun j => fv (x i j)) (body := bodyF C W bA1) (E := fun (q : Rat) (t : Option MV) => [e0, e1, e2, e3, e4, e5, e6, some (lv m w x), e8, e9, some (fv (Gm m w x)), some (fv (q)), t, e13, e14, e15, e16, e17])
    (S := fun _ => st) (g := fun a j => a + dX m w x i j) (I := fun k a => a = A0 + Sm k (dX m w x i)) (fun _ _ _ => rfl) (List.range w) 0 A0 t12 (fun k a t j hj hI => by
      have hk := (List.getElem?_eq_some_iff.mp hj).1
      rw [List.length_range] at hk
      have ek : j = k := by rw [List.getElem?_range hk] at hj; exact (Option.some.inj hj).symm
      subst ek
      rw [Nat.zero_add] at hI ⊢
      have z := zA j (by omega)
      rw [← hI] at z
      have p := P 60 60 a (dX m w x i j) st z (zd j) (by decide)
      refine ⟨by rw [Sm_succ, hI]; grind, [e0, e1, e2, e3, e4, e5, e6, some (lv m w x), e8, e9, some (fv (Gm m w x)), some (fv (a)), some (fv (x i j)), e13, e14, e15, e16, e17], some (fv (x i j)), rfl, ?_⟩
      have m1 := M i j
      have q1 := Q i j
      unfold bodyF
      rw [bA1, ss_asg (v := fv (a + dX m w x i j)) (st1 := st) (by simp only [v_call, v_blt, v_tup, v_idx, vs_cons, vs_nil, v_var, v_k, List.getElem?_cons_zero, List.getElem?_cons_succ, R.bind_ok, m1, q1, p]) (env1 := [e0, e1, e2, e3, e4, e5, e6, some (lv m w x), e8, e9, some (fv (Gm m w x)), some (fv (a + dX m w x i j)), some (fv (x i j)), e13, e14, e15, e16, e17]) rfl, ss_nil]) (by rw [Sm_zero]; grind)
  rw [Nat.zero_add, List.length_range] at k2
  have e : (rowL w (x i)).map fv = (List.range w).map fun j => fv (x i j) := by unfold rowL; rw [List.map_map]; rfl
  refine ⟨t, ?_⟩
  rw [e, k1, k2]
theorem acc_out {t8 t12 : Option MV} (M : ∀ i j, C 41 [fv (x i j), fv (Gm m w x)] st = .ok (fv (x i j - Gm m w x)) st) (Q : ∀ i j, C 50 [fv (x i j - Gm m w x)] st = .ok (fv (dX m w x i j)) st) (P : Bin2 C 39 (· + ·)) (zA : ∀ i k, i < m → k ≤ w → Sz 60 (Sm i (fun i => Sm w (dX m w x i)) + Sm k (dX m w x i))) (zd : ∀ i j, Sz 60 (dX m w x i j)) :
    ∃ t : Option MV × Option MV, forL (.nm 8) [] (bodyF C W bA2) ((List.range m).map fun i => rowT w (x i)) [e0, e1, e2, e3, e4, e5, e6, some (lv m w x), t8, e9, some (fv (Gm m w x)), some (fv (0)), t12, e13, e14, e15, e16, e17] st = .next [e0, e1, e2, e3, e4, e5, e6, some (lv m w x), t.1, e9, some (fv (Gm m w x)), some (fv (Xx m w x)), t.2, e13, e14, e15, e16, e17] st := by
  obtain ⟨t, k1, k2⟩ := forL_fold (deps := []) (tg := .nm 8) (m := fun i => rowT w (x i)) (body := bodyF C W bA2) (E := fun (q : Rat) (t : Option MV × Option MV) => [e0, e1, e2, e3, e4, e5, e6, some (lv m w x), t.1, e9, some (fv (Gm m w x)), some (fv (q)), t.2, e13, e14, e15, e16, e17])
    (S := fun _ => st) (g := fun a i => a + Sm w (dX m w x i)) (I := fun k a => a = Sm k (fun i => Sm w (dX m w x i))) (fun _ _ _ => rfl) (List.range m) 0 0 (t8, t12) (fun k a t i hi hI => by
      have hk := (List.getElem?_eq_some_iff.mp hi).1
      rw [List.length_range] at hk
      have ek : i = k := by rw [List.getElem?_range hk] at hi; exact (Option.some.inj hi).symm
      subst ek
      rw [Nat.zero_add] at hI ⊢
      have z := fun k h => zA i k hk h
      rw [← hI] at z
      obtain ⟨t', k1⟩ := acc_in (C := C) (W := W) (st := st) (m := m) (w := w) (x := x) (i := i) (A0 := a) (t12 := t.2) (e8 := some (rowT w (x i))) (e0 := e0) (e1 := e1) (e2 := e2) (e3 := e3) (e4 := e4) (e5 := e5) (e6 := e6) (e9 := e9) (e13 := e13) (e14 := e14) (e15 := e15) (e16 := e16) (e17 := e17) M Q P z (zd i)
      refine ⟨by rw [Sm_succ, hI], [e0, e1, e2, e3, e4, e5, e6, some (lv m w x), some (rowT w (x i)), e9, some (fv (Gm m w x)), some (fv (a)), t.2, e13, e14, e15, e16, e17], (some (rowT w (x i)), t'), rfl, ?_⟩
      unfold bodyF
      rw [bA2, ss_for (vs := [rowT w (x i)]) (by simp only [vs_cons, vs_nil, v_var, List.getElem?_cons_zero, List.getElem?_cons_succ, R.bind_ok]) rfl k1, ss_nil]) rfl
  rw [Nat.zero_add, List.length_range] at k2
  refine ⟨t, ?_⟩
  rw [k1, k2]
  rfl
theorem idx_due0 : idxM (.tup (due m w x)) (.int 0) st = .ok (fv (Gm m w x)) st := rfl
theorem idx_due1 : idxM (.tup (due m w x)) (.int 1) st = .ok (rowT m (Dn m w x)) st := rfl
theorem idx_due2 : idxM (.tup (due m w x)) (.int 2) st = .ok (rowT w (Ac m w x)) st := rfl
theorem idx_due3 : idxM (.tup (due m w x)) (.int 3) st = .ok (fv (Ll m w x)) st := rfl
theorem idx_due4 : idxM (.tup (due m w x)) (.int 4) st = .ok (.tup ((List.range m).map fun i => rowT w (Lf m w x i))) st := rfl
theorem shares_st (g : Good m w x) (hv : e13 = some (if Xx m w x = 0 then .non else .tup ((shares m w x).map fv)))
    (d1 : C 45 [rowT m (Dn m w x), rowT m (Dn m w x)] st = .ok (fv (Sm m fun i => Dn m w x i * Dn m w x i)) st) (d2 : C 45 [rowT w (Ac m w x), rowT w (Ac m w x)] st = .ok (fv (Sm w fun i => Ac m w x i * Ac m w x i)) st)
    (b1 : C 42 [fv (w : Rat), fv (Sm m fun i => Dn m w x i * Dn m w x i)] st = .ok (fv (Dd m w x)) st) (b2 : C 42 [fv (m : Rat), fv (Sm w fun i => Ac m w x i * Ac m w x i)] st = .ok (fv (Aa m w x)) st)
    (V : Div2 C 43) (S : SumsL C 44) (so : C 28 [.tup ((shares m w x).map fv), .tup ((shares m w x).map fv)] st = .ok (.bl true) st) :
    ∃ t14, eSs C W [.ite (.cmp .eq (.idx (.var 11) (.k (.int 0))) (.k (.int 0))) [.ite (.cmp .isNotC (.var 13) (.k (.non))) [.ret (.k (.bl false))] []] [.asg (.nm 14) (.tupE [(.call 42 [(.tupE [(.var 3), (.k (.int 1))]), (.call 45 [(.idx (.var 9) (.k (.int 1))), (.idx (.var 9) (.k (.int 1)))])]), (.call 42 [(.tupE [(.blt .len false [(.var 7)]), (.k (.int 1))]), (.call 45 [(.idx (.var 9) (.k (.int 2))), (.idx (.var 9) (.k (.int 2)))])]), (.idx (.var 9) (.k (.int 3)))]), .ite (.orE (.notE (.call 28 [(.var 13), (.blt .tuple false [(.comp false [12] (.call 43 [(.var 12), (.var 11)]) (.nm 12) .seq [(.var 14)] [])])])) (.cmp .ne (.call 44 [(.var 13)]) (.tupE [(.k (.int 1)), (.k (.int 1))]))) [.ret (.k (.bl false))] []]] [e0, e1, e2, some (.int (w : Int)), e4, e5, e6, some (lv m w x), e8, some (.tup (due m w x)), e10, some (fv (Xx m w x)), e12, e13, e14, e15, e16, e17] st = .next [e0, e1, e2, some (.int (w : Int)), e4, e5, e6, some (lv m w x), e8, some (.tup (due m w x)), e10, some (fv (Xx m w x)), e12, e13, t14, e15, e16, e17] st := by
  subst hv
  have ix : idxM (fv (Xx m w x)) (.int 0) st = .ok (.int (Xx m w x).num) st := idx_fv0
  have t : toTruth (eE C (.cmp .eq (.idx (.var 11) (.k (.int 0))) (.k (.int 0))) [e0, e1, e2, some (.int (w : Int)), e4, e5, e6, some (lv m w x), e8, some (.tup (due m w x)), e10, some (fv (Xx m w x)), e12, some (if Xx m w x = 0 then .non else .tup ((shares m w x).map fv)), e14, e15, e16, e17] st) = .ok (decide (Xx m w x = 0)) st := by
    have hc : cmpM .eq (.int (Xx m w x).num) (.int 0) st = some (decide (Xx m w x = 0)) := by
      simp only [cmpM, eqM_int]
      rw [decide_eq_decide.mpr nzero]
    simp only [v_cmp, v_call, v_blt, v_tup, v_idx, vs_cons, vs_nil, v_var, v_k, List.getElem?_cons_zero, List.getElem?_cons_succ, R.bind_ok, ix, hc, toTruth_bl]
  by_cases hX : Xx m w x = 0
  · rw [decide_eq_true hX] at t
    rw [if_pos hX] at t ⊢
    have t2 : toTruth (eE C (.cmp .isNotC (.var 13) (.k (.non))) [e0, e1, e2, some (.int (w : Int)), e4, e5, e6, some (lv m w x), e8, some (.tup (due m w x)), e10, some (fv (Xx m w x)), e12, some .non, e14, e15, e16, e17] st) = .ok false st := rfl
    exact ⟨e14, by rw [ite_n (env1 := [e0, e1, e2, some (.int (w : Int)), e4, e5, e6, some (lv m w x), e8, some (.tup (due m w x)), e10, some (fv (Xx m w x)), e12, some .non, e14, e15, e16, e17]) (st1 := st) (st2 := st) t (by rw [ite_f t2, ss_nil]), ss_nil]⟩
  · rw [decide_eq_false hX] at t
    rw [if_neg hX] at t ⊢
    have l7 := len_lv (st := st) (m := m) (w := w) (x := x)
    have mk' : ∀ a b : MV, mkT [a, b] st = .ok (.tup [a, b]) st := fun _ _ => rfl
    have mk3' : ∀ a b c : MV, mkT [a, b, c] st = .ok (.tup [a, b, c]) st := fun _ _ _ => rfl
    have v1 := idx_due1 (st := st) (m := m) (w := w) (x := x)
    have v2 := idx_due2 (st := st) (m := m) (w := w) (x := x)
    have v3 := idx_due3 (st := st) (m := m) (w := w) (x := x)
    have c14 : eE C (.tupE [(.call 42 [(.tupE [(.var 3), (.k (.int 1))]), (.call 45 [(.idx (.var 9) (.k (.int 1))), (.idx (.var 9) (.k (.int 1)))])]), (.call 42 [(.tupE [(.blt .len false [(.var 7)]), (.k (.int 1))]), (.call 45 [(.idx (.var 9) (.k (.int 2))), (.idx (.var 9) (.k (.int 2)))])]), (.idx (.var 9) (.k (.int 3)))]) [e0, e1, e2, some (.int (w : Int)), e4, e5, e6, some (lv m w x), e8, some (.tup (due m w x)), e10, some (fv (Xx m w x)), e12, some (.tup ((shares m w x).map fv)), e14, e15, e16, e17] st = .ok (.tup [fv (Dd m w x), fv (Aa m w x), fv (Ll m w x)]) st := by
      simp only [v_call, v_blt, v_tup, v_idx, vs_cons, vs_nil, v_var, v_k, List.getElem?_cons_zero, List.getElem?_cons_succ, R.bind_ok, l7, mk', fvn, v1, v2, v3, d1, d2, b1, b2, mk3']
    have cs : eE C (.blt .tuple false [(.comp false [12] (.call 43 [(.var 12), (.var 11)]) (.nm 12) .seq [(.var 14)] [])]) [e0, e1, e2, some (.int (w : Int)), e4, e5, e6, some (lv m w x), e8, some (.tup (due m w x)), e10, some (fv (Xx m w x)), e12, some (.tup ((shares m w x).map fv)), some (.tup [fv (Dd m w x), fv (Aa m w x), fv (Ll m w x)]), e15, e16, e17] st = .ok (.tup ((shares m w x).map fv)) st := by
      have hsh : (shares m w x).map fv = [Dd m w x, Aa m w x, Ll m w x].map fun p => fv (p / Xx m w x) := rfl
      rw [hsh]
      refine tup_of (comp_map (m := fv) (l := [Dd m w x, Aa m w x, Ll m w x]) (vs := [.tup [fv (Dd m w x), fv (Aa m w x), fv (Ll m w x)]]) (by simp only [vs_cons, vs_nil, v_var, List.getElem?_cons_zero, List.getElem?_cons_succ, R.bind_ok]) rfl rfl (by simp) (fun p hp => ?_))
      have hpz : Sz 60 p := by
        simp only [List.mem_cons, List.not_mem_nil, or_false] at hp
        rcases hp with rfl | rfl | rfl
        · exact g.szDD
        · exact g.szAA
        · exact g.szLL
      have v := V 60 60 p (Xx m w x) st hpz g.szXX (by decide) hX
      refine turn_of (env1 := [e0, e1, e2, some (.int (w : Int)), e4, e5, e6, some (lv m w x), e8, some (.tup (due m w x)), e10, some (fv (Xx m w x)), some (fv p), some (.tup ((shares m w x).map fv)), some (.tup [fv (Dd m w x), fv (Aa m w x), fv (Ll m w x)]), e15, e16, e17]) rfl ?_
      simp only [v_call, v_blt, v_tup, v_idx, vs_cons, vs_nil, v_var, v_k, List.getElem?_cons_zero, List.getElem?_cons_succ, R.bind_ok, v]
    have sm := (S 60 (.tup ((shares m w x).map fv)) (shares m w x) st (.inr rfl) (shares_sz g hX) (by simp [shares])).1
    rw [shares_sum g hX] at sm
    have one1 : fv (1 : Rat) = MV.tup [.int 1, .int 1] := rfl
    rw [one1] at sm
    have hne : cmpM .ne (.tup [.int 1, .int 1]) (.tup [.int 1, .int 1]) st = some false := rfl
    have k28 := (call_of (vs2 (show eE C (.var 13) [e0, e1, e2, some (.int (w : Int)), e4, e5, e6, some (lv m w x), e8, some (.tup (due m w x)), e10, some (fv (Xx m w x)), e12, some (.tup ((shares m w x).map fv)), some (.tup [fv (Dd m w x), fv (Aa m w x), fv (Ll m w x)]), e15, e16, e17] st = .ok (.tup ((shares m w x).map fv)) st from rfl) cs)).trans so
    have t2 : toTruth (eE C (.orE (.notE (.call 28 [(.var 13), (.blt .tuple false [(.comp false [12] (.call 43 [(.var 12), (.var 11)]) (.nm 12) .seq [(.var 14)] [])])])) (.cmp .ne (.call 44 [(.var 13)]) (.tupE [(.k (.int 1)), (.k (.int 1))]))) [e0, e1, e2, some (.int (w : Int)), e4, e5, e6, some (lv m w x), e8, some (.tup (due m w x)), e10, some (fv (Xx m w x)), e12, some (.tup ((shares m w x).map fv)), some (.tup [fv (Dd m w x), fv (Aa m w x), fv (Ll m w x)]), e15, e16, e17] st) = .ok false st := by
      rw [v_or, v_not, k28]
      simp only [toTruth_bl, R.bind_ok, Bool.not_true, truth_bl, v_cmp, v_call, v_blt, v_tup, v_idx, vs_cons, vs_nil, v_var, v_k, List.getElem?_cons_zero, List.getElem?_cons_succ, R.bind_ok, sm, mk', hne]
    refine ⟨some (.tup [fv (Dd m w x), fv (Aa m w x), fv (Ll m w x)]), ?_⟩
    rw [ite_m (env1 := [e0, e1, e2, some (.int (w : Int)), e4, e5, e6, some (lv m w x), e8, some (.tup (due m w x)), e10, some (fv (Xx m w x)), e12, some (.tup ((shares m w x).map fv)), some (.tup [fv (Dd m w x), fv (Aa m w x), fv (Ll m w x)]), e15, e16, e17]) (st1 := st) (st2 := st) t (by
      rw [ss_asg c14 (env1 := [e0, e1, e2, some (.int (w : Int)), e4, e5, e6, some (lv m w x), e8, some (.tup (due m w x)), e10, some (fv (Xx m w x)), e12, some (.tup ((shares m w x).map fv)), some (.tup [fv (Dd m w x), fv (Aa m w x), fv (Ll m w x)]), e15, e16, e17]) rfl, ite_f t2, ss_nil]), ss_nil]
end
end Lk94

namespace Lk94
open PySem MP
open scoped Rat
def moved (m w : Nat) (x : Nat → Nat → Rat) : MV := .tup [fv (Gm m w x), .tup ((List.range m).map fun i => fv (Dn m w x i + 1)), rowT w (Ac m w x), fv (Ll m w x)]
section
variable {C : Fns} {W : Nat} {st : Store} {m w : Nat} {x : Nat → Nat → Rat}
theorem vs4 {a b c d : ME} {en : MP.Env} {x1 x2 x3 x4 : MV} (h1 : eE C a en st = .ok x1 st) (h2 : eE C b en st = .ok x2 st) (h3 : eE C c en st = .ok x3 st) (h4 : eE C d en st = .ok x4 st) : eEs C [a, b, c, d] en st = .ok [x1, x2, x3, x4] st := by
  simp only [vs_cons, vs_nil, h1, h2, h3, h4, R.bind_ok]
theorem tr_loop {rs : List MV} {e0 e1 e2 e5 e6 e8 e10 e11 e12 e13 e14 e15 e16 e17 : Option MV} (T : List MV) (hT : ∀ one ∈ T, ∃ n, Vk 90 n one) (N : IsNumAny C 48) (Nm : Reads C 37) (Ns : ∀ (n k : Nat) (y : MV), Vk 90 n y → C 49 [y, .int (k : Int)] st = .ok (tupO (readsM k y)) st) (hold : ∀ one n, Vk 90 n one → C 25 [.tup rs, one] st = .ok (.bl (judge m w x one)) st) (so : ∀ b, C 28 [.bl b, .bl b] st = .ok (.bl true) st) :
    ∃ e, forL (.nm 12) [] (bodyF C W bTr) T [e0, e1, e2, some (.int (w : Int)), some (.tup rs), e5, e6, some (lv m w x), e8, some (.tup (due m w x)), e10, e11, e12, e13, e14, e15, e16, e17] st = .next e st := by
  have S : ∀ (one : MV) (t16 t17 : Option MV), one ∈ T → ∃ u16 u17 : Option MV, bodyF C W bTr [e0, e1, e2, some (.int (w : Int)), some (.tup rs), e5, e6, some (lv m w x), e8, some (.tup (due m w x)), e10, e11, some one, e13, e14, e15, t16, t17] st = .next [e0, e1, e2, some (.int (w : Int)), some (.tup rs), e5, e6, some (lv m w x), e8, some (.tup (due m w x)), e10, e11, some one, e13, e14, e15, u16, u17] st := fun one t16 t17 h => by
    obtain ⟨n, ho⟩ := hT one h
    exact tr_step (C := C) (W := W) (st := st) (m := m) (w := w) (x := x) (tb := .tup rs) (one := one) (e0 := e0) (e1 := e1) (e2 := e2) (e5 := e5) (e6 := e6) (e8 := e8) (e10 := e10) (e11 := e11) (e13 := e13) (e14 := e14) (e15 := e15) (e16 := t16) (e17 := t17) ho (by decide) N Nm (fun k y hy => Ns (n - 1) k y hy) (hold one n ho) (so _)
  generalize bodyF C W bTr = B at S ⊢
  have key := forL_run (tg := .nm 12) (deps := []) (body := B) (items := T) (env := [e0, e1, e2, some (.int (w : Int)), some (.tup rs), e5, e6, some (lv m w x), e8, some (.tup (due m w x)), e10, e11, e12, e13, e14, e15, e16, e17]) (st := st)
    (P := fun t e s => s = st ∧ ∃ y t16 t17, e = [e0, e1, e2, some (.int (w : Int)), some (.tup rs), e5, e6, some (lv m w x), e8, some (.tup (due m w x)), e10, e11, y, e13, e14, e15, t16, t17]) (fun i one e s hx => by
      rintro ⟨rfl, y, t16, t17, rfl⟩
      obtain ⟨u16, u17, k⟩ := S one t16 t17 (List.mem_of_getElem? hx)
      refine ⟨rfl, _, rfl, ?_⟩
      simp only [List.set_cons_zero, List.set_cons_succ]
      rw [k]
      exact ⟨rfl, _, _, _, rfl⟩) (fun e s z => rfl) ⟨rfl, _, _, _, rfl⟩
  obtain ⟨e, s, k1, rfl, y, _⟩ := key
  exact ⟨e, k1⟩
theorem law_glue {S row b1 b2 b3 od : MV} {rs : List MV} {z0 z1 z2 z3 z4 z5 r0 : Int} (g : Good m w x) (hm : rs.length = m) (hw : 1 + r0 = (w : Int))
    (P : Bin2 C 39 (· + ·)) (V : Div2 C 43) (Sm' : SumsL C 44) (N : IsNumAny C 48) (Nm : Reads C 37)
    (n1 : C 29 [S] [] = .ok row [])
    (tk : C 31 [row, .ref 0, .int 4] [[.int 0]] = .ok (.int r0) [[.int z0]])
    (dr : eE C (.blt .tuple false [(.comp false [6] (.blt .tuple false [(.comp false [5] (.call 47 [(.var 1), (.var 2), (.k (.int 6))]) (.nm 5) .range [(.var 3)] [])]) (.nm 6) .range [(.bin .add false (.k (.int 1)) (.call 31 [(.var 1), (.var 2), (.k (.int 4))]))] [])]) [some S, some row, some (.ref 0), some (.int (w : Int)), none, none, none, none, none, none, none, none, none, none, none, none, none, none] [[.int z0]] = .ok (.tup rs) [[.int z1]])
    (v38 : ∀ i, i < m → C 38 [rs.getD i .non] [[.int z1]] = .ok (rowT w (x i)) [[.int z1]])
    (lp : C 53 [lv m w x] [[.int z1]] = .ok (.tup (due m w x)) [[.int z1]])
    (ck1 : ∃ v, C 32 [.tup rs, .int 0] [[.int z1]] = .ok v [[.int z1]] ∧ C 24 [v] [[.int z1]] = .ok (.tup (due4 m w x)) [[.int z1]])
    (ck2 : C 26 [.tup rs] [[.int z1]] = .ok (.tup ((List.range m).map fun i => rowT w (Lf m w x i))) [[.int z1]])
    (so1 : C 28 [.tup (due4 m w x), .tup (due4 m w x)] [[.int z1]] = .ok (.bl true) [[.int z1]])
    (so2 : C 28 [.tup ((List.range m).map fun i => rowT w (Lf m w x i)), .tup ((List.range m).map fun i => rowT w (Lf m w x i))] [[.int z1]] = .ok (.bl true) [[.int z1]])
    (Mi : ∀ i j, C 41 [fv (x i j), fv (Gm m w x)] [[.int z1]] = .ok (fv (x i j - Gm m w x)) [[.int z1]])
    (Qd : ∀ i j, C 50 [fv (x i j - Gm m w x)] [[.int z1]] = .ok (fv (dX m w x i j)) [[.int z1]])
    (zA : ∀ i k, i < m → k ≤ w → Sz 60 (Sm i (fun i => Sm w (dX m w x i)) + Sm k (dX m w x i))) (zd : ∀ i j, Sz 60 (dX m w x i j))
    (v27 : C 27 [.tup rs] [[.int z1]] = .ok (if Xx m w x = 0 then .non else .tup ((shares m w x).map fv)) [[.int z1]])
    (d1 : C 45 [rowT m (Dn m w x), rowT m (Dn m w x)] [[.int z1]] = .ok (fv (Sm m fun i => Dn m w x i * Dn m w x i)) [[.int z1]]) (d2 : C 45 [rowT w (Ac m w x), rowT w (Ac m w x)] [[.int z1]] = .ok (fv (Sm w fun i => Ac m w x i * Ac m w x i)) [[.int z1]])
    (b1' : C 42 [fv (w : Rat), fv (Sm m fun i => Dn m w x i * Dn m w x i)] [[.int z1]] = .ok (fv (Dd m w x)) [[.int z1]]) (b2' : C 42 [fv (m : Rat), fv (Sm w fun i => Ac m w x i * Ac m w x i)] [[.int z1]] = .ok (fv (Aa m w x)) [[.int z1]])
    (so3 : C 28 [.tup ((shares m w x).map fv), .tup ((shares m w x).map fv)] [[.int z1]] = .ok (.bl true) [[.int z1]])
    (t1' : C 52 [row, .ref 0, .tup (due4 m w x)] [[.int z1]] = .ok b1 [[.int z2]]) (t2' : C 52 [row, .ref 0, .tup (due4 m w x)] [[.int z2]] = .ok b2 [[.int z3]]) (t3' : C 52 [row, .ref 0, .tup (due4 m w x)] [[.int z3]] = .ok b3 [[.int z4]]) (t4' : C 51 [row, .ref 0] [[.int z4]] = .ok od [[.int z5]])
    (hT : ∀ one ∈ [.tup (due4 m w x), .lst (due4 m w x), moved m w x, .tup (due m w x), b1, b2, b3, od], ∃ n, Vk 90 n one)
    (Ns : ∀ (n k : Nat) (y : MV), Vk 90 n y → C 49 [y, .int (k : Int)] [[.int z5]] = .ok (tupO (readsM k y)) [[.int z5]]) (hold : ∀ one n, Vk 90 n one → C 25 [.tup rs, one] [[.int z5]] = .ok (.bl (judge m w x one)) [[.int z5]]) (so4 : ∀ b, C 28 [.bl b, .bl b] [[.int z5]] = .ok (.bl true) [[.int z5]]) :
    ∃ st', eSs C W b54 [some S, none, none, none, none, none, none, none, none, none, none, none, none, none, none, none, none, none] [] = .ret (.bl true) st' := by
  have m4 := g.m4
  have hadd : ∀ s, binM .add false (.int 1) (.int r0) s = .ok (.int (w : Int)) s := fun s => by
    show R.ok (MV.int (1 + r0)) s = _
    rw [hw]
  have c7 : eE C (.comp false [8] (.call 38 [(.var 8)]) (.nm 8) .seq [(.var 4)] []) [some S, some row, some (.ref 0), some (.int (w : Int)), some (.tup rs), none, none, none, none, none, none, none, none, none, none, none, none, none] [[.int z1]] = .ok (lv m w x) [[.int z1]] := by
    have elv : lv m w x = .lst ((List.range m).map fun i => rowT w (x i)) := rfl
    rw [elv]
    refine comp_map (m := fun i => rs.getD i .non) (l := List.range m) (vs := [.tup rs]) (by simp only [vs_cons, vs_nil, v_var, List.getElem?_cons_zero, List.getElem?_cons_succ, R.bind_ok]) (by
      show some (rs, []) = _
      rw [← hm, ← range_getD]) rfl (by rw [List.length_range]; omega) (fun i hi => ?_)
    have k := v38 i (List.mem_range.mp hi)
    generalize rs.getD i .non = r at k ⊢
    refine turn_of (env1 := [some S, some row, some (.ref 0), some (.int (w : Int)), some (.tup rs), none, none, none, some r, none, none, none, none, none, none, none, none, none]) rfl ?_
    simp only [v_call, v_blt, v_tup, v_idx, vs_cons, vs_nil, v_var, v_k, List.getElem?_cons_zero, List.getElem?_cons_succ, R.bind_ok, k]
  obtain ⟨va, c1, c2⟩ := ck1
  have s4 := slc4 (st := [[.int z1]]) (m := m) (w := w) (x := x)
  have i4 := idx_due4 (st := [[.int z1]]) (m := m) (w := w) (x := x)
  have t6 : toTruth (eE C (.orE (.notE (.call 28 [(.call 24 [(.call 32 [(.var 4), (.k (.int 0))])]), (.slc false (.var 9) (.k (.non)) (.k (.int 4)))])) (.notE (.call 28 [(.call 26 [(.var 4)]), (.idx (.var 9) (.k (.int 4)))]))) [some S, some row, some (.ref 0), some (.int (w : Int)), some (.tup rs), none, none, some (lv m w x), none, some (.tup (due m w x)), none, none, none, none, none, none, none, none] [[.int z1]]) = .ok false [[.int z1]] := by
    simp only [v_or, v_not, v_slc, R.noX_ok, v_call, v_blt, v_tup, v_idx, vs_cons, vs_nil, v_var, v_k, List.getElem?_cons_zero, List.getElem?_cons_succ, R.bind_ok, c1, c2, s4, so1, ck2, i4, so2, toTruth_bl, truth_bl, Bool.not_true]
  obtain ⟨t1, k9⟩ := acc_out (C := C) (W := W) (st := [[.int z1]]) (m := m) (w := w) (x := x) (t8 := none) (t12 := none) (e0 := some S) (e1 := some row) (e2 := some (.ref 0)) (e3 := some (.int (w : Int))) (e4 := some (.tup rs)) (e5 := none) (e6 := none) (e9 := some (.tup (due m w x))) (e13 := none) (e14 := none) (e15 := none) (e16 := none) (e17 := none) Mi Qd P zA zd
  obtain ⟨t14, k11⟩ := shares_st (C := C) (W := W) (st := [[.int z1]]) (m := m) (w := w) (x := x) (e0 := some S) (e1 := some row) (e2 := some (.ref 0)) (e4 := some (.tup rs)) (e5 := none) (e6 := none) (e8 := t1.1) (e10 := some (fv (Gm m w x))) (e12 := t1.2) (e13 := some (if Xx m w x = 0 then .non else .tup ((shares m w x).map fv))) (e14 := none) (e15 := none) (e16 := none) (e17 := none) g rfl d1 d2 b1' b2' V Sm' so3
  have c15 : eE C (.tupE [(.idx (.var 9) (.k (.int 0))), (.blt .tuple false [(.comp false [12] (.call 39 [(.var 12), (.tupE [(.k (.int 1)), (.k (.int 1))])]) (.nm 12) .seq [(.idx (.var 9) (.k (.int 1)))] [])]), (.idx (.var 9) (.k (.int 2))), (.idx (.var 9) (.k (.int 3)))]) [some S, some row, some (.ref 0), some (.int (w : Int)), some (.tup rs), none, none, some (lv m w x), t1.1, some (.tup (due m w x)), some (fv (Gm m w x)), some (fv (Xx m w x)), t1.2, some (if Xx m w x = 0 then .non else .tup ((shares m w x).map fv)), t14, none, none, none] [[.int z1]] = .ok (moved m w x) [[.int z1]] := by
    have inn : eE C (.blt .tuple false [(.comp false [12] (.call 39 [(.var 12), (.tupE [(.k (.int 1)), (.k (.int 1))])]) (.nm 12) .seq [(.idx (.var 9) (.k (.int 1)))] [])]) [some S, some row, some (.ref 0), some (.int (w : Int)), some (.tup rs), none, none, some (lv m w x), t1.1, some (.tup (due m w x)), some (fv (Gm m w x)), some (fv (Xx m w x)), t1.2, some (if Xx m w x = 0 then .non else .tup ((shares m w x).map fv)), t14, none, none, none] [[.int z1]] = .ok (.tup ((List.range m).map fun i => fv (Dn m w x i + 1))) [[.int z1]] := by
      have ix := idx_due1 (st := [[.int z1]]) (m := m) (w := w) (x := x)
      refine tup_of (comp_map (m := fun i => fv (Dn m w x i)) (l := List.range m) (vs := [rowT m (Dn m w x)]) (by simp only [vs_cons, vs_nil, v_idx, v_k, v_var, List.getElem?_cons_zero, List.getElem?_cons_succ, R.bind_ok, ix]) (by rw [rowT_eq]; rfl) rfl (by rw [List.length_range]; omega) (fun i hi => ?_))
      have p := P 25 1 (Dn m w x i) 1 [[.int z1]] (g.szD i) ⟨by decide, by decide⟩ (by decide)
      have one1 : MV.tup [.int 1, .int 1] = fv (1 : Rat) := rfl
      refine turn_of (env1 := [some S, some row, some (.ref 0), some (.int (w : Int)), some (.tup rs), none, none, some (lv m w x), t1.1, some (.tup (due m w x)), some (fv (Gm m w x)), some (fv (Xx m w x)), some (fv (Dn m w x i)), some (if Xx m w x = 0 then .non else .tup ((shares m w x).map fv)), t14, none, none, none]) rfl ?_
      simp only [v_call, v_blt, v_tup, v_idx, vs_cons, vs_nil, v_var, v_k, List.getElem?_cons_zero, List.getElem?_cons_succ, R.bind_ok, mk2, one1, p]
    have mk : ∀ p q r u : MV, mkT [p, q, r, u] [[.int z1]] = .ok (.tup [p, q, r, u]) [[.int z1]] := fun _ _ _ _ => rfl
    have i0 := idx_due0 (st := [[.int z1]]) (m := m) (w := w) (x := x)
    have i2 := idx_due2 (st := [[.int z1]]) (m := m) (w := w) (x := x)
    have i3 := idx_due3 (st := [[.int z1]]) (m := m) (w := w) (x := x)
    rw [v_tup, vs4 (x1 := fv (Gm m w x)) (x3 := rowT w (Ac m w x)) (x4 := fv (Ll m w x)) (by simp only [v_call, v_blt, v_tup, v_idx, vs_cons, vs_nil, v_var, v_k, List.getElem?_cons_zero, List.getElem?_cons_succ, R.bind_ok, i0]) inn (by simp only [v_call, v_blt, v_tup, v_idx, vs_cons, vs_nil, v_var, v_k, List.getElem?_cons_zero, List.getElem?_cons_succ, R.bind_ok, i2]) (by simp only [v_call, v_blt, v_tup, v_idx, vs_cons, vs_nil, v_var, v_k, List.getElem?_cons_zero, List.getElem?_cons_succ, R.bind_ok, i3]), R.bind_ok, mk]
    rfl
  have src : eEs C [(.lstE false [(.slc false (.var 9) (.k (.non)) (.k (.int 4))), (.blt .list false [(.slc false (.var 9) (.k (.non)) (.k (.int 4)))]), (.var 15), (.var 9), (.call 52 [(.var 1), (.var 2), (.slc false (.var 9) (.k (.non)) (.k (.int 4)))]), (.call 52 [(.var 1), (.var 2), (.slc false (.var 9) (.k (.non)) (.k (.int 4)))]), (.call 52 [(.var 1), (.var 2), (.slc false (.var 9) (.k (.non)) (.k (.int 4)))]), (.call 51 [(.var 1), (.var 2)])])] [some S, some row, some (.ref 0), some (.int (w : Int)), some (.tup rs), none, none, some (lv m w x), t1.1, some (.tup (due m w x)), some (fv (Gm m w x)), some (fv (Xx m w x)), t1.2, some (if Xx m w x = 0 then .non else .tup ((shares m w x).map fv)), t14, some (moved m w x), none, none] [[.int z1]] = .ok [.lst [.tup (due4 m w x), .lst (due4 m w x), moved m w x, .tup (due m w x), b1, b2, b3, od]] [[.int z5]] := by
    have s2 := slc4 (st := [[.int z2]]) (m := m) (w := w) (x := x)
    have s3 := slc4 (st := [[.int z3]]) (m := m) (w := w) (x := x)
    have ll : bltM .list false [.tup (due4 m w x)] [[.int z1]] = .ok (.lst (due4 m w x)) [[.int z1]] := by
      have hll := line_1e6
      show mkL false (due4 m w x) _ = _
      unfold mkL
      rw [if_pos (by show (4 : Nat) ≤ _; omega), if_neg Bool.false_ne_true]
    refine vs1 (lst_of ?_ (by simp))
    simp only [v_slc, R.noX_ok, v_call, v_blt, v_tup, v_idx, vs_cons, vs_nil, v_var, v_k, List.getElem?_cons_zero, List.getElem?_cons_succ, R.bind_ok, s4, s2, s3, ll, t1', t2', t3', t4']
  obtain ⟨e, k13⟩ := tr_loop (C := C) (W := W) (st := [[.int z5]]) (m := m) (w := w) (x := x) (rs := rs) (e0 := some S) (e1 := some row) (e2 := some (.ref 0)) (e5 := none) (e6 := none) (e8 := t1.1) (e10 := some (fv (Gm m w x))) (e11 := some (fv (Xx m w x))) (e12 := t1.2) (e13 := some (if Xx m w x = 0 then .non else .tup ((shares m w x).map fv))) (e14 := t14) (e15 := some (moved m w x)) (e16 := none) (e17 := none) [.tup (due4 m w x), .lst (due4 m w x), moved m w x, .tup (due m w x), b1, b2, b3, od] hT N Nm Ns hold so4
  refine ⟨[[.int z5]], ?_⟩
  rw [b54, ss_asg (v := row) (st1 := []) (by simp only [v_call, v_blt, v_tup, v_idx, vs_cons, vs_nil, v_var, v_k, List.getElem?_cons_zero, List.getElem?_cons_succ, R.bind_ok, n1]) (env1 := [some S, some row, none, none, none, none, none, none, none, none, none, none, none, none, none, none, none, none]) rfl,
    ss_asg (v := .ref 0) (st1 := [[.int 0]]) rfl (env1 := [some S, some row, some (.ref 0), none, none, none, none, none, none, none, none, none, none, none, none, none, none, none]) rfl,
    ss_asg (v := .int (w : Int)) (st1 := [[.int z0]]) (by simp only [v_bin, v_call, v_blt, v_tup, v_idx, vs_cons, vs_nil, v_var, v_k, List.getElem?_cons_zero, List.getElem?_cons_succ, R.bind_ok, tk, hadd]) (env1 := [some S, some row, some (.ref 0), some (.int (w : Int)), none, none, none, none, none, none, none, none, none, none, none, none, none, none]) rfl,
    ss_asg dr (env1 := [some S, some row, some (.ref 0), some (.int (w : Int)), some (.tup rs), none, none, none, none, none, none, none, none, none, none, none, none, none]) rfl, ss_asg c7 (env1 := [some S, some row, some (.ref 0), some (.int (w : Int)), some (.tup rs), none, none, some (lv m w x), none, none, none, none, none, none, none, none, none, none]) rfl,
    ss_asg (v := .tup (due m w x)) (st1 := [[.int z1]]) (by simp only [v_call, v_blt, v_tup, v_idx, vs_cons, vs_nil, v_var, v_k, List.getElem?_cons_zero, List.getElem?_cons_succ, R.bind_ok, lp]) (env1 := [some S, some row, some (.ref 0), some (.int (w : Int)), some (.tup rs), none, none, some (lv m w x), none, some (.tup (due m w x)), none, none, none, none, none, none, none, none]) rfl,
    ite_f t6, ss_asg (v := fv (Gm m w x)) (st1 := [[.int z1]]) (by
      have i0 := idx_due0 (st := [[.int z1]]) (m := m) (w := w) (x := x)
      simp only [v_call, v_blt, v_tup, v_idx, vs_cons, vs_nil, v_var, v_k, List.getElem?_cons_zero, List.getElem?_cons_succ, R.bind_ok, i0]) (env1 := [some S, some row, some (.ref 0), some (.int (w : Int)), some (.tup rs), none, none, some (lv m w x), none, some (.tup (due m w x)), some (fv (Gm m w x)), none, none, none, none, none, none, none]) rfl,
    ss_asg (v := fv 0) (st1 := [[.int z1]]) rfl (env1 := [some S, some row, some (.ref 0), some (.int (w : Int)), some (.tup rs), none, none, some (lv m w x), none, some (.tup (due m w x)), some (fv (Gm m w x)), some (fv 0), none, none, none, none, none, none]) rfl]
  show eSs C W (.forS (.nm 8) .seq [(.var 7)] bA2 :: _) _ _ = _
  rw [ss_for (vs := [lv m w x]) (by simp only [vs_cons, vs_nil, v_var, List.getElem?_cons_zero, List.getElem?_cons_succ, R.bind_ok]) rfl k9,
    ss_asg (v := if Xx m w x = 0 then .non else .tup ((shares m w x).map fv)) (st1 := [[.int z1]]) (by simp only [v_call, v_blt, v_tup, v_idx, vs_cons, vs_nil, v_var, v_k, List.getElem?_cons_zero, List.getElem?_cons_succ, R.bind_ok, v27]) (env1 := [some S, some row, some (.ref 0), some (.int (w : Int)), some (.tup rs), none, none, some (lv m w x), t1.1, some (.tup (due m w x)), some (fv (Gm m w x)), some (fv (Xx m w x)), t1.2, some (if Xx m w x = 0 then .non else .tup ((shares m w x).map fv)), none, none, none, none]) rfl,
    ss_step k11, ss_asg c15 (env1 := [some S, some row, some (.ref 0), some (.int (w : Int)), some (.tup rs), none, none, some (lv m w x), t1.1, some (.tup (due m w x)), some (fv (Gm m w x)), some (fv (Xx m w x)), t1.2, some (if Xx m w x = 0 then .non else .tup ((shares m w x).map fv)), t14, some (moved m w x), none, none]) rfl]
  show eSs C W (.forS (.nm 12) .seq [(.lstE false [(.slc false (.var 9) (.k (.non)) (.k (.int 4))), (.blt .list false [(.slc false (.var 9) (.k (.non)) (.k (.int 4)))]), (.var 15), (.var 9), (.call 52 [(.var 1), (.var 2), (.slc false (.var 9) (.k (.non)) (.k (.int 4)))]), (.call 52 [(.var 1), (.var 2), (.slc false (.var 9) (.k (.non)) (.k (.int 4)))]), (.call 52 [(.var 1), (.var 2), (.slc false (.var 9) (.k (.non)) (.k (.int 4)))]), (.call 51 [(.var 1), (.var 2)])])] bTr :: _) _ _ = _
  rw [ss_for (vs := [.lst [.tup (due4 m w x), .lst (due4 m w x), moved m w x, .tup (due m w x), b1, b2, b3, od]]) src rfl k13]
  exact ss_ret (by rw [v_k])
end
end Lk94

namespace Lk94
open PySem MP
open scoped Rat
theorem fr_dX {m w : Nat} {x : Nat → Nat → Rat} (g : Good m w x) (i j : Nat) : Fr 3657830400 (7197120 * 7197120) (dX m w x i j) := (g.frX i j).mul (g.frX i j) (by decide) (by decide)
theorem sz_dX {m w : Nat} {x : Nat → Nat → Rat} (g : Good m w x) (i j : Nat) : Sz 60 (dX m w x i j) := (fr_dX g i j).sz (by decide) (by decide) (by decide)
theorem sz_acc {m w : Nat} {x : Nat → Nat → Rat} (g : Good m w x) {i k : Nat} (hi : i < m) (hk : k ≤ w) : Sz 60 (Sm i (fun i => Sm w (dX m w x i)) + Sm k (dX m w x i)) := by
  have h1 := Fr.sum (L := 3657830400) (B := w * (7197120 * 7197120)) (f := fun i => Sm w (dX m w x i)) i fun i' _ => Fr.sum w fun j _ => fr_dX g i' j
  have h2 := Fr.sum (L := 3657830400) (B := 7197120 * 7197120) (f := dX m w x i) k fun j _ => fr_dX g i j
  have m4 := g.m4
  have w4 := g.w4
  have a1 : i * (w * (7197120 * 7197120)) ≤ 4 * (4 * (7197120 * 7197120)) := Nat.mul_le_mul (by omega) (Nat.mul_le_mul_right _ w4)
  have a2 : k * (7197120 * 7197120) ≤ 4 * (7197120 * 7197120) := Nat.mul_le_mul_right _ (by omega)
  exact ((h1.add h2).mono (Nat.add_le_add a1 a2)).sz (by decide) (by decide) (by decide)
theorem hgt_rowT {w : Nat} {f : Nat → Rat} (h : w ≤ 1000) : hgt 2 (rowT w f) = true := hgt_tup (by rw [List.length_map, rowL_len]; omega) fun x hx => by
  obtain ⟨y, _, rfl⟩ := List.mem_map.mp hx
  exact hgt_fv y
theorem vk_rowT {b n w : Nat} {f : Nat → Rat} (h : w ≤ 1000) (hz : ∀ i, Sz b (f i)) : Vk b (n + 2) (rowT w f) := by
  refine ⟨by rw [List.length_map, rowL_len]; exact h, fun x hx => ?_⟩
  obtain ⟨q, hq, rfl⟩ := List.mem_map.mp hx
  obtain ⟨i, _, rfl⟩ := rowL_mem hq
  exact vk_fv (hz i)
theorem nw_fv {n : Nat} {q : Rat} : Nw n (fv q) := by
  cases n with
  | zero => trivial
  | succ n =>
    refine ⟨by simp, fun x hx => ?_⟩
    simp only [List.mem_cons, List.not_mem_nil, or_false] at hx
    rcases hx with rfl | rfl <;> cases n <;> trivial
theorem nw_rowT {n w : Nat} {f : Nat → Rat} (h : w ≤ 900) : Nw n (rowT w f) := by
  cases n with
  | zero => trivial
  | succ n =>
    refine ⟨by rw [List.length_map, rowL_len]; exact h, fun x hx => ?_⟩
    obtain ⟨q, _, rfl⟩ := List.mem_map.mp hx
    exact nw_fv
section
variable {m w : Nat} {x : Nat → Nat → Rat}
theorem vk_due4 (g : Good m w x) : ∀ y ∈ due4 m w x, Vk 60 2 y := fun y hy => by
  have m4 := g.m4
  have w4 := g.w4
  unfold due4 at hy
  simp only [List.mem_cons, List.not_mem_nil, or_false] at hy
  rcases hy with rfl | rfl | rfl | rfl
  · exact vk_fv (g.szG.up (by decide))
  · exact vk_rowT (by omega) fun i => (g.szD i).up (by decide)
  · exact vk_rowT (by omega) fun i => (g.szA i).up (by decide)
  · exact vk_fv g.szLL
theorem vk_dueT (g : Good m w x) : Vk 60 3 (.tup (due4 m w x)) := ⟨by simp [due4], vk_due4 g⟩
theorem nw_due4 (g : Good m w x) : Nw 3 (.tup (due4 m w x)) := by
  have m4 := g.m4
  have w4 := g.w4
  refine ⟨by simp [due4], fun y hy => ?_⟩
  unfold due4 at hy
  simp only [List.mem_cons, List.not_mem_nil, or_false] at hy
  rcases hy with rfl | rfl | rfl | rfl
  · exact nw_fv
  · exact nw_rowT (by omega)
  · exact nw_rowT (by omega)
  · exact nw_fv
theorem vk_due (g : Good m w x) : Vk 60 4 (.tup (due m w x)) := by
  have m4 := g.m4
  have w4 := g.w4
  refine ⟨by simp [due], fun y hy => ?_⟩
  unfold due at hy
  simp only [List.mem_cons, List.not_mem_nil, or_false] at hy
  rcases hy with rfl | rfl | rfl | rfl | rfl
  · exact vk_fv (g.szG.up (by decide))
  · exact vk_rowT (by omega) fun i => (g.szD i).up (by decide)
  · exact vk_rowT (by omega) fun i => (g.szA i).up (by decide)
  · exact vk_fv g.szLL
  · refine ⟨by rw [List.length_map, List.length_range]; omega, fun z hz => ?_⟩
    obtain ⟨i, _, rfl⟩ := List.mem_map.mp hz
    exact vk_rowT (by omega) fun j => (g.szL i j).up (by decide)
theorem vk_moved (g : Good m w x) : Vk 60 3 (moved m w x) := by
  have m4 := g.m4
  have w4 := g.w4
  refine ⟨by simp, fun y hy => ?_⟩
  simp only [List.mem_cons, List.not_mem_nil, or_false] at hy
  rcases hy with rfl | rfl | rfl | rfl
  · exact vk_fv (g.szG.up (by decide))
  · refine ⟨by rw [List.length_map, List.length_range]; omega, fun z hz => ?_⟩
    obtain ⟨i, _, rfl⟩ := List.mem_map.mp hz
    exact vk_fv (((g.szD i).add (c := 1) ⟨by decide, by decide⟩).up (by decide))
  · exact vk_rowT (by omega) fun i => (g.szA i).up (by decide)
  · exact vk_fv g.szLL
end
theorem k_sq50 {W D : Nat} (hW : 2 ^ 8900 ≤ W) (h : 5 ≤ D) {q : Rat} {st : Store} (hq : Sz 25 q) : callF fs W D 50 [fv q] st = .ok (fv (q * q)) st := by
  obtain ⟨d, rfl, h'⟩ := succ_of h
  have B := k_by hW (D := d) (by omega) 25 25 q q st hq hq (by decide)
  refine callF_of (f := f50) rfl rfl (by decide) ?_
  have hst : startE f50 [fv q] = [some (fv q)] := rfl
  rw [hst]
  show eSs _ W b50 _ _ = _
  rw [b50]
  exact ss_ret ((call_of (vs2 rfl rfl)).trans B)
theorem law : Law := law_of fun ns hn => by
  suffices H : ∀ W, 2 ^ 8900 ≤ W → ∃ st', eSs (callF fs W 199) W b54 (startE f54 [.scr (ns.map MV.int)]) [] = .ret (.bl true) st' from H _ (Nat.le_refl _)
  intro W hW
  obtain ⟨row, n1, hrow⟩ := k_numbers (W := W) (D := 199) (by decide) (st := []) hn
  obtain ⟨r0, z0, q1, q2, hz0, tk⟩ := takeG (W := W) (D := 199) (by decide) hrow (z := 0) (lim := 4) (g := []) (by decide) (by decide)
  obtain ⟨w, hw⟩ : ∃ w : Nat, 1 + r0 = (w : Int) := ⟨(1 + r0).toNat, by omega⟩
  obtain ⟨rs, s1, dr, sp1, l1, l2, hrows⟩ := draw_table (C := callF fs W 199) (w := w) (row := row) (env := [some (.scr (ns.map MV.int)), some row, some (.ref 0), some (.int (w : Int)), none, none, none, none, none, none, none, none, none, none, none, none, none, none]) (s := [[.int z0]]) (k_take (by decide)) (k_number (by decide)) hrow (Spot.refl (st := [[MV.int z0]]) (a := 0) (s := z0) rfl hz0) (by omega) rfl rfl rfl (Nat.lt_of_sub_pos (by decide : 0 < 18 - 6))
  obtain ⟨z1, hz1, rfl⟩ := spot_cons sp1
  obtain ⟨T, hT⟩ := rows_pick hrows
  have g : Good rs.length w (fnT T) := ⟨l1, l2, by omega, by omega, fnT_sz (rows_sz hT)⟩
  have m4 := g.m4
  have w4 := g.w4
  have tb := tab_of hT
  obtain ⟨lv', lk, llo⟩ := k_loose (W := W) (D := 199) (n := 3) (v := .tup rs) (t := 0) (st := [[.int z1]]) (hgt_tup (by omega) fun r hr => by
    obtain ⟨ys, rfl, hl, hd⟩ := hrows r hr
    exact hgt_tup (by omega) fun y hy => (hd y hy).hgt) (by decide)
  have tl := tab_lo hT llo
  obtain ⟨b1, s2, t1, sp2, vk1⟩ := k_bent hW (D := 199) (n := 3) (b := 60) (by decide) hrow (Spot.refl (st := [[MV.int z1]]) (a := 0) (s := z1) rfl hz1) (by decide) (vk_dueT g) (nw_due4 g) (by decide)
  obtain ⟨z2, hz2, rfl⟩ := spot_cons sp2
  obtain ⟨b2, s3, t2, sp3, vk2⟩ := k_bent hW (D := 199) (n := 3) (b := 60) (by decide) hrow (Spot.refl (st := [[MV.int z2]]) (a := 0) (s := z2) rfl hz2) (by decide) (vk_dueT g) (nw_due4 g) (by decide)
  obtain ⟨z3, hz3, rfl⟩ := spot_cons sp3
  obtain ⟨b3, s4, t3, sp4, vk3⟩ := k_bent hW (D := 199) (n := 3) (b := 60) (by decide) hrow (Spot.refl (st := [[MV.int z3]]) (a := 0) (s := z3) rfl hz3) (by decide) (vk_dueT g) (nw_due4 g) (by decide)
  obtain ⟨z4, hz4, rfl⟩ := spot_cons sp4
  obtain ⟨od, s5, t4, sp5, vk4⟩ := k_odd (W := W) (D := 199) (by decide) hrow (Spot.refl (st := [[MV.int z4]]) (a := 0) (s := z4) rfl hz4)
  obtain ⟨z5, hz5, rfl⟩ := spot_cons sp5
  exact law_glue (S := .scr (ns.map MV.int)) (C := callF fs W 199) (W := W) (x := fnT T) g rfl hw (k_plus hW (by decide)) (k_over hW (by decide)) (k_sum hW (by decide)) (k_isNumAny (by decide)) (k_num hW (by decide)) n1 tk dr
    (fun i hi => by
      obtain ⟨ys, e, hd, ha⟩ := row_at hT hi
      rw [e]
      have hyl : ys.length = w := by rw [ha.len, rowL_len]
      exact k_vec hW (by decide) 3 (.tup ys) ys (rowL w (fnT T i)) [[.int z1]] (by decide) (.inr rfl) ha (by omega))
    (k_lawParts hW (by decide) g)
    ⟨lv', lk, k_additive (by decide) tl g⟩
    (k_inter (by decide) tb g)
    (k_so (n := 3) (hgt_tup (by simp [due4]) fun y hy => by
      unfold due4 at hy
      simp only [List.mem_cons, List.not_mem_nil, or_false] at hy
      rcases hy with rfl | rfl | rfl | rfl
      · exact hgt_mono (hgt_fv _) (by decide)
      · exact hgt_rowT (by omega)
      · exact hgt_rowT (by omega)
      · exact hgt_mono (hgt_fv _) (by decide)) (by decide))
    (k_so (n := 3) (hgt_tup (by rw [List.length_map, List.length_range]; omega) fun y hy => by
      obtain ⟨i, _, rfl⟩ := List.mem_map.mp hy
      exact hgt_rowT (by omega)) (by decide))
    (fun i j => k_minus hW (by decide) 25 25 _ _ _ ((g.x i j).up (by decide)) g.szG (by decide))
    (fun i j => k_sq50 hW (by decide) (g.szX i j))
    (fun i k hi hk => sz_acc g hi hk) (fun i j => sz_dX g i j)
    (k_shares (by decide) tb g)
    (k_dot hW (by decide) g.szD m4).1 (k_dot hW (by decide) g.szA w4).1
    (k_by hW (by decide) 20 60 _ _ _ (szn (by omega)) (g.frDD.sz (by decide) (by decide) (by decide)) (by decide))
    (k_by hW (by decide) 20 60 _ _ _ (szn (by omega)) (g.frAA.sz (by decide) (by decide) (by decide)) (by decide))
    (k_so (n := 2) (hgt_tup (by simp [shares]) fun y hy => by
      obtain ⟨q, _, rfl⟩ := List.mem_map.mp hy
      exact hgt_fv q) (by decide))
    t1 t2 t3 t4
    (fun one ho => by
      simp only [List.mem_cons, List.not_mem_nil, or_false] at ho
      rcases ho with rfl | rfl | rfl | rfl | rfl | rfl | rfl | rfl
      · exact ⟨3, vk_up (by decide) (vk_dueT g) (Nat.le_refl _)⟩
      · exact ⟨3, vk_up (by decide) (show Vk 60 3 (.lst (due4 rs.length w (fnT T))) from vk_dueT g) (Nat.le_refl _)⟩
      · exact ⟨3, vk_up (by decide) (vk_moved g) (Nat.le_refl _)⟩
      · exact ⟨4, vk_up (by decide) (vk_due g) (Nat.le_refl _)⟩
      · exact ⟨4, vk_up (by decide) vk1 (Nat.le_refl _)⟩
      · exact ⟨4, vk_up (by decide) vk2 (Nat.le_refl _)⟩
      · exact ⟨4, vk_up (by decide) vk3 (Nat.le_refl _)⟩
      · exact ⟨2, vk_up (by decide) vk4 (Nat.le_refl _)⟩)
    (fun n k y hy => by
      rw [k_numsAny hW (D := 199) (by decide) 90 n k y _ (by decide) hy]
      cases readsM k y <;> rfl)
    (fun one n ho => k_holds (by decide) tb g ho (by decide))
    (fun b => k_so (n := 0) rfl (by decide))
end Lk94

namespace Lk94
open PySem PySem.Spec PyProof.Rows L2 MP
def top (i : Nat) : Stmt := PySem.Challenge.pw_fitwright_k94_additive_tables.main.body.getD i (.Pass ⟨0, 0, 0, 0⟩)
abbrev p0 : PF := { x := "is_integer", st := top 2, N := ["thing"], ps := ["thing"], mu := [], ds := [] }
abbrev p1 : PF := { x := "is_sequence", st := top 3, N := ["thing"], ps := ["thing"], mu := [], ds := [] }
abbrev p2 : PF := { x := "is_sequence_of", st := top 4, N := ["thing", "many"], ps := ["thing", "many"], mu := [], ds := [] }
abbrev p3 : PF := { x := "fraction", st := top 5, N := ["n", "d", "divisor"], ps := ["n", "d"], mu := [], ds := [] }
abbrev p4 : PF := { x := "read_number", st := top 6, N := ["thing"], ps := ["thing"], mu := [], ds := [] }
abbrev p5 : PF := { x := "read_numbers", st := top 7, N := ["thing", "many", "found", "part"], ps := ["thing", "many"], mu := [], ds := [] }
abbrev p6 : PF := { x := "add", st := top 8, N := ["f", "g"], ps := ["f", "g"], mu := [], ds := [] }
abbrev p7 : PF := { x := "subtract", st := top 9, N := ["f", "g"], ps := ["f", "g"], mu := [], ds := [] }
abbrev p8 : PF := { x := "divide", st := top 10, N := ["f", "g"], ps := ["f", "g"], mu := [], ds := [] }
abbrev p9 : PF := { x := "scaled", st := top 11, N := ["f", "n"], ps := ["f", "n"], mu := [], ds := [] }
abbrev p10 : PF := { x := "common_bottom", st := top 12, N := ["fractions", "result", "f"], ps := ["fractions"], mu := [], ds := [] }
abbrev p11 : PF := { x := "whole", st := top 13, N := ["f", "n"], ps := ["f", "n"], mu := [], ds := [] }
abbrev p12 : PF := { x := "wholes", st := top 14, N := ["fractions", "bottom", "f"], ps := ["fractions"], mu := [], ds := [] }
abbrev p13 : PF := { x := "total", st := top 15, N := ["fractions", "tops", "bottom"], ps := ["fractions"], mu := [], ds := [] }
abbrev p14 : PF := { x := "product_sum", st := top 16, N := ["fractions", "others", "tops", "bottom", "other_tops", "other_bottom", "n", "m"], ps := ["fractions", "others"], mu := [], ds := [] }
abbrev p15 : PF := { x := "square_sum", st := top 18, N := ["numbers"], ps := ["numbers"], mu := [], ds := [] }
abbrev p16 : PF := { x := "asked_numbers", st := top 23, N := ["thing", "many", "place", "found"], ps := ["thing", "many", "place"], mu := [], ds := [] }
abbrev p17 : PF := { x := "asked_table", st := top 25, N := ["table", "many", "columns", "place", "row"], ps := ["table", "many", "columns", "place"], mu := [], ds := [] }
abbrev p18 : PF := { x := "asked_lines", st := top 29, N := ["table"], ps := ["table"], mu := [], ds := [] }
abbrev p19 : PF := { x := "columns_of", st := top 30, N := ["cells", "row", "column"], ps := ["cells"], mu := [], ds := [] }
abbrev p20 : PF := { x := "cells_of", st := top 31, N := ["cells", "row", "cell"], ps := ["cells"], mu := [], ds := [] }
abbrev p21 : PF := { x := "mean_of", st := top 32, N := ["fractions", "both"], ps := ["fractions"], mu := [], ds := [] }
abbrev p22 : PF := { x := "least_parts", st := top 33, N := ["cells", "middle", "down", "row", "across", "column"], ps := ["cells"], mu := [], ds := [] }
abbrev p23 : PF := { x := "lessened", st := top 34, N := ["cells", "whole", "down", "across", "cell", "other", "row", "one"], ps := ["cells", "whole", "down", "across"], mu := [], ds := [] }
abbrev p24 : PF := { x := "additive", st := top 35, N := ["table", "cells", "whole", "down", "across", "square"], ps := ["table"], mu := [], ds := [] }
abbrev p25 : PF := { x := "additive_holds", st := top 36, N := ["table", "value", "cells", "whole", "down", "across", "square"], ps := ["table", "value"], mu := [], ds := [] }
abbrev p26 : PF := { x := "interaction", st := top 37, N := ["table", "cells", "whole", "down", "across", "row"], ps := ["table"], mu := [], ds := [] }
abbrev p27 : PF := { x := "shares_of_squares", st := top 38, N := ["table", "cells", "whole", "down", "across", "square", "cell", "left", "parts", "part"], ps := ["table"], mu := [], ds := [] }
abbrev p28 : PF := { x := "_law_so", st := top 40, N := ["found", "meant", "k"], ps := ["found", "meant"], mu := [], ds := [] }
abbrev p29 : PF := { x := "_law_numbers", st := top 41, N := ["script", "row", "cell", "left", "k", "mixed"], ps := ["script"], mu := [(143, 10)], ds := [] }
abbrev p30 : PF := { x := "_law_draw", st := top 42, N := ["row", "at", "limit", "mixed"], ps := ["row", "at", "limit"], mu := [], ds := [] }
abbrev p31 : PF := { x := "_law_take", st := top 43, N := ["row", "spot", "limit"], ps := ["row", "spot", "limit"], mu := [], ds := [] }
abbrev p32 : PF := { x := "_law_loose", st := top 44, N := ["value", "turn", "made", "one"], ps := ["value", "turn"], mu := [], ds := [] }
abbrev p33 : PF := { x := "_law_set", st := top 45, N := ["values", "at", "value", "made"], ps := ["values", "at", "value"], mu := [(173, 11)], ds := [] }
abbrev p34 : PF := { x := "_law_numeric", st := top 46, N := ["value"], ps := ["value"], mu := [], ds := [] }
abbrev p35 : PF := { x := "_law_gcd", st := top 47, N := ["one", "two", "first", "second", "rest"], ps := ["one", "two"], mu := [], ds := [] }
abbrev p36 : PF := { x := "_law_frac", st := top 48, N := ["top", "bottom", "common"], ps := ["top", "bottom"], mu := [], ds := [] }
abbrev p37 : PF := { x := "_law_num", st := top 49, N := ["value"], ps := ["value"], mu := [], ds := [] }
abbrev p38 : PF := { x := "_law_vec", st := top 50, N := ["values", "one"], ps := ["values"], mu := [], ds := [] }
abbrev p39 : PF := { x := "_law_plus", st := top 51, N := ["one", "two"], ps := ["one", "two"], mu := [], ds := [] }
abbrev p40 : PF := { x := "_law_neg", st := top 52, N := ["one"], ps := ["one"], mu := [], ds := [] }
abbrev p41 : PF := { x := "_law_minus", st := top 53, N := ["one", "two"], ps := ["one", "two"], mu := [], ds := [] }
abbrev p42 : PF := { x := "_law_by", st := top 54, N := ["one", "two"], ps := ["one", "two"], mu := [], ds := [] }
abbrev p43 : PF := { x := "_law_over", st := top 55, N := ["one", "two"], ps := ["one", "two"], mu := [], ds := [] }
abbrev p44 : PF := { x := "_law_sum", st := top 56, N := ["values", "made", "one"], ps := ["values"], mu := [], ds := [] }
abbrev p45 : PF := { x := "_law_dot", st := top 57, N := ["left", "right", "k"], ps := ["left", "right"], mu := [], ds := [] }
abbrev p46 : PF := { x := "_law_is_frac", st := top 58, N := ["value"], ps := ["value"], mu := [], ds := [] }
abbrev p47 : PF := { x := "_law_number", st := top 59, N := ["row", "spot", "span", "top"], ps := ["row", "spot", "span"], mu := [], ds := [] }
abbrev p48 : PF := { x := "_law_is_num", st := top 60, N := ["value"], ps := ["value"], mu := [], ds := [] }
abbrev p49 : PF := { x := "_law_nums", st := top 61, N := ["value", "many", "one"], ps := ["value", "many"], mu := [], ds := [] }
abbrev p50 : PF := { x := "_law_square", st := top 62, N := ["one"], ps := ["one"], mu := [], ds := [] }
abbrev p51 : PF := { x := "_law_odd", st := top 63, N := ["row", "spot"], ps := ["row", "spot"], mu := [], ds := [] }
abbrev p52 : PF := { x := "_law_bent", st := top 64, N := ["row", "spot", "value", "style", "at"], ps := ["row", "spot", "value"], mu := [], ds := [] }
abbrev p53 : PF := { x := "_law_additive", st := top 65, N := ["table", "many", "wide", "whole_v", "cells", "down", "across", "j", "left", "i", "square"], ps := ["table"], mu := [], ds := [] }
abbrev p54 : PF := { x := "law", st := top 66, N := ["script", "row", "spot", "wide", "given", "j", "k", "table", "cells", "due", "level", "whole_v", "one", "value", "parts", "moved", "firm", "told"], ps := ["script"], mu := [(268, 11)], ds := [] }
def pfs : List PF := [p0, p1, p2, p3, p4, p5, p6, p7, p8, p9, p10, p11, p12, p13, p14, p15, p16, p17, p18, p19, p20, p21, p22, p23, p24, p25, p26, p27, p28, p29, p30, p31, p32, p33, p34, p35, p36, p37, p38, p39, p40, p41, p42, p43, p44, p45, p46, p47, p48, p49, p50, p51, p52, p53, p54]
def T : Facts := { free := ["super", "isinstance", "int", "bool", "list", "tuple", "len", "any", "sum", "zip", "range", "str", "abs"], vals := [("MOST_LINES", .int 5), ("NONE", .tup [.int 0, .int 1])], bls := [("gcd", .gcd), ("lcm", .lcm2)], pfs := pfs, cls := [("BadValue", { p0 := ⟨59, 8, 59, 13⟩, p1 := ⟨59, 8, 59, 15⟩, p2 := ⟨59, 8, 59, 24⟩, p3 := ⟨59, 25, 59, 54⟩, p4 := ⟨59, 8, 59, 55⟩, p5 := ⟨59, 8, 59, 55⟩, p6 := ⟨60, 8, 60, 12⟩, p7 := ⟨60, 8, 60, 15⟩, p8 := ⟨60, 18, 60, 20⟩, p9 := ⟨60, 8, 60, 20⟩, pa := ⟨58, 17, 58, 21⟩, pb := ⟨58, 23, 58, 25⟩, kd := 0, msg := "the argument is not as told", line := by decide }, "BadValue.__init__")], file := "/claim/cut.py" }
def keepL : List Nat := []
theorem s0 : pfOk 60 T.G T.free p0 f0 := ⟨by kernel_rfl, by kernel_rfl, rfl, rfl, by kernel_rfl⟩
theorem s1 : pfOk 60 T.G T.free p1 f1 := ⟨by kernel_rfl, by kernel_rfl, rfl, rfl, by kernel_rfl⟩
theorem s2 : pfOk 60 T.G T.free p2 f2 := ⟨by kernel_rfl, by kernel_rfl, rfl, rfl, by kernel_rfl⟩
theorem s3 : pfOk 60 T.G T.free p3 f3 := ⟨by kernel_rfl, by kernel_rfl, rfl, rfl, by kernel_rfl⟩
theorem s4 : pfOk 60 T.G T.free p4 f4 := ⟨by kernel_rfl, by kernel_rfl, rfl, rfl, by kernel_rfl⟩
theorem s5 : pfOk 60 T.G T.free p5 f5 := ⟨by kernel_rfl, by kernel_rfl, rfl, rfl, by kernel_rfl⟩
theorem s6 : pfOk 60 T.G T.free p6 f6 := ⟨by kernel_rfl, by kernel_rfl, rfl, rfl, by kernel_rfl⟩
theorem s7 : pfOk 60 T.G T.free p7 f7 := ⟨by kernel_rfl, by kernel_rfl, rfl, rfl, by kernel_rfl⟩
theorem s8 : pfOk 60 T.G T.free p8 f8 := ⟨by kernel_rfl, by kernel_rfl, rfl, rfl, by kernel_rfl⟩
theorem s9 : pfOk 60 T.G T.free p9 f9 := ⟨by kernel_rfl, by kernel_rfl, rfl, rfl, by kernel_rfl⟩
theorem s10 : pfOk 60 T.G T.free p10 f10 := ⟨by kernel_rfl, by kernel_rfl, rfl, rfl, by kernel_rfl⟩
theorem s11 : pfOk 60 T.G T.free p11 f11 := ⟨by kernel_rfl, by kernel_rfl, rfl, rfl, by kernel_rfl⟩
theorem s12 : pfOk 60 T.G T.free p12 f12 := ⟨by kernel_rfl, by kernel_rfl, rfl, rfl, by kernel_rfl⟩
theorem s13 : pfOk 60 T.G T.free p13 f13 := ⟨by kernel_rfl, by kernel_rfl, rfl, rfl, by kernel_rfl⟩
theorem s14 : pfOk 60 T.G T.free p14 f14 := ⟨by kernel_rfl, by kernel_rfl, rfl, rfl, by kernel_rfl⟩
theorem s15 : pfOk 60 T.G T.free p15 f15 := ⟨by kernel_rfl, by kernel_rfl, rfl, rfl, by kernel_rfl⟩
theorem s16 : pfOk 60 T.G T.free p16 f16 := ⟨by kernel_rfl, by kernel_rfl, rfl, rfl, by kernel_rfl⟩
theorem s17 : pfOk 60 T.G T.free p17 f17 := ⟨by kernel_rfl, by kernel_rfl, rfl, rfl, by kernel_rfl⟩
theorem s18 : pfOk 60 T.G T.free p18 f18 := ⟨by kernel_rfl, by kernel_rfl, rfl, rfl, by kernel_rfl⟩
theorem s19 : pfOk 60 T.G T.free p19 f19 := ⟨by kernel_rfl, by kernel_rfl, rfl, rfl, by kernel_rfl⟩
theorem s20 : pfOk 60 T.G T.free p20 f20 := ⟨by kernel_rfl, by kernel_rfl, rfl, rfl, by kernel_rfl⟩
theorem s21 : pfOk 60 T.G T.free p21 f21 := ⟨by kernel_rfl, by kernel_rfl, rfl, rfl, by kernel_rfl⟩
theorem s22 : pfOk 60 T.G T.free p22 f22 := ⟨by kernel_rfl, by kernel_rfl, rfl, rfl, by kernel_rfl⟩
theorem s23 : pfOk 60 T.G T.free p23 f23 := ⟨by kernel_rfl, by kernel_rfl, rfl, rfl, by kernel_rfl⟩
theorem s24 : pfOk 60 T.G T.free p24 f24 := ⟨by kernel_rfl, by kernel_rfl, rfl, rfl, by kernel_rfl⟩
theorem s25 : pfOk 60 T.G T.free p25 f25 := ⟨by kernel_rfl, by kernel_rfl, rfl, rfl, by kernel_rfl⟩
theorem s26 : pfOk 60 T.G T.free p26 f26 := ⟨by kernel_rfl, by kernel_rfl, rfl, rfl, by kernel_rfl⟩
theorem s27 : pfOk 60 T.G T.free p27 f27 := ⟨by kernel_rfl, by kernel_rfl, rfl, rfl, by kernel_rfl⟩
theorem s28 : pfOk 60 T.G T.free p28 f28 := ⟨by kernel_rfl, by kernel_rfl, rfl, rfl, by kernel_rfl⟩
theorem s29 : pfOk 60 T.G T.free p29 f29 := ⟨by kernel_rfl, by kernel_rfl, rfl, rfl, by kernel_rfl⟩
theorem s30 : pfOk 60 T.G T.free p30 f30 := ⟨by kernel_rfl, by kernel_rfl, rfl, rfl, by kernel_rfl⟩
theorem s31 : pfOk 60 T.G T.free p31 f31 := ⟨by kernel_rfl, by kernel_rfl, rfl, rfl, by kernel_rfl⟩
theorem s32 : pfOk 60 T.G T.free p32 f32 := ⟨by kernel_rfl, by kernel_rfl, rfl, rfl, by kernel_rfl⟩
theorem s33 : pfOk 60 T.G T.free p33 f33 := ⟨by kernel_rfl, by kernel_rfl, rfl, rfl, by kernel_rfl⟩
theorem s34 : pfOk 60 T.G T.free p34 f34 := ⟨by kernel_rfl, by kernel_rfl, rfl, rfl, by kernel_rfl⟩
theorem s35 : pfOk 60 T.G T.free p35 f35 := ⟨by kernel_rfl, by kernel_rfl, rfl, rfl, by kernel_rfl⟩
theorem s36 : pfOk 60 T.G T.free p36 f36 := ⟨by kernel_rfl, by kernel_rfl, rfl, rfl, by kernel_rfl⟩
theorem s37 : pfOk 60 T.G T.free p37 f37 := ⟨by kernel_rfl, by kernel_rfl, rfl, rfl, by kernel_rfl⟩
theorem s38 : pfOk 60 T.G T.free p38 f38 := ⟨by kernel_rfl, by kernel_rfl, rfl, rfl, by kernel_rfl⟩
theorem s39 : pfOk 60 T.G T.free p39 f39 := ⟨by kernel_rfl, by kernel_rfl, rfl, rfl, by kernel_rfl⟩
theorem s40 : pfOk 60 T.G T.free p40 f40 := ⟨by kernel_rfl, by kernel_rfl, rfl, rfl, by kernel_rfl⟩
theorem s41 : pfOk 60 T.G T.free p41 f41 := ⟨by kernel_rfl, by kernel_rfl, rfl, rfl, by kernel_rfl⟩
theorem s42 : pfOk 60 T.G T.free p42 f42 := ⟨by kernel_rfl, by kernel_rfl, rfl, rfl, by kernel_rfl⟩
theorem s43 : pfOk 60 T.G T.free p43 f43 := ⟨by kernel_rfl, by kernel_rfl, rfl, rfl, by kernel_rfl⟩
theorem s44 : pfOk 60 T.G T.free p44 f44 := ⟨by kernel_rfl, by kernel_rfl, rfl, rfl, by kernel_rfl⟩
theorem s45 : pfOk 60 T.G T.free p45 f45 := ⟨by kernel_rfl, by kernel_rfl, rfl, rfl, by kernel_rfl⟩
theorem s46 : pfOk 60 T.G T.free p46 f46 := ⟨by kernel_rfl, by kernel_rfl, rfl, rfl, by kernel_rfl⟩
theorem s47 : pfOk 60 T.G T.free p47 f47 := ⟨by kernel_rfl, by kernel_rfl, rfl, rfl, by kernel_rfl⟩
theorem s48 : pfOk 60 T.G T.free p48 f48 := ⟨by kernel_rfl, by kernel_rfl, rfl, rfl, by kernel_rfl⟩
theorem s49 : pfOk 60 T.G T.free p49 f49 := ⟨by kernel_rfl, by kernel_rfl, rfl, rfl, by kernel_rfl⟩
theorem s50 : pfOk 60 T.G T.free p50 f50 := ⟨by kernel_rfl, by kernel_rfl, rfl, rfl, by kernel_rfl⟩
theorem s51 : pfOk 60 T.G T.free p51 f51 := ⟨by kernel_rfl, by kernel_rfl, rfl, rfl, by kernel_rfl⟩
theorem s52 : pfOk 60 T.G T.free p52 f52 := ⟨by kernel_rfl, by kernel_rfl, rfl, rfl, by kernel_rfl⟩
theorem s53 : pfOk 60 T.G T.free p53 f53 := ⟨by kernel_rfl, by kernel_rfl, rfl, rfl, by kernel_rfl⟩
theorem s54 : pfOk 60 T.G T.free p54 f54 := ⟨by kernel_rfl, by kernel_rfl, rfl, rfl, by kernel_rfl⟩
theorem a0 : BindsOk p0 := ⟨rfl, fun _ _ _ _ _ _ _ us hl => match us, hl with | [_], _ => rfl, fun h => absurd rfl h⟩
theorem a1 : BindsOk p1 := ⟨rfl, fun _ _ _ _ _ _ _ us hl => match us, hl with | [_], _ => rfl, fun h => absurd rfl h⟩
theorem a2 : BindsOk p2 := ⟨rfl, fun _ _ _ _ _ _ _ us hl => match us, hl with | [_, _], _ => rfl, fun h => absurd rfl h⟩
theorem a3 : BindsOk p3 := ⟨rfl, fun _ _ _ _ _ _ _ us hl => match us, hl with | [_, _], _ => rfl, fun h => absurd rfl h⟩
theorem a4 : BindsOk p4 := ⟨rfl, fun _ _ _ _ _ _ _ us hl => match us, hl with | [_], _ => rfl, fun h => absurd rfl h⟩
theorem a5 : BindsOk p5 := ⟨rfl, fun _ _ _ _ _ _ _ us hl => match us, hl with | [_, _], _ => rfl, fun h => absurd rfl h⟩
theorem a6 : BindsOk p6 := ⟨rfl, fun _ _ _ _ _ _ _ us hl => match us, hl with | [_, _], _ => rfl, fun h => absurd rfl h⟩
theorem a7 : BindsOk p7 := ⟨rfl, fun _ _ _ _ _ _ _ us hl => match us, hl with | [_, _], _ => rfl, fun h => absurd rfl h⟩
theorem a8 : BindsOk p8 := ⟨rfl, fun _ _ _ _ _ _ _ us hl => match us, hl with | [_, _], _ => rfl, fun h => absurd rfl h⟩
theorem a9 : BindsOk p9 := ⟨rfl, fun _ _ _ _ _ _ _ us hl => match us, hl with | [_, _], _ => rfl, fun h => absurd rfl h⟩
theorem a10 : BindsOk p10 := ⟨rfl, fun _ _ _ _ _ _ _ us hl => match us, hl with | [_], _ => rfl, fun h => absurd rfl h⟩
theorem a11 : BindsOk p11 := ⟨rfl, fun _ _ _ _ _ _ _ us hl => match us, hl with | [_, _], _ => rfl, fun h => absurd rfl h⟩
theorem a12 : BindsOk p12 := ⟨rfl, fun _ _ _ _ _ _ _ us hl => match us, hl with | [_], _ => rfl, fun h => absurd rfl h⟩
theorem a13 : BindsOk p13 := ⟨rfl, fun _ _ _ _ _ _ _ us hl => match us, hl with | [_], _ => rfl, fun h => absurd rfl h⟩
theorem a14 : BindsOk p14 := ⟨rfl, fun _ _ _ _ _ _ _ us hl => match us, hl with | [_, _], _ => rfl, fun h => absurd rfl h⟩
theorem a15 : BindsOk p15 := ⟨rfl, fun _ _ _ _ _ _ _ us hl => match us, hl with | [_], _ => rfl, fun h => absurd rfl h⟩
theorem a16 : BindsOk p16 := ⟨rfl, fun _ _ _ _ _ _ _ us hl => match us, hl with | [_, _, _], _ => rfl, fun h => absurd rfl h⟩
theorem a17 : BindsOk p17 := ⟨rfl, fun _ _ _ _ _ _ _ us hl => match us, hl with | [_, _, _, _], _ => rfl, fun h => absurd rfl h⟩
theorem a18 : BindsOk p18 := ⟨rfl, fun _ _ _ _ _ _ _ us hl => match us, hl with | [_], _ => rfl, fun h => absurd rfl h⟩
theorem a19 : BindsOk p19 := ⟨rfl, fun _ _ _ _ _ _ _ us hl => match us, hl with | [_], _ => rfl, fun h => absurd rfl h⟩
theorem a20 : BindsOk p20 := ⟨rfl, fun _ _ _ _ _ _ _ us hl => match us, hl with | [_], _ => rfl, fun h => absurd rfl h⟩
theorem a21 : BindsOk p21 := ⟨rfl, fun _ _ _ _ _ _ _ us hl => match us, hl with | [_], _ => rfl, fun h => absurd rfl h⟩
theorem a22 : BindsOk p22 := ⟨rfl, fun _ _ _ _ _ _ _ us hl => match us, hl with | [_], _ => rfl, fun h => absurd rfl h⟩
theorem a23 : BindsOk p23 := ⟨rfl, fun _ _ _ _ _ _ _ us hl => match us, hl with | [_, _, _, _], _ => rfl, fun h => absurd rfl h⟩
theorem a24 : BindsOk p24 := ⟨rfl, fun _ _ _ _ _ _ _ us hl => match us, hl with | [_], _ => rfl, fun h => absurd rfl h⟩
theorem a25 : BindsOk p25 := ⟨rfl, fun _ _ _ _ _ _ _ us hl => match us, hl with | [_, _], _ => rfl, fun h => absurd rfl h⟩
theorem a26 : BindsOk p26 := ⟨rfl, fun _ _ _ _ _ _ _ us hl => match us, hl with | [_], _ => rfl, fun h => absurd rfl h⟩
theorem a27 : BindsOk p27 := ⟨rfl, fun _ _ _ _ _ _ _ us hl => match us, hl with | [_], _ => rfl, fun h => absurd rfl h⟩
theorem a28 : BindsOk p28 := ⟨rfl, fun _ _ _ _ _ _ _ us hl => match us, hl with | [_, _], _ => rfl, fun h => absurd rfl h⟩
theorem a29 : BindsOk p29 := ⟨rfl, fun _ _ _ _ _ _ _ us hl => match us, hl with | [_], _ => rfl, fun h => absurd rfl h⟩
theorem a30 : BindsOk p30 := ⟨rfl, fun _ _ _ _ _ _ _ us hl => match us, hl with | [_, _, _], _ => rfl, fun h => absurd rfl h⟩
theorem a31 : BindsOk p31 := ⟨rfl, fun _ _ _ _ _ _ _ us hl => match us, hl with | [_, _, _], _ => rfl, fun h => absurd rfl h⟩
theorem a32 : BindsOk p32 := ⟨rfl, fun _ _ _ _ _ _ _ us hl => match us, hl with | [_, _], _ => rfl, fun h => absurd rfl h⟩
theorem a33 : BindsOk p33 := ⟨rfl, fun _ _ _ _ _ _ _ us hl => match us, hl with | [_, _, _], _ => rfl, fun h => absurd rfl h⟩
theorem a34 : BindsOk p34 := ⟨rfl, fun _ _ _ _ _ _ _ us hl => match us, hl with | [_], _ => rfl, fun h => absurd rfl h⟩
theorem a35 : BindsOk p35 := ⟨rfl, fun _ _ _ _ _ _ _ us hl => match us, hl with | [_, _], _ => rfl, fun h => absurd rfl h⟩
theorem a36 : BindsOk p36 := ⟨rfl, fun _ _ _ _ _ _ _ us hl => match us, hl with | [_, _], _ => rfl, fun h => absurd rfl h⟩
theorem a37 : BindsOk p37 := ⟨rfl, fun _ _ _ _ _ _ _ us hl => match us, hl with | [_], _ => rfl, fun h => absurd rfl h⟩
theorem a38 : BindsOk p38 := ⟨rfl, fun _ _ _ _ _ _ _ us hl => match us, hl with | [_], _ => rfl, fun h => absurd rfl h⟩
theorem a39 : BindsOk p39 := ⟨rfl, fun _ _ _ _ _ _ _ us hl => match us, hl with | [_, _], _ => rfl, fun h => absurd rfl h⟩
theorem a40 : BindsOk p40 := ⟨rfl, fun _ _ _ _ _ _ _ us hl => match us, hl with | [_], _ => rfl, fun h => absurd rfl h⟩
theorem a41 : BindsOk p41 := ⟨rfl, fun _ _ _ _ _ _ _ us hl => match us, hl with | [_, _], _ => rfl, fun h => absurd rfl h⟩
theorem a42 : BindsOk p42 := ⟨rfl, fun _ _ _ _ _ _ _ us hl => match us, hl with | [_, _], _ => rfl, fun h => absurd rfl h⟩
theorem a43 : BindsOk p43 := ⟨rfl, fun _ _ _ _ _ _ _ us hl => match us, hl with | [_, _], _ => rfl, fun h => absurd rfl h⟩
theorem a44 : BindsOk p44 := ⟨rfl, fun _ _ _ _ _ _ _ us hl => match us, hl with | [_], _ => rfl, fun h => absurd rfl h⟩
theorem a45 : BindsOk p45 := ⟨rfl, fun _ _ _ _ _ _ _ us hl => match us, hl with | [_, _], _ => rfl, fun h => absurd rfl h⟩
theorem a46 : BindsOk p46 := ⟨rfl, fun _ _ _ _ _ _ _ us hl => match us, hl with | [_], _ => rfl, fun h => absurd rfl h⟩
theorem a47 : BindsOk p47 := ⟨rfl, fun _ _ _ _ _ _ _ us hl => match us, hl with | [_, _, _], _ => rfl, fun h => absurd rfl h⟩
theorem a48 : BindsOk p48 := ⟨rfl, fun _ _ _ _ _ _ _ us hl => match us, hl with | [_], _ => rfl, fun h => absurd rfl h⟩
theorem a49 : BindsOk p49 := ⟨rfl, fun _ _ _ _ _ _ _ us hl => match us, hl with | [_, _], _ => rfl, fun h => absurd rfl h⟩
theorem a50 : BindsOk p50 := ⟨rfl, fun _ _ _ _ _ _ _ us hl => match us, hl with | [_], _ => rfl, fun h => absurd rfl h⟩
theorem a51 : BindsOk p51 := ⟨rfl, fun _ _ _ _ _ _ _ us hl => match us, hl with | [_, _], _ => rfl, fun h => absurd rfl h⟩
theorem a52 : BindsOk p52 := ⟨rfl, fun _ _ _ _ _ _ _ us hl => match us, hl with | [_, _, _], _ => rfl, fun h => absurd rfl h⟩
theorem a53 : BindsOk p53 := ⟨rfl, fun _ _ _ _ _ _ _ us hl => match us, hl with | [_], _ => rfl, fun h => absurd rfl h⟩
theorem a54 : BindsOk p54 := ⟨rfl, fun _ _ _ _ _ _ _ us hl => match us, hl with | [_], _ => rfl, fun h => absurd rfl h⟩
theorem st : Static T 60 fs := ⟨fun i p h => match i, h with
  | 0, h => (Option.some.inj h) ▸ ⟨f0, rfl, s0, a0⟩
  | 1, h => (Option.some.inj h) ▸ ⟨f1, rfl, s1, a1⟩
  | 2, h => (Option.some.inj h) ▸ ⟨f2, rfl, s2, a2⟩
  | 3, h => (Option.some.inj h) ▸ ⟨f3, rfl, s3, a3⟩
  | 4, h => (Option.some.inj h) ▸ ⟨f4, rfl, s4, a4⟩
  | 5, h => (Option.some.inj h) ▸ ⟨f5, rfl, s5, a5⟩
  | 6, h => (Option.some.inj h) ▸ ⟨f6, rfl, s6, a6⟩
  | 7, h => (Option.some.inj h) ▸ ⟨f7, rfl, s7, a7⟩
  | 8, h => (Option.some.inj h) ▸ ⟨f8, rfl, s8, a8⟩
  | 9, h => (Option.some.inj h) ▸ ⟨f9, rfl, s9, a9⟩
  | 10, h => (Option.some.inj h) ▸ ⟨f10, rfl, s10, a10⟩
  | 11, h => (Option.some.inj h) ▸ ⟨f11, rfl, s11, a11⟩
  | 12, h => (Option.some.inj h) ▸ ⟨f12, rfl, s12, a12⟩
  | 13, h => (Option.some.inj h) ▸ ⟨f13, rfl, s13, a13⟩
  | 14, h => (Option.some.inj h) ▸ ⟨f14, rfl, s14, a14⟩
  | 15, h => (Option.some.inj h) ▸ ⟨f15, rfl, s15, a15⟩
  | 16, h => (Option.some.inj h) ▸ ⟨f16, rfl, s16, a16⟩
  | 17, h => (Option.some.inj h) ▸ ⟨f17, rfl, s17, a17⟩
  | 18, h => (Option.some.inj h) ▸ ⟨f18, rfl, s18, a18⟩
  | 19, h => (Option.some.inj h) ▸ ⟨f19, rfl, s19, a19⟩
  | 20, h => (Option.some.inj h) ▸ ⟨f20, rfl, s20, a20⟩
  | 21, h => (Option.some.inj h) ▸ ⟨f21, rfl, s21, a21⟩
  | 22, h => (Option.some.inj h) ▸ ⟨f22, rfl, s22, a22⟩
  | 23, h => (Option.some.inj h) ▸ ⟨f23, rfl, s23, a23⟩
  | 24, h => (Option.some.inj h) ▸ ⟨f24, rfl, s24, a24⟩
  | 25, h => (Option.some.inj h) ▸ ⟨f25, rfl, s25, a25⟩
  | 26, h => (Option.some.inj h) ▸ ⟨f26, rfl, s26, a26⟩
  | 27, h => (Option.some.inj h) ▸ ⟨f27, rfl, s27, a27⟩
  | 28, h => (Option.some.inj h) ▸ ⟨f28, rfl, s28, a28⟩
  | 29, h => (Option.some.inj h) ▸ ⟨f29, rfl, s29, a29⟩
  | 30, h => (Option.some.inj h) ▸ ⟨f30, rfl, s30, a30⟩
  | 31, h => (Option.some.inj h) ▸ ⟨f31, rfl, s31, a31⟩
  | 32, h => (Option.some.inj h) ▸ ⟨f32, rfl, s32, a32⟩
  | 33, h => (Option.some.inj h) ▸ ⟨f33, rfl, s33, a33⟩
  | 34, h => (Option.some.inj h) ▸ ⟨f34, rfl, s34, a34⟩
  | 35, h => (Option.some.inj h) ▸ ⟨f35, rfl, s35, a35⟩
  | 36, h => (Option.some.inj h) ▸ ⟨f36, rfl, s36, a36⟩
  | 37, h => (Option.some.inj h) ▸ ⟨f37, rfl, s37, a37⟩
  | 38, h => (Option.some.inj h) ▸ ⟨f38, rfl, s38, a38⟩
  | 39, h => (Option.some.inj h) ▸ ⟨f39, rfl, s39, a39⟩
  | 40, h => (Option.some.inj h) ▸ ⟨f40, rfl, s40, a40⟩
  | 41, h => (Option.some.inj h) ▸ ⟨f41, rfl, s41, a41⟩
  | 42, h => (Option.some.inj h) ▸ ⟨f42, rfl, s42, a42⟩
  | 43, h => (Option.some.inj h) ▸ ⟨f43, rfl, s43, a43⟩
  | 44, h => (Option.some.inj h) ▸ ⟨f44, rfl, s44, a44⟩
  | 45, h => (Option.some.inj h) ▸ ⟨f45, rfl, s45, a45⟩
  | 46, h => (Option.some.inj h) ▸ ⟨f46, rfl, s46, a46⟩
  | 47, h => (Option.some.inj h) ▸ ⟨f47, rfl, s47, a47⟩
  | 48, h => (Option.some.inj h) ▸ ⟨f48, rfl, s48, a48⟩
  | 49, h => (Option.some.inj h) ▸ ⟨f49, rfl, s49, a49⟩
  | 50, h => (Option.some.inj h) ▸ ⟨f50, rfl, s50, a50⟩
  | 51, h => (Option.some.inj h) ▸ ⟨f51, rfl, s51, a51⟩
  | 52, h => (Option.some.inj h) ▸ ⟨f52, rfl, s52, a52⟩
  | 53, h => (Option.some.inj h) ▸ ⟨f53, rfl, s53, a53⟩
  | 54, h => (Option.some.inj h) ▸ ⟨f54, rfl, s54, a54⟩
  | i + 55, h => (by simp [T, pfs] at h), by kernel_rfl, by kernel_rfl, by kernel_rfl, by kernel_rfl⟩
def loose0 : List PySem.Str := ["is_integer", "is_sequence", "is_sequence_of", "fraction", "read_number", "read_numbers", "add", "subtract", "divide", "scaled", "common_bottom", "whole", "wholes", "total", "product_sum", "square_sum", "FitError", "BadValue", "asked_numbers", "asked_table", "MOST_LINES", "NONE", "asked_lines", "columns_of", "cells_of", "mean_of", "least_parts", "lessened", "additive", "additive_holds"]
def loose1 : List PySem.Str := ["interaction", "shares_of_squares", "_law_so", "_law_numbers", "_law_draw", "_law_take", "_law_loose", "_law_set", "_law_numeric", "_law_gcd", "_law_frac", "_law_num", "_law_vec", "_law_plus", "_law_neg", "_law_minus", "_law_by", "_law_over", "_law_sum", "_law_dot", "_law_is_frac", "_law_number", "_law_is_num", "_law_nums", "_law_square", "_law_odd", "_law_bent", "_law_additive"]
def loose : List PySem.Str := loose0 ++ (loose1)
abbrev R : PySem.W.OpenRow := PySem.W.OpenLaw.row PySem.Challenge.rw_fitwright_k94_additive_tables
theorem run (w : World) : HandSHeadRun.RunEqI R (PySem.W.view R.prog [0, 66]) (T.hook 2) (T.ob 2) 20000 loose w := by
  unfold HandSHeadRun.RunEqI
  kernel_rfl
end Lk94
open PySem PySem.W PySem.Calls PyProof.Rows
theorem PySem.Challenge.cw_fitwright_k94_additive_tables_holds : PySem.Challenge.rw_fitwright_k94_additive_tables.Holds := by
  w_on; o_law
  refine HandSHeadRun.head_imp (r := OpenLaw.row PySem.Challenge.rw_fitwright_k94_additive_tables) (q := view (OpenLaw.row PySem.Challenge.rw_fitwright_k94_additive_tables).prog [0, 66]) (H := Lk94.T.hook 2) (ob := Lk94.T.ob 2) (M := 20000) (loose := Lk94.loose) (d := HandSHeadRun.topDef (OpenLaw.row PySem.Challenge.rw_fitwright_k94_additive_tables).prog 66) (kwd := []) (Lk94.T.ob_eq 2)
    Lk94.run (by kernel_rfl) (by kernel_rfl) (by kernel_rfl) (by rfl) (by first | assumption | decide +kernel) (by decide +kernel) ⟨rfl, rfl, rfl, rfl, rfl, by decide +kernel⟩ ?hw ?hc
  case hw => w_witness2
  case hc =>
    exact MP.walk_mini (l := PySem.Challenge.rw_fitwright_k94_additive_tables) (most := 63) (li := 54) (k := 200) (N := 2) (n := 60) (fs := Lk94.fs) (x := "script") (p := Lk94.p54) (by kernel_rfl) (by kernel_rfl) rfl (by decide) (by kernel_rfl) ⟨rfl, by decide, by decide⟩ Lk94.st rfl (by kernel_rfl) (by kernel_rfl) rfl rfl Lk94.law

